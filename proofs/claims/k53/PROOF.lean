import PyProof.Rows.All
import Wide.All
import OpenK.AllK
import Wide.FinOn
import HandS.ForMost
import HandS.ForExc
import HandS.ExcIs
import HandS.ExcCtx
import HandS.Hot
import HandS.ExcField
import HandS.IsInst
import HandS.TupMul
import HandS.Text
import KE.OsGo
import Open.SpecLaws
import HandS.Zip
import HandS.Wide
import HandS.TupAny
import HandS.TupLe
import HandS.Deep
import HandS.Style
import HandS.Flow
import HandS.Dict
import HandS.WordsDict
import HandS.More
import KE.SortData
import HandS.TupSets
import HandS.Conv
import HandS.TupLen
import HandS.SortInts
import HandS.Small
import HandS.SetFor
import HandS.Iter
import HandS.Finally
import HandS.WordsExc
import HandS.EndBits
import PySem.Challenge.RW_lendwharf_k53_books_of_anything
set_option Elab.async false
set_option linter.all false
set_option maxRecDepth 100000
set_option maxHeartbeats 4000000
namespace PySem
namespace ShortX
open PySem.W PySem.Calls PyProof.Rows PySem.HandSPX
/-! ### the text of __init__ -/
def iA (p1 p2 : Pos) : Arguments := { posonlyargs := [], args := [{ arg := "self", annotation := none, pos := p1 }, { arg := "had", annotation := none, pos := p2 }], vararg := none, kwonlyargs := [], kw_defaults := [], kwarg := none, defaults := [] }
def iB (q1 q2 q3 q4 : Pos) : List Stmt := [.Assign [.Attribute (.Name "self" q1) "had" q2] (.Name "had" q3) q4]
def iS : Scope := { kind := .function, names := [(PySem.Str.ofString "self", .local), (PySem.Str.ofString "had", .local)], isGenerator := false, isCoroutine := false, more := [] }
/-- what the written part says of Short, at C, and of its __init__, at fI -/
structure ShortTxt (K : Frag) (mg : Str → Option Value) (C fI : Addr) : Prop where
  gC : mg "Short" = some (.ref C)
  cls : ∃ nm q N bs bm sn sub ab col dd k0 k1 k2 k3 k5, K.lookup C = some (excClassObj nm q C N bs bm true sn sub ab col dd k0 k1 k2 k3 k5 "ValueError.__new__") ∧ refsVE bm = true
  sa : findIn K (.ref C) "__setattr__" = some (some (.builtin "object.__setattr__"))
  ga : findIn K (.ref C) "__getattribute__" = some (some (.builtin "BaseException.__getattribute__"))
  gg : findIn K (.ref C) "__getattr__" = some none
  noN : findIn K (.ref C) "had" = some none
  iC : findIn K (.ref C) "__init__" = some (some (.ref fI))
  tC : typeIn K (.ref fI) = some (.type "function")
  kC : keepIn K (.ref C) = true
  exC : subIn K (.ref C) (.type "BaseException") = some true
  tyC : typeIn K (.ref C) = some (.type "type")
  hdC : hasDictIn K C = true
  te : exmOne K (.ref C) (.ref C) = some true
  fn : ∃ (oc : Value) (od : Option Addr) (doc pm : Value) (an : Option Addr) (cdv ct : Value) (osl : Array (Option Value)) (p1 p2 q1 q2 q3 q4 : Pos),
    K.lookup fI = some ⟨oc, od, .func (fnOf "__init__" "Short.__init__" (iA p1 p2) (iB q1 q2 q3 q4) iS .none .none doc pm an cdv ct), osl⟩ ∧ codeIn K cdv "Short.__init__" = true
theorem one_size (v : Value) : [v].length ≤ sizeLine := by
  rw [sizeLine_eq]
  exact (by decide : 1 ≤ 16777216)
theorem kept_but {K : Frag} {h h' : Heap} {x : Addr} (X : K.In h) (hx : K.lookup x = none) (k : ∀ b o, b ≠ x → h.get? b = some o → h'.get? b = some o) : K.In h' := fun a o e =>
  k a o (fun z => by rw [z, hx] at e; cases e) (X a o e)
theorem ldC {M : Model} {s : Shared} {name : Str} {scope : Scope} {L a : Addr} {cd : Value} {m : Str → Option Value} {x : Str} {pos : Pos} {v : Value} {Q : Value → Shared → Prop} {A : Around} {E : Value → Shared → Prop} (hn : s.heap.Ns L m) (hv : m x = some v) (h : Q v s)
    (hk : scope.kind = .function := by rfl) (hl : (envOfC name scope L a cd).kindOf x = some .local := by rfl) (hd : (x == ("__debug__" : Str)) = false := by decide) :
    wpAny M A (eval (.Name x pos) (envOfC name scope L a cd)) Q E s := wpAny_Name (wpAny_loadName_local hk hl hn hv h) hd
/-- what __init__ leaves of a fresh exception at x -/
structure InitEnd (h h' : Heap) (x C dx t1 : Addr) (v : Value) : Prop where
  keep : ∀ b o, b ≠ x → h.get? b = some o → h'.get? b = some o
  obj : h'.get? x = some { cls := .ref C, dict := some dx, data := .fields #[.ref t1, .none, .none, .none, .bool false, .none] }
  dbig : h.objs.size ≤ dx
  dne : dx ≠ x
  ns : h'.Ns1 dx (fun y => if y = "had" then some v else none)
/-- a made Short -/
structure OwnMade (h h' : Heap) (e C d : Addr) (v : Value) : Prop where
  keep : ∀ b o, h.get? b = some o → h'.get? b = some o
  new : h.objs.size ≤ e
  obj : ∃ oe vs, h'.get? e = some oe ∧ oe.cls = .ref C ∧ oe.dict = some d ∧ oe.data = .fields vs ∧ vs[1]? = some .none ∧ vs[2]? = some .none
  dbig : h.objs.size ≤ d
  dne : d ≠ e
  ns : h'.Ns1 d (fun y => if y = "had" then some v else none)
section
variable {prog : Program} {w : World} {A : Around} {E : Value → Shared → Prop} {R : Result → Shared → Prop} {s : Shared} {K : Frag} {mg : Str → Option Value} {C fI : Addr}
theorem short_init (T : ShortTxt K mg C fI) {x t0 : Addr} {v : Value} (X : K.In s.heap) (hlim : s.heap.NoLimit) (hx : s.heap.get? x = some (excO C t0)) (hnx : K.lookup x = none) (hroom : A.depth < recursionLimit)
    (hq : ∀ h' tk dx, InitEnd s.heap h' x C dx t0 v → R (.ok (.ret .none)) { s with heap := h', toks := tk }) :
    codeAny (model prog w) A (.call (.ref fI) ⟨[.ref x, v], []⟩) R s := by
  obtain ⟨oc, od, doc, pm, an, cdv, ct, osl, p1, p2, q1, q2, q3, q4, ho, hcd⟩ := T.fn
  obtain ⟨nm, q, N, bs, bm, sn, sub, ab, col, dd, k0, k1, k2, k3, k5, hC, hbm⟩ := T.cls
  have hcl : clsIn K C = some { name := nm, bases := bs, mro := .ref C :: bm, ns := N, qualname := q, hasDict := true, slotNames := sn, subclasses := sub, abstract := ab, collection := col, hasDel := false } := by unfold clsIn; rw [hC] <;> rfl
  refine Att.call_fn (binds := [("self", .ref x), ("had", v)]) X hlim ho hcd hroom (BindsTo.of_eq (by first | rfl | with_unfolding_all rfl)) (by first | rfl | decide | with_unfolding_all rfl) (fun s₁ IC => ?_) rfl rfl rfl
  obtain ⟨h₁, tk₁, rfl⟩ := IC.toInCall.same
  have k : ∀ b o, s.heap.get? b = some o → h₁.get? b = some o := IC.toInCall.keep
  have hn := IC.toInCall.ns
  have hxL : s.heap.objs.size ≠ x := Nat.ne_of_gt (Heap.lt_size hx)
  have X₁ : K.In h₁ := X.keeps k
  have hx₁ := k _ _ hx
  -- self.had = had
  show wpAny _ _ (execs _ _) _ _ _
  refine wpAny_execs_cons (plainObj_wpAny_Assign_Attribute ?_)
  refine ldC (v := v) hn (by first | rfl | with_unfolding_all rfl | kernel_rfl) (ldC (v := .ref x) hn (by first | rfl | with_unfolding_all rfl | kernel_rfl) ?_)
  refine set_plain X₁ (ox := excO C t0) (od := none) ⟨hx₁, rfl, rfl, trivial⟩ T.sa ?_
  refine exc_osa X₁ hx₁ hcl (show refsVE (.ref C :: bm) = true from hbm) rfl T.noN (fun h₃ tk₃ dx k₃ dn dne hx₃ hn₃ => ?_)
  show wpAny _ _ (execs _ _) _ _ _
  have z : s.heap.objs.size < h₁.objs.size := hn.lt
  exact wpAny_execs_nil (hq h₃ tk₃ dx ⟨fun b o hb e => k₃ b o hb (k b o e), hx₃, Nat.le_of_lt (Nat.lt_of_lt_of_le z dn), dne, hn₃⟩)
theorem short_made (T : ShortTxt K mg C fI) {v : Value} (X : K.In s.heap) (hlim : s.heap.NoLimit) (hroom : A.depth + 1 < recursionLimit)
    (hq : ∀ h' tk e d, OwnMade s.heap h' e C d v → R (.ok (.ret (.ref e))) { s with heap := h', toks := tk }) :
    codeAny (model prog w) A (.call (.ref C) ⟨[v], []⟩) R s := by
  obtain ⟨nm, q, N, bs, bm, sn, sub, ab, col, dd, k0, k1, k2, k3, k5, hC, hbm⟩ := T.cls
  obtain ⟨hp, g, dr, tk, os⟩ := s
  have k : ∀ b o, hp.get? b = some o → ((hp.push (kdv_tup [v])).push (excO C hp.objs.size)).get? b = some o := fun b o e => Heap.get?_push_of_some _ (Heap.get?_push_of_some _ e)
  have hget : ((hp.push (kdv_tup [v])).push (excO C hp.objs.size)).get? (hp.objs.size + 1) = some (excO C hp.objs.size) := by heap_get
  have hnx : K.lookup (hp.objs.size + 1) = none := by
    cases e : K.lookup (hp.objs.size + 1) with
    | none => rfl
    | some o =>
      have z : hp.get? (hp.objs.size + 1) = some o := X _ _ e
      exact absurd (Nat.lt_of_succ_lt (Heap.lt_size z)) (Nat.lt_irrefl _)
  refine call_own F.excBase_ValueError (fun X => refsVE_contains X bm hbm) (X _ _ hC) (looks_findIn X T.iC) (fun self => bind_fn X self T.tC) (one_size v) ?_
  refine short_init (s := ⟨(hp.push (kdv_tup [v])).push (excO C hp.objs.size), g, dr, tk, os⟩) T (X.keeps k) (hlim.keeps k) hget hnx ?_ fun h' tk' dx ⟨k', hx, dn, dne, hns⟩ => ?_
  · show A.depth + 1 < recursionLimit
    exact hroom
  · have old : ∀ b o, hp.get? b = some o → h'.get? b = some o := fun b o e => k' b o (Nat.ne_of_lt (Nat.lt_succ_of_lt (Heap.lt_size e))) (k b o e)
    have z : hp.objs.size + 1 + 1 ≤ dx := by
      first
        | (simpa only [Heap.size_push] using dn)
        | exact dn
        | (have q := dn; rw [Heap.size_push, Heap.size_push] at q; exact q)
    exact ⟨rfl, hq h' tk' (hp.objs.size + 1) dx ⟨old, Nat.le_succ _, ⟨_, _, hx, rfl, rfl, rfl, rfl, rfl⟩, Nat.le_trans (Nat.le_trans (Nat.le_succ _) (Nat.le_succ _)) z, dne, hns⟩⟩
end
end ShortX
end PySem
namespace L2
open PySem PySem.Spec PyProof.Rows
theorem relO_short {v : V} {v' : Value} (r : RelV v v') (f : Str) : RelO (List.lookup f [(("had" : Str), v)]) (if f = "had" then some v' else none) := by
  by_cases hw : f = "had"
  · subst hw
    rw [if_pos rfl]
    have q : List.lookup ("had" : Str) [(("had" : Str), v)] = some v := by simp [List.lookup]
    rw [q]
    exact r
  · rw [if_neg hw]
    have qw : (f == ("had" : Str)) = false := by simpa using hw
    have q2 : List.lookup f [(("had" : Str), v)] = none := by simp [List.lookup, qw]
    rw [q2]
    trivial
section
variable {X : Cx} {C fI : Addr}
/-- Short(e) -/
def tMkShort (C : Addr) (ta : TA) : St → Hp → XK → Prop := fun σ H Q => ta σ H fun vs H1 => ∃ v, vs = [v] ∧ ∀ d, H1 d = none → Q (.ref C) (some d) (upd H1 d (.xd [(("had" : Str), v)]))
theorem pmk_short {a : Expr} {ta : TA} {p pos : Pos} {k : Nat} (T : PySem.ShortX.ShortTxt X.K X.mg C fI) (hr : Room k X.A) (ha : PA X [a] ta) (hg : Gl X "Short" := by rfl)
    (he : starEach (a :: []) X.env = (false, eval a X.env) :: starEach [] X.env := by rfl) (hpl : (backTo pos (starEach [] X.env)).any (·.1) = false := by rfl) :
    L2N.PMk X (.Call (.Name "Short" p) [a] [] pos) (tMkShort C ta) := by
  intro pins s σ H Q I h
  refine wpAny_Call_Name_kw (ld_glob I hg T.gC ?_)
  refine PySem.W.callWith_K (h₀ := X.base) I.ok.mod.kin T.kC (thn (ha.run pos pins s σ H _ I h) fun us s1 hh => ?_) he hpl
  obtain ⟨vs, H1, I1, r1, v, ev, q1⟩ := hh
  subst ev
  refine ⟨I1.kIn, ?_⟩
  cases r1 with
  | cons rv rn =>
    rename_i v' us'
    cases rn
    show wpAny _ _ (call (.ref C) [v']) _ _ _
    have hlim := I1.nolimit
    obtain ⟨hp, g, dr, tk, os⟩ := s1
    refine wpAny_call (PySem.ShortX.short_made T I1.kIn hlim (by have := hr.dp; omega) fun h' tk' e d M => ?_)
    show L2N.MkP X pins σ Q (.ref e) ⟨h', g, dr, tk', os⟩
    obtain ⟨oe, fv, hoe, hc, hd, hdat, h1, hcx⟩ := M.obj
    have hns := M.ns
    obtain ⟨G', g1, g2⟩ := restrict h' fun b => decide (b ≠ e)
    have gk : ∀ b, b ≠ e → G'.get? b = h'.get? b := fun b hb => g1 b (decide_eq_true hb)
    have ge : G'.get? e = none := g2 e (by simp)
    have old : ∀ b o, hp.get? b = some o → G'.get? b = some o := fun b o q => (gk b (Nat.ne_of_lt (Nat.lt_of_lt_of_le (Heap.lt_size q) M.new))).trans (M.keep b o q)
    have ob : ObjOk X.prog X.w (upd H1 d (.xd [(("had" : Str), v)])) G' d (.xd [(("had" : Str), v)]) :=
      ⟨_, hns.at (fun o q => (gk d M.dne).trans q), fun f => relO_short rv f⟩
    have J : Inv X pins σ (upd H1 d (.xd [(("had" : Str), v)])) ⟨G', g, dr, tk', os⟩ := I1.laid (t' := tk') old M.dbig ob
    refine ⟨e, oe, fv, ⟨G', g, dr, tk', os⟩, _, .ref C, some d, rfl, J, fun b o q => ?_, ge, hoe, ⟨hc, hd, fun vs' e' => by rw [hdat] at e'; cases e'; exact hcx⟩, hdat, h1, ?_, rfl, I1.bare, raises_own T.exC T.tyC, q1 d (I1.hok.fresh M.dbig)⟩
    · by_cases hb : b = e
      · have q' : G'.get? b = some o := q
        rw [hb, ge] at q'; cases q'
      · exact (gk b hb).symm.trans q
    · rw [upd_ne (Ne.symm M.dne)]
      exact I1.hok.fresh M.new
end
end L2
/-! G0: exceptions as objects that are tracked. -/
namespace Gx
open PySem L2
abbrev Takes := L2N.Takes
abbrev Zn := L2N.Zn
theorem takes0 {X : Cx} : Takes X fun _ _ _ _ => False := fun _ _ ⟨_, _, _, _, _, _, _, _, _, _, _, _, _, _, _, _, w⟩ => w.elim
/-- an exception that is handled, or was, at a: its class, its dict -/
def exV (cls : Value) (d : Option Addr) (a : Addr) : HO := .ext fun h => ∃ (oe : Obj) (vs : Array Value), h.get? a = some oe ∧ Zn cls d oe ∧ oe.data = .fields vs
theorem exV_ok {P : Program} {w : World} {H : Hp} {h : Heap} {a : Addr} {cls : Value} {d : Option Addr} {oe : Obj} {vs : Array Value} (e : h.get? a = some oe) (z : Zn cls d oe) (hd : oe.data = .fields vs) : ObjOk P w H h a (exV cls d a) :=
  ⟨⟨oe, vs, e, z, hd⟩, ⟨oe, e⟩, fun _ _ ⟨o, v, q, r⟩ k => ⟨o, v, k o q, r⟩⟩
theorem exV_at {P : Program} {w : World} {H : Hp} {h : Heap} {a : Addr} {cls : Value} {d : Option Addr} (x : HOk P w H h) (e : H a = some (exV cls d a)) : ∃ (oe : Obj) (vs : Array Value), h.get? a = some oe ∧ Zn cls d oe ∧ oe.data = .fields vs := (x a _ e).1
section
variable {X : Cx} {pins : List (Addr × Obj)} {σ : L2.St} {H : Hp} {s : Shared}
theorem track (I : Inv X pins σ H s) {a : Addr} {oe : Obj} {vs : Array Value} {cls : Value} {d : Option Addr} (ha : s.heap.get? a = some oe) (z : Zn cls d oe) (hd : oe.data = .fields vs) (na : H a = none) (nL : a ≠ X.env.locals)
    (n0 : ∀ o, X.s_0.heap.get? a = some o → a ∈ X.ex) (np : ∀ p ∈ X.pn ++ pins, p.1 ≠ a) : Inv X pins σ (upd H a (exV cls d a)) s := by
  have up : ∀ {b o}, H b = some o → upd H a (exV cls d a) b = some o := fun {b o} e => by
    rw [upd_ne (fun q => by rw [q, na] at e; cases e)]
    exact e
  refine ⟨I.ok, I.os, I.bare, ⟨I.base.keep, I.base.slot, fun b o e n hx => ?_, I.base.there, fun b xs e => up (I.base.tups b xs e), fun b o u e => up (I.base.frzs b o u e), fun b ps e => ?_⟩, I.loc, I.cell, ?_, fun x c e => ?_, fun p hp => ?_, fun b u e => ?_, I.len⟩
  · have hb : b ≠ a := fun q => by
      subst q
      exact hx (n0 o e)
    rw [upd_ne hb]
    exact I.base.free b o e n hx
  · obtain ⟨m, q⟩ := I.base.tbls b ps e
    exact ⟨m, up q⟩
  · rw [upd_ne (Ne.symm nL)]
    exact I.free
  · have hb : c ≠ a := fun q => by
      subst q
      obtain ⟨v, o, ho, hd2⟩ := I.cell x c e
      rw [ha] at ho
      cases ho
      rw [hd] at hd2
      cases hd2
    rw [upd_ne hb]
    exact I.freeC x c e
  · obtain ⟨e, n, ne, nf, dd⟩ := I.pin p hp
    exact ⟨e, by rw [upd_ne (np p hp)]; exact n, ne, nf, dd⟩
  · by_cases hb : b = a
    · subst hb
      rw [upd_same] at e
      injection e with e
      subst e
      exact exV_ok ha z hd
    · rw [upd_ne hb] at e
      exact (I.hok b u e).stay (fun c v _ q => q) (fun c q => up q) fun c xs q => up q
theorem suiteT (I : Inv X pins σ H s) (a : Addr) : Inv (X.suite a (X.pn ++ pins)) [] σ H s :=
  ⟨I.ok.suite _ _, I.os, I.bare, I.base, I.loc, I.cell, I.free, I.freeC, fun p hp => I.pin p (by rw [List.append_nil] at hp; exact hp), I.hok, I.len⟩
theorem unsuiteT {a : Addr} {pn' : List (Addr × Obj)} (I : Inv (X.suite a (X.pn ++ pins)) pn' σ H s) (ok : X.Ok) : Inv X pins σ H s :=
  ⟨ok, I.os, I.bare, I.base, I.loc, I.cell, I.free, I.freeC, fun p hp => I.pin p (List.mem_append_left _ hp), I.hok, I.len⟩
end
/-! ### try: body, except x as n: suite -/
/-- how a suite ends: the name goes -/
def goneD (D : Ends) : Option Nat → Ends
  | none => D
  | some i => { nx := fun σ' H' => D.nx (σ'.set i none) H', rt := D.rt, bk := fun σ' H' => D.bk (σ'.set i none) H', ct := fun σ' H' => D.ct (σ'.set i none) H' }
def bindI (σ : L2.St) (a : Addr) : Option Nat → L2.St
  | none => σ
  | some i => σ.set i (some (.ref a))
def wTr (K : PySem.W.Frag) (c : Value) (i : Option Nat) (ts : Addr → Value → Option Addr → TS) (Wout : WX) (D : Ends) : WX := fun cls d σ H =>
  ∃ b, PySem.W.exmOne K cls c = some b ∧ (b = true → ∀ a, H a = none → ts a cls d { nx := fun σ' H' => D.nx (match i with | some i => σ'.set i none | none => σ') H', rt := fun v H' => D.rt v H', bk := fun σ' H' => D.bk (match i with | some i => σ'.set i none | none => σ') H', ct := fun σ' H' => D.ct (match i with | some i => σ'.set i none | none => σ') H' } (bindI σ a i) (upd H a (exV cls d a))) ∧ (b = false → Wout cls d σ H)
section
variable {X : Cx} {x n : Str} {c : Value} {i : Nat} {body suite : List Stmt} {b₀ : Stmt} {np pos pos' : Pos} {tb : WX → TS} {ts : Addr → Value → Option Addr → TS} {Wout : WX}
theorem ps_try_tr (hs : X.stack = X.env :: X.outer) (hf : X.env.frame = some X.env.locals) (hN : X.N.Nodup) (hi : X.N[i]? = some n) (hln : X.env.kindOf n = some .local) (hc : Names X x c) (tk : Takes X Wout)
    (hb : ∀ (W : WX) (pn : List (Addr × Obj)) (xe : Value → Shared → Prop), Takes (X.tr pn xe) W → PassesOwn (model X.prog X.w) X.A X.env xe → PSs (X.tr pn xe) body (tb W))
    (hsu : ∀ (a : Addr) (cls : Value) (d : Option Addr) (pn : List (Addr × Obj)), PSs (X.suite a pn) (b₀ :: suite) (ts a cls d)) :
    PS X (.Try body [.ExceptHandler (some (.Name x np)) (some n) (b₀ :: suite) pos'] [] [] pos) (fun D σ H => tb (wTr X.K c (some i) ts Wout D) D σ H) := by
  refine ⟨fun pins s σ H D I h => ?_⟩
  have ok := I.ok
  have hfr : X.A.frames = some (X.env :: X.outer) := by rw [ok.frames, hs]
  have hloc : Loc X.env.scope n := .inl hln
  refine wpAny_Try_except ?_
  refine wpAny_mono ((hb (wTr X.K c (some i) ts Wout D) (X.pn ++ pins) (fun e s₁ => wpAny (model X.prog X.w) X.A (noteFrame e X.env) (fun _ s₂ => wpAny (model X.prog X.w) X.A (setFlight e none) (fun _ s₃ =>
    wpAny (model X.prog X.w) X.A (handleBy e X.env [.ExceptHandler (some (.Name x np)) (some n) (b₀ :: suite) pos']) (SP X pins D) X.xe s₃) X.xe s₂) X.xe s₁) (fun u s' xx => ?_) PassesOwn.looking).run [] s σ H D (I.toTry _) h) (fun f s1 hsp => ?_) (fun e s1 he => he)
  · -- the catch
    obtain ⟨a, B, sI, pins', σ', H', cls, d, rfl, J', nb, up, sky, na, os, ag, b, hb1, hyes, hno⟩ := xx
    have J : Inv X pins σ' H' sI := J'.ofTry ok
    have sky' : Sky B (X.env :: X.outer) a (Zn cls d) X.env.locals s'.heap := by rw [← hs]; exact sky
    show wpAny (model X.prog X.w) X.A (noteFrame (.ref a) X.env) _ _ _
    refine L2N.Sky.land L2N.Zn.steady hfr hf sky' fun h3 fl3 up3 => ?_
    have J3 : Inv X pins σ' H' { s' with heap := h3 } := J.landed nb fl3.1 (up.trans up3) os ag
    obtain ⟨oe3, vs3, he3, hz3, hd3⟩ := fl3.there
    have notFr : ∀ {h : Heap} {o : Obj} {vs : Array Value}, h.FunFrames B (X.env :: X.outer) → h.get? a = some o → o.data = .fields vs → a ∉ frs (X.env :: X.outer) := fun {h o vs} ff e dd hm => by
      obtain ⟨_, o', e', hnf⟩ := ff.mem hm
      rw [e] at e'; cases e'
      exact hnf _ dd
    have nfr := notFr fl3.2.2.1 he3 hd3
    have nL : a ≠ X.env.locals := fun z => nfr (List.mem_filterMap.mpr ⟨X.env, List.mem_cons_self, by rw [hf, z]⟩)
    have nF : a ∉ X.fs := fun hm => by
      obtain ⟨e, he, q⟩ := List.mem_filterMap.mp hm
      exact nfr (List.mem_filterMap.mpr ⟨e, List.mem_cons_of_mem _ he, q⟩)
    have nI : sI.heap.get? a = none := by
      cases q : sI.heap.get? a with
      | none => rfl
      | some o =>
        have := nb a o q (by rw [hs]; exact nfr)
        rw [fl3.2.1] at this
        cases this
    have n0 : ∀ o, X.s_0.heap.get? a = some o → a ∈ X.ex := fun o q => by
      apply Classical.byContradiction
      intro hx
      obtain ⟨o', q'⟩ := J.base.there a o q hx
      rw [nI] at q'
      cases q'
    have npin : ∀ p ∈ X.pn ++ pins, p.1 ≠ a := fun p hp q => by
      have := (J.pin p hp).1
      rw [q, nI] at this
      cases this
    have S3 := J3.suite he3 hd3 na nL nF
    refine wpAny_handleBy_cons (codeAny_handlers_test ?_) (by intro q; cases q)
    have LT : PySem.W.Looks (model X.prog X.w) h3 (typeOf (.ref a)) cls := fun A Q E s k q => wpAny_typeOf_ref (k _ _ he3) (by rw [hz3.1]; exact q)
    have LM := PySem.W.exm_one (M := model X.prog X.w) (J3.kIn) LT hb1
    have test : ∀ {Q : Value → Shared → Prop} {E : Value → Shared → Prop}, Q c { s' with heap := h3 } → wpAny (model X.prog X.w) (X.A.mark (some (.ref a))) (eval (.Name x np) X.env) Q E { s' with heap := h3 } := fun {Q E} q => by
      obtain ⟨hg, hdbg, hm | ⟨hm, hv, hnn⟩⟩ := hc
      · exact ld_glob (X := X.suite a ((a, oe3) :: (X.pn ++ pins))) S3 hg hm q hdbg
      · exact ld_blt (X := X.suite a ((a, oe3) :: (X.pn ++ pins))) S3 hg hm hv q hnn hdbg
    refine test (LM.here ?_)
    cases b with
    | true =>
      refine codeAny_handlers_suite_as ?_
      refine HandSPX.lands_againZ fl3 fun h4 fl4 up4 => ?_
      have J4 : Inv X pins σ' H' { s' with heap := h4 } := J.landed nb fl4.1 ((up.trans up3).trans up4) os ag
      obtain ⟨oe4, vs4, he4, hz4, hd4⟩ := fl4.there
      have S4 := suiteT (track J4 he4 hz4 hd4 na nL n0 npin) a
      refine store_ok (X := X.suite a (X.pn ++ pins)) (v := .ref a) S4 hN hi hloc rfl (fun s5 S5 => ?_) (.inr hln)
      refine wpAny_mono ((hsu a cls d (X.pn ++ pins)).run [] s5 _ _ _ S5 (hyes rfl a na)) (fun f s6 hsp => ?_) (fun _ _ z => False.elim z)
      have end_ : ∀ {σ6 : L2.St} {H6 : Hp} {Q : Shared → Prop}, Inv (X.suite a (X.pn ++ pins)) [] σ6 H6 s6 → (∀ s7, Inv X pins (σ6.set i none) H6 s7 → Q s7) →
          wpAny (model X.prog X.w) X.A (do bindName X.env n .none; unbindBehindTheSuite X.env n pos') (fun _ s7 => Q s7) X.xe s6 := fun {σ6 H6 Q} S6 hq => gone_ok (unsuiteT S6 ok) hN hi hln hq
      cases f with
      | next =>
        obtain ⟨σ6, H6, S6, q6⟩ := hsp
        exact end_ S6 fun s7 J7 => ⟨_, _, J7, q6⟩
      | brk =>
        obtain ⟨σ6, H6, S6, q6⟩ := hsp
        exact end_ S6 fun s7 J7 => ⟨_, _, J7, q6⟩
      | cont =>
        obtain ⟨σ6, H6, S6, q6⟩ := hsp
        exact end_ S6 fun s7 J7 => ⟨_, _, J7, q6⟩
      | ret u =>
        obtain ⟨v6, σ6, H6, S6, r6, q6⟩ := hsp
        exact end_ S6 fun s7 J7 => ⟨_, _, _, J7, r6, q6⟩
    | false =>
      show wpAny _ X.A (handleBy (.ref a) X.env []) _ _ _
      refine wpAny_handleBy_nil ?_
      obtain ⟨k1, k2, k3, oe, vs, T, oT, ts', he, hz, hd, h1, hr⟩ := id fl3
      unfold PySem.passOn
      refine wpAny_bind (wpAny_field he hd h1 ?_)
      rw [if_neg (show ¬ ((Value.ref T == Value.none) = true) from by simp)]
      have fin : wpAny (model X.prog X.w) X.A (setFlight (.ref a) X.env.frame) (fun _ s4 => wpAny (model X.prog X.w) X.A (throw (.ref a) : Sem Flow) (SP X pins D) X.xe s4) X.xe { s' with heap := h3 } := by
        rw [hf]
        refine HandSPX.setFlight_upZ fl3 fun h4 hh4 up4 => wpAny_throw (tk _ _ ?_)
        exact ⟨a, B, sI, pins, σ', H', cls, d, rfl, J, nb, (up.trans up3).trans up4, .inr (.inr (by rw [hs]; exact hh4)), na, os, ag, hno rfl⟩
      first
        | exact wpAny_bind (wpAny_pure (wpAny_bind fin))
        | exact wpAny_bind fin
  · cases f with
    | next =>
      obtain ⟨σ', H', J', q⟩ := hsp
      exact wpAny_execs_nil ⟨σ', H', J'.ofTry ok, q⟩
    | brk =>
      obtain ⟨σ', H', J', q⟩ := hsp
      exact ⟨σ', H', J'.ofTry ok, q⟩
    | cont =>
      obtain ⟨σ', H', J', q⟩ := hsp
      exact ⟨σ', H', J'.ofTry ok, q⟩
    | ret u =>
      obtain ⟨v, σ', H', J', r, q⟩ := hsp
      exact ⟨v, σ', H', J'.ofTry ok, r, q⟩
theorem ps_try_tr0 (hs : X.stack = X.env :: X.outer) (hf : X.env.frame = some X.env.locals) (hc : Names X x c) (tk : Takes X Wout)
    (hb : ∀ (W : WX) (pn : List (Addr × Obj)) (xe : Value → Shared → Prop), Takes (X.tr pn xe) W → PassesOwn (model X.prog X.w) X.A X.env xe → PSs (X.tr pn xe) body (tb W))
    (hsu : ∀ (a : Addr) (cls : Value) (d : Option Addr) (pn : List (Addr × Obj)), PSs (X.suite a pn) (b₀ :: suite) (ts a cls d)) :
    PS X (.Try body [.ExceptHandler (some (.Name x np)) none (b₀ :: suite) pos'] [] [] pos) (fun D σ H => tb (wTr X.K c none ts Wout D) D σ H) := by
  refine ⟨fun pins s σ H D I h => ?_⟩
  have ok := I.ok
  have hfr : X.A.frames = some (X.env :: X.outer) := by rw [ok.frames, hs]
  refine wpAny_Try_except ?_
  refine wpAny_mono ((hb (wTr X.K c none ts Wout D) (X.pn ++ pins) (fun e s₁ => wpAny (model X.prog X.w) X.A (noteFrame e X.env) (fun _ s₂ => wpAny (model X.prog X.w) X.A (setFlight e none) (fun _ s₃ =>
    wpAny (model X.prog X.w) X.A (handleBy e X.env [.ExceptHandler (some (.Name x np)) none (b₀ :: suite) pos']) (SP X pins D) X.xe s₃) X.xe s₂) X.xe s₁) (fun u s' xx => ?_) PassesOwn.looking).run [] s σ H D (I.toTry _) h) (fun f s1 hsp => ?_) (fun e s1 he => he)
  · -- the catch
    obtain ⟨a, B, sI, pins', σ', H', cls, d, rfl, J', nb, up, sky, na, os, ag, b, hb1, hyes, hno⟩ := xx
    have J : Inv X pins σ' H' sI := J'.ofTry ok
    have sky' : Sky B (X.env :: X.outer) a (Zn cls d) X.env.locals s'.heap := by rw [← hs]; exact sky
    show wpAny (model X.prog X.w) X.A (noteFrame (.ref a) X.env) _ _ _
    refine L2N.Sky.land L2N.Zn.steady hfr hf sky' fun h3 fl3 up3 => ?_
    have J3 : Inv X pins σ' H' { s' with heap := h3 } := J.landed nb fl3.1 (up.trans up3) os ag
    obtain ⟨oe3, vs3, he3, hz3, hd3⟩ := fl3.there
    have notFr : ∀ {h : Heap} {o : Obj} {vs : Array Value}, h.FunFrames B (X.env :: X.outer) → h.get? a = some o → o.data = .fields vs → a ∉ frs (X.env :: X.outer) := fun {h o vs} ff e dd hm => by
      obtain ⟨_, o', e', hnf⟩ := ff.mem hm
      rw [e] at e'; cases e'
      exact hnf _ dd
    have nfr := notFr fl3.2.2.1 he3 hd3
    have nL : a ≠ X.env.locals := fun z => nfr (List.mem_filterMap.mpr ⟨X.env, List.mem_cons_self, by rw [hf, z]⟩)
    have nF : a ∉ X.fs := fun hm => by
      obtain ⟨e, he, q⟩ := List.mem_filterMap.mp hm
      exact nfr (List.mem_filterMap.mpr ⟨e, List.mem_cons_of_mem _ he, q⟩)
    have nI : sI.heap.get? a = none := by
      cases q : sI.heap.get? a with
      | none => rfl
      | some o =>
        have := nb a o q (by rw [hs]; exact nfr)
        rw [fl3.2.1] at this
        cases this
    have n0 : ∀ o, X.s_0.heap.get? a = some o → a ∈ X.ex := fun o q => by
      apply Classical.byContradiction
      intro hx
      obtain ⟨o', q'⟩ := J.base.there a o q hx
      rw [nI] at q'
      cases q'
    have npin : ∀ p ∈ X.pn ++ pins, p.1 ≠ a := fun p hp q => by
      have := (J.pin p hp).1
      rw [q, nI] at this
      cases this
    have S3 := J3.suite he3 hd3 na nL nF
    refine wpAny_handleBy_cons (codeAny_handlers_test ?_) (by intro q; cases q)
    have LT : PySem.W.Looks (model X.prog X.w) h3 (typeOf (.ref a)) cls := fun A Q E s k q => wpAny_typeOf_ref (k _ _ he3) (by rw [hz3.1]; exact q)
    have LM := PySem.W.exm_one (M := model X.prog X.w) (J3.kIn) LT hb1
    have test : ∀ {Q : Value → Shared → Prop} {E : Value → Shared → Prop}, Q c { s' with heap := h3 } → wpAny (model X.prog X.w) (X.A.mark (some (.ref a))) (eval (.Name x np) X.env) Q E { s' with heap := h3 } := fun {Q E} q => by
      obtain ⟨hg, hdbg, hm | ⟨hm, hv, hnn⟩⟩ := hc
      · exact ld_glob (X := X.suite a ((a, oe3) :: (X.pn ++ pins))) S3 hg hm q hdbg
      · exact ld_blt (X := X.suite a ((a, oe3) :: (X.pn ++ pins))) S3 hg hm hv q hnn hdbg
    refine test (LM.here ?_)
    cases b with
    | true =>
      refine codeAny_handlers_suite ?_
      refine HandSPX.lands_againZ fl3 fun h4 fl4 up4 => ?_
      have J4 : Inv X pins σ' H' { s' with heap := h4 } := J.landed nb fl4.1 ((up.trans up3).trans up4) os ag
      obtain ⟨oe4, vs4, he4, hz4, hd4⟩ := fl4.there
      have S4 := suiteT (track J4 he4 hz4 hd4 na nL n0 npin) a
      refine wpAny_mono ((hsu a cls d (X.pn ++ pins)).run [] _ _ _ _ S4 (hyes rfl a na)) (fun f s6 hsp => ?_) (fun _ _ z => False.elim z)
      cases f with
      | next =>
        obtain ⟨σ6, H6, S6, q6⟩ := hsp
        exact ⟨_, _, unsuiteT S6 ok, q6⟩
      | brk =>
        obtain ⟨σ6, H6, S6, q6⟩ := hsp
        exact ⟨_, _, unsuiteT S6 ok, q6⟩
      | cont =>
        obtain ⟨σ6, H6, S6, q6⟩ := hsp
        exact ⟨_, _, unsuiteT S6 ok, q6⟩
      | ret u =>
        obtain ⟨v6, σ6, H6, S6, r6, q6⟩ := hsp
        exact ⟨_, _, _, unsuiteT S6 ok, r6, q6⟩
    | false =>
      show wpAny _ X.A (handleBy (.ref a) X.env []) _ _ _
      refine wpAny_handleBy_nil ?_
      obtain ⟨k1, k2, k3, oe, vs, T, oT, ts', he, hz, hd, h1, hr⟩ := id fl3
      unfold PySem.passOn
      refine wpAny_bind (wpAny_field he hd h1 ?_)
      rw [if_neg (show ¬ ((Value.ref T == Value.none) = true) from by simp)]
      have fin : wpAny (model X.prog X.w) X.A (setFlight (.ref a) X.env.frame) (fun _ s4 => wpAny (model X.prog X.w) X.A (throw (.ref a) : Sem Flow) (SP X pins D) X.xe s4) X.xe { s' with heap := h3 } := by
        rw [hf]
        refine HandSPX.setFlight_upZ fl3 fun h4 hh4 up4 => wpAny_throw (tk _ _ ?_)
        exact ⟨a, B, sI, pins, σ', H', cls, d, rfl, J, nb, (up.trans up3).trans up4, .inr (.inr (by rw [hs]; exact hh4)), na, os, ag, hno rfl⟩
      first
        | exact wpAny_bind (wpAny_pure (wpAny_bind fin))
        | exact wpAny_bind fin
  · cases f with
    | next =>
      obtain ⟨σ', H', J', q⟩ := hsp
      exact wpAny_execs_nil ⟨σ', H', J'.ofTry ok, q⟩
    | brk =>
      obtain ⟨σ', H', J', q⟩ := hsp
      exact ⟨σ', H', J'.ofTry ok, q⟩
    | cont =>
      obtain ⟨σ', H', J', q⟩ := hsp
      exact ⟨σ', H', J'.ofTry ok, q⟩
    | ret u =>
      obtain ⟨v, σ', H', J', r, q⟩ := hsp
      exact ⟨v, σ', H', J'.ofTry ok, r, q⟩
end
end Gx
namespace PySem.W
open PySem PySem.Spec PySem.Calls PyProof.Rows
section
variable {prog : Program} {w : World} {A : Around} {E : Value → Shared → Prop} {s : Shared} {K : Frag} {x D : Addr} {ox : Obj} {od : Option Obj}
theorem findObj_dataT {C : Addr} {name : Str} {a g : Value} (hc : (clsIn K C).isSome = true) (ha : findIn K (.ref C) name = some (some a)) (hg : specialIn K a "__get__" = some (some g)) (ht : takesIn K a = some true) : findObj K C od name = some (.bind g a) := by
  obtain ⟨cd, hc⟩ := Option.isSome_iff_exists.mp hc
  unfold findObj
  rw [hc, Option.bind_some, ha, Option.bind_some]
  simp [hg, ht]
theorem kin_classT {Q : Option Value → Shared → Prop} (hga : findIn K (.ref D) "__getattribute__" = some (some (.builtin "BaseException.__getattribute__"))) (hgt : findIn K (.ref D) "__getattr__" = some none) (hsub : subIn K (.ref D) (.type "BaseException") = some true)
    (hdct : hasDictIn K D = true) (ha : findIn K (.ref D) "__class__" = some (some (.builtin "object.__class__")))
    (hn : specialIn K (.builtin "object.__class__") "__get__" = some (some (.builtin "getset_descriptor.__get__"))) (htk : takesIn K (.builtin "object.__class__") = some true) (hm : mroIn K D (.type "object") = some true)
    (X : K.In s.heap) (I : InstAt s.heap x ox D od) (h : Q (some (.ref D)) { s with toks := s.toks + 1 }) : wpAny (model prog w) A (getAttr? (.ref x) "__class__") Q E s := by
  have hf : findObj K D od "__class__" = some (.bind (.builtin "getset_descriptor.__get__") (.builtin "object.__class__")) := findObj_dataT (by obtain ⟨cd, hc, _⟩ := any_some hdct; rw [hc]; rfl) ha hn htk
  obtain ⟨hp, g, d, t, os⟩ := s
  have L0 := I.type (M := model prog w)
  have L1 := looks_findIn (M := model prog w) X hga
  have L2 := looks_findIn (M := model prog w) X hgt
  have L3 := looks_find (M := model prog w) X I hf
  have sub : Looks (model prog w) hp (isInstance (.ref x) (.type "BaseException")) true := L0.andThen (looks_subIn X hsub)
  have hx0 : (false && onTheHeap (Value.builtin "BaseException.__getattribute__")) = false := rfl
  have hx2 : (Value.builtin "BaseException.__getattribute__" == Value.builtin "object.__getattribute__") = false := by decide +kernel
  have hx1 : (onTheHeap (Value.ref D) && Value.builtin "BaseException.__getattribute__" == Value.builtin "object.__getattribute__") = false := by rw [hx2]; rfl
  unfold getAttr? getAttrBy? getAttrBy
  refine wpAny_bind (wpAny_mkText (wpAny_bind (wpAny_attempt (wpAny_holding (wpAny_bind (L0.at (wpAny_bind (L1.at ?_))))))))
  show wpAny _ _ (if (onTheHeap (Value.ref D) && Value.builtin "BaseException.__getattribute__" == Value.builtin "object.__getattribute__") = true then _ else _) _ _ _
  rw [hx1, if_neg Bool.false_ne_true]
  unfold getAttrByItsOwn hookBefore
  refine wpAny_bind ?_
  rw [if_pos (show onTheHeap (Value.ref D) = true from rfl)]
  refine L2.at ?_
  refine wpAny_bind (wpAny_attempt (wpAny_holding ?_))
  unfold callGetattribute
  rw [hx0, if_neg Bool.false_ne_true]
  unfold boundAndCalled
  rw [PySem.F.excAttr_ValueError.ga.bind (.ref x)]
  refine wpAny_bind (wpAny_pure ?_)
  show wpAny _ _ (call (.builtin "BaseException.__getattribute__") [.ref x, .str "__class__" t]) _ _ _
  refine wpAny_call (codeAny_call_builtin PySem.F.excAttr_ValueError.ga.plain PySem.F.entry_bexc_ga ?_)
  refine @check_slot (model prog w) _ _ ⟨hp, g, d, t + 1, os⟩ "BaseException.__getattribute__" "BaseException" "__getattribute__" (.ref x) [.str "__class__" t] [] _ (by decide +kernel) (by decide +kernel) sub (PySem.F.args_bexc_ga (.ref x) (.str "__class__" t)) ?_
  unfold Builtin.«object.__getattribute__»
  refine wpAny_bind (wpAny_of_eq (a := ((Value.ref x : Value), [Value.str "__class__" t])) (by first | rfl | (simp only [slotArgs]; rfl)) ?_)
  refine wpAny_bind (wpAny_pure (wpAny_bind (L0.at (wpAny_bind (L3.at ?_)))))
  show wpAny _ _ (holding [Value.builtin "object.__class__"] (call (.builtin "getset_descriptor.__get__") [.builtin "object.__class__", .ref x, .ref D]) >>= ret) _ _ _
  refine wpAny_bind (wpAny_holding (wpAny_call (class_get (s := ⟨hp, g, d, t + 1, os⟩) (ox := ox) (od := od) X I hm ?_)))
  refine wpAny_pure ?_
  show wpAny _ _ (handedOut (.ref D)) _ _ _
  rw [handedOut_of (v := .ref D) rfl]
  first
    | exact wpAny_pure (wpAny_pure h)
    | exact wpAny_pure h
    | exact wpAny_pure (wpAny_bind (wpAny_pure (wpAny_pure h)))
theorem kitx_excT (hga : findIn K (.ref D) "__getattribute__" = some (some (.builtin "BaseException.__getattribute__"))) (hgt : findIn K (.ref D) "__getattr__" = some none) (hsub : subIn K (.ref D) (.type "BaseException") = some true) (hdct : hasDictIn K D = true) (ha : findIn K (.ref D) "__class__" = some (some (.builtin "object.__class__")))
    (hn : specialIn K (.builtin "object.__class__") "__get__" = some (some (.builtin "getset_descriptor.__get__"))) (htk : takesIn K (.builtin "object.__class__") = some true) (hm : mroIn K D (.type "object") = some true) :
    KitX K (.ref x) (.ref D) (fun h => InstAt h x ox D od) where
  ty := fun _ _ _ I => I.type
  it := fun _ _ X _ => by
    obtain ⟨cdD, hcD, _⟩ := any_some hdct
    unfold clsIn at hcD
    split at hcD
    · rename_i c' d' cd' sl' ho
      intro A' Q' E' s' k q
      unfold isType loadHead
      exact wpAny_bind (wpAny_loadPart (k _ _ (X _ _ ho)) (wpAny_pure q))
    · cases hcD
  ne := fun h tp dd its n sl X htp => by
    obtain ⟨cdD, hcD, _⟩ := any_some hdct
    refine Bool.eq_false_iff.mpr fun q => ?_
    have e : D = tp := Value.ref.inj (beq_iff_eq.mp q)
    subst e
    unfold clsIn at hcD
    split at hcD
    · rename_i c' d' cd' sl' ho
      have z := (X _ _ ho).symm.trans htp
      cases z
    · cases hcD
  ca := fun X I k => kin_classT hga hgt hsub hdct ha hn htk hm X I k
end
end PySem.W
namespace Gx
open PySem L2
/-- the dict of a tracked exception -/
def DcOk (H : Hp) : Option Addr → Prop
  | none => True
  | some d => ∃ fs, H d = some (.xd fs)
def rIsT (K : PySem.W.Frag) : List V → Hp → VK → Prop := fun xs H Q => ∃ (a D : Addr) (d : Option Addr) (c : V) (cv : Value) (b : Bool), xs = [.ref a, c] ∧ H a = some (exV (.ref D) d a) ∧ DcOk H d ∧ ExcC K D ∧ (∀ u, RelV c u → u = cv) ∧ PySem.W.kitOne K (.ref D) cv = some b ∧ Q (.bl b) H
theorem call_isT {X : Cx} : CallR X (.builtin "isinstance") (rIsT X.K) := by
  intro pins s σ H xs us Q I r h
  obtain ⟨a, D, d, c, cv, b, rfl, ha, hd, C, hcv, e, q⟩ := h
  cases r with
  | cons rx rr =>
    cases rr with
    | cons rt rr =>
      cases rr
      cases rx
      have ec := hcv _ rt
      subst ec
      obtain ⟨oe, vs, hget, hz, hv⟩ := exV_at I.hok ha
      obtain ⟨od, J⟩ : ∃ od, PySem.W.InstAt s.heap a oe D od := by
        obtain ⟨oc, odx, oda, osl⟩ := oe
        obtain ⟨h1, h2, _⟩ := hz
        dsimp only at h1 h2 hv
        subst h1 h2 hv
        cases odx with
        | none => exact ⟨none, hget, rfl, rfl, trivial⟩
        | some dx =>
          obtain ⟨fs, hx⟩ := hd
          have hx : ObjOk X.prog X.w H s.heap dx (.xd fs) := I.hok dx _ hx
          obtain ⟨mA, hns, _⟩ := hx
          obtain ⟨o, ho, _⟩ := lookIn_ns hns
          exact ⟨some o, hget, rfl, rfl, ho⟩
      exact PySem.W.kia_one (PySem.W.kitx_excT C.hg C.hk C.hs C.hd C.ha C.hn C.ht C.hm) I.kIn J e (fun z => nomatch z) fun tk => ⟨.bl b, H, I.kept (t' := tk) fun _ _ z => z, rfl, q⟩
/-- e.f -/
def tXt (K : PySem.W.Frag) (f : Str) (te : TE) : TE := fun σ H Q => te σ H fun x H1 => ∃ (a C d : Addr) (fs : List (Str × V)) (v : V), x = .ref a ∧ H1 a = some (exV (.ref C) (some d) a) ∧ XfC K C ∧ PySem.W.findIn K (.ref C) f = some none ∧ H1 d = some (.xd fs) ∧ fs.lookup f = some v ∧ Q v H1
theorem pe_xt {X : Cx} {e : Expr} {te : TE} {pos : Pos} {n : Str} (he : PE X e te) (hb : attributeBase e n X.env (eval e X.env) = eval e X.env := by rfl) : PE X (.Attribute e n pos) (tXt X.K n te) := by
  refine ⟨fun pins s σ H Q I h => ?_⟩
  refine attr_of hb (thn (he.run pins s σ H _ I h) fun u s1 hh => ?_)
  obtain ⟨x, H1, I1, rx, a, C, d, fs, v, ex, hx, T, hno, ea, l, q⟩ := hh
  subst ex
  obtain rfl : u = Value.ref a := rx
  obtain ⟨oe, vs, hget, hz, hd⟩ := exV_at I1.hok hx
  have hx : ObjOk X.prog X.w H1 s1.heap d (.xd fs) := I1.hok d _ ea
  obtain ⟨mA, hns, hr⟩ := hx
  obtain ⟨od, ho, hl⟩ := lookIn_ns hns
  obtain ⟨u, hu, ru⟩ := RelO.some_of (v := v) (o := mA n) (by rw [← l]; exact hr n)
  have J : PySem.W.InstAt s1.heap a oe C (some od) := ⟨hget, hz.1, by unfold PySem.W.notCls; rw [hd] <;> rfl, by rw [hz.2.1]; exact ho⟩
  exact HandSPX.exc_get I1.kIn J T.ga T.gg T.exC (PySem.W.findObj_own T.hdC hno rfl (by rw [hl, hu])) (handed_of ru) ⟨v, H1, I1.tok _, ru, q⟩
end Gx
namespace L2
open PySem PySem.Spec PyProof.Rows
theorem Fun_okN {P : Program} {w : World} {K : PySem.W.Frag} {mg : Str → Option Value} {base : Heap} {x qual : Str} {st : Stmt} {f : Addr} {fd : FuncData} {N ps : List Str} {k : Nat} {sp : Sp} (F : Fun K x qual st f fd) (S : FnScope N ps (defScope st)) (len : ∀ vs H Q E, sp vs H Q E → vs.length = ps.length)
    (hbody : ∀ (cdv : Value) (A : Around) (outer : List Env) (s : Shared) (H : Hp) (vs : List V) (Q : VK) (E : XK), Room k (A.deeper (envOfC qual (defScope st) s.heap.objs.size f cdv)) → sp vs H Q E →
      ∃ t, PSs (cxOf (L2N.CX P w) P w K mg base N qual (defScope st) f cdv A outer s H E) (defBody st) t ∧ t { nx := fun _ H' => Q .non H', rt := Q } (start N vs) H) : FnOk P w K mg base (L2N.CX P w) (k + 1) f fd ps sp := by
  obtain ⟨oc, od, kV, doc, pm, an, cdv, ct, osl, rfl, lk, hcd⟩ := F.ex
  exact fn_of lk hcd S len fun A outer s H vs Q E hr hsp => hbody cdv A outer s H vs Q E hr hsp
end L2

/-! G1: plain data D; a store of objects that may change, by number; how values and the abstract heap stand for them; steps. -/
namespace Gx
open PySem L2
inductive D where
  | non | bl (b : Bool) | int (i : Int) | str (x : Str)
  | tup (l : List D) | vl (l : List D) | sl (l : List D) | vd (k l : List D) | ref (n : Nat) | exc (c : Str) (p : Option Int)
/-- an object of the store: a list, a dict (keys, values), an instance (its class, its fields) -/
inductive HO' where
  | lst (l : List D) | dic (k l : List D) | ins (c : Str) (f : List Str) (l : List D) | fdc (k l : List D) | dit (k : List (List Key)) (l : List D) | fdt (k : List (List Key)) (l : List D)
abbrev Hs := List HO'
abbrev SD := List (Option D)
mutual
/-- no number of the store in it, but below n -/
def D.bel (n : Nat) : D → Bool
  | .non => true
  | .bl _ => true
  | .int _ => true
  | .str _ => true
  | .exc _ _ => true
  | .tup l => belL n l
  | .vl l => belL n l
  | .sl l => belL n l
  | .vd k l => belL n k && belL n l
  | .ref m => decide (m < n)
def belL (n : Nat) : List D → Bool
  | [] => true
  | d :: r => d.bel n && belL n r
end
def HO'.bel (n : Nat) : HO' → Bool
  | .lst l => belL n l
  | .dic k l => belL n k && belL n l
  | .fdc k l => belL n k && belL n l
  | .dit _ l => belL n l
  | .fdt _ l => belL n l
  | .ins _ _ l => belL n l
/-- a list of the written part -/
def KLst (K : PySem.W.Frag) (a : Addr) (xs : List V) : Prop :=
  ∃ (o : Obj) (its : Array Value) (n : Nat), K.lookup a = some o ∧ o.cls = .type "list" ∧ o.dict = none ∧ o.data = .seq its n ∧ its.size ≤ sizeLine ∧ Vals xs its.toList
/-- what may be an object of the store -/
def Mt : Option HO → Prop
  | some (.lst _) => True
  | some (.dK _) => True
  | some (.dT _) => True
  | some (.ins _ _ _) => True
  | some (.frz _ (.dK _)) => True
  | some (.frz _ (.dT _)) => True
  | _ => False
theorem Mt.ne {o : Option HO} (h : Mt o) : o ≠ none := fun z => by rw [z] at h; exact h
theorem Mt.tup {xs : List V} (h : Mt (some (.tup xs))) : False := h
/-- where the store's objects lie; what else is nobody's to look at -/
structure Gh where
  α : Nat → Option Addr
  B : Addr → Prop
/-- the store's first k objects alone -/
def Gh.cut (G : Gh) (k : Nat) : Gh := ⟨fun n => if n < k then G.α n else none, fun p => G.B p ∧ ∀ n, k ≤ n → G.α n ≠ some p⟩
/-- fixed things: the written part; the classes by name; what is handled -/
structure Fr where
  K : PySem.W.Frag
  cls : Str → Value
  hot : Option Addr
/-- what an exception carries -/
def Pay (G : Gh) (H : Hp) : Option Addr → Option Int → Prop
  | none, none => True
  | some d, some i => H d = some (.xd [("had", .int i)]) ∧ ¬ G.B d
  | _, _ => False
/-- keys of a dict -/
def keyV : V → Option Key
  | .int i => some (.inl i)
  | .str x => some (.inr x)
  | _ => none
section
variable (F : Fr)
mutual
/-- v stands for d -/
def VR (G : Gh) (H : Hp) : D → V → Prop
  | .non, v => v = .non
  | .bl b, v => v = .bl b
  | .int i, v => v = .int i
  | .str x, v => v = .str x
  | .tup l, v => ∃ p xs, v = .ref p ∧ H p = some (.tup xs) ∧ VRL G H l xs
  | .vl l, v => ∃ p xs, v = .ref p ∧ (Rd H p (.lst xs) ∧ ¬ G.B p) ∧ VRL G H l xs
  | .sl l, v => ∃ p xs, v = .ref p ∧ ((Rd H p (.lst xs) ∧ ¬ G.B p) ∨ KLst F.K p xs) ∧ VRL G H l xs
  | .vd k l, v => ∃ (p : Addr) (ks : List Key) (vs : List V), v = .ref p ∧ (H p = some (.dK (ks.zip vs)) ∧ ¬ G.B p) ∧ ks.length = vs.length ∧ VRL G H k (ks.map kV) ∧ VRL G H l vs
  | .ref n, v => ∃ p, v = .ref p ∧ G.α n = some p
  | .exc c q, v => ∃ a d, v = .ref a ∧ (H a = some (exV (F.cls c) d a) ∧ ¬ G.B a) ∧ Pay G H d q
def VRL (G : Gh) (H : Hp) : List D → List V → Prop
  | [], vs => vs = []
  | d :: r, vs => ∃ v vr, vs = v :: vr ∧ VR G H d v ∧ VRL G H r vr
end
end
section
variable {F : Fr} {G G' G1 G2 : Gh} {H H' H1 H2 : Hp}
theorem vr_non {v} : VR F G H .non v ↔ v = .non := by simp only [VR]
theorem vr_bl {b v} : VR F G H (.bl b) v ↔ v = .bl b := by simp only [VR]
theorem vr_int {i v} : VR F G H (.int i) v ↔ v = .int i := by simp only [VR]
theorem vr_str {x v} : VR F G H (.str x) v ↔ v = .str x := by simp only [VR]
theorem vr_tup {l v} : VR F G H (.tup l) v ↔ ∃ p xs, v = .ref p ∧ H p = some (.tup xs) ∧ VRL F G H l xs := by simp only [VR]
theorem vr_tupS {l v} (h : VR F G H (.tup l) v) : ∃ p xs, v = .ref p ∧ SqT F.K H p xs ∧ VRL F G H l xs := by
  obtain ⟨p, xs, e, hs, hl⟩ := vr_tup.mp h
  exact ⟨p, xs, e, .inl (.inl hs), hl⟩
theorem vr_vl {l v} : VR F G H (.vl l) v ↔ ∃ p xs, v = .ref p ∧ (Rd H p (.lst xs) ∧ ¬ G.B p) ∧ VRL F G H l xs := by simp only [VR]
theorem vr_sl {l v} : VR F G H (.sl l) v ↔ ∃ p xs, v = .ref p ∧ ((Rd H p (.lst xs) ∧ ¬ G.B p) ∨ KLst F.K p xs) ∧ VRL F G H l xs := by simp only [VR]
theorem vr_vd {k l v} : VR F G H (.vd k l) v ↔ ∃ (p : Addr) (ks : List Key) (vs : List V), v = .ref p ∧ (H p = some (.dK (ks.zip vs)) ∧ ¬ G.B p) ∧ ks.length = vs.length ∧ VRL F G H k (ks.map kV) ∧ VRL F G H l vs := by simp only [VR]
theorem vr_ref {n v} : VR F G H (.ref n) v ↔ ∃ p, v = .ref p ∧ G.α n = some p := by simp only [VR]
theorem vr_exc {c q v} : VR F G H (.exc c q) v ↔ ∃ a d, v = .ref a ∧ (H a = some (exV (F.cls c) d a) ∧ ¬ G.B a) ∧ Pay G H d q := by simp only [VR]
theorem vrl_nil {vs} : VRL F G H [] vs ↔ vs = [] := by simp only [VRL]
theorem vrl_cons {d r vs} : VRL F G H (d :: r) vs ↔ ∃ v vr, vs = v :: vr ∧ VR F G H d v ∧ VRL F G H r vr := by simp only [VRL]
theorem VRL.length : ∀ {l : List D} {xs : List V}, VRL F G H l xs → xs.length = l.length
  | [], _, h => by rw [vrl_nil.mp h]; rfl
  | d :: r, _, h => by
    obtain ⟨v, vr, rfl, _, h2⟩ := vrl_cons.mp h
    simp [VRL.length h2]
theorem vrl_one {d : D} {v : V} : VRL F G H [d] [v] ↔ VR F G H d v := by
  constructor
  · intro h
    obtain ⟨v', vr, e, h1, h2⟩ := vrl_cons.mp h
    injection e with e1 _
    rw [e1]; exact h1
  · exact fun h => vrl_cons.mpr ⟨v, [], rfl, h, vrl_nil.mpr rfl⟩
theorem VRL.append : ∀ {l l2 : List D} {xs ys : List V}, VRL F G H l xs → VRL F G H l2 ys → VRL F G H (l ++ l2) (xs ++ ys)
  | [], l2, _, ys, h, h2 => by rw [vrl_nil.mp h]; exact h2
  | d :: r, l2, _, ys, h, h2 => by
    obtain ⟨v, vr, rfl, h1, h3⟩ := vrl_cons.mp h
    exact vrl_cons.mpr ⟨v, vr ++ ys, rfl, h1, VRL.append h3 h2⟩
theorem VRL.get : ∀ {l : List D} {xs : List V} {i : Nat} {d : D}, VRL F G H l xs → l[i]? = some d → ∃ v, xs[i]? = some v ∧ VR F G H d v
  | [], _, _, _, _, e => by simp at e
  | d0 :: r, _, 0, d, h, e => by
    obtain ⟨v, vr, rfl, h1, h2⟩ := vrl_cons.mp h
    simp at e; subst e
    exact ⟨v, rfl, h1⟩
  | d0 :: r, _, i + 1, d, h, e => by
    obtain ⟨v, vr, rfl, h1, h2⟩ := vrl_cons.mp h
    obtain ⟨w, q1, q2⟩ := VRL.get (i := i) (d := d) h2 (by simpa using e)
    exact ⟨w, by simpa using q1, q2⟩
theorem VRL.drop : ∀ {l : List D} {xs : List V} (n : Nat), VRL F G H l xs → VRL F G H (l.drop n) (xs.drop n)
  | l, xs, 0, h => by simpa using h
  | [], xs, n + 1, h => by rw [vrl_nil.mp h]; simpa using vrl_nil.mpr rfl
  | d :: r, xs, n + 1, h => by
    obtain ⟨v, vr, rfl, h1, h2⟩ := vrl_cons.mp h
    simpa using VRL.drop n h2
theorem VRL.take : ∀ {l : List D} {xs : List V} (n : Nat), VRL F G H l xs → VRL F G H (l.take n) (xs.take n)
  | l, xs, 0, h => by simpa using vrl_nil.mpr rfl
  | [], xs, n + 1, h => by rw [vrl_nil.mp h]; simpa using vrl_nil.mpr rfl
  | d :: r, xs, n + 1, h => by
    obtain ⟨v, vr, rfl, h1, h2⟩ := vrl_cons.mp h
    simpa using vrl_cons.mpr ⟨v, vr.take n, rfl, h1, VRL.take n h2⟩
theorem VRL.set : ∀ {l : List D} {xs : List V} (n : Nat) {d : D} {v : V}, VRL F G H l xs → VR F G H d v → VRL F G H (l.set n d) (xs.set n v)
  | [], xs, n, d, v, h, _ => by rw [vrl_nil.mp h]; simpa using vrl_nil.mpr rfl
  | d0 :: r, xs, 0, d, v, h, hv => by
    obtain ⟨v0, vr, rfl, h1, h2⟩ := vrl_cons.mp h
    simpa using vrl_cons.mpr ⟨v, vr, rfl, hv, h2⟩
  | d0 :: r, xs, n + 1, d, v, h, hv => by
    obtain ⟨v0, vr, rfl, h1, h2⟩ := vrl_cons.mp h
    simpa using vrl_cons.mpr ⟨v0, vr.set n v, rfl, h1, VRL.set n h2 hv⟩
theorem VRL.reverse : ∀ {l : List D} {xs : List V}, VRL F G H l xs → VRL F G H l.reverse xs.reverse
  | [], xs, h => by rw [vrl_nil.mp h]; simpa using vrl_nil.mpr rfl
  | d :: r, xs, h => by
    obtain ⟨v, vr, rfl, h1, h2⟩ := vrl_cons.mp h
    simpa using VRL.append (VRL.reverse h2) (vrl_one.mpr h1)
theorem vrl_ints : ∀ {l : List Int} {xs : List V}, VRL F G H (l.map .int) xs → xs = l.map V.int
  | [], xs, h => vrl_nil.mp h
  | i :: r, xs, h => by
    obtain ⟨v, vr, rfl, h1, h2⟩ := vrl_cons.mp h
    rw [vr_int.mp h1, vrl_ints h2]; rfl
theorem vrl_of_ints : ∀ {l : List Int}, VRL F G H (l.map .int) (l.map V.int)
  | [] => vrl_nil.mpr rfl
  | i :: r => vrl_cons.mpr ⟨_, _, rfl, vr_int.mpr rfl, vrl_of_ints⟩

/-- what is tracked and no object of the store stays; the store's objects stay where they are -/
structure Step (G : Gh) (H : Hp) (G' : Gh) (H' : Hp) : Prop where
  ids : ∀ n p, G.α n = some p → G'.α n = some p
  new : ∀ n p, G'.α n = some p → G.α n = some p ∨ H p = none
  keep : ∀ p o, H p = some o → (∀ n, G.α n ≠ some p) → H' p = some o
  tup : ∀ p xs, H p = some (.tup xs) → H' p = some (.tup xs)
  ban : ∀ p, H p ≠ none → G'.B p → G.B p
  bans : ∀ p, G.B p → G'.B p
  there : ∀ p, H p ≠ none → H' p ≠ none
  frz : ∀ p o u, H p = some (.frz o u) → H' p = some (.frz o u)
theorem Step.refl (G : Gh) (H : Hp) : Step G H G H := ⟨fun _ _ h => h, fun _ _ h => .inl h, fun _ _ h _ => h, fun _ _ h => h, fun _ _ h => h, fun _ h => h, fun _ h => h, fun _ _ _ h => h⟩
theorem free_of {p : Addr} (h : ∀ p, H p ≠ none → H' p ≠ none) (e : H' p = none) : H p = none := by
  cases q : H p with
  | none => rfl
  | some o => exact (h p (by rw [q]; exact fun z => nomatch z) e).elim
theorem Step.free (a : Step G H G' H') {p : Addr} (e : H' p = none) : H p = none := free_of a.there e
theorem Step.trans (a : Step G H G1 H1) (b : Step G1 H1 G2 H2) : Step G H G2 H2 where
  ids := fun n p h => b.ids n p (a.ids n p h)
  new := fun n p h => by
    rcases b.new n p h with z | z
    · exact a.new n p z
    · exact .inr (a.free z)
  keep := fun p o h n => b.keep p o (a.keep p o h n) fun m z => by
    rcases a.new m p z with q | q
    · exact n m q
    · rw [h] at q; cases q
  tup := fun p xs h => b.tup p xs (a.tup p xs h)
  ban := fun p h z => a.ban p h (b.ban p (a.there p h) z)
  bans := fun p h => b.bans p (a.bans p h)
  there := fun p h => b.there p (a.there p h)
  frz := fun p o u h => b.frz p o u (a.frz p o u h)
theorem Step.rd (a : Step G H G' H') {p : Addr} {u : HO} (n : ∀ n, G.α n ≠ some p) (h : Rd H p u) : Rd H' p u := by
  rcases h with h | ⟨o, h⟩
  · exact .inl (a.keep p _ h n)
  · exact .inr ⟨o, a.keep p _ h n⟩
/-- nothing of what is tracked changes -/
theorem Step.same (e : Same H H') : Step G H G H' :=
  ⟨fun _ _ h => h, fun _ _ h => .inl h, fun p o h _ => e p o h, fun p xs h => e p _ h, fun _ _ h => h, fun _ h => h, fun p h z => h (e.free z), fun p o u h => e p _ h⟩
theorem same_upd {p : Addr} {o : HO} (h : H p = none) : Same H (upd H p o) := fun b u e => by
  rw [upd_ne (ne_of_none e h)]
  exact e
theorem rd_ne {p : Addr} {u : HO} (h : Rd H p u) : H p ≠ none := by
  rcases h with h | ⟨o, h⟩ <;> (rw [h]; exact fun z => nomatch z)
theorem Pay.step (T : Step G H G' H') (aB : ∀ n p, G.α n = some p → G.B p) : ∀ {d : Option Addr} {q : Option Int}, Pay G H d q → Pay G' H' d q
  | none, none, _ => trivial
  | some d, some i, ⟨h1, h2⟩ => ⟨T.keep d _ h1 fun n z => h2 (aB n d z), fun z => h2 (T.ban d (by rw [h1]; exact fun z => nomatch z) z)⟩
  | some d, none, h => h
  | none, some i, h => h
theorem Pay.al (b : ∀ p, G'.B p → G.B p) : ∀ {d : Option Addr} {q : Option Int}, Pay G H d q → Pay G' H d q
  | none, none, _ => trivial
  | some d, some i, ⟨h1, h2⟩ => ⟨h1, fun z => h2 (b d z)⟩
  | some d, none, h => h
  | none, some i, h => h
theorem Pay.cut {k : Nat} {d : Option Addr} {q : Option Int} (h : Pay G H d q) : Pay (G.cut k) H d q := Pay.al (G' := G.cut k) (fun p w => w.1) h
theorem Pay.dc : ∀ {d : Option Addr} {q : Option Int}, Pay G H d q → DcOk H d
  | none, none, _ => trivial
  | some d, some i, ⟨h1, h2⟩ => ⟨_, h1⟩
  | some d, none, h => h.elim
  | none, some i, h => h.elim
mutual
theorem VR.step (T : Step G H G' H') (aB : ∀ n p, G.α n = some p → G.B p) : ∀ (d : D) {v : V}, VR F G H d v → VR F G' H' d v
  | .non, _, h => vr_non.mpr (vr_non.mp h)
  | .bl _, _, h => vr_bl.mpr (vr_bl.mp h)
  | .int _, _, h => vr_int.mpr (vr_int.mp h)
  | .str _, _, h => vr_str.mpr (vr_str.mp h)
  | .tup l, _, h => by
    obtain ⟨p, xs, e, hs, hl⟩ := vr_tup.mp h
    exact vr_tup.mpr ⟨p, xs, e, T.tup p xs hs, VRL.step T aB l hl⟩
  | .vl l, _, h => by
    obtain ⟨p, xs, e, hs, hl⟩ := vr_vl.mp h
    obtain ⟨h1, h2⟩ := hs
    exact vr_vl.mpr ⟨p, xs, e, ⟨T.rd (fun n z => h2 (aB n p z)) h1, fun z => h2 (T.ban p (rd_ne h1) z)⟩, VRL.step T aB l hl⟩
  | .sl l, _, h => by
    obtain ⟨p, xs, e, hs, hl⟩ := vr_sl.mp h
    refine vr_sl.mpr ⟨p, xs, e, ?_, VRL.step T aB l hl⟩
    rcases hs with ⟨h1, h2⟩ | h1
    · exact .inl ⟨T.rd (fun n z => h2 (aB n p z)) h1, fun z => h2 (T.ban p (rd_ne h1) z)⟩
    · exact .inr h1
  | .vd k l, _, h => by
    obtain ⟨p, ks, vs, e, ⟨h1, h2⟩, hl, hk, hv⟩ := vr_vd.mp h
    exact vr_vd.mpr ⟨p, ks, vs, e, ⟨T.keep p _ h1 fun n z => h2 (aB n p z), fun z => h2 (T.ban p (by rw [h1]; exact fun z => nomatch z) z)⟩, hl, VRL.step T aB k hk, VRL.step T aB l hv⟩
  | .ref n, _, h => by
    obtain ⟨p, e, hp⟩ := vr_ref.mp h
    exact vr_ref.mpr ⟨p, e, T.ids n p hp⟩
  | .exc c q, _, h => by
    obtain ⟨a, d, e, ⟨h1, h2⟩, h3⟩ := vr_exc.mp h
    exact vr_exc.mpr ⟨a, d, e, ⟨T.keep a _ h1 fun n z => h2 (aB n a z), fun z => h2 (T.ban a (by rw [h1]; exact fun z => nomatch z) z)⟩, h3.step T aB⟩
theorem VRL.step (T : Step G H G' H') (aB : ∀ n p, G.α n = some p → G.B p) : ∀ (l : List D) {xs : List V}, VRL F G H l xs → VRL F G' H' l xs
  | [], _, h => vrl_nil.mpr (vrl_nil.mp h)
  | d :: r, _, h => by
    obtain ⟨v, vr, e, h1, h2⟩ := vrl_cons.mp h
    exact vrl_cons.mpr ⟨v, vr, e, VR.step T aB d h1, VRL.step T aB r h2⟩
end
/-- a key as data -/
def kD : Key → D
  | .inl i => .int i
  | .inr x => .str x
theorem belL_map {β : Type} {f : β → D} {n : Nat} (h : ∀ b, (f b).bel n = true) : ∀ l : List β, belL n (l.map f) = true
  | [] => rfl
  | b :: r => by
    rw [List.map_cons]
    unfold belL
    rw [h b, belL_map h r]; rfl
/-- what is stored as an object -/
def ON (F : Fr) (G : Gh) (H : Hp) (u : HO) : HO' → Prop
  | .lst l => ∃ xs, u = .lst xs ∧ VRL F G H l xs
  | .dic k l => ∃ (qs : List Key) (vs : List V), u = .dK (qs.zip vs) ∧ qs.length = vs.length ∧ VRL F G H k (qs.map kV) ∧ VRL F G H l vs
  | .fdc k l => ∃ (od : Obj) (qs : List Key) (vs : List V), u = .frz od (.dK (qs.zip vs)) ∧ qs.length = vs.length ∧ VRL F G H k (qs.map kV) ∧ VRL F G H l vs
  | .dit k l => ∃ (vs : List V), u = .dT (k.zip vs) ∧ k.length = vs.length ∧ VRL F G H l vs
  | .fdt k l => ∃ (od : Obj) (vs : List V), u = .frz od (.dT (k.zip vs)) ∧ k.length = vs.length ∧ VRL F G H l vs
  | .ins c f l => ∃ C dx vs, F.cls c = .ref C ∧ u = .ins C dx (f.zip vs) ∧ f.length = vs.length ∧ VRL F G H l vs
/-- what lies at an object's place -/
def OR (F : Fr) (G : Gh) (H : Hp) (p : Addr) (o : HO') : Prop := ∃ u, H p = some u ∧ ON F G H u o
structure HR (F : Fr) (G : Gh) (H : Hp) (h : Hs) : Prop where
  obj : ∀ (n : Nat) (o : HO'), h[n]? = some o → ∃ p, G.α n = some p ∧ OR F G H p o
  dom : ∀ n p, G.α n = some p → n < h.length
  inj : ∀ m n p, G.α m = some p → G.α n = some p → m = n
  aB : ∀ n p, G.α n = some p → G.B p
  bt : ∀ p, G.B p → H p ≠ none
  hot : ∀ a, F.hot = some a → ∃ cls d, H a = some (exV cls d a) ∧ ¬ G.B a
theorem ON.mt {u : HO} {o : HO'} (h : ON F G H u o) : Mt (some u) := by
  cases o with
  | lst l => obtain ⟨xs, rfl, _⟩ := h; trivial
  | dic k l =>
    obtain ⟨qs, vs, rfl, _⟩ := h
    trivial
  | fdc k l => obtain ⟨od, qs, vs, rfl, _⟩ := h; trivial
  | dit k l => obtain ⟨vs, rfl, _⟩ := h; trivial
  | fdt k l => obtain ⟨od, vs, rfl, _⟩ := h; trivial
  | ins c f l => obtain ⟨C, dx, vs, _, rfl, _⟩ := h; trivial
theorem OR.mt {p : Addr} {o : HO'} (h : OR F G H p o) : Mt (H p) := by
  obtain ⟨u, e, h⟩ := h
  rw [e]
  exact h.mt
/-- another way to say where the values are -/
theorem ON.imp {u : HO} {o : HO'} (i : ∀ l xs, VRL F G H l xs → VRL F G' H' l xs) (h : ON F G H u o) : ON F G' H' u o := by
  cases o with
  | lst l => obtain ⟨xs, e1, h1⟩ := h; exact ⟨xs, e1, i _ _ h1⟩
  | dic k l =>
    obtain ⟨qs, vs, e1, h1, h2, h3⟩ := h
    exact ⟨qs, vs, e1, h1, i _ _ h2, i _ _ h3⟩
  | fdc k l =>
    obtain ⟨od, qs, vs, e1, h1, h2, h3⟩ := h
    exact ⟨od, qs, vs, e1, h1, i _ _ h2, i _ _ h3⟩
  | dit k l =>
    obtain ⟨vs, e1, h1, h3⟩ := h
    exact ⟨vs, e1, h1, i _ _ h3⟩
  | fdt k l =>
    obtain ⟨od, vs, e1, h1, h3⟩ := h
    exact ⟨od, vs, e1, h1, i _ _ h3⟩
  | ins c f l => obtain ⟨C, dx, vs, e0, e1, hl, h1⟩ := h; exact ⟨C, dx, vs, e0, e1, hl, i _ _ h1⟩
theorem ON.step (T : Step G H G' H') (aB : ∀ n p, G.α n = some p → G.B p) {u : HO} {o : HO'} (h : ON F G H u o) : ON F G' H' u o := h.imp fun l xs z => VRL.step T aB l z
theorem HR.mt {h : Hs} (r : HR F G H h) {n p} (e : G.α n = some p) : Mt (H p) := by
  have hn := r.dom n p e
  obtain ⟨q, e2, ho⟩ := r.obj n _ (List.getElem?_eq_getElem hn)
  rw [e] at e2
  injection e2 with e2
  subst e2
  exact ho.mt
theorem OR.step (T : Step G H G' H') (aB : ∀ n p, G.α n = some p → G.B p) {p : Addr} {o : HO'} (e : H' p = H p) (h : OR F G H p o) : OR F G' H' p o := by
  obtain ⟨u, e1, h⟩ := h
  exact ⟨u, by rw [e, e1], h.step T aB⟩
/-- nothing of what is tracked changes -/
theorem HR.same {h : Hs} (r : HR F G H h) (e : Same H H') : HR F G H' h where
  obj := fun n o q => by
    obtain ⟨p, e1, ho⟩ := r.obj n o q
    refine ⟨p, e1, ho.step (Step.same e) r.aB ?_⟩
    cases z : H p with
    | none => have := ho.mt; rw [z] at this; exact this.elim
    | some u => exact e p u z
  dom := r.dom
  inj := r.inj
  aB := r.aB
  bt := fun p b z => r.bt p b (e.free z)
  hot := fun a q => let ⟨c, d, h1, h2⟩ := r.hot a q; ⟨c, d, e a _ h1, h2⟩
mutual
theorem VR.bel {h : Hs} (r : HR F G H h) : ∀ (d : D) {v : V}, VR F G H d v → d.bel h.length = true
  | .non, _, h => rfl
  | .bl _, _, h => rfl
  | .int _, _, h => rfl
  | .str _, _, h => rfl
  | .exc _ _, _, h => rfl
  | .tup l, _, h => by
    obtain ⟨p, xs, e, hs, hl⟩ := vr_tup.mp h
    simpa [D.bel] using VRL.bel r l hl
  | .vl l, _, h => by
    obtain ⟨p, xs, e, hs, hl⟩ := vr_vl.mp h
    simpa [D.bel] using VRL.bel r l hl
  | .sl l, _, h => by
    obtain ⟨p, xs, e, hs, hl⟩ := vr_sl.mp h
    simpa [D.bel] using VRL.bel r l hl
  | .vd k l, _, h => by
    obtain ⟨p, ks, vs, e, hs, hl, h1, h2⟩ := vr_vd.mp h
    simpa [D.bel] using ⟨VRL.bel r k h1, VRL.bel r l h2⟩
  | .ref n, _, h => by
    obtain ⟨p, e, hp⟩ := vr_ref.mp h
    simpa [D.bel] using r.dom n p hp
theorem VRL.bel {h : Hs} (r : HR F G H h) : ∀ (l : List D) {xs : List V}, VRL F G H l xs → belL h.length l = true
  | [], _, _ => rfl
  | d :: t, _, hh => by
    obtain ⟨v, vr, e, h1, h2⟩ := vrl_cons.mp hh
    simpa [belL] using ⟨VR.bel r d h1, VRL.bel r t h2⟩
end
mutual
theorem VR.cut {h : Hs} (r : HR F G H h) (k : Nat) : ∀ (d : D) {v : V}, d.bel k = true → VR F G H d v → VR F (G.cut k) H d v
  | .non, _, _, h => vr_non.mpr (vr_non.mp h)
  | .bl _, _, _, h => vr_bl.mpr (vr_bl.mp h)
  | .int _, _, _, h => vr_int.mpr (vr_int.mp h)
  | .str _, _, _, h => vr_str.mpr (vr_str.mp h)
  | .exc _ _, _, _, h => by
    obtain ⟨a, d, e, ⟨h1, h2⟩, h3⟩ := vr_exc.mp h
    exact vr_exc.mpr ⟨a, d, e, ⟨h1, fun w => h2 w.1⟩, Pay.al (G' := G.cut k) (fun p w => w.1) h3⟩
  | .tup l, _, b, h => by
    obtain ⟨p, xs, e, hs, hl⟩ := vr_tup.mp h
    exact vr_tup.mpr ⟨p, xs, e, hs, VRL.cut r k l (by simpa [D.bel] using b) hl⟩
  | .vl l, _, b, h => by
    obtain ⟨p, xs, e, hs, hl⟩ := vr_vl.mp h
    exact vr_vl.mpr ⟨p, xs, e, ⟨hs.1, fun w => hs.2 w.1⟩, VRL.cut r k l (by simpa [D.bel] using b) hl⟩
  | .sl l, _, b, h => by
    obtain ⟨p, xs, e, hs, hl⟩ := vr_sl.mp h
    exact vr_sl.mpr ⟨p, xs, e, hs.imp (fun z => ⟨z.1, fun w => z.2 w.1⟩) id, VRL.cut r k l (by simpa [D.bel] using b) hl⟩
  | .vd ks l, _, b, h => by
    obtain ⟨p, qs, vs, e, hs, hl, h1, h2⟩ := vr_vd.mp h
    have b' : belL k ks = true ∧ belL k l = true := by simpa [D.bel] using b
    exact vr_vd.mpr ⟨p, qs, vs, e, ⟨hs.1, fun w => hs.2 w.1⟩, hl, VRL.cut r k ks b'.1 h1, VRL.cut r k l b'.2 h2⟩
  | .ref n, _, b, h => by
    obtain ⟨p, e, hp⟩ := vr_ref.mp h
    exact vr_ref.mpr ⟨p, e, by show (if n < k then G.α n else none) = some p; rw [if_pos (by simpa [D.bel] using b)]; exact hp⟩
theorem VRL.cut {h : Hs} (r : HR F G H h) (k : Nat) : ∀ (l : List D) {xs : List V}, belL k l = true → VRL F G H l xs → VRL F (G.cut k) H l xs
  | [], _, _, hh => vrl_nil.mpr (vrl_nil.mp hh)
  | d :: t, _, b, hh => by
    obtain ⟨v, vr, e, h1, h2⟩ := vrl_cons.mp hh
    have b' : d.bel k = true ∧ belL k t = true := by simpa [belL] using b
    exact vrl_cons.mpr ⟨v, vr, e, VR.cut r k d b'.1 h1, VRL.cut r k t b'.2 h2⟩
end
mutual
theorem D.bel_mono {m n : Nat} (hmn : m ≤ n) : ∀ (d : D), d.bel m = true → d.bel n = true
  | .non, _ => rfl
  | .bl _, _ => rfl
  | .int _, _ => rfl
  | .str _, _ => rfl
  | .exc _ _, _ => rfl
  | .tup l, b => by simpa [D.bel] using belL_mono hmn l (by simpa [D.bel] using b)
  | .vl l, b => by simpa [D.bel] using belL_mono hmn l (by simpa [D.bel] using b)
  | .sl l, b => by simpa [D.bel] using belL_mono hmn l (by simpa [D.bel] using b)
  | .vd k l, b => by
    have b' : belL m k = true ∧ belL m l = true := by simpa [D.bel] using b
    simpa [D.bel] using ⟨belL_mono hmn k b'.1, belL_mono hmn l b'.2⟩
  | .ref q, b => by
    have : q < m := by simpa [D.bel] using b
    simp [D.bel]; omega
theorem belL_mono {m n : Nat} (hmn : m ≤ n) : ∀ (l : List D), belL m l = true → belL n l = true
  | [], _ => rfl
  | d :: r, b => by
    have b' : d.bel m = true ∧ belL m r = true := by simpa [belL] using b
    simpa [belL] using ⟨D.bel_mono hmn d b'.1, belL_mono hmn r b'.2⟩
end
theorem HO'.bel_mono {m n : Nat} (hmn : m ≤ n) (o : HO') (b : o.bel m = true) : o.bel n = true := by
  cases o with
  | lst l => exact belL_mono hmn l b
  | dic k l =>
    have b' : belL m k = true ∧ belL m l = true := by simpa [HO'.bel] using b
    simpa [HO'.bel] using ⟨belL_mono hmn k b'.1, belL_mono hmn l b'.2⟩
  | fdc k l =>
    have b' : belL m k = true ∧ belL m l = true := by simpa [HO'.bel] using b
    simpa [HO'.bel] using ⟨belL_mono hmn k b'.1, belL_mono hmn l b'.2⟩
  | dit k l => exact belL_mono hmn l b
  | fdt k l => exact belL_mono hmn l b
  | ins c f l => exact belL_mono hmn l b
theorem HR.cut {h : Hs} (r : HR F G H h) (k : Nat) (cl : ∀ n o, n < k → h[n]? = some o → o.bel k = true) : HR F (G.cut k) H (h.take k) where
  obj := fun n o e => by
    have hn : n < k := by
      rcases Nat.lt_or_ge n k with z | z
      · exact z
      · rw [List.getElem?_take, if_neg (by omega)] at e; cases e
    rw [List.getElem?_take_of_lt hn] at e
    obtain ⟨p, e1, ho⟩ := r.obj n o e
    refine ⟨p, by show (if n < k then G.α n else none) = some p; rw [if_pos hn]; exact e1, ?_⟩
    have b := cl n o hn e
    obtain ⟨u, eu, ho⟩ := ho
    refine ⟨u, eu, ?_⟩
    cases o with
    | lst l => obtain ⟨xs, e1, h1⟩ := ho; exact ⟨xs, e1, VRL.cut r k l b h1⟩
    | dic ks l =>
      have b' : belL k ks = true ∧ belL k l = true := by simpa [HO'.bel] using b
      obtain ⟨zs, vs, e1, h1, h2, h3⟩ := ho
      exact ⟨zs, vs, e1, h1, VRL.cut r k ks b'.1 h2, VRL.cut r k l b'.2 h3⟩
    | fdc ks l =>
      have b' : belL k ks = true ∧ belL k l = true := by simpa [HO'.bel] using b
      obtain ⟨od, zs, vs, e1, h1, h2, h3⟩ := ho
      exact ⟨od, zs, vs, e1, h1, VRL.cut r k ks b'.1 h2, VRL.cut r k l b'.2 h3⟩
    | dit ks l =>
      obtain ⟨vs, e1, h1, h3⟩ := ho
      exact ⟨vs, e1, h1, VRL.cut r k l b h3⟩
    | fdt ks l =>
      obtain ⟨od, vs, e1, h1, h3⟩ := ho
      exact ⟨od, vs, e1, h1, VRL.cut r k l b h3⟩
    | ins c f l => obtain ⟨C, dx, vs, e0, e1, hl, h1⟩ := ho; exact ⟨C, dx, vs, e0, e1, hl, VRL.cut r k l b h1⟩
  dom := fun n p e => by
    have e : (if n < k then G.α n else none) = some p := e
    split at e
    · rename_i hn
      have := r.dom n p e
      rw [List.length_take]
      omega
    · cases e
  inj := fun m n p e1 e2 => by
    have e1 : (if m < k then G.α m else none) = some p := e1
    have e2 : (if n < k then G.α n else none) = some p := e2
    split at e1 <;> first | cases e1 | skip
    split at e2 <;> first | cases e2 | skip
    exact r.inj m n p e1 e2
  aB := fun n p e => by
    have e : (if n < k then G.α n else none) = some p := e
    split at e
    · rename_i hn
      refine ⟨r.aB n p e, fun m hm z => ?_⟩
      have := r.inj m n p z e
      omega
    · cases e
  bt := fun p b => r.bt p b.1
  hot := fun a q => let ⟨c, d, h1, h2⟩ := r.hot a q; ⟨c, d, h1, fun z => h2 z.1⟩
/-- back to where k objects stood -/
theorem Step.cut {h h' : Hs} {k : Nat} (r : HR F G H h) (r' : HR F G' H' h') (hk : h.length ≤ k) (T : Step G H G' H') : Step G H (G'.cut k) H' where
  ids := fun n p e => by
    have := r.dom n p e
    show (if n < k then G'.α n else none) = some p
    rw [if_pos (by omega)]
    exact T.ids n p e
  new := fun n p e => by
    have e : (if n < k then G'.α n else none) = some p := e
    split at e
    · exact T.new n p e
    · cases e
  keep := T.keep
  tup := T.tup
  ban := fun p h b => T.ban p h b.1
  bans := fun p b => ⟨T.bans p b, fun n hn z => by
    rcases T.new n p z with q | q
    · have := r.dom n p q; omega
    · exact r.bt p b q⟩
  there := T.there
  frz := T.frz
structure St (F : Fr) (G : Gh) (h : Hs) (s : SD) (σ : L2.St) (H : Hp) : Prop where
  slot : ∀ (i : Nat) d, s[i]? = some (some d) → ∃ v, σ[i]? = some (some v) ∧ VR F G H d v
  hr : HR F G H h
  len : s.length = σ.length
theorem St.step {h h' : Hs} {s : SD} {σ : L2.St} (t : St F G h s σ H) (T : Step G H G' H') (r : HR F G' H' h') : St F G' h' s σ H' :=
  ⟨fun i d e => let ⟨v, h1, h2⟩ := t.slot i d e; ⟨v, h1, VR.step T t.hr.aB d h2⟩, r, t.len⟩
/-- a new object is laid -/
def Gh.add (G : Gh) (k : Nat) (p : Addr) : Gh := ⟨fun n => if n = k then some p else G.α n, fun q => G.B q ∨ q = p⟩
theorem Step.add {h : Hs} {p : Addr} {o : HO} (r : HR F G H h) (hp : H p = none) : Step G H (G.add h.length p) (upd H p o) where
  ids := fun n q e => by
    have := r.dom n q e
    show (if n = h.length then some p else G.α n) = some q
    rw [if_neg (by omega)]
    exact e
  new := fun n q e => by
    have e : (if n = h.length then some p else G.α n) = some q := e
    split at e
    · injection e with e; subst e; exact .inr hp
    · exact .inl e
  keep := fun q u e _ => same_upd hp q u e
  tup := (Step.same (G := G) (same_upd hp)).tup
  ban := fun q hq b => by
    rcases b with b | rfl
    · exact b
    · exact (hq hp).elim
  bans := fun q b => .inl b
  there := fun q hq z => hq ((same_upd hp).free z)
  frz := fun q o u e => same_upd hp q _ e
theorem ON.bel {h : Hs} {u : HO} {o : HO'} (r : HR F G H h) (ho : ON F G H u o) : o.bel h.length = true := by
  cases o with
  | lst l => obtain ⟨xs, e1, h1⟩ := ho; exact VRL.bel r l h1
  | dic ks l =>
    obtain ⟨zs, vs, e1, h1, h2, h3⟩ := ho
    simpa [HO'.bel] using ⟨VRL.bel r ks h2, VRL.bel r l h3⟩
  | fdc ks l =>
    obtain ⟨od, zs, vs, e1, h1, h2, h3⟩ := ho
    simpa [HO'.bel] using ⟨VRL.bel r ks h2, VRL.bel r l h3⟩
  | dit ks l =>
    obtain ⟨vs, e1, h1, h3⟩ := ho
    exact VRL.bel r l h3
  | fdt ks l =>
    obtain ⟨od, vs, e1, h1, h3⟩ := ho
    exact VRL.bel r l h3
  | ins c f l => obtain ⟨C, dx, vs, e0, e1, hl, h1⟩ := ho; exact VRL.bel r l h1
theorem HR.add {h : Hs} {p : Addr} {o : HO} {o' : HO'} (r : HR F G H h) (hp : H p = none) (ho : ON F G H o o') : HR F (G.add h.length p) (upd H p o) (h ++ [o']) := by
  have T := Step.add (o := o) r hp
  have na : ∀ n, G.α n ≠ some p := fun n e => r.bt p (r.aB n p e) hp
  refine ⟨fun n u e => ?_, fun n q e => ?_, fun m n q e1 e2 => ?_, fun n q e => ?_, fun q b => ?_, fun a q => let ⟨c, d, h1, h2⟩ := r.hot a q; ⟨c, d, same_upd hp _ _ h1, fun z => z.elim h2 fun w => by rw [w, hp] at h1; cases h1⟩⟩
  · rcases Nat.lt_trichotomy n h.length with hn | hn | hn
    · rw [List.getElem?_append_left hn] at e
      obtain ⟨q, e1, h1⟩ := r.obj n u e
      refine ⟨q, T.ids n q e1, h1.step T r.aB ?_⟩
      rw [upd_ne]
      intro z
      subst z
      exact na n e1
    · subst hn
      rw [List.getElem?_append_right (Nat.le_refl _), Nat.sub_self] at e
      injection e with e
      subst e
      exact ⟨p, by show (if h.length = h.length then some p else _) = some p; rw [if_pos rfl], o, upd_same, ho.step T r.aB⟩
    · rw [List.getElem?_eq_none (by simp; omega)] at e; cases e
  · have e : (if n = h.length then some p else G.α n) = some q := e
    split at e
    · simp; omega
    · have := r.dom n q e; simp; omega
  · have e1 : (if m = h.length then some p else G.α m) = some q := e1
    have e2 : (if n = h.length then some p else G.α n) = some q := e2
    split at e1 <;> split at e2
    · omega
    · injection e1 with e1; subst e1; exact (na n e2).elim
    · injection e2 with e2; subst e2; exact (na m e1).elim
    · exact r.inj m n q e1 e2
  · have e : (if n = h.length then some p else G.α n) = some q := e
    split at e
    · injection e with e; exact .inr e.symm
    · exact .inl (r.aB n q e)
  · rcases b with b | rfl
    · exact fun z => r.bt q b ((same_upd hp).free z)
    · rw [upd_same]; exact fun z => nomatch z
/-- an object is written -/
theorem Step.write {h : Hs} {n : Nat} {p : Addr} {u : HO} (r : HR F G H h) (hp : G.α n = some p) (nf : ∀ o u, H p ≠ some (.frz o u)) : Step G H G (upd H p u) where
  frz := fun q o u e => by
    rw [upd_ne]
    · exact e
    · intro z; subst z; exact (nf o u e).elim
  ids := fun _ _ e => e
  new := fun _ _ e => .inl e
  keep := fun q o e na => by
    rw [upd_ne]
    · exact e
    · intro z; subst z; exact na n hp
  tup := fun q xs e => by
    have m := r.mt hp
    have : q ≠ p := fun z => by
      subst z
      rw [e] at m; exact m
    rw [upd_ne this]; exact e
  ban := fun _ _ b => b
  bans := fun _ b => b
  there := fun q hq => by
    by_cases z : q = p
    · subst z; rw [upd_same]; exact fun z => nomatch z
    · rw [upd_ne z]; exact hq
theorem HR.write {h : Hs} {n : Nat} {p : Addr} {u : HO} {o' : HO'} (r : HR F G H h) (hp : G.α n = some p) (nf : ∀ o u, H p ≠ some (.frz o u)) (ho : ON F G H u o') : HR F G (upd H p u) (h.set n o') := by
  have T := Step.write (u := u) r hp nf
  have hn := r.dom n p hp
  refine ⟨fun m o e => ?_, fun m q e => by rw [List.length_set]; exact r.dom m q e, r.inj, r.aB, fun q z => T.there q (r.bt q z), fun a q => let ⟨c, d, h1, h2⟩ := r.hot a q; ⟨c, d, by rw [upd_ne (show a ≠ p from fun z => h2 (by rw [z]; exact r.aB n p hp))]; exact h1, h2⟩⟩
  · by_cases z : n = m
    · subst z
      rw [List.getElem?_set_self hn] at e
      injection e with e
      subst e
      exact ⟨p, hp, u, upd_same, ho.step T r.aB⟩
    · rw [List.getElem?_set_ne z] at e
      obtain ⟨q, e1, h1⟩ := r.obj m o e
      refine ⟨q, e1, h1.step T r.aB ?_⟩
      rw [upd_ne]
      intro w
      subst w
      exact z (r.inj n m q hp e1)
/-- a store is closed at its length -/
theorem HR.cl {h : Hs} (r : HR F G H h) (n : Nat) (o : HO') (e : h[n]? = some o) : o.bel h.length = true := by
  obtain ⟨p, _, u, _, ho⟩ := r.obj n o e
  exact ho.bel r
/-- below the old store's length all is as it was, or closed there -/
def ClB (h0 h : Hs) : Prop := ∀ n o, n < h0.length → h[n]? = some o → h0[n]? = some o ∨ o.bel h0.length = true
theorem ClB.cl {h0 h : Hs} (c : ClB h0 h) (r : HR F G H h0) (n : Nat) (o : HO') (hn : n < h0.length) (e : h[n]? = some o) : o.bel h0.length = true := by
  rcases c n o hn e with z | z
  · exact r.cl n o z
  · exact z
end
/-! another exception handled -/
section
variable {F : Fr} {G G' : Gh} {H H' : Hp}
/-- the same, a being handled -/
def Fr.with (F : Fr) (a : Option Addr) : Fr := ⟨F.K, F.cls, a⟩
mutual
theorem VR.fr {F' : Fr} (hK : F'.K = F.K) (hc : F'.cls = F.cls) : ∀ (d : D) {v : V}, VR F G H d v → VR F' G H d v
  | .non, _, h => vr_non.mpr (vr_non.mp h)
  | .bl _, _, h => vr_bl.mpr (vr_bl.mp h)
  | .int _, _, h => vr_int.mpr (vr_int.mp h)
  | .str _, _, h => vr_str.mpr (vr_str.mp h)
  | .exc _ _, _, h => by
    obtain ⟨a, d, e, h1, h3⟩ := vr_exc.mp h
    exact vr_exc.mpr ⟨a, d, e, by rw [hc]; exact h1, h3⟩
  | .tup l, _, h => by
    obtain ⟨p, xs, e, hs, hl⟩ := vr_tup.mp h
    exact vr_tup.mpr ⟨p, xs, e, hs, VRL.fr hK hc l hl⟩
  | .vl l, _, h => by
    obtain ⟨p, xs, e, hs, hl⟩ := vr_vl.mp h
    exact vr_vl.mpr ⟨p, xs, e, hs, VRL.fr hK hc l hl⟩
  | .sl l, _, h => by
    obtain ⟨p, xs, e, hs, hl⟩ := vr_sl.mp h
    exact vr_sl.mpr ⟨p, xs, e, by rw [hK]; exact hs, VRL.fr hK hc l hl⟩
  | .vd k l, _, h => by
    obtain ⟨p, qs, vs, e, z, hl, h1, h2⟩ := vr_vd.mp h
    exact vr_vd.mpr ⟨p, qs, vs, e, z, hl, VRL.fr hK hc k h1, VRL.fr hK hc l h2⟩
  | .ref n, _, h => by
    obtain ⟨p, e, hp⟩ := vr_ref.mp h
    exact vr_ref.mpr ⟨p, e, hp⟩
theorem VRL.fr {F' : Fr} (hK : F'.K = F.K) (hc : F'.cls = F.cls) : ∀ (l : List D) {xs : List V}, VRL F G H l xs → VRL F' G H l xs
  | [], _, h => vrl_nil.mpr (vrl_nil.mp h)
  | d :: t, _, h => by
    obtain ⟨v, vr, e, h1, h2⟩ := vrl_cons.mp h
    exact vrl_cons.mpr ⟨v, vr, e, VR.fr hK hc d h1, VRL.fr hK hc t h2⟩
end
theorem ON.fr {F' : Fr} (hK : F'.K = F.K) (hc : F'.cls = F.cls) {u : HO} {o : HO'} (h : ON F G H u o) : ON F' G H u o := by
  cases o with
  | lst l => obtain ⟨xs, e, h⟩ := h; exact ⟨xs, e, VRL.fr hK hc l h⟩
  | dic k l =>
    obtain ⟨zs, vs, e1, h1, h2, h3⟩ := h
    exact ⟨zs, vs, e1, h1, VRL.fr hK hc k h2, VRL.fr hK hc l h3⟩
  | fdc k l =>
    obtain ⟨od, zs, vs, e1, h1, h2, h3⟩ := h
    exact ⟨od, zs, vs, e1, h1, VRL.fr hK hc k h2, VRL.fr hK hc l h3⟩
  | dit k l =>
    obtain ⟨vs, e1, h1, h3⟩ := h
    exact ⟨vs, e1, h1, VRL.fr hK hc l h3⟩
  | fdt k l =>
    obtain ⟨od, vs, e1, h1, h3⟩ := h
    exact ⟨od, vs, e1, h1, VRL.fr hK hc l h3⟩
  | ins c f l => obtain ⟨C, dx, vs, e0, e1, hl, h1⟩ := h; exact ⟨C, dx, vs, by rw [hc]; exact e0, e1, hl, VRL.fr hK hc l h1⟩
theorem HR.fr {F' : Fr} (hK : F'.K = F.K) (hc : F'.cls = F.cls) {h : Hs} (r : HR F G H h) (hh : ∀ a, F'.hot = some a → ∃ cls d, H a = some (exV cls d a) ∧ ¬ G.B a) : HR F' G H h :=
  ⟨fun n o e => let ⟨p, h1, u, h2, h3⟩ := r.obj n o e; ⟨p, h1, u, h2, h3.fr hK hc⟩, r.dom, r.inj, r.aB, r.bt, hh⟩
theorem St.fr {F' : Fr} (hK : F'.K = F.K) (hc : F'.cls = F.cls) {h : Hs} {s : SD} {σ : L2.St} (t : St F G h s σ H) (hh : ∀ a, F'.hot = some a → ∃ cls d, H a = some (exV cls d a) ∧ ¬ G.B a) : St F' G h s σ H :=
  ⟨fun i d e => let ⟨v, h1, h2⟩ := t.slot i d e; ⟨v, h1, VR.fr hK hc d h2⟩, t.hr.fr hK hc hh, t.len⟩
/-- what is handled stays -/
theorem HR.hotS {h : Hs} (r : HR F G H h) (T : Step G H G' H') : ∀ a, F.hot = some a → ∃ cls d, H' a = some (exV cls d a) ∧ ¬ G'.B a := fun a q =>
  let ⟨c, d, h1, h2⟩ := r.hot a q
  ⟨c, d, T.keep a _ h1 fun n e => h2 (r.aB n a e), fun z => h2 (T.ban a (by rw [h1]; exact fun w => nomatch w) z)⟩
end
end Gx
/-! G2: results, the judgements over data, expressions. -/
namespace Gx
open PySem L2
inductive R (α : Type) where
  | ok (a : α) (h : Hs) | rs (c : Str) (p : Option Int) (h : Hs) | stk
def R.bind {α β : Type} (x : R α) (f : α → Hs → R β) : R β := match x with
  | .ok a h => f a h
  | .rs c p h => .rs c p h
  | .stk => .stk
def Out (F : Fr) (W : WX) (G : Gh) (σ : L2.St) (H : Hp) {δ ν : Type} (rel : Gh → Hp → δ → ν → Prop) (Q : ν → Hp → Prop) : R δ → Prop
  | .ok d h' => ∀ v G' H', Step G H G' H' → HR F G' H' h' → rel G' H' d v → Q v H'
  | .rs c p h' => ∀ G' H' dct, Step G H G' H' → HR F G' H' h' → Pay G' H' dct p → W (F.cls c) dct σ H'
  | .stk => False
def lift (F : Fr) (W : WX) {δ ν : Type} (rel : Gh → Hp → δ → ν → Prop) (f : SD → Hs → R δ) : L2.St → Hp → (ν → Hp → Prop) → Prop :=
  fun σ H Q => ∃ G h s, St F G h s σ H ∧ Out F W G σ H rel Q (f s h)
def toB : R D → R Bool
  | .ok (.bl b) h => .ok b h
  | .rs c p h => .rs c p h
  | _ => .stk
def relB : Gh → Hp → Bool → Bool → Prop := fun _ _ a b => a = b
def relO : Gh → Hp → Option Int → Option Int → Prop := fun _ _ a b => a = b
abbrev SE (X : Cx) (F : Fr) (W : WX) (e : Expr) (f : SD → Hs → R D) : Prop := PE X e (lift F W (VR F) f)
abbrev SA (X : Cx) (F : Fr) (W : WX) (es : List Expr) (f : SD → Hs → R (List D)) : Prop := PA X es (lift F W (VRL F) f)
abbrev ST (X : Cx) (F : Fr) (W : WX) (e : Expr) (f : SD → Hs → R D) : Prop := PT X e (lift F W relB fun s h => toB (f s h))
abbrev SW (X : Cx) (F : Fr) (W : WX) (e : Expr) (f : SD → Hs → R D) : Prop := PW X e (lift F W relB fun s h => toB (f s h))
abbrev SO (X : Cx) (F : Fr) (W : WX) (e : Option Expr) (f : SD → Hs → R (Option Int)) : Prop := PO X e (lift F W relO f)
theorem PE.imp {X : Cx} {e : Expr} {t t' : TE} (h : PE X e t) (i : ∀ σ H Q, t' σ H Q → t σ H Q) : PE X e t' := ⟨fun pins s σ H Q I w => h.run pins s σ H Q I (i σ H Q w)⟩
theorem PA.imp {X : Cx} {e : List Expr} {t t' : TA} (h : PA X e t) (i : ∀ σ H Q, t' σ H Q → t σ H Q) : PA X e t' := ⟨fun pos pins s σ H Q I w => h.run pos pins s σ H Q I (i σ H Q w)⟩
theorem PT.imp {X : Cx} {e : Expr} {t t' : TT} (h : PT X e t) (i : ∀ σ H Q, t' σ H Q → t σ H Q) : PT X e t' := ⟨fun pins s σ H Q I w => h.run pins s σ H Q I (i σ H Q w)⟩
theorem PW.imp {X : Cx} {e : Expr} {t t' : TT} (h : PW X e t) (i : ∀ σ H Q, t' σ H Q → t σ H Q) : PW X e t' := ⟨fun wh pins s σ H Q I w => h.run wh pins s σ H Q I (i σ H Q w)⟩
theorem PO.imp {X : Cx} {e : Option Expr} {t t' : TO} (h : PO X e t) (i : ∀ σ H Q, t' σ H Q → t σ H Q) : PO X e t' := ⟨fun pins s σ H Q I w => h.run pins s σ H Q I (i σ H Q w)⟩
theorem PS.imp {X : Cx} {e : Stmt} {t t' : TS} (h : PS X e t) (i : ∀ D σ H, t' D σ H → t D σ H) : PS X e t' := ⟨fun pins s σ H D I w => h.run pins s σ H D I (i D σ H w)⟩
theorem PSs.imp {X : Cx} {e : List Stmt} {t t' : TS} (h : PSs X e t) (i : ∀ D σ H, t' D σ H → t D σ H) : PSs X e t' := ⟨fun pins s σ H D I w => h.run pins s σ H D I (i D σ H w)⟩
theorem PI.imp {X : Cx} {tg e : Expr} {t t' : TI} (h : PI X tg e t) (i : ∀ σ H Q, t' σ H Q → t σ H Q) : PI X tg e t' := ⟨fun pins s σ H Q I w => h.run pins s σ H Q I (i σ H Q w)⟩
section
variable {X : Cx} {F : Fr} {W : WX} {G G' G1 : Gh} {H H' H1 : Hp} {σ : L2.St} {s : SD} {h h1 : Hs} {δ ν δ' ν' : Type} {rel : Gh → Hp → δ → ν → Prop} {rel' : Gh → Hp → δ' → ν' → Prop}
theorem Out.later {Q : ν → Hp → Prop} (T : Step G H G1 H1) : ∀ {x : R δ}, Out F W G σ H rel Q x → Out F W G1 σ H1 rel Q x
  | .ok d h', o => fun v G' H' T' r q => o v G' H' (T.trans T') r q
  | .rs c p h', o => fun G' H' dct T' r q => o G' H' dct (T.trans T') r q
  | .stk, o => o
/-- a part -/
theorem part {f : SD → Hs → R δ} {k : δ → Hs → R δ'} {Q : ν' → Hp → Prop} {Q' : ν → Hp → Prop} (t : St F G h s σ H) (o : Out F W G σ H rel' Q ((f s h).bind k))
    (go : ∀ d v h2 G2 H2, Step G H G2 H2 → St F G2 h2 s σ H2 → rel G2 H2 d v → Out F W G2 σ H2 rel' Q (k d h2) → Q' v H2) : lift F W rel f σ H Q' := by
  refine ⟨G, h, s, t, ?_⟩
  cases q : f s h with
  | ok d h2 => rw [q] at o; exact fun v G2 H2 T r z => go d v h2 G2 H2 T (t.step T r) z (Out.later T o)
  | rs c p h2 => rw [q] at o; exact o
  | stk => rw [q] at o; exact o
/-- how an answer goes on -/
abbrev KO (F : Fr) (G : Gh) (H : Hp) (h : Hs) (z : D) (Q : VK) : Prop := ∀ v G' H', Step G H G' H' → HR F G' H' h → VR F G' H' z v → Q v H'
theorem KO.val {z : D} {Q : VK} {v : V} (k : KO F G H h z Q) (r : HR F G H h) (x : VR F G H z v) : Q v H := k v G H (Step.refl G H) r x
theorem KO.bl {b : Bool} {Q : VK} (k : KO F G H h (.bl b) Q) (r : HR F G H h) : Q (.bl b) H := k.val r (vr_bl.mpr rfl)
theorem KO.int {b : Int} {Q : VK} (k : KO F G H h (.int b) Q) (r : HR F G H h) : Q (.int b) H := k.val r (vr_int.mpr rfl)
theorem KO.str {b : Str} {Q : VK} (k : KO F G H h (.str b) Q) (r : HR F G H h) : Q (.str b) H := k.val r (vr_str.mpr rfl)
theorem KO.non {Q : VK} (k : KO F G H h .non Q) (r : HR F G H h) : Q .non H := k.val r (vr_non.mpr rfl)
theorem KO.newL {l : List D} {xs : List V} {p : Addr} {Q : VK} (k : KO F G H h (.vl l) Q) (r : HR F G H h) (hp : H p = none) (hl : VRL F G H l xs) : Q (.ref p) (upd H p (.lst xs)) := by
  have T : Step G H G (upd H p (.lst xs)) := Step.same (same_upd hp)
  exact k _ G _ T (r.same (same_upd hp)) (vr_vl.mpr ⟨p, xs, rfl, ⟨.inl upd_same, fun b => r.bt p b hp⟩, VRL.step T r.aB l hl⟩)
theorem KO.newT {l : List D} {xs : List V} {p : Addr} {Q : VK} (k : KO F G H h (.tup l) Q) (r : HR F G H h) (hp : H p = none) (hl : VRL F G H l xs) : Q (.ref p) (upd H p (.tup xs)) := by
  have T : Step G H G (upd H p (.tup xs)) := Step.same (same_upd hp)
  exact k _ G _ T (r.same (same_upd hp)) (vr_tup.mpr ⟨p, xs, rfl, upd_same, VRL.step T r.aB l hl⟩)
/-- a new object of the store -/
theorem KO.newO {u : HO} {o : HO'} {p : Addr} {Q : VK} (k : KO F G H (h ++ [o]) (.ref h.length) Q) (r : HR F G H h) (hp : H p = none) (ho : ON F G H u o) : Q (.ref p) (upd H p u) :=
  k _ _ _ (Step.add r hp) (r.add hp ho) (vr_ref.mpr ⟨p, rfl, by show (if h.length = h.length then some p else _) = some p; rw [if_pos rfl]⟩)
/-! ### names, constants -/
def getS (s : SD) (i : Nat) (h : Hs) : R D := match s[i]? with
  | some (some d) => .ok d h
  | _ => .stk
theorem se_var {i : Nat} {x : Str} {pos : Pos} (hN : X.N[i]? = some x) (hv : Vis X.env.scope x) (hd : (x == ("__debug__" : Str)) = false) (hcd : (x == ("__classdict__" : Str)) = false) :
    SE X F W (.Name x pos) (fun s h => getS s i h) := by
  refine PE.imp (pe_var hN hv hd hcd) fun σ H Q ⟨G, h, s, t, o⟩ => ?_
  dsimp only at o
  unfold getS at o
  split at o
  · rename_i d e
    obtain ⟨v, h1, h2⟩ := t.slot i d e
    exact ⟨v, h1, o v G H (Step.refl G H) t.hr h2⟩
  · exact o.elim
theorem se_int {i j pos} : SE X F W (.Constant (.int i) j pos) (fun _ h => .ok (.int i) h) := PE.imp pe_int fun σ H Q ⟨G, h, s, t, o⟩ => KO.int o t.hr
theorem se_bl {i j pos} : SE X F W (.Constant (.bool i) j pos) (fun _ h => .ok (.bl i) h) := PE.imp pe_bl fun σ H Q ⟨G, h, s, t, o⟩ => KO.bl o t.hr
theorem se_str {i j pos} : SE X F W (.Constant (.str i) j pos) (fun _ h => .ok (.str i) h) := PE.imp pe_str fun σ H Q ⟨G, h, s, t, o⟩ => KO.str o t.hr
theorem se_non {j pos} : SE X F W (.Constant .none j pos) (fun _ h => .ok .non h) := PE.imp pe_non fun σ H Q ⟨G, h, s, t, o⟩ => KO.non o t.hr
/-! ### operations by values -/
/-- how an operation by values answers one on data -/
def CallOk (F : Fr) (r : List V → Hp → VK → Prop) (g : List D → Hs → R D) : Prop := ∀ (G : Gh) (H : Hp) (h : Hs) (vs : List V) (ds : List D) (z : D) (h' : Hs) (Q : VK), HR F G H h → VRL F G H ds vs → g ds h = .ok z h' → KO F G H h' z Q → r vs H Q
def NoRs (g : List D → Hs → R D) : Prop := ∀ ds h c p h', g ds h ≠ .rs c p h'
theorem call_go {r : List V → Hp → VK → Prop} {g : List D → Hs → R D} {vs : List V} {ds : List D} {Q : VK} (ok : CallOk F r g) (nr : NoRs g) (rr : HR F G H h) (x : VRL F G H ds vs) (o : Out F W G σ H (VR F) Q (g ds h)) : r vs H Q := by
  cases e : g ds h with
  | ok z h' => rw [e] at o; exact ok G H h vs ds z h' Q rr x e o
  | rs c p h' => exact (nr ds h c p h' e).elim
  | stk => rw [e] at o; exact o.elim
def ofO (h : Hs) : Option D → R D
  | some d => .ok d h
  | none => .stk
theorem ofO_ok {o : Option D} {z : D} {h' : Hs} (e : ofO h o = .ok z h') : o = some z ∧ h' = h := by
  cases o with
  | none => cases e
  | some d => injection e with e1 e2; exact ⟨by rw [e1], e2.symm⟩
/-- an operation that leaves the store -/
def DL (g : Hs → List D → Option D) (ds : List D) (h : Hs) : R D := ofO h (g h ds)
theorem nrsL {g : Hs → List D → Option D} : NoRs (DL g) := by
  intro ds h c p h' q
  unfold DL at q
  unfold ofO at q; split at q <;> cases q
theorem okL {r : List V → Hp → VK → Prop} {g : Hs → List D → Option D} (hh : ∀ (G : Gh) (H : Hp) (h : Hs) (vs : List V) (ds : List D) (z : D) (Q : VK), g h ds = some z → HR F G H h → VRL F G H ds vs → KO F G H h z Q → r vs H Q) : CallOk F r (DL g) := by
  intro G H h vs ds z h' Q rr rl e k
  obtain ⟨e1, rfl⟩ := ofO_ok e
  exact hh G H h' vs ds z Q e1 rr rl k
def B2 (r : R2) : List V → Hp → VK → Prop := fun vs H Q => ∃ x y, vs = [x, y] ∧ r x y H Q
def B1 (r : V → Hp → VK → Prop) : List V → Hp → VK → Prop := fun vs H Q => ∃ x, vs = [x] ∧ r x H Q
def g2 (g : Hs → D → D → Option D) (h : Hs) : List D → Option D
  | [x, y] => g h x y
  | _ => none
def g1 (g : Hs → D → Option D) (h : Hs) : List D → Option D
  | [x] => g h x
  | _ => none
theorem vrl_two {d e : D} {vs : List V} (h : VRL F G H [d, e] vs) : ∃ x y, vs = [x, y] ∧ VR F G H d x ∧ VR F G H e y := by
  obtain ⟨v, vr, rfl, h1, h2⟩ := vrl_cons.mp h
  obtain ⟨v2, vr2, rfl, h3, h4⟩ := vrl_cons.mp h2
  rw [vrl_nil.mp h4]
  exact ⟨v, v2, rfl, h1, h3⟩
theorem vrl_onev {d : D} {vs : List V} (h : VRL F G H [d] vs) : ∃ x, vs = [x] ∧ VR F G H d x := by
  obtain ⟨v, vr, rfl, h1, h2⟩ := vrl_cons.mp h
  rw [vrl_nil.mp h2]
  exact ⟨v, rfl, h1⟩
theorem ok2 {r : R2} {g : Hs → D → D → Option D} (hh : ∀ (G : Gh) (H : Hp) (h : Hs) (x y : V) (d e z : D) (Q : VK), g h d e = some z → HR F G H h → VR F G H d x → VR F G H e y → KO F G H h z Q → r x y H Q) : CallOk F (B2 r) (DL (g2 g)) :=
  okL fun G H h vs ds z Q e rr rl k => by
    unfold g2 at e
    split at e
    · obtain ⟨x, y, rfl, r1, r2⟩ := vrl_two rl
      exact ⟨x, y, rfl, hh G H h x y _ _ z Q e rr r1 r2 k⟩
    · cases e
theorem ok1 {r : V → Hp → VK → Prop} {g : Hs → D → Option D} (hh : ∀ (G : Gh) (H : Hp) (h : Hs) (x : V) (d z : D) (Q : VK), g h d = some z → HR F G H h → VR F G H d x → KO F G H h z Q → r x H Q) : CallOk F (B1 r) (DL (g1 g)) :=
  okL fun G H h vs ds z Q e rr rl k => by
    unfold g1 at e
    split at e
    · obtain ⟨x, rfl, r1⟩ := vrl_onev rl
      exact ⟨x, rfl, hh G H h x _ z Q e rr r1 k⟩
    · cases e
/-- two operands -/
def bin2 (g : Hs → D → D → Option D) (fa fb : SD → Hs → R D) (s : SD) (h : Hs) : R D := (fa s h).bind fun x h1 => (fb s h1).bind fun y h2 => ofO h2 (g h2 x y)
theorem se_bin {e a b : Expr} {r : R2} {fa fb : SD → Hs → R D} {g : Hs → D → D → Option D} (rule : ∀ ta tb, PE X a ta → PE X b tb → PE X e (tOp r ta tb)) (ok : CallOk F (B2 r) (DL (g2 g))) (ha : SE X F W a fa) (hb : SE X F W b fb) :
    SE X F W e (bin2 g fa fb) := by
  refine PE.imp (rule _ _ ha hb) fun σ H Q ⟨G, h, s, t, o⟩ => ?_
  refine part t o fun d x h1 G1 H1 T1 t1 vx o => ?_
  refine part t1 o fun d' y h2 G2 H2 T2 t2 vy o => ?_
  have vx' := VR.step T2 t1.hr.aB d vx
  obtain ⟨x', y', e, q⟩ := call_go (g := DL (g2 g)) (ds := [d, d']) (vs := [x, y]) ok nrsL t2.hr (vrl_cons.mpr ⟨x, [y], rfl, vx', vrl_one.mpr vy⟩) o
  injection e with e1 e2
  injection e2 with e2 _
  subst e1
  subst e2
  exact q
theorem outT_E {Q : Bool → Hp → Prop} {x : R D} (o : Out F W G σ H relB Q (toB x)) : Out F W G σ H (VR F) (fun v H' => ∃ k, v = .bl k ∧ Q k H') x := by
  cases x with
  | stk => exact o
  | rs c p h => exact o
  | ok d h =>
    cases d with
    | bl k => exact fun v G' H' T r q => ⟨k, vr_bl.mp q, o k G' H' T r rfl⟩
    | _ => exact o.elim
theorem st_bin {e a b : Expr} {r : R2} {fa fb : SD → Hs → R D} {g : Hs → D → D → Option D} (rule : ∀ ta tb, PE X a ta → PE X b tb → PT X e (tTest (tOp r ta tb))) (ok : CallOk F (B2 r) (DL (g2 g))) (ha : SE X F W a fa) (hb : SE X F W b fb) :
    ST X F W e (bin2 g fa fb) := by
  refine PT.imp (rule _ _ ha hb) fun σ H Q ⟨G, h, s, t, o⟩ => ?_
  have o := outT_E o
  refine part t o fun d x h1 G1 H1 T1 t1 vx o => ?_
  refine part t1 o fun d' y h2 G2 H2 T2 t2 vy o => ?_
  have vx' := VR.step T2 t1.hr.aB d vx
  obtain ⟨x', y', e, q⟩ := call_go (g := DL (g2 g)) (ds := [d, d']) (vs := [x, y]) ok nrsL t2.hr (vrl_cons.mpr ⟨x, [y], rfl, vx', vrl_one.mpr vy⟩) o
  injection e with e1 e2
  injection e2 with e2 _
  subst e1
  subst e2
  exact q
def un1 (g : Hs → D → Option D) (fa : SD → Hs → R D) (s : SD) (h : Hs) : R D := (fa s h).bind fun x h1 => ofO h1 (g h1 x)
theorem se_un {e a : Expr} {r : V → Hp → VK → Prop} {fa : SD → Hs → R D} {g : Hs → D → Option D} (rule : ∀ ta, PE X a ta → PE X e (fun σ H Q => ta σ H fun x H1 => r x H1 Q)) (ok : CallOk F (B1 r) (DL (g1 g))) (ha : SE X F W a fa) :
    SE X F W e (un1 g fa) := by
  refine PE.imp (rule _ ha) fun σ H Q ⟨G, h, s, t, o⟩ => ?_
  refine part t o fun d x h1 G1 H1 T1 t1 vx o => ?_
  obtain ⟨x', e, q⟩ := call_go (g := DL (g1 g)) (ds := [d]) (vs := [x]) ok nrsL t1.hr (vrl_one.mpr vx) o
  injection e with e1 e2
  subst e1
  exact q
theorem se_call {e : Expr} {es : List Expr} {r : List V → Hp → VK → Prop} {fs : SD → Hs → R (List D)} {g : List D → Hs → R D} (rule : ∀ ta, PA X es ta → PE X e (tCB r ta)) (ok : CallOk F r g) (nr : NoRs g) (ha : SA X F W es fs) :
    SE X F W e (fun s h => (fs s h).bind g) := by
  refine PE.imp (rule _ ha) fun σ H Q ⟨G, h, s, t, o⟩ => ?_
  exact part t o fun ds vs h1 G1 H1 T1 t1 x o => call_go ok nr t1.hr x o
/-! ### arguments -/
theorem sa_nil : SA X F W [] (fun _ h => .ok [] h) := PA.imp pa_nil fun σ H Q ⟨G, h, s, t, o⟩ => o [] G H (Step.refl G H) t.hr (vrl_nil.mpr rfl)
theorem sa_cons {e : Expr} {es : List Expr} {f : SD → Hs → R D} {fs : SD → Hs → R (List D)} (hs : starEach (e :: es) X.env = (false, eval e X.env) :: starEach es X.env) (hh : SE X F W e f) (hr : SA X F W es fs) :
    SA X F W (e :: es) (fun s h => (f s h).bind fun d h1 => (fs s h1).bind fun ds h2 => .ok (d :: ds) h2) := by
  refine PA.imp (pa_cons hh hr hs) fun σ H Q ⟨G, h, s, t, o⟩ => ?_
  refine part t o fun d x h1 G1 H1 T1 t1 vx o => ?_
  refine part t1 o fun d' y h2 G2 H2 T2 t2 vy o => ?_
  exact o (x :: y) G2 H2 (Step.refl _ _) t2.hr (vrl_cons.mpr ⟨x, y, rfl, VR.step T2 t1.hr.aB d vx, vy⟩)
/-! ### tests -/
theorem st_val {e : Expr} {f : SD → Hs → R D} (he : ∀ whole, isTrue e X.env whole = (do let v ← whole; standAt e.pos; holding [v] (truthy v))) (hh : SE X F W e f) : ST X F W e f := by
  refine PT.imp (pt_val hh he) fun σ H Q ⟨G, h, s, t, o⟩ => ⟨G, h, s, t, outT_E o⟩
def andR (x : R D) (y : Hs → R D) : R D := x.bind fun d h => match d with
  | .bl true => y h
  | .bl false => .ok (.bl false) h
  | _ => .stk
def orR (x : R D) (y : Hs → R D) : R D := x.bind fun d h => match d with
  | .bl false => y h
  | .bl true => .ok (.bl true) h
  | _ => .stk
def notR (x : R D) : R D := x.bind fun d h => match d with
  | .bl b => .ok (.bl (!b)) h
  | _ => .stk
def iteR (c : R D) (x y : Hs → R D) : R D := c.bind fun d h => match d with
  | .bl true => x h
  | .bl false => y h
  | _ => .stk
theorem se_and {a b : Expr} {rest : List Expr} {fa fb : SD → Hs → R D} {pos : Pos} (ha : SE X F W a fa) (hb : SE X F W (.BoolOp .And (b :: rest) pos) fb) : SE X F W (.BoolOp .And (a :: b :: rest) pos) (fun s h => andR (fa s h) (fb s)) := by
  refine PE.imp (pe_and ha hb) fun σ H Q ⟨G, h, s, t, o⟩ => ?_
  refine part t o fun d v h1 G1 H1 T1 t1 vx o => ?_
  cases d with
  | bl k =>
    refine ⟨k, vr_bl.mp vx, ?_⟩
    cases k with
    | true => exact iteT ⟨G1, h1, s, t1, o⟩
    | false => exact iteF (KO.bl o t1.hr)
  | _ => exact o.elim
theorem se_or {a b : Expr} {rest : List Expr} {fa fb : SD → Hs → R D} {pos : Pos} (ha : SE X F W a fa) (hb : SE X F W (.BoolOp .Or (b :: rest) pos) fb) : SE X F W (.BoolOp .Or (a :: b :: rest) pos) (fun s h => orR (fa s h) (fb s)) := by
  refine PE.imp (pe_or ha hb) fun σ H Q ⟨G, h, s, t, o⟩ => ?_
  refine part t o fun d v h1 G1 H1 T1 t1 vx o => ?_
  cases d with
  | bl k =>
    refine ⟨k, vr_bl.mp vx, ?_⟩
    cases k with
    | true => exact iteT (KO.bl o t1.hr)
    | false => exact iteF ⟨G1, h1, s, t1, o⟩
  | _ => exact o.elim
theorem se_one {op : BoolOp} {a : Expr} {fa : SD → Hs → R D} {pos : Pos} (ha : SE X F W a fa) : SE X F W (.BoolOp op [a] pos) fa := pe_one ha
theorem se_not {a : Expr} {fa : SD → Hs → R D} {pos : Pos} (ha : SE X F W a fa) : SE X F W (.UnaryOp .Not a pos) (fun s h => notR (fa s h)) := by
  refine PE.imp (pe_not ha) fun σ H Q ⟨G, h, s, t, o⟩ => ?_
  refine part t o fun d v h1 G1 H1 T1 t1 vx o => ?_
  cases d with
  | bl k => exact ⟨k, vr_bl.mp vx, KO.bl o t1.hr⟩
  | _ => exact o.elim
theorem toB_bind {f : R D} {k : D → Hs → R D} : toB (f.bind fun d h => match d with | .bl b => k (.bl b) h | _ => .stk) = (toB f).bind fun b h => toB (k (.bl b) h) := by
  cases f with
  | ok d h => cases d <;> rfl
  | rs c p h => rfl
  | stk => rfl
theorem andR_toB {x : R D} {y : Hs → R D} : toB (andR x y) = (toB x).bind fun b h => toB (match b with | true => y h | false => .ok (.bl false) h) := by
  cases x with
  | ok d h => cases d <;> first | rfl | (rename_i b; cases b <;> rfl)
  | rs c p h => rfl
  | stk => rfl
theorem orR_toB {x : R D} {y : Hs → R D} : toB (orR x y) = (toB x).bind fun b h => toB (match b with | false => y h | true => .ok (.bl true) h) := by
  cases x with
  | ok d h => cases d <;> first | rfl | (rename_i b; cases b <;> rfl)
  | rs c p h => rfl
  | stk => rfl
theorem notR_toB {x : R D} : toB (notR x) = (toB x).bind fun b h => .ok (!b) h := by
  cases x with
  | ok d h => cases d <;> rfl
  | rs c p h => rfl
  | stk => rfl
theorem iteR_toB {c : R D} {x y : Hs → R D} : iteR c x y = (toB c).bind fun b h => match b with | true => x h | false => y h := by
  cases c with
  | ok d h => cases d <;> first | rfl | (rename_i b; cases b <;> rfl)
  | rs c p h => rfl
  | stk => rfl
theorem sw_and {a b : Expr} {rest : List Expr} {fa fb : SD → Hs → R D} {pos : Pos} (ha : ST X F W a fa) (hb : SW X F W (.BoolOp .And (b :: rest) pos) fb) : SW X F W (.BoolOp .And (a :: b :: rest) pos) (fun s h => andR (fa s h) (fb s)) := by
  refine PW.imp (pw_and ha hb) fun σ H Q ⟨G, h, s, t, o⟩ => ?_
  dsimp only at o; rw [andR_toB] at o
  refine part (f := fun s h => toB (fa s h)) t o fun b v h1 G1 H1 T1 t1 vx o => ?_
  obtain rfl : b = v := vx
  cases b with
  | true => exact iteT ⟨G1, h1, s, t1, o⟩
  | false => exact iteF (o false G1 H1 (Step.refl _ _) t1.hr rfl)
theorem sw_or {a b : Expr} {rest : List Expr} {fa fb : SD → Hs → R D} {pos : Pos} (ha : ST X F W a fa) (hb : SW X F W (.BoolOp .Or (b :: rest) pos) fb) : SW X F W (.BoolOp .Or (a :: b :: rest) pos) (fun s h => orR (fa s h) (fb s)) := by
  refine PW.imp (pw_or ha hb) fun σ H Q ⟨G, h, s, t, o⟩ => ?_
  dsimp only at o; rw [orR_toB] at o
  refine part (f := fun s h => toB (fa s h)) t o fun b v h1 G1 H1 T1 t1 vx o => ?_
  obtain rfl : b = v := vx
  cases b with
  | true => exact iteT (o true G1 H1 (Step.refl _ _) t1.hr rfl)
  | false => exact iteF ⟨G1, h1, s, t1, o⟩
theorem sw_and1 {a : Expr} {fa : SD → Hs → R D} {pos : Pos} (ha : ST X F W a fa) : SW X F W (.BoolOp .And [a] pos) fa := pw_and1 ha
theorem sw_or1 {a : Expr} {fa : SD → Hs → R D} {pos : Pos} (ha : ST X F W a fa) : SW X F W (.BoolOp .Or [a] pos) fa := pw_or1 ha
theorem st_not {a : Expr} {fa : SD → Hs → R D} {pos : Pos} (ha : ST X F W a fa) : ST X F W (.UnaryOp .Not a pos) (fun s h => notR (fa s h)) := by
  refine PT.imp (pt_not ha) fun σ H Q ⟨G, h, s, t, o⟩ => ?_
  dsimp only at o; rw [notR_toB] at o
  refine part (f := fun s h => toB (fa s h)) t o fun b v h1 G1 H1 T1 t1 vx o => ?_
  obtain rfl : b = v := vx
  exact o (!b) G1 H1 (Step.refl _ _) t1.hr rfl
theorem se_ite {c a b : Expr} {fc fa fb : SD → Hs → R D} {pos : Pos} (hc : ST X F W c fc) (ha : SE X F W a fa) (hb : SE X F W b fb) : SE X F W (.IfExp c a b pos) (fun s h => iteR (fc s h) (fa s) (fb s)) := by
  refine PE.imp (pe_ifExp hc ha hb) fun σ H Q ⟨G, h, s, t, o⟩ => ?_
  dsimp only at o; rw [iteR_toB] at o
  refine part (f := fun s h => toB (fc s h)) t o fun b v h1 G1 H1 T1 t1 vx o => ?_
  obtain rfl : b = v := vx
  cases b with
  | true => exact iteT ⟨G1, h1, s, t1, o⟩
  | false => exact iteF ⟨G1, h1, s, t1, o⟩
/-! chains of ints -/
def chR (p p' : Int → Int → Bool) (x : R D) (y z : Hs → R D) : R D := x.bind fun a h1 => (y h1).bind fun b h2 => match a, b with
  | .int i, .int j => if p i j = true then (z h2).bind fun c h3 => (match c with
      | .int k => .ok (.bl (p' j k)) h3
      | _ => .stk) else .ok (.bl false) h2
  | _, _ => .stk
theorem chain_go {r r' : R2} {p p' : Int → Int → Bool} {fa fb fc : SD → Hs → R D} {Q : VK} (hr : r = rI0 fun i j => .bl (p i j)) (hr' : r' = rI0 fun i j => .bl (p' i j)) (t : St F G h s σ H) (o : Out F W G σ H (VR F) Q (chR p p' (fa s h) (fb s) (fc s))) : tChain r r' (lift F W (VR F) fa) (lift F W (VR F) fb) (lift F W (VR F) fc) σ H Q := by
  subst hr hr'
  refine part t o fun d x h1 G1 H1 T1 t1 vx o => ?_
  refine part t1 o fun d' y h2 G2 H2 T2 t2 vy o => ?_
  cases d with
  | int i =>
    cases d' with
    | int j =>
      refine ⟨i, j, vr_int.mp vx, vr_int.mp vy, p i j, rfl, ?_⟩
      dsimp only at o
      by_cases hp : p i j = true
      · rw [if_pos hp] at o ⊢
        refine part t2 o fun c w h3 G3 H3 T3 t3 vw o => ?_
        cases c with
        | int k => exact ⟨j, k, vr_int.mp vy, vr_int.mp vw, KO.bl o t3.hr⟩
        | _ => exact o.elim
      · rw [if_neg hp] at o ⊢
        exact KO.bl o t2.hr
    | _ => exact o.elim
  | _ => exact o.elim
theorem se_chain {op op' : CmpOp} {p p' : Int → Int → Bool} {a b c : Expr} {fa fb fc : SD → Hs → R D} {pos : Pos} (ho : OpR X (compareOp op) (rI0 fun i j => .bl (p i j))) (ho' : OpR X (compareOp op') (rI0 fun i j => .bl (p' i j)))
    (hm : lastMarks [op, op'] [b, c] = false) (ha : SE X F W a fa) (hb : SE X F W b fb) (hc : SE X F W c fc) : SE X F W (.Compare a [op, op'] [b, c] pos) (fun s h => chR p p' (fa s h) (fb s) (fc s)) :=
  PE.imp (pe_chain ho ho' ha hb hc hm) fun σ H Q ⟨G, h, s, t, o⟩ => chain_go rfl rfl t o
theorem st_chain {op op' : CmpOp} {p p' : Int → Int → Bool} {a b c : Expr} {fa fb fc : SD → Hs → R D} {pos : Pos} (ho : OpR X (compareOp op) (rI0 fun i j => .bl (p i j))) (ho' : OpR X (compareOp op') (rI0 fun i j => .bl (p' i j)))
    (hm : lastMarks [op, op'] [b, c] = false) (ha : SE X F W a fa) (hb : SE X F W b fb) (hc : SE X F W c fc) : ST X F W (.Compare a [op, op'] [b, c] pos) (fun s h => chR p p' (fa s h) (fb s) (fc s)) :=
  PT.imp (pt_chain ho ho' ha hb hc hm) fun σ H Q ⟨G, h, s, t, o⟩ => chain_go rfl rfl t (outT_E o)
/-! slices -/
theorem so_none : SO X F W none (fun _ h => .ok none h) := PO.imp po_none fun σ H Q ⟨G, h, s, t, o⟩ => o none G H (Step.refl G H) t.hr rfl
def ixR (x : R D) : R (Option Int) := x.bind fun d h => match d with
  | .int i => .ok (some i) h
  | _ => .stk
theorem so_some {e : Expr} {f : SD → Hs → R D} (hh : SE X F W e f) : SO X F W (some e) (fun s h => ixR (f s h)) := by
  refine PO.imp (po_some hh) fun σ H Q ⟨G, h, s, t, o⟩ => ?_
  refine part t o fun d x h1 G1 H1 T1 t1 vx o => ?_
  cases d with
  | int i => exact ⟨i, vr_int.mp vx, o (some i) G1 H1 (Step.refl _ _) t1.hr rfl⟩
  | _ => exact o.elim
end
end Gx

/-! G3: statements, targets, loops. -/
namespace Gx
open PySem L2
inductive O where
  | nx (s : SD) (h : Hs) | bk (s : SD) (h : Hs) | ct (s : SD) (h : Hs) | rt (d : D) (h : Hs) | rs (c : Str) (p : Option Int) (s : SD) (h : Hs) | stk
def O.seq (o : O) (g : SD → Hs → O) : O := match o with
  | .nx s h => g s h
  | .bk s h => .bk s h
  | .ct s h => .ct s h
  | .rt d h => .rt d h
  | .rs c p s h => .rs c p s h
  | .stk => .stk
/-- an expression's value, then what comes of it -/
def R.thenO {α : Type} (x : R α) (s : SD) (f : α → Hs → O) : O := match x with
  | .ok a h => f a h
  | .rs c p h => .rs c p s h
  | .stk => .stk
def OutS (F : Fr) (W : WX) (Dn : Ends) (G : Gh) (H : Hp) : O → Prop
  | .nx s' h' => ∀ G' σ' H', Step G H G' H' → St F G' h' s' σ' H' → Dn.nx σ' H'
  | .bk s' h' => ∀ G' σ' H', Step G H G' H' → St F G' h' s' σ' H' → Dn.bk σ' H'
  | .ct s' h' => ∀ G' σ' H', Step G H G' H' → St F G' h' s' σ' H' → Dn.ct σ' H'
  | .rt d h' => ∀ v G' H', Step G H G' H' → HR F G' H' h' → VR F G' H' d v → Dn.rt v H'
  | .rs c p s' h' => ∀ G' σ' H' dct, Step G H G' H' → St F G' h' s' σ' H' → Pay G' H' dct p → W (F.cls c) dct σ' H'
  | .stk => False
def liftS (F : Fr) (W : WX) (f : SD → Hs → O) : TS := fun Dn σ H => ∃ G h s, St F G h s σ H ∧ OutS F W Dn G H (f s h)
abbrev SS (X : Cx) (F : Fr) (W : WX) (st : Stmt) (f : SD → Hs → O) : Prop := PS X st (liftS F W f)
abbrev SB (X : Cx) (F : Fr) (W : WX) (st : List Stmt) (f : SD → Hs → O) : Prop := PSs X st (liftS F W f)
section
variable {X : Cx} {F : Fr} {W : WX} {G G' G1 : Gh} {H H' H1 : Hp} {σ : L2.St} {s : SD} {h h1 : Hs} {δ ν : Type} {rel : Gh → Hp → δ → ν → Prop}
theorem OutS.later {Dn : Ends} (T : Step G H G1 H1) : ∀ {o : O}, OutS F W Dn G H o → OutS F W Dn G1 H1 o
  | .nx s' h', o => fun G' σ' H' b t => o G' σ' H' (T.trans b) t
  | .bk s' h', o => fun G' σ' H' b t => o G' σ' H' (T.trans b) t
  | .ct s' h', o => fun G' σ' H' b t => o G' σ' H' (T.trans b) t
  | .rt d h', o => fun v G' H' b r q => o v G' H' (T.trans b) r q
  | .rs c p s' h', o => fun G' σ' H' dct b t => o G' σ' H' dct (T.trans b) t
  | .stk, o => o
theorem sb_nil : SB X F W [] (fun s h => .nx s h) := PSs.imp pss_nil fun Dn σ H ⟨G, h, s, t, o⟩ => o G σ H (Step.refl G H) t
theorem seq_out {Dn : Ends} {g : SD → Hs → O} : ∀ {o : O}, OutS F W Dn G H (o.seq g) → OutS F W { Dn with nx := fun σ' H' => liftS F W g Dn σ' H' } G H o
  | .nx s' h', h => fun G' σ' H' a t => ⟨G', h', s', t, OutS.later a h⟩
  | .bk s' h', h => h
  | .ct s' h', h => h
  | .rt d h', h => h
  | .rs c p s' h', h => h
  | .stk, h => h
theorem sb_cons {st : Stmt} {rest : List Stmt} {f g : SD → Hs → O} (h1 : SS X F W st f) (h2 : SB X F W rest g) : SB X F W (st :: rest) (fun s h => (f s h).seq g) :=
  PSs.imp (pss_cons h1 h2) fun Dn σ H ⟨G, h, s, t, o⟩ => ⟨G, h, s, t, seq_out o⟩
/-- an expression ahead -/
theorem partS {f : SD → Hs → R δ} {k : δ → Hs → O} {Dn : Ends} {Q' : ν → Hp → Prop} (t : St F G h s σ H) (o : OutS F W Dn G H ((f s h).thenO s k))
    (go : ∀ d v h2 G2 H2, Step G H G2 H2 → St F G2 h2 s σ H2 → rel G2 H2 d v → OutS F W Dn G2 H2 (k d h2) → Q' v H2) : lift F W rel f σ H Q' := by
  refine ⟨G, h, s, t, ?_⟩
  cases q : f s h with
  | ok d h2 => rw [q] at o; exact fun v G2 H2 T r z => go d v h2 G2 H2 T (t.step T r) z (OutS.later T o)
  | rs c p h2 => rw [q] at o; exact fun G2 H2 dct T r z => o G2 σ H2 dct T (t.step T r) z
  | stk => rw [q] at o; exact o
/-- a slot is stored -/
theorem St.set {i : Nat} {v : V} {d : D} (t : St F G h s σ H) (hi : i < s.length) (x : VR F G H d v) : St F G h (s.set i (some d)) (σ.set i (some v)) H := by
  have hiσ : i < σ.length := by rw [← t.len]; exact hi
  refine ⟨fun j d' e => ?_, t.hr, by simp [t.len]⟩
  by_cases hj : j = i
  · subst hj
    rw [List.getElem?_set_self hi] at e
    obtain rfl : d = d' := Option.some.inj (Option.some.inj e)
    exact ⟨v, by rw [List.getElem?_set_self hiσ], x⟩
  · rw [List.getElem?_set_ne (Ne.symm hj)] at e
    obtain ⟨w, h1, h2⟩ := t.slot j d' e
    exact ⟨w, by rw [List.getElem?_set_ne (Ne.symm hj)]; exact h1, h2⟩
def setO (i : Nat) (s : SD) (d : D) (h : Hs) : O := if i < s.length then .nx (s.set i (some d)) h else .stk
theorem set_out {i : Nat} {Dn : Ends} {v : V} {d : D} (t : St F G h s σ H) (o : OutS F W Dn G H (setO i s d h)) (x : VR F G H d v) : Dn.nx (σ.set i (some v)) H := by
  unfold setO at o
  split at o
  · rename_i hi
    exact o G _ H (Step.refl _ _) (t.set hi x)
  · exact o.elim
theorem ss_set {i : Nat} {x : Str} {e : Expr} {f : SD → Hs → R D} {pos pos' : Pos} (hN : X.N.Nodup) (hi : X.N[i]? = some x) (hx : Loc X.env.scope x) (hs : swapsWith e (some (.Name x pos')) pos.line X.env = pure false) (hf : X.fn x = true ∨ X.env.scope.names.lookup x = some .local)
    (he : SE X F W e f) : SS X F W (.Assign [.Name x pos'] e pos) (fun s h => (f s h).thenO s (setO i s)) :=
  PS.imp (ps_set hN hi hx he hs hf) fun Dn σ H ⟨G, h, s, t, o⟩ => partS t o fun d v h2 G2 H2 T t2 x o => set_out t2 o x
theorem ss_ret {e : Expr} {f : SD → Hs → R D} {pos : Pos} (he : SE X F W e f) : SS X F W (.Return (some e) pos) (fun s h => (f s h).thenO s .rt) :=
  PS.imp (ps_ret he) fun Dn σ H ⟨G, h, s, t, o⟩ => partS t o fun d v h2 G2 H2 T t2 x o => o v G2 H2 (Step.refl _ _) t2.hr x
theorem ss_retN {pos : Pos} : SS X F W (.Return none pos) (fun _ h => .rt .non h) :=
  PS.imp ps_retN fun Dn σ H ⟨G, h, s, t, o⟩ => o .non G H (Step.refl _ _) t.hr (vr_non.mpr rfl)
def ifO (s : SD) (a b : SD → Hs → O) (d : D) (h : Hs) : O := match d with
  | .bl true => a s h
  | .bl false => b s h
  | _ => .stk
theorem ifO_toB {x : R D} {a b : SD → Hs → O} : x.thenO s (ifO s a b) = (toB x).thenO s fun k h => match k with | true => a s h | false => b s h := by
  cases x with
  | ok d h => cases d <;> first | rfl | (rename_i b; cases b <;> rfl)
  | rs c p h => rfl
  | stk => rfl
theorem ss_if {c : Expr} {a b : List Stmt} {fc : SD → Hs → R D} {fa fb : SD → Hs → O} {pos : Pos} (hc : ST X F W c fc) (ha : SB X F W a fa) (hb : SB X F W b fb) : SS X F W (.If c a b pos) (fun s h => (fc s h).thenO s (ifO s fa fb)) :=
  PS.imp (ps_if hc ha hb) fun Dn σ H ⟨G, h, s, t, o⟩ => by
    dsimp only at o
    rw [ifO_toB] at o
    refine partS (f := fun s h => toB (fc s h)) t o fun k v h2 G2 H2 T t2 x o => ?_
    obtain rfl : k = v := x
    cases k with
    | true => exact iteT ⟨G2, h2, s, t2, o⟩
    | false => exact iteF ⟨G2, h2, s, t2, o⟩
theorem ss_expr {e : Expr} {f : SD → Hs → R D} {pos : Pos} (hs : swapsWith e none pos.line X.env = pure false) (he : SE X F W e f) : SS X F W (.Expr e pos) (fun s h => (f s h).thenO s fun _ h => .nx s h) :=
  PS.imp (ps_expr he hs) fun Dn σ H ⟨G, h, s, t, o⟩ => partS t o fun d v h2 G2 H2 T t2 x o => o G2 σ H2 (Step.refl _ _) t2
theorem ss_pass {pos : Pos} : SS X F W (.Pass pos) (fun s h => .nx s h) := PS.imp ps_pass fun Dn σ H ⟨G, h, s, t, o⟩ => o G σ H (Step.refl G H) t
theorem ss_break {pos : Pos} : SS X F W (.Break pos) (fun s h => .bk s h) := PS.imp ps_break fun Dn σ H ⟨G, h, s, t, o⟩ => o G σ H (Step.refl G H) t
theorem ss_continue {pos : Pos} : SS X F W (.Continue pos) (fun s h => .ct s h) := PS.imp ps_continue fun Dn σ H ⟨G, h, s, t, o⟩ => o G σ H (Step.refl G H) t
/-! ### the store is cut back -/
def kill (k : Nat) : Option D → Option D
  | some d => if d.bel k = true then some d else none
  | none => none
def killS (k : Nat) (s : SD) : SD := s.map (kill k)
open Classical in
noncomputable def O.cut (h0 : Hs) : O → O
  | .nx s h => if ClB h0 h then .nx (killS h0.length s) (h.take h0.length) else .stk
  | .bk s h => if ClB h0 h then .bk (killS h0.length s) (h.take h0.length) else .stk
  | .ct s h => if ClB h0 h then .ct (killS h0.length s) (h.take h0.length) else .stk
  | .rt d h => .rt d h
  | .rs c p s h => if ClB h0 h then .rs c p (killS h0.length s) (h.take h0.length) else .stk
  | .stk => .stk
theorem St.cut (t : St F G h s σ H) (k : Nat) (cl : ∀ n o, n < k → h[n]? = some o → o.bel k = true) : St F (G.cut k) (h.take k) (killS k s) σ H := by
  refine ⟨fun i d e => ?_, t.hr.cut k cl, by simp [killS, t.len]⟩
  unfold killS at e
  rw [List.getElem?_map] at e
  cases q : s[i]? with
  | none => rw [q] at e; cases e
  | some u =>
    rw [q] at e
    injection e with e
    cases u with
    | none => cases e
    | some d' =>
      unfold kill at e
      dsimp only at e
      split at e
      · rename_i hb
        injection e with e
        subst e
        obtain ⟨v, h1, h2⟩ := t.slot i d' q
        exact ⟨v, h1, VR.cut t.hr k d' hb h2⟩
      · cases e
theorem cut_out {Dn : Ends} (r : HR F G H h) : ∀ {o : O}, OutS F W Dn G H (o.cut h) → OutS F W Dn G H o
  | .nx s' h', o => by
    unfold O.cut at o
    dsimp only at o
    split at o
    · rename_i c
      exact fun G' σ' H' a t => o _ σ' H' (Step.cut r t.hr (Nat.le_refl _) a) (t.cut _ (c.cl r))
    · exact o.elim
  | .bk s' h', o => by
    unfold O.cut at o
    dsimp only at o
    split at o
    · rename_i c
      exact fun G' σ' H' a t => o _ σ' H' (Step.cut r t.hr (Nat.le_refl _) a) (t.cut _ (c.cl r))
    · exact o.elim
  | .ct s' h', o => by
    unfold O.cut at o
    dsimp only at o
    split at o
    · rename_i c
      exact fun G' σ' H' a t => o _ σ' H' (Step.cut r t.hr (Nat.le_refl _) a) (t.cut _ (c.cl r))
    · exact o.elim
  | .rt d h', o => o
  | .rs c p s' h', o => by
    unfold O.cut at o
    dsimp only at o
    split at o
    · rename_i cc
      exact fun G' σ' H' dct a t pp => o _ σ' H' dct (Step.cut r t.hr (Nat.le_refl _) a) (t.cut _ (cc.cl r)) pp.cut
    · exact o.elim
  | .stk, o => o
theorem ss_cut {st : Stmt} {f : SD → Hs → O} (hh : SS X F W st f) : SS X F W st (fun s h => (f s h).cut h) :=
  PS.imp hh fun Dn σ H ⟨G, h, s, t, o⟩ => ⟨G, h, s, t, cut_out t.hr o⟩
theorem sb_cut {st : List Stmt} {f : SD → Hs → O} (hh : SB X F W st f) : SB X F W st (fun s h => (f s h).cut h) :=
  PSs.imp hh fun Dn σ H ⟨G, h, s, t, o⟩ => ⟨G, h, s, t, cut_out t.hr o⟩
/-! ### targets -/
def setAll (σ : L2.St) : List Nat → List V → L2.St
  | i :: is, v :: vs => setAll (σ.set i (some v)) is vs
  | _, _ => σ
/-- what a target does: the slots at is are stored -/
def TgOk (F : Fr) (is : List Nat) (f : D → SD → Option SD) (g : TG) : Prop := ∀ G H h σ s v d s', St F G h s σ H → VR F G H d v → f d s = some s' →
  ∀ Q : L2.St → Hp → Prop, (∀ vs, St F G h s' (setAll σ is vs) H → Q (setAll σ is vs) H) → g v σ H Q
def setN (i : Nat) (d : D) (s : SD) : Option SD := if i < s.length then some (s.set i (some d)) else none
theorem tg_name {i : Nat} : TgOk F [i] (setN i) (gName i) := by
  intro G H h σ s v d s' t x e Q q
  unfold setN at e
  split at e
  · rename_i hi
    obtain rfl := Option.some.inj e
    exact q [v] (t.set hi x)
  · cases e
def setMany : List Nat → List D → SD → Option SD
  | [], [], s => some s
  | i :: is, d :: ds, s => (setN i d s).bind (setMany is ds)
  | _, _, _ => none
def setT (is : List Nat) (d : D) (s : SD) : Option SD := match d with
  | .tup l => setMany is l s
  | _ => none
def TgsOk (F : Fr) (is : List Nat) (gs : TGs) : Prop := ∀ (l : List D) (G : Gh) (H : Hp) (h : Hs) (σ : L2.St) (s : SD) (vs : List V) (s' : SD), St F G h s σ H → VRL F G H l vs → setMany is l s = some s' →
  ∀ Q : L2.St → Hp → Prop, (∀ ws, St F G h s' (setAll σ is ws) H → Q (setAll σ is ws) H) → gs vs σ H Q
theorem tgs_nil : TgsOk F [] gNil := fun l G H h σ s vs s' t r e Q q => by
  cases l with
  | nil =>
    rw [vrl_nil.mp r]
    obtain rfl := Option.some.inj e
    exact ⟨rfl, q [] t⟩
  | cons d ds => cases e
theorem tgs_cons {i : Nat} {is : List Nat} {gs : TGs} (hr : TgsOk F is gs) : TgsOk F (i :: is) (gCons (gName i) gs) := fun l G H h σ s vs s' t r e Q q => by
  cases l with
  | nil => cases e
  | cons d ds =>
    obtain ⟨v, vr, rfl, h1, h2⟩ := vrl_cons.mp r
    refine ⟨v, vr, rfl, ?_⟩
    have e1 : (setN i d s).bind (setMany is ds) = some s' := e
    cases e2 : setN i d s with
    | none => rw [e2] at e1; cases e1
    | some s1 =>
      rw [e2] at e1
      unfold setN at e2
      split at e2
      · rename_i hi
        obtain rfl := Option.some.inj e2
        exact hr ds G H h _ _ vr s' (t.set hi h1) h2 e1 Q fun ws t2 => q (v :: ws) t2
      · cases e2
theorem setMany_len : ∀ (is : List Nat) (l : List D) (s s' : SD), setMany is l s = some s' → l.length = is.length
  | [], [], s, s', e => rfl
  | [], _ :: _, s, s', e => by cases e
  | _ :: _, [], s, s', e => by cases e
  | i :: is, d :: ds, s, s', e => by
    have e1 : (setN i d s).bind (setMany is ds) = some s' := e
    cases e2 : setN i d s with
    | none => rw [e2] at e1; cases e1
    | some s1 =>
      rw [e2] at e1
      simp [setMany_len is ds s1 s' e1]
theorem tg_tup {is : List Nat} {gs : TGs} (hh : TgsOk F is gs) : TgOk F is (setT is) (gTup F.K is.length gs) := by
  intro G H h σ s v d s' t x e Q q
  unfold setT at e
  split at e
  · rename_i l
    obtain ⟨p, xs, rfl, hs, hl⟩ := vr_tupS x
    exact ⟨p, xs, rfl, hs, by rw [hl.length, setMany_len is l s s' e], hh l G H h σ s xs s' t hl e Q q⟩
  · cases e
/-! ### what is walked -/
/-- items, and what must hold of the store while they are walked -/
structure Src where
  ds : List D
  c : Hs → Prop
structure Yields (F : Fr) (G : Gh) (H : Hp) (J : It) (z : Src) : Prop where
  fin : ∀ G2 H2 h2, Step G H G2 H2 → HR F G2 H2 h2 → z.c h2 → ∀ i, z.ds.length ≤ i → J.stop i H2
  go : ∀ G2 H2 h2, Step G H G2 H2 → HR F G2 H2 h2 → z.c h2 → ∀ i d, z.ds[i]? = some d → J.go i H2 ∧ ∀ x H3, J.yld i H2 x H3 → Same H2 H3 ∧ VR F G2 H3 d x
def OutI (F : Fr) (W : WX) (G : Gh) (σ : L2.St) (H : Hp) (Q : It → Hp → Prop) : R Src → Prop
  | .ok z h' => ∀ J G' H', Step G H G' H' → HR F G' H' h' → Yields F G' H' J z → Q J H'
  | .rs c p h' => ∀ G' H' dct, Step G H G' H' → HR F G' H' h' → Pay G' H' dct p → W (F.cls c) dct σ H'
  | .stk => False
def liftI (F : Fr) (W : WX) (f : SD → Hs → R Src) : TI := fun σ H Q => ∃ G h s, St F G h s σ H ∧ OutI F W G σ H Q (f s h)
abbrev SI (X : Cx) (F : Fr) (W : WX) (tg e : Expr) (f : SD → Hs → R Src) : Prop := PI X tg e (liftI F W f)
theorem partI {f : SD → Hs → R δ} {k : δ → Hs → R Src} {Q : It → Hp → Prop} {Q' : ν → Hp → Prop} (t : St F G h s σ H) (o : OutI F W G σ H Q ((f s h).bind k))
    (go : ∀ d v h2 G2 H2, Step G H G2 H2 → St F G2 h2 s σ H2 → rel G2 H2 d v → OutI F W G2 σ H2 Q (k d h2) → Q' v H2) : lift F W rel f σ H Q' := by
  refine ⟨G, h, s, t, ?_⟩
  cases q : f s h with
  | ok d h2 =>
    rw [q] at o
    refine fun v G2 H2 T r z => go d v h2 G2 H2 T (t.step T r) z ?_
    have o : OutI F W G σ H Q (k d h2) := o
    revert o
    cases k d h2 with
    | ok z h3 => exact fun o J G' H' T' r' y => o J G' H' (T.trans T') r' y
    | rs c p h3 => exact fun o G' H' dct T' r' y => o G' H' dct (T.trans T') r' y
    | stk => exact fun o => o
  | rs c p h2 => rw [q] at o; exact o
  | stk => rw [q] at o; exact o
def src0 (l : List D) : Src := ⟨l, fun _ => True⟩
open Classical in
noncomputable def forC (c : Hs → Prop) (f : D → SD → Hs → O) : List D → SD → Hs → O
  | [], s, h => if c h then .nx s h else .stk
  | d :: r, s, h => if c h then (match f d s h with
    | .nx s' h' => forC c f r s' h'
    | .ct s' h' => forC c f r s' h'
    | .bk s' h' => .nx s' h'
    | .rt d h' => .rt d h'
    | .rs c p s' h' => .rs c p s' h'
    | .stk => .stk) else .stk
def turnO (ft : D → SD → Option SD) (fb : SD → Hs → O) (d : D) (s : SD) (h : Hs) : O := match ft d s with
  | some s' => fb s' h
  | none => .stk
theorem ss_for {tg iter : Expr} {body : List Stmt} {pos : Pos} {fi : SD → Hs → R Src} {is : List Nat} {ft : D → SD → Option SD} {fb : SD → Hs → O} {g : TG} (hp : PassesOwn (model X.prog X.w) X.A X.env X.xe) (hc : X.calm = true) (hs : ∀ x, foldedSetIterable iter X.env x = pure x)
    (hi : SI X F W tg iter fi) (hg1 : PG X tg g) (hg2 : TgOk F is ft g) (hb : SB X F W body fb) : SS X F W (.For tg iter body [] pos) (fun s h => (fi s h).thenO s fun z h => forC z.c (turnO ft fb) z.ds s h) := by
  refine PS.imp (ps_for hp hc hi hg1 hb hs) fun Dn σ H ⟨G, h, s, t, o⟩ => ⟨G, h, s, t, ?_⟩
  dsimp only at o
  cases q : fi s h with
  | stk => rw [q] at o; exact o.elim
  | rs c p h2 => rw [q] at o; exact fun G2 H2 dct T r z => o G2 σ H2 dct T (t.step T r) z
  | ok z h2 =>
    rw [q] at o
    intro J G1 H1 T1 r1 y
    have o1 : OutS F W Dn G1 H1 (forC z.c (turnO ft fb) z.ds s h2) := OutS.later T1 o
    refine ⟨fun i m σ2 H2 => m = z.ds.length - i ∧ i ≤ z.ds.length ∧ ∃ G2 h2 s2, Step G1 H1 G2 H2 ∧ St F G2 h2 s2 σ2 H2 ∧ OutS F W Dn G2 H2 (forC z.c (turnO ft fb) (z.ds.drop i) s2 h2), ⟨z.ds.length, by simp, Nat.zero_le _, _, h2, s, Step.refl _ _, t.step T1 r1, o1⟩, ?_⟩
    rintro i m σ2 H2 ⟨rfl, hi, G2, h2, s2, a2, t2, o2⟩
    by_cases hlt : i < z.ds.length
    · have ed : z.ds[i]? = some z.ds[i] := List.getElem?_eq_getElem hlt
      rw [List.drop_eq_getElem_cons hlt] at o2
      unfold forC at o2
      split at o2
      case isFalse => exact o2.elim
      rename_i hc2
      obtain ⟨go, yl⟩ := y.go G2 H2 h2 a2 t2.hr hc2 i _ ed
      refine .inr ⟨go, fun σ' H' => ∃ G3 h3 s3, Step G1 H1 G3 H' ∧ St F G3 h3 s3 σ' H' ∧ OutS F W Dn G3 H' (forC z.c (turnO ft fb) (z.ds.drop (i + 1)) s3 h3), fun σ' H' ⟨G3, h3, s3, a3, t3, o3⟩ => ⟨z.ds.length - (i + 1), by omega, rfl, hlt, G3, h3, s3, a3, t3, o3⟩, fun x H3 hy => ?_⟩
      obtain ⟨sm, vx⟩ := yl x H3 hy
      have T3 : Step G2 H2 G2 H3 := Step.same sm
      have t3 : St F G2 h2 s2 σ2 H3 := t2.step T3 (t2.hr.same sm)
      unfold turnO at o2
      cases e : ft z.ds[i] s2 with
      | none => rw [e] at o2; exact o2.elim
      | some s3 =>
        rw [e] at o2
        dsimp only at o2
        refine hg2 G2 H3 h2 σ2 s2 x z.ds[i] s3 t3 vx e _ fun ws t3 => ⟨G2, h2, s3, t3, ?_⟩
        have a13 : Step G1 H1 G2 H3 := a2.trans T3
        cases eb : fb s3 h2 with
        | nx s4 h4 => rw [eb] at o2; exact fun G4 σ4 H4 a4 t4 => ⟨G4, h4, s4, a13.trans a4, t4, OutS.later (T3.trans a4) o2⟩
        | ct s4 h4 => rw [eb] at o2; exact fun G4 σ4 H4 a4 t4 => ⟨G4, h4, s4, a13.trans a4, t4, OutS.later (T3.trans a4) o2⟩
        | bk s4 h4 => rw [eb] at o2; exact fun G4 σ4 H4 a4 t4 => o2 G4 σ4 H4 (T3.trans a4) t4
        | rt d h4 => rw [eb] at o2; exact OutS.later T3 o2
        | rs c p s4 h4 => rw [eb] at o2; exact fun G4 σ4 H4 dct a4 t4 => o2 G4 σ4 H4 dct (T3.trans a4) t4
        | stk => rw [eb] at o2; exact o2.elim
    · obtain rfl : i = z.ds.length := by omega
      rw [List.drop_length] at o2
      unfold forC at o2
      split at o2
      case isFalse => exact o2.elim
      rename_i hc2
      exact .inl ⟨y.fin G2 H2 h2 a2 t2.hr hc2 _ (Nat.le_refl _), o2 G2 σ2 H2 (Step.refl _ _) t2⟩
/-! ### while -/
def whL (c : SD → Hs → R D) (f : SD → Hs → O) : Nat → SD → Hs → O
  | 0, _, _ => .stk
  | n + 1, s, h => (toB (c s h)).thenO s fun b h => match b with
    | true => (match f s h with
      | .nx s' h' => whL c f n s' h'
      | .ct s' h' => whL c f n s' h'
      | .bk s' h' => .nx s' h'
      | .rt d h' => .rt d h'
      | .rs c p s' h' => .rs c p s' h'
      | .stk => .stk)
    | false => .nx s h
theorem ss_while {c : Expr} {body : List Stmt} {pos : Pos} {fc : SD → Hs → R D} {fb : SD → Hs → O} (n : Nat) (hp : PassesOwn (model X.prog X.w) X.A X.env X.xe) (hc : ST X F W c fc) (hb : SB X F W body fb) :
    SS X F W (.While c body [] pos) (fun s h => whL fc fb n s h) := by
  refine PS.imp (ps_while hp hc hb) fun Dn σ H ⟨G, h, s, t, o⟩ => ?_
  refine ⟨fun m σ2 H2 => ∃ G2 h2 s2, St F G2 h2 s2 σ2 H2 ∧ OutS F W Dn G2 H2 (whL fc fb m s2 h2), ⟨n, G, h, s, t, o⟩, ?_⟩
  rintro m σ2 H2 ⟨G2, h2, s2, t2, o2⟩
  cases m with
  | zero => exact o2.elim
  | succ m =>
    refine partS (f := fun s h => toB (fc s h)) t2 o2 fun b v h3 G3 H3 T3 t3 x o3 => ?_
    obtain rfl : b = v := x
    cases b with
    | false => exact iteF (o3 G3 σ2 H3 (Step.refl _ _) t3)
    | true =>
      refine iteT ⟨fun σ' H' => ∃ G3 h3 s3, St F G3 h3 s3 σ' H' ∧ OutS F W Dn G3 H' (whL fc fb m s3 h3), fun σ' H' h => ⟨m, Nat.lt_succ_self m, h⟩, G3, h3, s2, t3, ?_⟩
      dsimp only at o3
      cases eb : fb s2 h3 with
      | nx s4 h4 => rw [eb] at o3; exact fun G4 σ4 H4 a4 t4 => ⟨G4, h4, s4, t4, OutS.later a4 o3⟩
      | ct s4 h4 => rw [eb] at o3; exact fun G4 σ4 H4 a4 t4 => ⟨G4, h4, s4, t4, OutS.later a4 o3⟩
      | bk s4 h4 => rw [eb] at o3; exact fun G4 σ4 H4 a4 t4 => o3 G4 σ4 H4 a4 t4
      | rt d h4 => rw [eb] at o3; exact o3
      | rs c p s4 h4 => rw [eb] at o3; exact fun G4 σ4 H4 dct a4 t4 => o3 G4 σ4 H4 dct a4 t4
      | stk => rw [eb] at o3; exact o3.elim
/-- a statement that is never reached -/
theorem ss_never {st : Stmt} : SS X F W st (fun _ _ => .stk) := ⟨fun pins s σ H D I ⟨G, h, s', t, o⟩ => o.elim⟩
end
end Gx

/-! G4: what is walked; list comprehensions. -/
namespace Gx
open PySem L2
/-- a list's items -/
def lstH (h : Hs) : D → Option (List D)
  | .vl l => some l
  | .sl l => some l
  | .ref n => match h[n]? with
    | some (.lst l) => some l
    | _ => none
  | _ => none
/-- of one that was made here -/
def lstW (h : Hs) : D → Option (List D)
  | .vl l => some l
  | .ref n => match h[n]? with
    | some (.lst l) => some l
    | _ => none
  | _ => none
def isTup : D → Bool
  | .tup _ => true
  | _ => false
/-- what must stay while it is walked -/
def stays (d : D) (l : List D) (h : Hs) : Prop := match d with
  | .ref n => h[n]? = some (.lst l)
  | _ => True
def srcOf (d : D) (h : Hs) : R Src := match d with
  | .tup l => .ok ⟨l, fun _ => True⟩ h
  | d => match lstH h d with
    | some l => .ok ⟨l, stays d l⟩ h
    | none => .stk
section
variable {X : Cx} {F : Fr} {W : WX} {G G' G1 G2 : Gh} {H H' H1 H2 : Hp} {σ : L2.St} {s : SD} {h h1 h2 : Hs}
theorem ref_lst {n : Nat} {v : V} {l : List D} (r : HR F G H h) (x : VR F G H (.ref n) v) (e : h[n]? = some (.lst l)) : ∃ p xs, v = .ref p ∧ G.α n = some p ∧ H p = some (.lst xs) ∧ VRL F G H l xs := by
  obtain ⟨p, rfl, hp⟩ := vr_ref.mp x
  obtain ⟨q, hq, u, hu, xs, rfl, hl⟩ := r.obj n _ e
  rw [hp] at hq
  injection hq with hq
  subst hq
  exact ⟨p, xs, rfl, hp, hu, hl⟩
theorem list_ofW {d : D} {v : V} {l : List D} (r : HR F G H h) (x : VR F G H d v) (e : lstW h d = some l) : ∃ p xs, v = .ref p ∧ Rd H p (.lst xs) ∧ VRL F G H l xs := by
  unfold lstW at e
  split at e
  · injection e with e
    subst e
    obtain ⟨p, xs, rfl, hs, hl⟩ := vr_vl.mp x
    exact ⟨p, xs, rfl, hs.1, hl⟩
  · split at e
    · rename_i e0
      injection e with e
      subst e
      obtain ⟨p, xs, rfl, _, hu, hl⟩ := ref_lst r x e0
      exact ⟨p, xs, rfl, .inl hu, hl⟩
    · cases e
  · cases e
theorem list_of {d : D} {v : V} {l : List D} (r : HR F G H h) (x : VR F G H d v) (e : lstH h d = some l) : ∃ p xs, v = .ref p ∧ SqL F.K H p xs ∧ VRL F G H l xs := by
  cases d with
  | sl l' =>
    injection e with e
    subst e
    obtain ⟨p, xs, rfl, hs, hl⟩ := vr_sl.mp x
    refine ⟨p, xs, rfl, ?_, hl⟩
    rcases hs with h1 | h1
    · exact .inl h1.1
    · exact .inr h1
  | vl l' =>
    obtain ⟨p, xs, e1, hs, hl⟩ := list_ofW r x (l := l) e
    exact ⟨p, xs, e1, .inl hs, hl⟩
  | ref n =>
    obtain ⟨p, xs, e1, hs, hl⟩ := list_ofW r x (l := l) e
    exact ⟨p, xs, e1, .inl hs, hl⟩
  | _ => cases e
theorem list_stays {d : D} {v : V} {l : List D} (r : HR F G H h) (x : VR F G H d v) (e : lstH h d = some l) : ∃ p, v = .ref p ∧ ∀ G2 H2 h2, Step G H G2 H2 → HR F G2 H2 h2 → stays d l h2 → ∃ xs, SqL F.K H2 p xs ∧ VRL F G2 H2 l xs := by
  unfold lstH at e
  split at e
  · injection e with e
    subst e
    obtain ⟨p, xs, rfl, hs, hl⟩ := vr_vl.mp x
    exact ⟨p, rfl, fun G2 H2 h2 T r2 _ => ⟨xs, .inl (T.rd (fun n z => hs.2 (r.aB n p z)) hs.1), VRL.step T r.aB _ hl⟩⟩
  · injection e with e
    subst e
    obtain ⟨p, xs, rfl, hs, hl⟩ := vr_sl.mp x
    refine ⟨p, rfl, fun G2 H2 h2 T r2 _ => ⟨xs, ?_, VRL.step T r.aB _ hl⟩⟩
    rcases hs with h1 | h1
    · exact .inl (T.rd (fun n z => h1.2 (r.aB n p z)) h1.1)
    · exact .inr h1
  · split at e
    · rename_i n _ _ e0
      injection e with e
      subst e
      obtain ⟨p, rfl, hp⟩ := vr_ref.mp x
      refine ⟨p, rfl, fun G2 H2 h2 T r2 c => ?_⟩
      obtain ⟨q, xs, e1, _, hu, hl⟩ := ref_lst r2 (vr_ref.mpr ⟨p, rfl, T.ids n p hp⟩) c
      injection e1 with e1
      subst e1
      exact ⟨xs, .inl (.inl hu), hl⟩
    · cases e
  · cases e
theorem yields_of {J : It} {z : Src} (P : Gh → Hp → List V → Prop) (hP : ∀ G2 H2 h2, Step G H G2 H2 → HR F G2 H2 h2 → z.c h2 → ∃ xs, P G2 H2 xs ∧ VRL F G2 H2 z.ds xs)
    (fin : ∀ G2 H2 xs, P G2 H2 xs → ∀ i, xs.length ≤ i → J.stop i H2) (go : ∀ G2 H2 xs, P G2 H2 xs → ∀ i x, xs[i]? = some x → J.go i H2 ∧ ∀ y H3, J.yld i H2 y H3 → H3 = H2 ∧ y = x) : Yields F G H J z := by
  refine ⟨fun G2 H2 h2 T r2 c i hi => ?_, fun G2 H2 h2 T r2 c i d e => ?_⟩
  · obtain ⟨xs, p, hl⟩ := hP G2 H2 h2 T r2 c
    exact fin G2 H2 xs p i (by rw [hl.length]; exact hi)
  · obtain ⟨xs, p, hl⟩ := hP G2 H2 h2 T r2 c
    obtain ⟨v, h1, h2⟩ := VRL.get hl e
    obtain ⟨g1, g2⟩ := go G2 H2 xs p i v h1
    refine ⟨g1, fun y H3 hy => ?_⟩
    obtain ⟨rfl, rfl⟩ := g2 y H3 hy
    exact ⟨Same.refl _, h2⟩
theorem se_iter {tg e : Expr} {f : SD → Hs → R D} (hK : X.K = F.K) (he : SE X F W e f) : SI X F W tg e (fun s h => (f s h).bind srcOf) := by
  refine ⟨fun pins s' σ H R0 I ⟨G, h, s, t, o⟩ => ?_⟩
  dsimp only at o
  by_cases q3 : ∃ d h2, f s h = .ok d h2 ∧ isTup d = true
  · obtain ⟨d0, h0, q, q3⟩ := q3
    refine (pi_tup he).run pins s' σ H R0 I ⟨G, h, s, t, ?_⟩
    rw [q] at o ⊢
    intro v G2 H2 T2 r2 x
    cases d0 with
    | tup l =>
      obtain ⟨p, xs, rfl, hs, hl⟩ := vr_tup.mp x
      rw [hK]
      refine ⟨p, rfl, ⟨xs, .inl (.inl hs)⟩, o _ G2 H2 T2 r2 ?_⟩
      refine yields_of (fun G3 H3 ys => ys = xs ∧ H3 p = some (.tup xs)) (fun G3 H3 h3 T3 r3 _ => ⟨xs, ⟨rfl, T3.tup p xs hs⟩, VRL.step T3 r2.aB _ hl⟩) (fun G3 H3 ys ⟨e1, k⟩ i hi => ⟨xs, .inl (.inl k), by rw [← e1]; exact hi⟩) fun G3 H3 ys ⟨e1, k⟩ i y e => ⟨⟨xs, y, .inl (.inl k), by rw [← e1]; exact e⟩, fun z H4 hy => ⟨hy.1, ?_⟩⟩
      subst e1
      exact Option.some.inj ((hy.2 _ (.inl (.inl k))).symm.trans e)
    | _ => cases q3
  · refine (pi_list he).run pins s' σ H R0 I ⟨G, h, s, t, ?_⟩
    cases q : f s h with
    | stk => rw [q] at o; exact o.elim
    | rs c p h2 => rw [q] at o; exact o
    | ok d h2 =>
      rw [q] at o
      intro v G2 H2 T2 r2 x
      have nt : isTup d = false := Bool.eq_false_iff.mpr fun z => q3 ⟨d, h2, q, z⟩
      have es : srcOf d h2 = match lstH h2 d with | some l => .ok ⟨l, stays d l⟩ h2 | none => .stk := by
        cases d <;> first | rfl | cases nt
      have o : OutI F W G σ H R0 (srcOf d h2) := o
      rw [es] at o
      cases ql : lstH h2 d with
      | none => rw [ql] at o; exact o.elim
      | some l =>
        rw [ql] at o
        obtain ⟨p, rfl, k⟩ := list_stays r2 x ql
        obtain ⟨p', xs, e1, hs, _⟩ := list_of r2 x ql
        injection e1 with e1
        subst e1
        rw [hK]
        refine ⟨p, rfl, ⟨xs, hs⟩, o _ G2 H2 T2 r2 ?_⟩
        refine yields_of (fun G3 H3 ys => SqL F.K H3 p ys) (fun G3 H3 h3 T3 r3 c => k G3 H3 h3 T3 r3 c) (fun G3 H3 ys k i hi => ⟨ys, k, hi⟩) fun G3 H3 ys k i y e => ⟨⟨ys, y, k, e⟩, fun z H4 hy => ⟨hy.1, ?_⟩⟩
        exact Option.some.inj ((hy.2 _ k).symm.trans e)
/-! ### range -/
def rngD (lo : Int) (n : Nat) : List D := (List.range n).map fun i => .int (lo + (i : Nat))
theorem rngD_get {lo : Int} {n i : Nat} {d : D} (h : (rngD lo n)[i]? = some d) : i < n ∧ d = .int (lo + (i : Nat)) := by
  unfold rngD at h
  rw [List.getElem?_map] at h
  by_cases hi : i < n
  · rw [List.getElem?_range hi] at h
    exact ⟨hi, (Option.some.inj h).symm⟩
  · rw [List.getElem?_eq_none (by simp; omega)] at h
    cases h
theorem rngD_len {lo : Int} {n : Nat} : (rngD lo n).length = n := by simp [rngD]
theorem yields_rng {lo : Int} {n : Nat} : Yields F G H (Itr lo n) (src0 (rngD lo n)) := by
  refine ⟨fun G2 H2 h2 T r c i hi => by show n ≤ i; rw [← rngD_len (lo := lo) (n := n)]; exact hi, fun G2 H2 h2 T r c i d e => ?_⟩
  obtain ⟨hi, rfl⟩ := rngD_get e
  refine ⟨hi, fun x H3 hy => ?_⟩
  obtain ⟨rfl, rfl⟩ := hy
  exact ⟨Same.refl _, vr_int.mpr rfl⟩
def rngO1 (ds : List D) (h : Hs) : R Src := match ds with
  | [.int j] => if -(2 ^ 62) ≤ j ∧ j < 2 ^ 62 then .ok (src0 (rngD 0 j.toNat)) h else .stk
  | _ => .stk
def rngO2 (ds : List D) (h : Hs) : R Src := match ds with
  | [.int i, .int j] => if -(2 ^ 62) ≤ i ∧ i < 2 ^ 62 ∧ -(2 ^ 62) ≤ j ∧ j < 2 ^ 62 then .ok (src0 (rngD i (j - i).toNat)) h else .stk
  | _ => .stk
theorem vals_int1 {vs : List V} {j : Int} (x : VRL F G H [.int j] vs) : vs = [.int j] := by
  obtain ⟨v, rfl, h⟩ := vrl_onev x
  rw [vr_int.mp h]
theorem vals_int2 {vs : List V} {i j : Int} (x : VRL F G H [.int i, .int j] vs) : vs = [.int i, .int j] := by
  obtain ⟨v, w, rfl, h1, h2⟩ := vrl_two x
  rw [vr_int.mp h1, vr_int.mp h2]
theorem si_range1 {tg a : Expr} {f : SD → Hs → R (List D)} {p pos : Pos} (hg : Gl X "range") (hm : X.mg "range" = none) (hs : starEach [a] X.env = [(false, eval a X.env)]) (ha : SA X F W [a] f) :
    SI X F W tg (.Call (.Name "range" p) [a] [] pos) (fun s h => (f s h).bind rngO1) :=
  ⟨fun pins s' σ H R0 I ⟨G, h, s, t, o⟩ => (pi_range1 hg hm ha hs).run pins s' σ H R0 I (partI t o fun d v h2 G2 H2 T2 t2 x o => by
    unfold rngO1 at o
    split at o
    · rename_i j
      split at o
      · rename_i hh
        exact ⟨j, vals_int1 x, hh.1, hh.2, o _ G2 H2 (Step.refl _ _) t2.hr yields_rng⟩
      · exact o.elim
    · exact o.elim)⟩
theorem si_range2 {tg a b : Expr} {f : SD → Hs → R (List D)} {p pos : Pos} (hg : Gl X "range") (hm : X.mg "range" = none) (hs : starEach [a, b] X.env = [(false, eval a X.env), (false, eval b X.env)]) (hs2 : starEach [b] X.env = [(false, eval b X.env)]) (ha : SA X F W [a, b] f) :
    SI X F W tg (.Call (.Name "range" p) [a, b] [] pos) (fun s h => (f s h).bind rngO2) :=
  ⟨fun pins s' σ H R0 I ⟨G, h, s, t, o⟩ => (pi_range2 hg hm ha hs hs2).run pins s' σ H R0 I (partI t o fun d v h2 G2 H2 T2 t2 x o => by
    unfold rngO2 at o
    split at o
    · rename_i i j
      split at o
      · rename_i hh
        exact ⟨i, j, vals_int2 x, hh, o _ G2 H2 (Step.refl _ _) t2.hr yields_rng⟩
      · exact o.elim
    · exact o.elim)⟩
/-! ### zip of two -/
/-- both tuples or both lists; what must stay -/
def zipO (ds : List D) (h : Hs) : R Src := match ds with
  | [.tup l, .tup m] => .ok (src0 ((l.zip m).map fun p => .tup [p.1, p.2])) h
  | [a, b] => match lstH h a, lstH h b with
    | some l, some m => .ok ⟨(l.zip m).map fun p => .tup [p.1, p.2], fun h' => stays a l h' ∧ stays b m h'⟩ h
    | _, _ => .stk
  | _ => .stk
theorem zip_get {l m : List D} {xs ys : List V} (h1 : VRL F G H l xs) (h2 : VRL F G H m ys) {i : Nat} {d : D} (e : ((l.zip m).map fun p => D.tup [p.1, p.2])[i]? = some d) (rr : HR F G H h) :
    ∃ x y, xs[i]? = some x ∧ ys[i]? = some y ∧ ∀ T, H T = none → VR F G (upd H T (.tup [x, y])) d (.ref T) := by
  rw [List.getElem?_map] at e
  cases q : (l.zip m)[i]? with
  | none => rw [q] at e; cases e
  | some p =>
    rw [q] at e
    injection e with e
    subst e
    obtain ⟨e1, e2⟩ := List.getElem?_zip_eq_some.mp q
    obtain ⟨x, x1, x2⟩ := VRL.get h1 e1
    obtain ⟨y, y1, y2⟩ := VRL.get h2 e2
    refine ⟨x, y, x1, y1, fun T hT => ?_⟩
    have S : Step G H G (upd H T (.tup [x, y])) := Step.same (same_upd hT)
    exact vr_tup.mpr ⟨T, [x, y], rfl, upd_same, vrl_cons.mpr ⟨x, [y], rfl, VR.step S rr.aB _ x2, vrl_one.mpr (VR.step S rr.aB _ y2)⟩⟩
theorem zip_end {l m : List D} {xs ys : List V} (h1 : VRL F G H l xs) (h2 : VRL F G H m ys) {i : Nat} (hi : ((l.zip m).map fun p => D.tup [p.1, p.2]).length ≤ i) : xs.length ≤ i ∨ ys.length ≤ i := by
  rw [List.length_map, List.length_zip, ← h1.length, ← h2.length] at hi
  omega
theorem si_zip {e e2 : Expr} {elts : List Expr} {kk : Nat} {f : SD → Hs → R (List D)} {p pos tpos : Pos} (hK : X.K = F.K) (hg : Gl X "zip") (hm : X.mg "zip" = none) (hs : starEach [e, e2] X.env = (false, eval e X.env) :: starEach [e2] X.env) (hpl : (backTo pos (starEach [e2] X.env)).any (·.1) = false) (ha : SA X F W [e, e2] f) :
    SI X F W (.Tuple elts kk tpos) (.Call (.Name "zip" p) [e, e2] [] pos) (fun s h => (f s h).bind zipO) :=
  ⟨fun pins s' σ H R0 I ⟨G, h, s, t, o⟩ => (RZ.pi_zipA hg hm ha hs hpl).run pins s' σ H R0 I (partI t o fun d v h1 G1 H1 T1 t1 x o => by
    have main : ∀ (l m : List D) (pa pb : Addr) (PA PB : Gh → Hp → List V → Prop), v = [.ref pa, .ref pb] → (∃ xs, PA G1 H1 xs) → (∃ ys, PB G1 H1 ys) → ∀ c : Hs → Prop, c h1 →
        (∀ G2 H2 h2, Step G1 H1 G2 H2 → HR F G2 H2 h2 → c h2 → ∃ xs ys, PA G2 H2 xs ∧ VRL F G2 H2 l xs ∧ PB G2 H2 ys ∧ VRL F G2 H2 m ys) →
        ∀ J : It, (∀ G2 H2 xs ys, PA G2 H2 xs → PB G2 H2 ys → ∀ i, (xs.length ≤ i ∨ ys.length ≤ i) → J.stop i H2) →
          (∀ G2 H2 xs ys, PA G2 H2 xs → PB G2 H2 ys → ∀ i x y, xs[i]? = some x → ys[i]? = some y → J.go i H2 ∧ ∀ v H3, J.yld i H2 v H3 → ∃ T, H2 T = none ∧ v = .ref T ∧ H3 = upd H2 T (.tup [x, y])) →
          Yields F G1 H1 J ⟨(l.zip m).map fun p => .tup [p.1, p.2], c⟩ := by
      intro l m pa pb PA PB ev _ _ c hc hP J fin go
      refine ⟨fun G2 H2 h2 T r cc i hi => ?_, fun G2 H2 h2 T r cc i d e => ?_⟩
      · obtain ⟨xs, ys, a1, a2, a3, a4⟩ := hP G2 H2 h2 T r cc
        exact fin G2 H2 xs ys a1 a3 i (zip_end a2 a4 hi)
      · obtain ⟨xs, ys, a1, a2, a3, a4⟩ := hP G2 H2 h2 T r cc
        obtain ⟨x, y, x1, y1, k⟩ := zip_get a2 a4 e r
        obtain ⟨g1, g2⟩ := go G2 H2 xs ys a1 a3 i x y x1 y1
        refine ⟨g1, fun v H3 hy => ?_⟩
        obtain ⟨T, hT, rfl, rfl⟩ := g2 v H3 hy
        exact ⟨same_upd hT, k T hT⟩
    unfold zipO at o
    split at o
    · rename_i l m
      obtain ⟨va, vb, rfl, ra, rb⟩ := vrl_two x
      obtain ⟨pa, xs, rfl, hsa, hla⟩ := vr_tup.mp ra
      obtain ⟨pb, ys, rfl, hsb, hlb⟩ := vr_tup.mp rb
      refine ⟨pa, pb, xs, ys, rfl, .inr ⟨by rw [hK]; exact .inl (.inl hsa), by rw [hK]; exact .inl (.inl hsb), o _ G1 H1 (Step.refl _ _) t1.hr ?_⟩⟩
      rw [hK]
      refine main l m pa pb (fun G2 H2 zs => zs = xs ∧ H2 pa = some (.tup xs)) (fun G2 H2 zs => zs = ys ∧ H2 pb = some (.tup ys)) rfl ⟨_, rfl, hsa⟩ ⟨_, rfl, hsb⟩ (fun _ => True) trivial (fun G2 H2 h2 T r _ => ⟨xs, ys, ⟨rfl, T.tup pa xs hsa⟩, VRL.step T t1.hr.aB _ hla, ⟨rfl, T.tup pb ys hsb⟩, VRL.step T t1.hr.aB _ hlb⟩) _ ?_ ?_
      · rintro G2 H2 _ _ ⟨rfl, k1⟩ ⟨rfl, k2⟩ i hi
        exact ⟨_, _, .inl (.inl k1), .inl (.inl k2), hi⟩
      · rintro G2 H2 _ _ ⟨rfl, k1⟩ ⟨rfl, k2⟩ i x y hx hy
        refine ⟨⟨_, _, x, y, .inl (.inl k1), .inl (.inl k2), hx, hy⟩, fun v H3 hh => ?_⟩
        obtain ⟨T, x', y', rfl, hT, rfl, f1, f2⟩ := hh
        have e1 := Option.some.inj (hx.symm.trans (f1 _ (.inl (.inl k1))))
        have e2 := Option.some.inj (hy.symm.trans (f2 _ (.inl (.inl k2))))
        subst e1 e2
        exact ⟨T, hT, rfl, rfl⟩
    · rename_i a b _
      split at o
      · rename_i l m qa qb
        obtain ⟨va, vb, rfl, ra, rb⟩ := vrl_two x
        obtain ⟨pa, rfl, ka⟩ := list_stays t1.hr ra qa
        obtain ⟨pb, rfl, kb⟩ := list_stays t1.hr rb qb
        obtain ⟨pa', xs, e1, hsa, _⟩ := list_of t1.hr ra qa
        obtain ⟨pb', ys, e2, hsb, _⟩ := list_of t1.hr rb qb
        injection e1 with e1
        injection e2 with e2
        subst e1 e2
        refine ⟨pa, pb, xs, ys, rfl, .inl ⟨by rw [hK]; exact hsa, by rw [hK]; exact hsb, o _ G1 H1 (Step.refl _ _) t1.hr ?_⟩⟩
        rw [hK]
        refine ⟨fun G2 H2 h2 T r cc i hi => ?_, fun G2 H2 h2 T r cc i d e => ?_⟩
        · obtain ⟨xs2, a1, a2⟩ := ka G2 H2 h2 T r cc.1
          obtain ⟨ys2, a3, a4⟩ := kb G2 H2 h2 T r cc.2
          exact ⟨xs2, ys2, a1, a3, zip_end a2 a4 hi⟩
        · obtain ⟨xs2, a1, a2⟩ := ka G2 H2 h2 T r cc.1
          obtain ⟨ys2, a3, a4⟩ := kb G2 H2 h2 T r cc.2
          obtain ⟨x, y, hx, hy, k⟩ := zip_get a2 a4 e r
          refine ⟨⟨_, _, x, y, a1, a3, hx, hy⟩, fun v H3 hh => ?_⟩
          obtain ⟨T, x', y', rfl, hT, rfl, f1, f2⟩ := hh
          have e1 := Option.some.inj (hx.symm.trans (f1 _ a1))
          have e2 := Option.some.inj (hy.symm.trans (f2 _ a3))
          subst e1 e2
          exact ⟨same_upd hT, k T hT⟩
      · exact o.elim
    · exact o.elim)⟩
end
end Gx

/-! G5: list comprehensions. -/
namespace Gx
open PySem L2
abbrev W0 : WX := fun _ _ _ _ => False
def wipeS (s : SD) : List Nat → SD
  | [] => s
  | v :: vs => (wipeS s vs).set v none
theorem wipeS_len (s : SD) : ∀ vs : List Nat, (wipeS s vs).length = s.length
  | [] => rfl
  | v :: vs => by unfold wipeS; rw [List.length_set, wipeS_len s vs]
theorem wipeS_some {s : SD} {i : Nat} {d : D} : ∀ {vs : List Nat}, (wipeS s vs)[i]? = some (some d) → s[i]? = some (some d) ∧ i ∉ vs
  | [], h => ⟨h, by simp⟩
  | v :: vs, h => by
    unfold wipeS at h
    by_cases e : i = v
    · subst e
      by_cases hl : i < (wipeS s vs).length
      · rw [List.getElem?_set_self hl] at h; cases h
      · rw [List.getElem?_eq_none (by rw [List.length_set]; omega)] at h; cases h
    · rw [List.getElem?_set_ne (Ne.symm e)] at h
      obtain ⟨h1, h2⟩ := wipeS_some (vs := vs) h
      exact ⟨h1, by simp [e, h2]⟩
theorem wipe_keep {σ : L2.St} {i : Nat} {v : V} : ∀ {vs : List Nat}, i ∉ vs → σ[i]? = some (some v) → (wipe σ vs)[i]? = some (some v)
  | [], _, h => h
  | w :: vs, n, h => by
    unfold wipe
    have n1 : w ≠ i := fun e => n (by simp [e])
    rw [List.getElem?_set_ne n1]
    exact wipe_keep (fun z => n (List.mem_cons_of_mem _ z)) h
theorem set_set_none {σ : L2.St} {i j : Nat} {x : Option V} : (σ.set i x).set j none = if i = j then σ.set j none else (σ.set j none).set i x := by
  split
  · rename_i h; subst h; rw [List.set_set]
  · rename_i h; rw [List.set_comm _ _ h]
theorem wipe_set {σ : L2.St} {i : Nat} {x : Option V} : ∀ {vs : List Nat}, wipe (σ.set i x) vs = if i ∈ vs then wipe σ vs else (wipe σ vs).set i x
  | [] => by simp [wipe]
  | w :: vs => by
    unfold wipe
    rw [wipe_set (vs := vs)]
    by_cases h : i ∈ vs
    · rw [if_pos h, if_pos (List.mem_cons_of_mem _ h)]
    · rw [if_neg h, set_set_none]
      by_cases e : i = w
      · rw [if_pos e, if_pos (by simp [e])]
      · rw [if_neg e, if_neg (by simp [e, h])]
theorem wipe_in {σ : L2.St} {vs : List Nat} {i : Nat} {x : Option V} (h : i ∈ vs) : wipe (σ.set i x) vs = wipe σ vs := by rw [wipe_set, if_pos h]
theorem wipe_setAll : ∀ {is : List Nat} {σ : L2.St} {ws : List V} {vs : List Nat}, (∀ i ∈ is, i ∈ vs) → wipe (setAll σ is ws) vs = wipe σ vs
  | [], _, _, _, _ => by simp [setAll]
  | i :: is, _, [], _, _ => by simp [setAll]
  | i :: is, σ, w :: ws, vs, h => by
    unfold setAll
    rw [wipe_setAll (fun j hj => h j (List.mem_cons_of_mem _ hj)), wipe_in (h i List.mem_cons_self)]
theorem wipe_wipe {σ : L2.St} {vs : List Nat} : ∀ {ws : List Nat}, (∀ i ∈ ws, i ∈ vs) → wipe (wipe σ ws) vs = wipe σ vs
  | [], _ => rfl
  | w :: ws, h => by
    show wipe ((wipe σ ws).set w none) vs = wipe σ vs
    rw [wipe_in (h w List.mem_cons_self), wipe_wipe fun j hj => h j (List.mem_cons_of_mem _ hj)]
/-- what raises is not served -/
def nr {α : Type} (x : R α) : R α := match x with
  | .rs _ _ _ => .stk
  | y => y
open Classical in
noncomputable def lcL (c : Hs → Prop) (ft : D → SD → Option SD) (fb fe : SD → Hs → R D) (s : SD) : List D → Hs → R (List D)
  | [], h => if c h then .ok [] h else .stk
  | d :: r, h => if c h then (match ft d s with
    | none => .stk
    | some s1 => (nr (toB (fb s1 h))).bind fun b h1 => match b with
      | true => (nr (fe s1 h1)).bind fun y h2 => (lcL c ft fb fe s r h2).bind fun ys h3 => .ok (y :: ys) h3
      | false => lcL c ft fb fe s r h1) else .stk
/-- a list that was made: a value, or an object of the store -/
def newL (m : Bool) (l : List D) (h : Hs) : R D := match m with
  | false => .ok (.vl l) h
  | true => .ok (.ref h.length) (h ++ [.lst l])
noncomputable def lcO (m : Bool) (ft : D → SD → Option SD) (fb fe : SD → Hs → R D) (vs : List Nat) (s : SD) (z : Src) (h : Hs) : R D :=
  if z.ds.length ≤ 16777216 then (lcL z.c ft fb fe (wipeS s vs) z.ds h).bind (newL m) else .stk
/-- with one more place that is nobody's to look at -/
def Gh.hide (G : Gh) (q : Addr) : Gh := ⟨G.α, fun p => G.B p ∨ p = q⟩
def Gh.show (G : Gh) (q : Addr) : Gh := ⟨G.α, fun p => G.B p ∧ p ≠ q⟩
section
variable {X : Cx} {F : Fr} {W : WX} {G G' G1 G2 : Gh} {H H' H1 H2 : Hp} {σ : L2.St} {s : SD} {h h1 h2 : Hs}
theorem St.wipe (t : St F G h s σ H) (vs : List Nat) : St F G h (wipeS s vs) (L2.wipe σ vs) H :=
  ⟨fun i d e => by
    obtain ⟨h1, h2⟩ := wipeS_some e
    obtain ⟨v, h3, h4⟩ := t.slot i d h1
    exact ⟨v, wipe_keep h2 h3, h4⟩, t.hr, by rw [wipeS_len, wipe_length, t.len]⟩
mutual
theorem VR.al (a : ∀ n p, G.α n = some p → G'.α n = some p) (b : ∀ p, G'.B p → G.B p) : ∀ (d : D) {v : V}, VR F G H d v → VR F G' H d v
  | .non, _, h => vr_non.mpr (vr_non.mp h)
  | .bl _, _, h => vr_bl.mpr (vr_bl.mp h)
  | .int _, _, h => vr_int.mpr (vr_int.mp h)
  | .str _, _, h => vr_str.mpr (vr_str.mp h)
  | .exc _ _, _, h => by
    obtain ⟨a, d, e, ⟨h1, h2⟩, h3⟩ := vr_exc.mp h
    exact vr_exc.mpr ⟨a, d, e, ⟨h1, fun w => h2 (b a w)⟩, h3.al b⟩
  | .tup l, _, h => by
    obtain ⟨p, xs, e, hs, hl⟩ := vr_tup.mp h
    exact vr_tup.mpr ⟨p, xs, e, hs, VRL.al a b l hl⟩
  | .vl l, _, h => by
    obtain ⟨p, xs, e, hs, hl⟩ := vr_vl.mp h
    exact vr_vl.mpr ⟨p, xs, e, ⟨hs.1, fun w => hs.2 (b p w)⟩, VRL.al a b l hl⟩
  | .sl l, _, h => by
    obtain ⟨p, xs, e, hs, hl⟩ := vr_sl.mp h
    exact vr_sl.mpr ⟨p, xs, e, hs.imp (fun z => ⟨z.1, fun w => z.2 (b p w)⟩) id, VRL.al a b l hl⟩
  | .vd k l, _, h => by
    obtain ⟨p, qs, vs, e, hs, hl, h1, h2⟩ := vr_vd.mp h
    exact vr_vd.mpr ⟨p, qs, vs, e, ⟨hs.1, fun w => hs.2 (b p w)⟩, hl, VRL.al a b k h1, VRL.al a b l h2⟩
  | .ref n, _, h => by
    obtain ⟨p, e, hp⟩ := vr_ref.mp h
    exact vr_ref.mpr ⟨p, e, a n p hp⟩
theorem VRL.al (a : ∀ n p, G.α n = some p → G'.α n = some p) (b : ∀ p, G'.B p → G.B p) : ∀ (l : List D) {xs : List V}, VRL F G H l xs → VRL F G' H l xs
  | [], _, h => vrl_nil.mpr (vrl_nil.mp h)
  | d :: t, _, h => by
    obtain ⟨v, vr, e, h1, h2⟩ := vrl_cons.mp h
    exact vrl_cons.mpr ⟨v, vr, e, VR.al a b d h1, VRL.al a b t h2⟩
end
/-- the hidden place is written -/
theorem Step.hid {q : Addr} {u : HO} (hq : ∃ xs, H q = some (.lst xs)) (n : ∀ m, G.α m ≠ some q) : ∀ p xs, H p = some (.tup xs) → (upd H q u) p = some (.tup xs) := fun p xs r => by
  obtain ⟨ys, hq⟩ := hq
  have : p ≠ q := fun z => by
    subst z
    rw [hq] at r; cases r
  rw [upd_ne this]; exact r
theorem Pay.hid {q : Addr} {u : HO} (hb : G.B q) : ∀ {d : Option Addr} {p : Option Int}, Pay G H d p → Pay G (upd H q u) d p
  | none, none, _ => trivial
  | some d, some i, ⟨h1, h2⟩ => by
    have : d ≠ q := fun w => h2 (w ▸ hb)
    exact ⟨by rw [upd_ne this]; exact h1, h2⟩
  | some d, none, h => h
  | none, some i, h => h
mutual
theorem VR.hid {q : Addr} {u : HO} (hb : G.B q) (ht : ∀ p xs, H p = some (.tup xs) → (upd H q u) p = some (.tup xs)) : ∀ (d : D) {v : V}, VR F G H d v → VR F G (upd H q u) d v
  | .non, _, h => vr_non.mpr (vr_non.mp h)
  | .bl _, _, h => vr_bl.mpr (vr_bl.mp h)
  | .int _, _, h => vr_int.mpr (vr_int.mp h)
  | .str _, _, h => vr_str.mpr (vr_str.mp h)
  | .exc _ _, _, h => by
    obtain ⟨a, d, e, ⟨h1, h2⟩, h3⟩ := vr_exc.mp h
    have : a ≠ q := fun w => h2 (w ▸ hb)
    exact vr_exc.mpr ⟨a, d, e, ⟨by rw [upd_ne this]; exact h1, h2⟩, h3.hid hb⟩
  | .tup l, _, h => by
    obtain ⟨p, xs, e, hs, hl⟩ := vr_tup.mp h
    exact vr_tup.mpr ⟨p, xs, e, ht p xs hs, VRL.hid hb ht l hl⟩
  | .vl l, _, h => by
    obtain ⟨p, xs, e, hs, hl⟩ := vr_vl.mp h
    refine vr_vl.mpr ⟨p, xs, e, ⟨?_, hs.2⟩, VRL.hid hb ht l hl⟩
    have : p ≠ q := fun w => hs.2 (w ▸ hb)
    rcases hs.1 with r | ⟨o, r⟩
    · exact .inl (by rw [upd_ne this]; exact r)
    · exact .inr ⟨o, by rw [upd_ne this]; exact r⟩
  | .sl l, _, h => by
    obtain ⟨p, xs, e, hs, hl⟩ := vr_sl.mp h
    refine vr_sl.mpr ⟨p, xs, e, hs.imp (fun z => ⟨?_, z.2⟩) id, VRL.hid hb ht l hl⟩
    have : p ≠ q := fun w => z.2 (w ▸ hb)
    rcases z.1 with r | ⟨o, r⟩
    · exact .inl (by rw [upd_ne this]; exact r)
    · exact .inr ⟨o, by rw [upd_ne this]; exact r⟩
  | .vd k l, _, h => by
    obtain ⟨p, qs, vs, e, z, hl, h1, h2⟩ := vr_vd.mp h
    refine vr_vd.mpr ⟨p, qs, vs, e, ⟨?_, z.2⟩, hl, VRL.hid hb ht k h1, VRL.hid hb ht l h2⟩
    have : p ≠ q := fun w => z.2 (w ▸ hb)
    rw [upd_ne this]
    exact z.1
  | .ref n, _, h => by
    obtain ⟨p, e, hp⟩ := vr_ref.mp h
    exact vr_ref.mpr ⟨p, e, hp⟩
theorem VRL.hid {q : Addr} {u : HO} (hb : G.B q) (ht : ∀ p xs, H p = some (.tup xs) → (upd H q u) p = some (.tup xs)) : ∀ (l : List D) {xs : List V}, VRL F G H l xs → VRL F G (upd H q u) l xs
  | [], _, h => vrl_nil.mpr (vrl_nil.mp h)
  | d :: t, _, h => by
    obtain ⟨v, vr, e, h1, h2⟩ := vrl_cons.mp h
    exact vrl_cons.mpr ⟨v, vr, e, VR.hid hb ht d h1, VRL.hid hb ht t h2⟩
end
theorem HR.hid {q : Addr} {u : HO} (r : HR F G H h) (hb : G.B q) (n : ∀ m, G.α m ≠ some q) (ht : ∀ p xs, H p = some (.tup xs) → (upd H q u) p = some (.tup xs)) : HR F G (upd H q u) h where
  obj := fun m o e => by
    obtain ⟨p, e1, w, hw, ho⟩ := r.obj m o e
    exact ⟨p, e1, w, by rw [upd_ne (fun z => n m (by rw [← z]; exact e1))]; exact hw, ho.imp fun l xs z => VRL.hid hb ht l z⟩
  dom := r.dom
  inj := r.inj
  aB := r.aB
  hot := fun a e => let ⟨c, d, h1, h2⟩ := r.hot a e; ⟨c, d, by rw [upd_ne (show a ≠ q from fun z => h2 (by rw [z]; exact hb))]; exact h1, h2⟩
  bt := fun p b => by
    by_cases z : p = q
    · subst z; rw [upd_same]; exact fun z => nomatch z
    · rw [upd_ne z]; exact r.bt p b
theorem lc_imp {m : Bool} {own : List (Str × Nat)} {fi : SD → Hs → R Src} {is : List Nat} {ft : D → SD → Option SD} {g : TG} {fb fe : SD → Hs → R D} {tt : TT} (tok : TgOk F is ft g) (his : ∀ i ∈ is, i ∈ own.map (·.2)) (htt : ∀ σ H Q, lift F W0 relB (fun s h => toB (fb s h)) σ H Q → tt σ H Q)
    {σ : L2.St} {H : Hp} {Q : VK} (hh : lift F W (VR F) (fun s h => (fi s h).bind (lcO m ft fb fe (own.map (·.2)) s)) σ H Q) : tLc (liftI F W fi) g tt (lift F W0 (VR F) fe) (own.map (·.2)) σ H Q := by
  obtain ⟨G, h, s, t, o⟩ := hh
  refine ⟨G, h, s, t, ?_⟩
  dsimp only at o
  cases q : fi s h with
  | stk => rw [q] at o; exact o.elim
  | rs c p h2 => rw [q] at o; exact o
  | ok z h1 =>
    rw [q] at o
    dsimp only [R.bind] at o
    unfold lcO at o
    split at o
    case isFalse => exact o.elim
    rename_i hsz
    intro J G1 H1 T1 r1 y Dl hD
    have t1 := t.step T1 r1
    have o1 : Out F W G1 σ H1 (VR F) Q ((lcL z.c ft fb fe (wipeS s (own.map (·.2))) z.ds h1).bind (newL m)) := Out.later T1 o
    -- the start, with the new list hidden
    have T2 : Step G1 H1 (G1.hide Dl) (upd H1 Dl (.lst [])) := by
      have S : Step G1 H1 G1 (upd H1 Dl (.lst [])) := Step.same (same_upd hD)
      exact ⟨S.ids, S.new, S.keep, S.tup, fun p hp b => b.elim id fun z => (hp (z ▸ hD)).elim, fun p b => .inl b, S.there, S.frz⟩
    have r2 : HR F (G1.hide Dl) (upd H1 Dl (.lst [])) h1 := by
      have S := r1.same (same_upd hD (o := .lst []))
      refine ⟨fun n o e => ?_, S.dom, S.inj, fun n p e => .inl (S.aB n p e), fun p b => ?_, fun a q => let ⟨c, d, h1, h2⟩ := S.hot a q; ⟨c, d, h1, fun z => z.elim h2 fun w => by rw [w, upd_same] at h1; cases h1⟩⟩
      · obtain ⟨p, e1, u, hu, ho⟩ := r1.obj n o e
        exact ⟨p, e1, u, same_upd hD _ _ hu, ho.step T2 r1.aB⟩
      · rcases b with b | rfl
        · exact S.bt p b
        · rw [upd_same]; exact fun z => nomatch z
    refine ⟨fun i k H2 => k = z.ds.length - i ∧ i ≤ z.ds.length ∧ ∃ (G2 : Gh) (h2 : Hs) (acc : List V) (ys : List D), Step G1 H1 G2 H2 ∧ HR F G2 H2 h2 ∧ G2.B Dl ∧ (∀ n, G2.α n ≠ some Dl) ∧ H2 Dl = some (.lst acc) ∧ acc.length ≤ i ∧ VRL F G2 H2 ys acc ∧
        Out F W G1 σ H1 (VR F) Q ((lcL z.c ft fb fe (wipeS s (own.map (·.2))) (z.ds.drop i) h2).bind fun zs h => newL m (ys ++ zs) h),
      ⟨z.ds.length, by simp, Nat.zero_le _, G1.hide Dl, h1, [], [], T2, r2, .inr rfl, fun n e => r1.bt Dl (r1.aB n Dl e) hD, upd_same, Nat.le_refl _, vrl_nil.mpr rfl, o1⟩, ?_⟩
    rintro i k H2 ⟨rfl, hi, G2, h2, acc, ys, T12, r2, bD, nD, hDl, hacc, hy, oA⟩
    by_cases hlt : i < z.ds.length
    · have ed : z.ds[i]? = some z.ds[i] := List.getElem?_eq_getElem hlt
      rw [List.drop_eq_getElem_cons hlt] at oA
      unfold lcL at oA
      split at oA
      case isFalse => exact oA.elim
      rename_i hc
      obtain ⟨go, yl⟩ := y.go G2 H2 h2 T12 r2 hc i _ ed
      refine .inr ⟨go, fun H' => ∃ (G2 : Gh) (h2 : Hs) (acc : List V) (ys : List D), Step G1 H1 G2 H' ∧ HR F G2 H' h2 ∧ G2.B Dl ∧ (∀ n, G2.α n ≠ some Dl) ∧ H' Dl = some (.lst acc) ∧ acc.length ≤ i + 1 ∧ VRL F G2 H' ys acc ∧
        Out F W G1 σ H1 (VR F) Q ((lcL z.c ft fb fe (wipeS s (own.map (·.2))) (z.ds.drop (i + 1)) h2).bind fun zs h => newL m (ys ++ zs) h),
        fun H' a => ⟨z.ds.length - (i + 1), by omega, rfl, hlt, a⟩, fun x H3 hyl => ?_⟩
      obtain ⟨sm, vx⟩ := yl x H3 hyl
      have T23 : Step G2 H2 G2 H3 := Step.same sm
      have r3 := r2.same sm
      have t3 : St F G2 h2 (wipeS s (own.map (·.2))) (L2.wipe σ (own.map (·.2))) H3 := (t1.step (T12.trans T23) r3).wipe _
      cases e : ft z.ds[i] (wipeS s (own.map (·.2))) with
      | none => rw [e] at oA; exact oA.elim
      | some s3 =>
        rw [e] at oA
        dsimp only at oA
        refine tok G2 H3 h2 _ _ x z.ds[i] s3 t3 vx e _ fun ws t3 => ⟨?_, ?_⟩
        · rw [wipe_setAll his, wipe_wipe fun _ h => h]
        · refine htt _ _ _ ⟨G2, h2, s3, t3, ?_⟩
          cases eb : toB (fb s3 h2) with
          | stk => rw [eb] at oA; exact oA.elim
          | rs c p h => rw [eb] at oA; exact oA.elim
          | ok b h4 =>
            rw [eb] at oA
            show Out F W0 G2 _ H3 relB _ (toB (fb s3 h2))
            rw [eb]
            rintro b' G4 H4 T34 r4 rfl
            have T24 := T23.trans T34
            have D4 : H4 Dl = some (.lst acc) := T24.keep _ _ hDl nD
            have B4 : G4.B Dl := T24.bans _ bD
            have N4 : ∀ n, G4.α n ≠ some Dl := fun n e => by
              rcases T24.new n Dl e with z | z
              · exact nD n z
              · rw [hDl] at z; cases z
            have V4 := VRL.step T24 r2.aB _ hy
            cases b with
            | false => exact iteF ⟨G4, h4, acc, ys, T12.trans T24, r4, B4, N4, D4, Nat.le_succ_of_le hacc, V4, oA⟩
            | true =>
              refine iteT ⟨G4, h4, s3, t3.step T34 r4, ?_⟩
              dsimp only [nr, R.bind] at oA
              cases ee : fe s3 h4 with
              | stk => rw [ee] at oA; exact oA.elim
              | rs c p h => rw [ee] at oA; exact oA.elim
              | ok yv h5 =>
                rw [ee] at oA
                intro v G5 H5 T45 r5 vy
                have T25 := T24.trans T45
                have D5 : H5 Dl = some (.lst acc) := T25.keep _ _ hDl nD
                have B5 : G5.B Dl := T25.bans _ bD
                have N5 : ∀ n, G5.α n ≠ some Dl := fun n e => by
                  rcases T25.new n Dl e with z | z
                  · exact nD n z
                  · rw [hDl] at z; cases z
                have ht := Step.hid (u := .lst (acc ++ [v])) ⟨_, D5⟩ N5
                refine ⟨acc, D5, Nat.lt_of_le_of_lt hacc (Nat.lt_of_lt_of_le hlt (by rw [sizeLine_eq]; exact hsz)), G5, h5, acc ++ [v], ys ++ [yv], ?_, r5.hid B5 N5 ht, B5, N5, upd_same, by simp; omega, VRL.append (VRL.hid B5 ht _ (VRL.step T25 r2.aB _ hy)) (vrl_one.mpr (VR.hid B5 ht _ vy)), ?_⟩
                · have T15 := T12.trans T25
                  refine ⟨T15.ids, T15.new, fun p u e na => ?_, fun p xs r => ht p xs (T15.tup p xs r), T15.ban, T15.bans, fun p hp => ?_, fun p o u e => by rw [upd_ne (ne_of_none e hD)]; exact T15.frz p o u e⟩
                  · rw [upd_ne (ne_of_none e hD)]; exact T15.keep p u e na
                  · by_cases w : p = Dl
                    · subst w; rw [upd_same]; exact fun z => nomatch z
                    · rw [upd_ne w]; exact T15.there p hp
                · have oA : Out F W G1 σ H1 (VR F) Q (((lcL z.c ft fb fe (wipeS s (own.map (·.2))) (z.ds.drop (i + 1)) h5).bind fun ys' h3 => R.ok (yv :: ys') h3).bind fun zs h => newL m (ys ++ zs) h) := oA
                  cases er : lcL z.c ft fb fe (wipeS s (own.map (·.2))) (z.ds.drop (i + 1)) h5 with
                  | stk => rw [er] at oA; exact oA.elim
                  | rs c p h => rw [er] at oA; exact oA
                  | ok zs h6 =>
                    rw [er] at oA
                    dsimp only [R.bind] at oA ⊢
                    rw [List.append_assoc]
                    exact oA
    · obtain rfl : i = z.ds.length := by omega
      rw [List.drop_length] at oA
      unfold lcL at oA
      split at oA
      case isFalse => exact oA.elim
      rename_i hc
      refine .inl ⟨y.fin G2 H2 h2 T12 r2 hc _ (Nat.le_refl _), ?_⟩
      have oB : Out F W G1 σ H1 (VR F) Q (newL m (ys ++ []) h2) := oA
      rw [List.append_nil] at oB
      cases m with
      | false =>
        have sm : ∀ n p, G2.α n = some p → (G2.show Dl).α n = some p := fun _ _ e => e
        have bb : ∀ p, (G2.show Dl).B p → G2.B p := fun p b => b.1
        refine oB (.ref Dl) (G2.show Dl) H2 ⟨T12.ids, T12.new, T12.keep, T12.tup, fun p hp b => T12.ban p hp b.1, fun p b => ⟨T12.bans p b, fun e => r1.bt p b (e ▸ hD)⟩, T12.there, T12.frz⟩ ?_ (vr_vl.mpr ⟨Dl, acc, rfl, ⟨.inl hDl, fun b => b.2 rfl⟩, VRL.al (G' := G2.show Dl) sm bb _ hy⟩)
        exact ⟨fun n o e => by
          obtain ⟨p, e1, u, hu, ho⟩ := r2.obj n o e
          exact ⟨p, e1, u, hu, ho.imp fun l xs z => VRL.al (G' := G2.show Dl) sm bb l z⟩, r2.dom, r2.inj, fun n p e => ⟨r2.aB n p e, fun z => nD n (z ▸ e)⟩, fun p b => r2.bt p b.1, fun a q => let ⟨c, d, h1, h2⟩ := r2.hot a q; ⟨c, d, h1, fun z => h2 z.1⟩⟩
      | true =>
        have ids : ∀ n p, G2.α n = some p → (if n = h2.length then some Dl else G2.α n) = some p := fun n p e => by
          have := r2.dom n p e
          rw [if_neg (by omega)]; exact e
        have vr : ∀ l xs, VRL F G2 H2 l xs → VRL F ⟨fun n => if n = h2.length then some Dl else G2.α n, G2.B⟩ H2 l xs := fun l xs hl => VRL.al (G' := ⟨fun n => if n = h2.length then some Dl else G2.α n, G2.B⟩) ids (fun p b => b) l hl
        refine oB (.ref Dl) ⟨fun n => if n = h2.length then some Dl else G2.α n, G2.B⟩ H2 ⟨fun n p e => ids n p (T12.ids n p e), fun n p e => ?_, T12.keep, T12.tup, T12.ban, T12.bans, T12.there, T12.frz⟩ ?_ (vr_ref.mpr ⟨Dl, rfl, by show (if h2.length = h2.length then some Dl else _) = some Dl; rw [if_pos rfl]⟩)
        · have e : (if n = h2.length then some Dl else G2.α n) = some p := e
          split at e
          · injection e with e; subst e; exact .inr hD
          · exact T12.new n p e
        · refine ⟨fun n o e => ?_, fun n p e => ?_, fun a b p e1 e2 => ?_, fun n p e => ?_, r2.bt, r2.hot⟩
          · rcases Nat.lt_trichotomy n h2.length with hn | hn | hn
            · rw [List.getElem?_append_left hn] at e
              obtain ⟨p, e1, u, hu, ho⟩ := r2.obj n o e
              exact ⟨p, ids n p e1, u, hu, ho.imp fun l xs z => vr l xs z⟩
            · subst hn
              rw [List.getElem?_append_right (Nat.le_refl _), Nat.sub_self] at e
              injection e with e
              subst e
              exact ⟨Dl, by show (if h2.length = h2.length then some Dl else _) = some Dl; rw [if_pos rfl], _, hDl, acc, rfl, vr _ _ hy⟩
            · rw [List.getElem?_eq_none (by simp; omega)] at e; cases e
          · have e : (if n = h2.length then some Dl else G2.α n) = some p := e
            split at e
            · simp; omega
            · have := r2.dom n p e; simp; omega
          · have e1 : (if a = h2.length then some Dl else G2.α a) = some p := e1
            have e2 : (if b = h2.length then some Dl else G2.α b) = some p := e2
            split at e1 <;> split at e2
            · omega
            · injection e1 with e1; subst e1; exact (nD b e2).elim
            · injection e2 with e2; subst e2; exact (nD a e1).elim
            · exact r2.inj a b p e1 e2
          · have e : (if n = h2.length then some Dl else G2.α n) = some p := e
            split at e
            · injection e with e; subst e; exact bD
            · exact r2.aB n p e
theorem se_lc (m : Bool) {elt tg iter : Expr} {ifs : List Expr} {scope : Scope} {own : List (Str × Nat)} {pos : Pos} {fi : SD → Hs → R Src} {is : List Nat} {ft : D → SD → Option SD} {g : TG} {fb fe : SD → Hs → R D} {tt : TT}
    (hc : X.calm = true) (hN : X.N.Nodup) (hi : SI X F W tg iter fi) (ok : BlkOk X.N X.env.scope scope own) (hs : ∀ x, foldedSetIterable iter X.env x = pure x)
    (hg : ∀ (s : Shared) (H : Hp) (C : Addr) (cl : List (Str × Addr)) (fp : List Addr), PG (X.blk s H scope (compEnvC scope cl C X.env) fp) tg g) (tok : TgOk F is ft g) (his : ∀ i ∈ is, i ∈ own.map (·.2))
    (ht : ∀ (s : Shared) (H : Hp) (C : Addr) (cl : List (Str × Addr)) (fp : List Addr), PTs (X.blk s H scope (compEnvC scope cl C X.env) fp) ifs tt) (htt : ∀ σ H Q, lift F W0 relB (fun s h => toB (fb s h)) σ H Q → tt σ H Q)
    (he : ∀ (s : Shared) (H : Hp) (C : Addr) (cl : List (Str × Addr)) (fp : List Addr), SE (X.blk s H scope (compEnvC scope cl C X.env) fp) F W0 elt fe) :
    SE X F W (.ListComp elt [⟨tg, iter, ifs, 0⟩] scope pos) (fun s h => (fi s h).bind (lcO m ft fb fe (own.map (·.2)) s)) :=
  PE.imp (pe_lc hc hN hi ok hg ht he hs) fun σ H Q h => lc_imp tok his htt h
/-- name = [..] on one line -/
theorem ss_setLc (m : Bool) {i : Nat} {y : Str} {py spos : Pos} {elt tg iter : Expr} {ifs : List Expr} {scope : Scope} {own : List (Str × Nat)} {pos : Pos} {fi : SD → Hs → R Src} {is : List Nat} {ft : D → SD → Option SD} {g : TG} {fb fe : SD → Hs → R D} {tt : TT}
    (hc : X.calm = true) (hN : X.N.Nodup) (hy : X.N[i]? = some y) (hyl : X.env.scope.names.lookup y = some .local) (hsw : swapsWith (.ListComp elt [⟨tg, iter, ifs, 0⟩] scope pos) (some (.Name y py)) spos.line X.env = pure true)
    (hi : SI X F W tg iter fi) (ok : BlkOk X.N X.env.scope scope own) (hs : ∀ x, foldedSetIterable iter X.env x = pure x)
    (hg : ∀ (s : Shared) (H : Hp) (C : Addr) (cl : List (Str × Addr)) (fp : List Addr), PG (X.blk s H scope (compEnvC scope cl C X.env) fp) tg g) (tok : TgOk F is ft g) (his : ∀ i ∈ is, i ∈ own.map (·.2))
    (ht : ∀ (s : Shared) (H : Hp) (C : Addr) (cl : List (Str × Addr)) (fp : List Addr), PTs (X.blk s H scope (compEnvC scope cl C X.env) fp) ifs tt) (htt : ∀ σ H Q, lift F W0 relB (fun s h => toB (fb s h)) σ H Q → tt σ H Q)
    (he : ∀ (s : Shared) (H : Hp) (C : Addr) (cl : List (Str × Addr)) (fp : List Addr), SE (X.blk s H scope (compEnvC scope cl C X.env) fp) F W0 elt fe) :
    SS X F W (.Assign [.Name y py] (.ListComp elt [⟨tg, iter, ifs, 0⟩] scope pos) spos) (fun s h => ((fi s h).bind (lcO m ft fb fe (own.map (·.2)) s)).thenO s (setO i s)) :=
  PS.imp (ps_setLc hc hN hy hyl hsw hi ok hg ht he hs) fun Dn σ H ⟨G, h, s, t, o⟩ => lc_imp tok his htt (partS (rel := VR F) (Q' := fun x H1 => gName i x σ H1 Dn.nx) (f := fun s h => (fi s h).bind (lcO m ft fb fe (own.map (·.2)) s)) t o fun d v h2 G2 H2 T t2 x o => set_out t2 o x)
end
end Gx

/-! G6: operators, comparisons, displays, subscripts, slices, built-ins. -/
namespace Gx
open PySem L2
theorem le_line {n : Nat} (h : n ≤ 16777216) : n ≤ sizeLine := by rw [sizeLine_eq]; exact h
/-- keys of a dict: numbers and texts -/
def kyD : D → Option Key
  | .int i => some (.inl i)
  | .str x => some (.inr x)
  | _ => none
/-- what stands under a key -/
def dFind (k l : List D) (q : Key) : Option D := ((k.zip l).find? fun p => decide (kyD p.1 = some q)).map (·.2)
/-- keys that are tuples of numbers and texts -/
def kysOf : List D → Option (List Key)
  | [] => some []
  | d :: r => (kyD d).bind fun q => (kysOf r).map (q :: ·)
def kyT : D → Option (List Key)
  | .tup l => kysOf l
  | _ => none
def dFindT (k : List (List Key)) (l : List D) (q : List Key) : Option D := ((k.zip l).find? fun p => decide (p.1 = q)).map (·.2)
/-- a dict keyed by tuples -/
def ditH (h : Hs) : D → Option (List (List Key) × List D)
  | .ref n => match h[n]? with
    | some (.dit k l) => some (k, l)
    | some (.fdt k l) => some (k, l)
    | _ => none
  | _ => none
/-- .. that is not locked -/
def ditU (h : Hs) : D → Option (List (List Key) × List D)
  | .ref n => match h[n]? with
    | some (.dit k l) => some (k, l)
    | _ => none
  | _ => none
/-- the keys and the values of a dict -/
def dicH (h : Hs) : D → Option (List D × List D)
  | .vd k l => some (k, l)
  | .ref n => match h[n]? with
    | some (.dic k l) => some (k, l)
    | some (.fdc k l) => some (k, l)
    | _ => none
  | _ => none
/-- .. that is not locked -/
def dicU (h : Hs) : D → Option (List D × List D)
  | .vd k l => some (k, l)
  | .ref n => match h[n]? with
    | some (.dic k l) => some (k, l)
    | _ => none
  | _ => none
section
variable {F : Fr} {G : Gh} {H : Hp} {h : Hs}
theorem dic_of {d : D} {v : V} {k l : List D} (r : HR F G H h) (x : VR F G H d v) (e : dicH h d = some (k, l)) : ∃ (p : Addr) (qs : List Key) (vs : List V), v = .ref p ∧ Rd H p (.dK (qs.zip vs)) ∧ qs.length = vs.length ∧ VRL F G H k (qs.map kV) ∧ VRL F G H l vs := by
  unfold dicH at e
  split at e
  · injection e with e
    injection e with e1 e2
    subst e1 e2
    obtain ⟨p, qs, vs, e, z, hl, h1, h2⟩ := vr_vd.mp x
    exact ⟨p, qs, vs, e, .inl z.1, hl, h1, h2⟩
  · rename_i n
    split at e
    · rename_i k' l' q
      injection e with e
      injection e with e1 e2
      subst e1 e2
      obtain ⟨p, e, hp⟩ := vr_ref.mp x
      obtain ⟨p', hp', u, hu, qs, vs, rfl, hl, h1, h2⟩ := r.obj n _ q
      rw [hp] at hp'
      injection hp' with hp'
      subst hp'
      exact ⟨p, qs, vs, e, .inl hu, hl, h1, h2⟩
    · rename_i k' l' q
      injection e with e
      injection e with e1 e2
      subst e1 e2
      obtain ⟨p, e, hp⟩ := vr_ref.mp x
      obtain ⟨p', hp', u, hu, od, qs, vs, rfl, hl, h1, h2⟩ := r.obj n _ q
      rw [hp] at hp'
      injection hp' with hp'
      subst hp'
      exact ⟨p, qs, vs, e, .inr ⟨od, hu⟩, hl, h1, h2⟩
    · cases e
  · cases e
theorem dicU_dicH {h : Hs} {d : D} {kl : List D × List D} (e : dicU h d = some kl) : dicH h d = some kl := by
  unfold dicU at e
  unfold dicH
  split at e
  · exact e
  · split at e
    · rename_i n _ _ q
      rw [q]
      exact e
    · cases e
  · cases e
theorem dicU_of {d : D} {v : V} {k l : List D} (r : HR F G H h) (x : VR F G H d v) (e : dicU h d = some (k, l)) : ∃ (p : Addr) (qs : List Key) (vs : List V), v = .ref p ∧ H p = some (.dK (qs.zip vs)) ∧ qs.length = vs.length ∧ VRL F G H k (qs.map kV) ∧ VRL F G H l vs := by
  unfold dicU at e
  split at e
  · injection e with e
    injection e with e1 e2
    subst e1 e2
    obtain ⟨p, qs, vs, e, z, hl, h1, h2⟩ := vr_vd.mp x
    exact ⟨p, qs, vs, e, z.1, hl, h1, h2⟩
  · rename_i n
    split at e
    · rename_i k' l' q
      injection e with e
      injection e with e1 e2
      subst e1 e2
      obtain ⟨p, e, hp⟩ := vr_ref.mp x
      obtain ⟨p', hp', u, hu, qs, vs, rfl, hl, h1, h2⟩ := r.obj n _ q
      rw [hp] at hp'
      injection hp' with hp'
      subst hp'
      exact ⟨p, qs, vs, e, hu, hl, h1, h2⟩
    · cases e
  · cases e
theorem ky_of {d : D} {v : V} {q : Key} (x : VR F G H d v) (e : kyD d = some q) : v = kV q := by
  unfold kyD at e
  split at e
  · injection e with e; subst e; exact vr_int.mp x
  · injection e with e; subst e; exact vr_str.mp x
  · cases e
theorem of_ky {d : D} {q : Key} (x : VR F G H d (kV q)) : kyD d = some q := by
  cases d with
  | non => have := vr_non.mp x; cases q <;> cases this
  | bl b => have := vr_bl.mp x; cases q <;> cases this
  | int i => have := vr_int.mp x; cases q <;> cases this; rfl
  | str z => have := vr_str.mp x; cases q <;> cases this; rfl
  | tup l => obtain ⟨p, xs, e, _⟩ := vr_tupS x; cases q <;> cases e
  | vl l => obtain ⟨p, xs, e, _⟩ := vr_vl.mp x; cases q <;> cases e
  | sl l => obtain ⟨p, xs, e, _⟩ := vr_sl.mp x; cases q <;> cases e
  | vd k l => obtain ⟨p, xs, vs, e, _⟩ := vr_vd.mp x; cases q <;> cases e
  | ref n => obtain ⟨p, e, _⟩ := vr_ref.mp x; cases q <;> cases e
  | exc c p => obtain ⟨a, d, e, _⟩ := vr_exc.mp x; cases q <;> cases e
/-- what the kit finds -/
theorem find_vr {q : Key} : ∀ {k l : List D} {qs : List Key} {vs : List V}, VRL F G H k (qs.map kV) → VRL F G H l vs → qs.length = vs.length → (∀ d, dFind k l q = some d → ∃ v, valV (qs.zip vs) q = some v ∧ VR F G H d v) ∧ (dFind k l q = none → valV (qs.zip vs) q = none)
  | [], l, qs, vs, h1, h2, hl => by
    have : qs = [] := by
      have := vrl_nil.mp h1
      simpa using this
    subst this
    exact ⟨fun d e => by simp [dFind] at e, fun _ => by simp [valV]⟩
  | a :: k, l, qs, vs, h1, h2, hl => by
    obtain ⟨v0, vr, e, h3, h4⟩ := vrl_cons.mp h1
    cases qs with
    | nil => cases e
    | cons q0 qs =>
      rw [List.map_cons] at e
      injection e with e1 e2
      subst e1 e2
      cases vs with
      | nil => cases hl
      | cons v vs =>
        cases l with
        | nil => have := vrl_nil.mp h2; cases this
        | cons d l =>
          obtain ⟨v', vr', e, h5, h6⟩ := vrl_cons.mp h2
          injection e with e1 e2
          subst e1 e2
          have ih := find_vr (q := q) h4 h6 (by simpa using hl)
          have ek := of_ky h3
          by_cases z : q0 = q
          · subst z
            refine ⟨fun d' e => ⟨v, ?_, ?_⟩, fun e => ?_⟩
            · simp [valV]
            · simp [dFind, ek] at e
              rw [← e]
              exact h5
            · simp [dFind, ek] at e
          · have f1 : dFind (a :: k) (d :: l) q = dFind k l q := by simp [dFind, ek, z]
            have f2 : valV ((q0 :: qs).zip (v :: vs)) q = valV (qs.zip vs) q := by simp [valV, z]
            rw [f1, f2]
            exact ih
theorem dget_of {d e : D} {v w : V} {k l : List D} {q : Key} (r : HR F G H h) (x : VR F G H d v) (y : VR F G H e w) (hd : dicH h d = some (k, l)) (hk : kyD e = some q) : ∃ p, v = .ref p ∧ (∃ kvs, Rd H p (.dK kvs)) ∧ (∀ z, dFind k l q = some z → ∃ u, DGet H p w (some u) ∧ VR F G H z u) ∧ (dFind k l q = none → DGet H p w none) := by
  obtain ⟨p, qs, vs, rfl, hp, hl, h1, h2⟩ := dic_of r x hd
  obtain rfl := ky_of y hk
  obtain ⟨f1, f2⟩ := find_vr (q := q) h1 h2 hl
  refine ⟨p, rfl, ⟨_, hp⟩, fun z e => ?_, fun e => .inl ⟨_, q, hp, rfl, (f2 e).symm⟩⟩
  obtain ⟨u, e1, e2⟩ := f1 z e
  exact ⟨u, .inl ⟨_, q, hp, rfl, e1.symm⟩, e2⟩
theorem dit_of {d : D} {v : V} {k : List (List Key)} {l : List D} (r : HR F G H h) (x : VR F G H d v) (e : ditH h d = some (k, l)) : ∃ (p : Addr) (vs : List V), v = .ref p ∧ Rd H p (.dT (k.zip vs)) ∧ k.length = vs.length ∧ VRL F G H l vs := by
  unfold ditH at e
  split at e
  · rename_i n
    split at e
    · rename_i k' l' q
      injection e with e
      injection e with e1 e2
      subst e1 e2
      obtain ⟨p, e, hp⟩ := vr_ref.mp x
      obtain ⟨p', hp', u, hu, vs, rfl, hl, h2⟩ := r.obj n _ q
      rw [hp] at hp'
      injection hp' with hp'
      subst hp'
      exact ⟨p, vs, e, .inl hu, hl, h2⟩
    · rename_i k' l' q
      injection e with e
      injection e with e1 e2
      subst e1 e2
      obtain ⟨p, e, hp⟩ := vr_ref.mp x
      obtain ⟨p', hp', u, hu, od, vs, rfl, hl, h2⟩ := r.obj n _ q
      rw [hp] at hp'
      injection hp' with hp'
      subst hp'
      exact ⟨p, vs, e, .inr ⟨od, hu⟩, hl, h2⟩
    · cases e
  · cases e
theorem ditU_of {d : D} {v : V} {k : List (List Key)} {l : List D} (r : HR F G H h) (x : VR F G H d v) (e : ditU h d = some (k, l)) : ∃ (p : Addr) (vs : List V), v = .ref p ∧ H p = some (.dT (k.zip vs)) ∧ k.length = vs.length ∧ VRL F G H l vs := by
  unfold ditU at e
  split at e
  · rename_i n
    split at e
    · rename_i k' l' q
      injection e with e
      injection e with e1 e2
      subst e1 e2
      obtain ⟨p, e, hp⟩ := vr_ref.mp x
      obtain ⟨p', hp', u, hu, vs, rfl, hl, h2⟩ := r.obj n _ q
      rw [hp] at hp'
      injection hp' with hp'
      subst hp'
      exact ⟨p, vs, e, hu, hl, h2⟩
    · cases e
  · cases e
theorem ditU_ditH {h : Hs} {d : D} {kl : List (List Key) × List D} (e : ditU h d = some kl) : ditH h d = some kl := by
  unfold ditU at e
  unfold ditH
  split at e
  · split at e
    · rename_i n _ _ q
      rw [q]
      exact e
    · cases e
  · cases e
theorem kys_of : ∀ {l : List D} {xs : List V} {q : List Key}, VRL F G H l xs → kysOf l = some q → xs = q.map kV
  | [], xs, q, x, e => by
    injection e with e
    subst e
    exact vrl_nil.mp x
  | d :: r, xs, q, x, e => by
    obtain ⟨v, vr, rfl, h1, h2⟩ := vrl_cons.mp x
    unfold kysOf at e
    cases a : kyD d with
    | none => rw [a] at e; cases e
    | some k =>
      rw [a] at e
      have e : (kysOf r).map (k :: ·) = some q := e
      cases b : kysOf r with
      | none => rw [b] at e; cases e
      | some ks =>
        rw [b] at e
        injection e with e
        subst e
        rw [ky_of h1 a, kys_of h2 b]
        rfl
theorem kyT_of {d : D} {v : V} {q : List Key} (x : VR F G H d v) (e : kyT d = some q) : ∃ b, v = .ref b ∧ H b = some (.tup (q.map kV)) := by
  unfold kyT at e
  split at e
  · obtain ⟨p, xs, rfl, hs, hl⟩ := vr_tup.mp x
    rw [kys_of hl e] at hs
    exact ⟨p, rfl, hs⟩
  · cases e
theorem findT_vr {q : List Key} : ∀ {k : List (List Key)} {l : List D} {vs : List V}, VRL F G H l vs → k.length = vs.length → (∀ d, dFindT k l q = some d → ∃ v, valV (k.zip vs) q = some v ∧ VR F G H d v) ∧ (dFindT k l q = none → valV (k.zip vs) q = none)
  | [], l, vs, h2, hl => ⟨fun d e => by simp [dFindT] at e, fun _ => by simp [valV]⟩
  | a :: k, l, [], h2, hl => by cases hl
  | a :: k, [], v :: vs, h2, hl => by have := vrl_nil.mp h2; cases this
  | a :: k, d :: l, v :: vs, h2, hl => by
    obtain ⟨v', vr', e, h5, h6⟩ := vrl_cons.mp h2
    injection e with e1 e2
    subst e1 e2
    have ih := findT_vr (q := q) h6 (by simpa using hl)
    by_cases z : a = q
    · subst z
      refine ⟨fun d' e => ⟨v, ?_, ?_⟩, fun e => ?_⟩
      · simp [valV]
      · simp [dFindT] at e
        rw [← e]
        exact h5
      · simp [dFindT] at e
    · have f1 : dFindT (a :: k) (d :: l) q = dFindT k l q := by simp [dFindT, z]
      have f2 : valV ((a :: k).zip (v :: vs)) q = valV (k.zip vs) q := by simp [valV, z]
      rw [f1, f2]
      exact ih
theorem dgetT_of {d e : D} {v w : V} {k : List (List Key)} {l : List D} {q : List Key} (r : HR F G H h) (x : VR F G H d v) (y : VR F G H e w) (hd : ditH h d = some (k, l)) (hk : kyT e = some q) : ∃ p, v = .ref p ∧ (∀ z, dFindT k l q = some z → ∃ u, DGet H p w (some u) ∧ VR F G H z u) ∧ (dFindT k l q = none → DGet H p w none) := by
  obtain ⟨p, vs, rfl, hp, hl, h2⟩ := dit_of r x hd
  obtain ⟨b, rfl, hb⟩ := kyT_of y hk
  obtain ⟨f1, f2⟩ := findT_vr (q := q) h2 hl
  refine ⟨p, rfl, fun z e => ?_, fun e => .inr ⟨_, q, b, hp, rfl, hb, (f2 e).symm⟩⟩
  obtain ⟨u, e1, e2⟩ := f1 z e
  exact ⟨u, .inr ⟨_, q, b, hp, rfl, hb, e1.symm⟩, e2⟩
end
/-! ### data without the store -/
mutual
def D.rv (f : Nat → D) : D → D
  | .ref n => f n
  | .tup l => .tup (rvL f l)
  | .vl l => .vl (rvL f l)
  | .sl l => .sl (rvL f l)
  | .non => .non
  | .bl b => .bl b
  | .int i => .int i
  | .str x => .str x
  | .vd k l => .vd k l
  | .exc c p => .exc c p
def rvL (f : Nat → D) : List D → List D
  | [] => []
  | d :: r => d.rv f :: rvL f r
end
def rf : Nat → Hs → Nat → D
  | 0, _, n => .ref n
  | k + 1, h, n => match h[n]? with
    | some (.lst l) => .vl (rvL (rf k h) l)
    | _ => .ref n
def rsv (h : Hs) (d : D) : D := d.rv (rf 3 h)
mutual
theorem D.rv_bel (f : Nat → D) : ∀ d : D, d.bel 0 = true → d.rv f = d
  | .non, _ => rfl
  | .bl _, _ => rfl
  | .int _, _ => rfl
  | .str _, _ => rfl
  | .exc _ _, _ => rfl
  | .vd _ _, _ => rfl
  | .tup l, b => by unfold D.rv; rw [rvL_bel f l (by simpa [D.bel] using b)]
  | .vl l, b => by unfold D.rv; rw [rvL_bel f l (by simpa [D.bel] using b)]
  | .sl l, b => by unfold D.rv; rw [rvL_bel f l (by simpa [D.bel] using b)]
  | .ref n, b => by simp [D.bel] at b
theorem rvL_bel (f : Nat → D) : ∀ l : List D, belL 0 l = true → rvL f l = l
  | [], _ => rfl
  | d :: r, b => by
    have b' : d.bel 0 = true ∧ belL 0 r = true := by simpa [belL] using b
    unfold rvL
    rw [D.rv_bel f d b'.1, rvL_bel f r b'.2]
end
mutual
def D.py : D → PyData
  | .non => .none
  | .bl b => .bool b
  | .int i => .int i
  | .str x => .str x
  | .tup l => .tuple (pyL l)
  | .vl l => .list (pyL l)
  | .sl l => .list (pyL l)
  | .vd _ _ => .dict []
  | .ref _ => .dict []
  | .exc _ _ => .dict []
def pyL : List D → List PyData
  | [] => []
  | d :: r => d.py :: pyL r
end
section
variable {F : Fr} {G : Gh} {H : Hp} {h : Hs}
mutual
theorem VR.dp (f : Nat → D) (hf : ∀ n v, VR F G H (.ref n) v → (f n).py.canLay0 = true → Dp F.K H v (f n).py) : ∀ (d : D) {v : V}, (d.rv f).py.canLay0 = true → VR F G H d v → Dp F.K H v (d.rv f).py
  | .non, _, _, h => by rw [vr_non.mp h]; exact .non
  | .bl b, _, _, h => by rw [vr_bl.mp h]; exact .bl b
  | .int b, _, _, h => by rw [vr_int.mp h]; exact .int b
  | .str b, _, _, h => by rw [vr_str.mp h]; exact .str b
  | .tup l, _, n, h => by
    obtain ⟨p, xs, rfl, hs, hl⟩ := vr_tupS h
    exact .tup hs (VRL.dp f hf l (by simpa [D.rv, D.py, PyData.canLay0] using n) hl)
  | .vl l, _, n, h => by
    obtain ⟨p, xs, rfl, hs, hl⟩ := vr_vl.mp h
    exact .lst (.inl hs.1) (VRL.dp f hf l (by simpa [D.rv, D.py, PyData.canLay0] using n) hl)
  | .sl l, _, n, h => by
    obtain ⟨p, xs, rfl, hs, hl⟩ := vr_sl.mp h
    refine .lst ?_ (VRL.dp f hf l (by simpa [D.rv, D.py, PyData.canLay0] using n) hl)
    rcases hs with h1 | h1
    · exact .inl h1.1
    · exact .inr h1
  | .ref n, _, c, h => hf n _ h c
  | .vd _ _, _, n, h => by simp [D.rv, D.py, PyData.canLay0] at n
  | .exc _ _, _, n, h => by simp [D.rv, D.py, PyData.canLay0] at n
theorem VRL.dp (f : Nat → D) (hf : ∀ n v, VR F G H (.ref n) v → (f n).py.canLay0 = true → Dp F.K H v (f n).py) : ∀ (l : List D) {xs : List V}, PyData.canLayAll0 (pyL (rvL f l)) = true → VRL F G H l xs → DpAll F.K H xs (pyL (rvL f l))
  | [], _, _, h => by rw [vrl_nil.mp h]; exact .nil
  | d :: r, _, n, h => by
    obtain ⟨v, vr, rfl, h1, h2⟩ := vrl_cons.mp h
    have n' : (d.rv f).py.canLay0 = true ∧ PyData.canLayAll0 (pyL (rvL f r)) = true := by simpa [rvL, pyL, PyData.canLayAll0] using n
    exact .cons (VR.dp f hf d n'.1 h1) (VRL.dp f hf r n'.2 h2)
end
theorem rf_dp (r : HR F G H h) : ∀ (k n : Nat) (v : V), VR F G H (.ref n) v → (rf k h n).py.canLay0 = true → Dp F.K H v (rf k h n).py
  | 0, n, v, x, c => by simp [rf, D.py, PyData.canLay0] at c
  | k + 1, n, v, x, c => by
    unfold rf at c ⊢
    split at c
    · rename_i l e
      obtain ⟨p, xs, rfl, _, hu, hl⟩ := ref_lst r x e
      exact .lst (.inl (.inl hu)) (VRL.dp _ (rf_dp r k) l (by simpa [D.py, PyData.canLay0] using c) hl)
    · simp [D.py, PyData.canLay0] at c
theorem VR.dps (r : HR F G H h) {d : D} {v : V} (c : (rsv h d).py.canLay0 = true) (x : VR F G H d v) : Dp F.K H v (rsv h d).py := VR.dp _ (rf_dp r 3) d c x
end
theorem pyL_map : ∀ l : List D, pyL l = l.map D.py
  | [] => rfl
  | d :: r => by simp [pyL, pyL_map r]
theorem rvL_map (f : Nat → D) : ∀ l : List D, rvL f l = l.map (D.rv f)
  | [] => rfl
  | d :: r => by simp [rvL, rvL_map f r]
def shp (d : D) : Bool := SeqAt.shaped d.py
def eqD (a b : D) : Bool := PyData.eqv a.py b.py
/-- None and numbers -/
def flN : D → Bool
  | .non => true
  | .int _ => true
  | _ => false
def eqN : D → D → Bool
  | .non, .non => true
  | .int i, .int j => decide (i = j)
  | _, _ => false
/-- each key's value stands in the other dict too -/
def dAll (k' l' : List D) (k l : List D) : Bool := (k.zip l).all fun p => match (kyD p.1).bind (dFind k' l') with
  | some d => eqN p.2 d
  | none => false
/-- dicts are equal (None and numbers in them) -/
def dEq (k l k' l' : List D) : Bool := k.length == k'.length && dAll k' l' k l
def dicP (h : Hs) (a b : D) : Option Bool := match dicU h a, dicU h b with
  | some (k, l), some (k', l') => if l.all flN = true ∧ l'.all flN = true ∧ k.length = l.length ∧ k'.length = l'.length then some (dEq k l k' l') else none
  | _, _ => none
def gEq (h : Hs) (a b : D) : Option D := match dicP h a b with
  | some z => some (.bl z)
  | none => if shp (rsv h a) = true ∧ shp (rsv h b) = true then some (.bl (eqD (rsv h a) (rsv h b))) else none
def gNe (h : Hs) (a b : D) : Option D := match dicP h a b with
  | some z => some (.bl (!z))
  | none => if shp (rsv h a) = true ∧ shp (rsv h b) = true then some (.bl (!eqD (rsv h a) (rsv h b))) else none
def inD (a : D) (l : List D) : Bool := l.any fun z => eqD z a
/-- of a list or a tuple -/
def gIn0 (h : Hs) (a b : D) : Option Bool := match rsv h b with
  | .tup l => if shp (rsv h a) = true ∧ shp (rsv h b) = true then some (inD (rsv h a) l) else none
  | .vl l => if shp (rsv h a) = true ∧ shp (rsv h b) = true then some (inD (rsv h a) l) else none
  | _ => none
def gIn (h : Hs) (a b : D) : Option D := match dicH h b with
  | some (k, l) => (kyD a).map fun q => .bl (dFind k l q).isSome
  | none => match ditH h b with
    | some (k, l) => (kyT a).map fun q => .bl (dFindT k l q).isSome
    | none => (gIn0 h a b).map .bl
def gNotIn (h : Hs) (a b : D) : Option D := match dicH h b with
  | some (k, l) => (kyD a).map fun q => .bl (!(dFind k l q).isSome)
  | none => match ditH h b with
    | some (k, l) => (kyT a).map fun q => .bl (!(dFindT k l q).isSome)
    | none => (gIn0 h a b).map fun k => .bl (!k)
def intsOf : List D → Option (List Int)
  | [] => some []
  | .int i :: r => (intsOf r).map (i :: ·)
  | _ :: _ => none
def blsOf : List D → Option (List Bool)
  | [] => some []
  | .bl b :: r => (blsOf r).map (b :: ·)
  | _ :: _ => none
def strsOf : List D → Option (List Str)
  | [] => some []
  | .str b :: r => (strsOf r).map (b :: ·)
  | _ :: _ => none
theorem intsOf_map : ∀ l : List Int, intsOf (l.map .int) = some l
  | [] => rfl
  | i :: r => by show (intsOf (r.map .int)).map (i :: ·) = _; rw [intsOf_map r]; rfl
theorem blsOf_map : ∀ l : List Bool, blsOf (l.map .bl) = some l
  | [] => rfl
  | i :: r => by show (blsOf (r.map .bl)).map (i :: ·) = _; rw [blsOf_map r]; rfl
theorem strsOf_map : ∀ l : List Str, strsOf (l.map .str) = some l
  | [] => rfl
  | i :: r => by show (strsOf (r.map .str)).map (i :: ·) = _; rw [strsOf_map r]; rfl
theorem intsOf_back : ∀ {l : List D} {ns : List Int}, intsOf l = some ns → l = ns.map .int
  | [], ns, e => by injection e with e; subst e; rfl
  | d :: r, ns, e => by
    cases d <;> first | cases e | skip
    rename_i i
    have e : (intsOf r).map (i :: ·) = some ns := e
    cases q : intsOf r with
    | none => rw [q] at e; cases e
    | some ms => rw [q] at e; injection e with e; subst e; rw [intsOf_back q]; rfl
theorem blsOf_back : ∀ {l : List D} {ns : List Bool}, blsOf l = some ns → l = ns.map .bl
  | [], ns, e => by injection e with e; subst e; rfl
  | d :: r, ns, e => by
    cases d <;> first | cases e | skip
    rename_i i
    have e : (blsOf r).map (i :: ·) = some ns := e
    cases q : blsOf r with
    | none => rw [q] at e; cases e
    | some ms => rw [q] at e; injection e with e; subst e; rw [blsOf_back q]; rfl
theorem strsOf_back : ∀ {l : List D} {ns : List Str}, strsOf l = some ns → l = ns.map .str
  | [], ns, e => by injection e with e; subst e; rfl
  | d :: r, ns, e => by
    cases d <;> first | cases e | skip
    rename_i i
    have e : (strsOf r).map (i :: ·) = some ns := e
    cases q : strsOf r with
    | none => rw [q] at e; cases e
    | some ms => rw [q] at e; injection e with e; subst e; rw [strsOf_back q]; rfl
section
variable {F : Fr} {G : Gh} {H : Hp} {h : Hs}
theorem vrl_bls : ∀ {l : List Bool} {xs : List V}, VRL F G H (l.map .bl) xs → xs = l.map V.bl
  | [], xs, h => vrl_nil.mp h
  | i :: r, xs, h => by
    obtain ⟨v, vr, rfl, h1, h2⟩ := vrl_cons.mp h
    rw [vr_bl.mp h1, vrl_bls h2]; rfl
theorem vrl_strs : ∀ {l : List Str} {xs : List V}, VRL F G H (l.map .str) xs → xs = l.map V.str
  | [], xs, h => vrl_nil.mp h
  | i :: r, xs, h => by
    obtain ⟨v, vr, rfl, h1, h2⟩ := vrl_cons.mp h
    rw [vr_str.mp h1, vrl_strs h2]; rfl
end
/-! ### numbers -/
def gAdd (h : Hs) (a b : D) : Option D := match a, b with
  | .int i, .int j => some (.int (i + j))
  | .str a, .str b => if a.length + b.length ≤ 16777216 then some (.str (a ++ b)) else none
  | .tup l, .tup m => if l.length + m.length ≤ 16777216 then some (.tup (l ++ m)) else none
  | a, b => match lstH h a, lstH h b with
    | some l, some m => if l.length + m.length ≤ 16777216 then some (.vl (l ++ m)) else none
    | _, _ => none
def gSub (_ : Hs) (a b : D) : Option D := match a, b with
  | .int i, .int j => some (.int (i - j))
  | _, _ => none
def big : Nat := 2 ^ 8000
def gMul (h : Hs) (a b : D) : Option D := match a, b with
  | .int i, .int j => if i.natAbs < big ∧ j.natAbs < big then some (.int (i * j)) else none
  | .tup l, .int k => if 0 < l.length ∧ 2 ≤ k ∧ k ≤ 1000 ∧ l.length ≤ 1000 then some (.tup (List.replicate k.toNat l).flatten) else none
  | a, .int k => match lstW h a with
    | some l => if k < 2 ^ 63 ∧ -(2 ^ 63) ≤ k ∧ l.length * k.toNat ≤ 16777216 then some (.vl (List.replicate k.toNat l).flatten) else none
    | none => none
  | _, _ => none
def gFdiv (_ : Hs) (a b : D) : Option D := match a, b with
  | .int i, .int j => if 0 < j ∧ j.natAbs < big then some (.int (i / j)) else none
  | _, _ => none
def gMod (_ : Hs) (a b : D) : Option D := match a, b with
  | .int i, .int j => if 0 < j then some (.int (i % j)) else none
  | _, _ => none
def gPow (_ : Hs) (a b : D) : Option D := match a, b with
  | .int i, .int j => if 0 ≤ j ∧ j ≤ 1000000 ∧ i.natAbs < 2 ^ 64 then some (.int (i ^ j.toNat)) else none
  | _, _ => none
def gXor (_ : Hs) (a b : D) : Option D := match a, b with
  | .int i, .int j => some (.int (Builtin.bitXor i j))
  | _, _ => none
def gNeg (_ : Hs) : D → Option D
  | .int i => some (.int (-i))
  | _ => none
def gLt (_ : Hs) (a b : D) : Option D := match a, b with
  | .int i, .int j => some (.bl (decide (i < j)))
  | .tup l, .tup m => match intsOf l, intsOf m with
    | some a, some b => some (.bl (HT.lexLt a b))
    | _, _ => none
  | _, _ => none
def gLe (_ : Hs) (a b : D) : Option D := match a, b with
  | .int i, .int j => some (.bl (decide (i ≤ j)))
  | _, _ => none
def gGt (_ : Hs) (a b : D) : Option D := match a, b with
  | .int i, .int j => some (.bl (decide (j < i)))
  | _, _ => none
def gGe (_ : Hs) (a b : D) : Option D := match a, b with
  | .int i, .int j => some (.bl (decide (j ≤ i)))
  | _, _ => none
/-- is: of truths, or beside None -/
def gIs0 (a b : D) : Option Bool := match a, b with
  | .bl a, .bl b => some (decide (a = b))
  | .non, .non => some true
  | _, .non => some false
  | .int _, .bl _ => none
  | _, _ => none
def gIs (_ : Hs) (a b : D) : Option D := (gIs0 a b).map .bl
def gIsNot (_ : Hs) (a b : D) : Option D := (gIs0 a b).map fun k => .bl (!k)
section
variable {K : PySem.W.Frag}
/-- ys + zs of any lists -/
def rCatL (K : PySem.W.Frag) : R2 := fun x y H Q => ∃ l b xs zs, x = .ref l ∧ y = .ref b ∧ SqL K H l xs ∧ SqL K H b zs ∧ xs.length + zs.length ≤ sizeLine ∧ ∀ p, H p = none → Q (.ref p) (upd H p (.lst (xs ++ zs)))
theorem op_catL {X : Cx} : OpR X (binaryOp .Add) (rCatL X.K) := by
  intro pins s σ H x y v u Q I rx ry h
  obtain ⟨l, b, xs, zs, rfl, rfl, hl, hb, hz, q⟩ := h
  cases rx
  cases ry
  obtain ⟨its, r, ⟨⟨c1, d1, t1, k1⟩, n, e1, e2, e3, e4⟩, _⟩ := I.list hl
  obtain ⟨its2, r2, ⟨⟨c2, d2, t2, k2⟩, n2, g1, g2, g3, g4⟩, _⟩ := I.list hb
  dsimp only at e2 e3 e4 g2 g3 g4
  subst e2 e3 e4 g2 g3 g4
  have hs1 := r.length
  have hs2 := r2.length
  refine PySem.concat_meets ⟨_, e1, rfl⟩ ⟨_, g1, rfl⟩ PySem.noFill_list_add PySem.seq_list_add PySem.F.slot_list_add PySem.F.entry_list_add (PySem.F.args_list_add_2 _ _)
    (PyProof.Rows.list_addW l b its.toArray its2.toArray n n2 none none k1 k2 (by rw [List.size_toArray, List.size_toArray]; omega)) ⟨e1, g1, ?_⟩
  rw [show its.toArray ++ its2.toArray = (its ++ its2).toArray by simp]
  exact ⟨.ref _, _, I.lnew (t' := s.toks) (r.append r2) (by rw [List.length_append]; omega), rfl, q _ I.fresh⟩
/-- xs * k of any list -/
def rRepL : R2 := fun x y H Q => ∃ l k xs, x = .ref l ∧ y = .int k ∧ Rd H l (.lst xs) ∧ -(2 ^ 63) ≤ k ∧ k < 2 ^ 63 ∧ xs.length * k.toNat ≤ sizeLine ∧ ∀ p, H p = none → Q (.ref p) (upd H p (.lst (List.replicate k.toNat xs).flatten))
theorem op_repL {X : Cx} : OpR X (binaryOp .Mult) rRepL := by
  intro pins s σ H x y v u Q I rx ry h
  obtain ⟨l, k, xs, rfl, rfl, hH, h1, h2, hz, q⟩ := h
  cases rx
  obtain ⟨t, rfl⟩ := ry
  obtain ⟨z, its, n, r, e⟩ := hH.ok I.hok
  have hl := r.length
  have hlen : its.toArray.size * k.toNat ≤ sizeLine := by rw [List.size_toArray, ← hl]; exact hz
  have hcap : ¬ its.toArray.size * k.toNat > (2 ^ 63 - 1) / 8 := by
    have : (sizeLine : Nat) ≤ (2 ^ 63 - 1) / 8 := by decide
    omega
  have hfit : ¬ (!Builtin.List.listFitsIndex k) = true := by
    rw [fitsIndex_both h1 h2]
    exact Bool.false_ne_true
  have hlong : ¬ Builtin.List.listTooLong (its.toArray.size * k.toNat) = true := by
    rw [notLongL hlen]
    exact Bool.false_ne_true
  have hnew : List.foldl (fun x1 x2 => x1 ++ x2) #[] (List.replicate (if its.toArray.isEmpty = true then 0 else k.toNat) its.toArray) = (List.replicate k.toNat its).flatten.toArray := by
    have f0 : ∀ m : Nat, List.foldl (fun x1 x2 => x1 ++ x2) #[] (List.replicate m its.toArray) = (List.replicate m its).flatten.toArray := fun m => by
      have := foldl_rep its m []
      rw [List.nil_append] at this
      exact this
    rw [f0]
    cases its with
    | nil => simp
    | cons a r' => rw [if_neg (by simp)]
  refine wpAny_binaryOp_repeat_ref (T := "list") (U := "int") (by decide) ⟨_, e, rfl⟩ (fun s' => typeIs_int s' k t) noFill_list_mul F.fills_int_mul F.slot_int_rmul repeat_list F.slot_int_index.lookup
    (call_meets F.slot_int_rmul (typeIs_int s k t) F.entry_int_rmul (F.args_int_rmul_2 _ _) (int___rmul___int_list k t l its.toArray n)
      ⟨e, rfl, ⟨_, e, rfl⟩, call_meets F.slot_list_mul ⟨_, e, rfl⟩ F.entry_list_mul (F.args_list_mul_2 _ _) (AutoListH.list___mul___list_int_3 l its.toArray n k t hfit hcap hlong) ⟨e, ?_⟩⟩)
  rw [hnew]
  exact ⟨.ref _, _, I.lnew (t' := s.toks) (r.rep k.toNat) (by rw [PyProof.Rows.lm_len_rep_flat, Nat.mul_comm]; exact hz), rfl, q _ I.fresh⟩
/-- in, not in, of a list or a tuple -/
def rInQ (K : PySem.W.Frag) (neg : Bool) : R2 := fun x y H Q => ∃ d ds, Dp K H x d ∧ (Dp K H y (.list ds) ∨ Dp K H y (.tuple ds)) ∧ SeqAt.shaped d = true ∧ SeqAt.shaped (.list ds) = true ∧ Q (.bl (if neg = true then !(ds.any fun z => PyData.eqv z d) else (ds.any fun z => PyData.eqv z d))) H
theorem shaped_lt {ds : List PyData} : SeqAt.shaped (.tuple ds) = SeqAt.shaped (.list ds) := rfl
theorem room_q {d : PyData} {ds : List PyData} {A : Around} (h : SeqAt.shaped d = true) (hu : A.units + 65 < cLine) : A.units + 1 + min (PyData.depthAll ds) d.depth < cLine := by
  have h1 := SeqAt.depth_of_shaped h
  have h2 : min (PyData.depthAll ds) d.depth ≤ d.depth := Nat.min_le_right _ _
  omega
theorem op_inQ {X : Cx} (hu : X.A.units + 65 < cLine) : OpR X (compareOp .In) (rInQ X.K false) := by
  intro pins s σ H x y v u Q I rx ry h
  obtain ⟨d, ds, hd, he, sd, se, q⟩ := h
  obtain ⟨as, r1⟩ := Dp.reads I d x v hd rx
  rcases he with he | he
  · obtain ⟨bs, r2⟩ := Dp.reads I (.list ds) y u he ry
    exact SeqAt.in_list_reads r2 r1 (SeqAt.canLay_of_shaped se) (SeqAt.canLay_of_shaped sd) (room_q sd hu) ⟨.bl _, H, I, rfl, q⟩
  · obtain ⟨bs, r2⟩ := Dp.reads I (.tuple ds) y u he ry
    exact SeqAt.in_tuple_reads r2 r1 (SeqAt.canLay_of_shaped se) (SeqAt.canLay_of_shaped sd) (room_q sd hu) ⟨.bl _, H, I, rfl, q⟩
theorem op_notInQ {X : Cx} (hu : X.A.units + 65 < cLine) : OpR X (compareOp .NotIn) (rInQ X.K true) := by
  intro pins s σ H x y v u Q I rx ry h
  obtain ⟨d, ds, hd, he, sd, se, q⟩ := h
  obtain ⟨as, r1⟩ := Dp.reads I d x v hd rx
  rcases he with he | he
  · obtain ⟨bs, r2⟩ := Dp.reads I (.list ds) y u he ry
    exact SeqAt.notIn_list_reads r2 r1 (SeqAt.canLay_of_shaped se) (SeqAt.canLay_of_shaped sd) (room_q sd hu) ⟨.bl _, H, I, rfl, q⟩
  · obtain ⟨bs, r2⟩ := Dp.reads I (.tuple ds) y u he ry
    exact SeqAt.notIn_tuple_reads r2 r1 (SeqAt.canLay_of_shaped se) (SeqAt.canLay_of_shaped sd) (room_q sd hu) ⟨.bl _, H, I, rfl, q⟩
/-- sum(xs) of a list or a tuple of ints -/
def rSumA (K : PySem.W.Frag) : List V → Hp → VK → Prop := fun vs H Q => ∃ (a : Addr) (ns : List Int), vs = [V.ref a] ∧ (SqL K H a (ns.map V.int) ∨ SqT K H a (ns.map V.int)) ∧ Q (.int ns.sum) H
theorem cr_sumA {X : Cx} (hc : X.calm = true) : CallR X (.builtin "sum") (rSumA X.K) := by
  intro pins s σ H vs us Q I r h
  obtain ⟨a, ns, rfl, hs | hs, q⟩ := h
  · exact cr_sum hc pins s σ H [.ref a] us Q I r ⟨a, ns, rfl, hs, q⟩
  · obtain ⟨its, rv, hl, _⟩ := I.tuple hs
    rw [Vals.ref1 r]
    have hi := rv.ints
    obtain ⟨xs, e⟩ := hi.allInts.items
    have hn : numsOf (intItems xs).toList = ns := by rw [← e]; exact hi.numsOf
    rw [nums_intItems] at hn
    rw [e] at hl
    refine PySem.W.ktm_sumG (I.ok.hd hc) hl fun h' tk t' hk => ⟨.int _, H, I.kept hk, ⟨_, rfl⟩, ?_⟩
    rw [preSum_eq, List.take_of_length_le (by simp), hn]
    exact q
end
def maxL (a : Int) (l : List Int) : Int := l.foldl (fun m x => if x > m then x else m) a
def minL (a : Int) (l : List Int) : Int := l.foldl (fun m x => if x < m then x else m) a
theorem maxL_ok : ∀ (l : List Int) (a : Int), (maxL a l = a ∨ maxL a l ∈ l) ∧ a ≤ maxL a l ∧ ∀ y ∈ l, y ≤ maxL a l
  | [], a => ⟨.inl rfl, Int.le_refl _, fun y h => by cases h⟩
  | x :: r, a => by
    obtain ⟨h1, h2, h3⟩ := maxL_ok r (if x > a then x else a)
    have e : maxL a (x :: r) = maxL (if x > a then x else a) r := rfl
    rw [e]
    refine ⟨?_, ?_, fun y hy => ?_⟩
    · rcases h1 with h1 | h1
      · rw [h1]
        split
        · exact .inr List.mem_cons_self
        · exact .inl rfl
      · exact .inr (List.mem_cons_of_mem _ h1)
    · exact Int.le_trans (by split <;> omega) h2
    · rcases List.mem_cons.mp hy with z | z
      · subst z
        exact Int.le_trans (by split <;> omega) h2
      · exact h3 y z
theorem minL_ok : ∀ (l : List Int) (a : Int), (minL a l = a ∨ minL a l ∈ l) ∧ minL a l ≤ a ∧ ∀ y ∈ l, minL a l ≤ y
  | [], a => ⟨.inl rfl, Int.le_refl _, fun y h => by cases h⟩
  | x :: r, a => by
    obtain ⟨h1, h2, h3⟩ := minL_ok r (if x < a then x else a)
    have e : minL a (x :: r) = minL (if x < a then x else a) r := rfl
    rw [e]
    refine ⟨?_, ?_, fun y hy => ?_⟩
    · rcases h1 with h1 | h1
      · rw [h1]
        split
        · exact .inr List.mem_cons_self
        · exact .inl rfl
      · exact .inr (List.mem_cons_of_mem _ h1)
    · exact Int.le_trans h2 (by split <;> omega)
    · rcases List.mem_cons.mp hy with z | z
      · subst z
        exact Int.le_trans h2 (by split <;> omega)
      · exact h3 y z
theorem max_uniq {a m : Int} {l : List Int} (h : m ∈ a :: l) (k : ∀ y, y ∈ a :: l → y ≤ m) : m = maxL a l := by
  obtain ⟨h1, h2, h3⟩ := maxL_ok l a
  have le1 : maxL a l ≤ m := k _ (h1.elim (fun z => by rw [z]; exact List.mem_cons_self) fun z => List.mem_cons_of_mem _ z)
  have le2 : m ≤ maxL a l := by
    rcases List.mem_cons.mp h with z | z
    · rw [z]; exact h2
    · exact h3 m z
  omega
theorem min_uniq {a m : Int} {l : List Int} (h : m ∈ a :: l) (k : ∀ y, y ∈ a :: l → m ≤ y) : m = minL a l := by
  obtain ⟨h1, h2, h3⟩ := minL_ok l a
  have le1 : m ≤ minL a l := k _ (h1.elim (fun z => by rw [z]; exact List.mem_cons_self) fun z => List.mem_cons_of_mem _ z)
  have le2 : minL a l ≤ m := by
    rcases List.mem_cons.mp h with z | z
    · rw [z]; exact h2
    · exact h3 m z
  omega
section
variable {K : PySem.W.Frag}
def rMaxA (K : PySem.W.Frag) : List V → Hp → VK → Prop := fun vs H Q => (∃ i j, vs = [.int i, .int j] ∧ Q (.int (if j > i then j else i)) H) ∨ ∃ (a : Addr) (i : Int) (ns : List Int), vs = [V.ref a] ∧ SqL K H a ((i :: ns).map V.int) ∧ Q (.int (maxL i ns)) H
def rMinA (K : PySem.W.Frag) : List V → Hp → VK → Prop := fun vs H Q => (∃ i j, vs = [.int i, .int j] ∧ Q (.int (if j < i then j else i)) H) ∨ ∃ (a : Addr) (i : Int) (ns : List Int), vs = [V.ref a] ∧ SqL K H a ((i :: ns).map V.int) ∧ Q (.int (minL i ns)) H
theorem cr_maxA {X : Cx} (hc : X.calm = true) : CallR X (.builtin "max") (rMaxA X.K) := by
  intro pins s σ H vs us Q I r h
  rcases h with h | ⟨a, i, ns, rfl, hs, q⟩
  · exact call_max2 hc pins s σ H vs us Q I r h
  · exact cr_max hc pins s σ H [.ref a] us Q I r ⟨a, i :: ns, rfl, hs, by simp, fun m h1 h2 => by rw [max_uniq h1 h2]; exact q⟩
theorem cr_minA {X : Cx} (hc : X.calm = true) : CallR X (.builtin "min") (rMinA X.K) := by
  intro pins s σ H vs us Q I r h
  rcases h with h | ⟨a, i, ns, rfl, hs, q⟩
  · exact call_min2 hc pins s σ H vs us Q I r h
  · exact cr_min hc pins s σ H [.ref a] us Q I r ⟨a, i :: ns, rfl, hs, by simp, fun m h1 h2 => by rw [min_uniq h1 h2]; exact q⟩
end
section
variable {F : Fr}
theorem ok_add : CallOk F (B2 (fun x y H Q => rI0 (fun i j => .int (i + j)) x y H Q ∨ (∃ i j, x = .str i ∧ y = .str j ∧ i.length + j.length ≤ sizeLine ∧ Q (.str (i ++ j)) H) ∨ rCatA F.K x y H Q ∨ rCatL F.K x y H Q)) (DL (g2 gAdd)) :=
  ok2 fun G H h x y d e z Q eg r r1 r2 k => by
    unfold gAdd at eg
    split at eg
    · injection eg with eg
      subst eg
      obtain rfl := vr_int.mp r1
      obtain rfl := vr_int.mp r2
      exact .inl ⟨_, _, rfl, rfl, k.int r⟩
    · split at eg
      · rename_i hz
        injection eg with eg
        subst eg
        obtain rfl := vr_str.mp r1
        obtain rfl := vr_str.mp r2
        exact .inr (.inl ⟨_, _, rfl, rfl, le_line hz, k.str r⟩)
      · cases eg
    · rename_i l m
      split at eg
      · rename_i hz
        injection eg with eg
        subst eg
        obtain ⟨p, xs, rfl, hs, hl⟩ := vr_tupS r1
        obtain ⟨q, ys, rfl, hs2, hl2⟩ := vr_tupS r2
        refine .inr (.inr (.inl ⟨p, q, xs, ys, rfl, rfl, hs, hs2, by rw [hl.length, hl2.length]; exact le_line hz, fun ex => ?_, fun _ ey => ?_, fun _ _ w hw => k.newT r hw (hl.append hl2)⟩))
        · subst ex
          have hl0 : l = [] := by cases l with
            | nil => rfl
            | cons a b => have := hl.length; simp at this
          subst hl0
          exact k.val r r2
        · subst ey
          have hl0 : m = [] := by cases m with
            | nil => rfl
            | cons a b => have := hl2.length; simp at this
          subst hl0
          rw [List.append_nil] at k
          exact k.val r r1
      · cases eg
    · split at eg
      · rename_i l m q1 q2
        split at eg
        · rename_i hz
          injection eg with eg
          subst eg
          obtain ⟨p, xs, rfl, hs, hl⟩ := list_of r r1 q1
          obtain ⟨q, ys, rfl, hs2, hl2⟩ := list_of r r2 q2
          exact .inr (.inr (.inr ⟨p, q, xs, ys, rfl, rfl, hs, hs2, by rw [hl.length, hl2.length]; exact le_line hz, fun w hw => k.newL r hw (hl.append hl2)⟩))
        · cases eg
      · cases eg
theorem int2 {g : Hs → D → D → Option D} {r : R2} {P : Int → Int → Prop} {f : Int → Int → Int} (hg : ∀ h d e z, g h d e = some z → ∃ i j, d = .int i ∧ e = .int j ∧ P i j ∧ z = .int (f i j)) (hr : ∀ i j H (Q : VK), P i j → Q (.int (f i j)) H → r (.int i) (.int j) H Q) : CallOk F (B2 r) (DL (g2 g)) :=
  ok2 fun G H h x y d e z Q eg rr r1 r2 k => by
    obtain ⟨i, j, rfl, rfl, p, rfl⟩ := hg h d e z eg
    obtain rfl := vr_int.mp r1
    obtain rfl := vr_int.mp r2
    exact hr i j H Q p (k.int rr)
theorem ok_sub : CallOk F (B2 (rI0 fun i j => .int (i - j))) (DL (g2 gSub)) := int2 (P := fun _ _ => True) (f := fun i j => i - j)
  (fun h d e z q => by unfold gSub at q; split at q <;> first | (injection q with q; exact ⟨_, _, rfl, rfl, trivial, q.symm⟩) | cases q) fun i j H Q _ q => ⟨i, j, rfl, rfl, q⟩
theorem ok_fdiv : CallOk F (B2 (rI CDivW fun i j => .int (i / j))) (DL (g2 gFdiv)) := int2 (P := fun i j => 0 < j ∧ j.natAbs < big) (f := fun i j => i / j)
  (fun h d e z q => by
    unfold gFdiv at q
    split at q
    · split at q
      · rename_i hp; injection q with q; exact ⟨_, _, rfl, rfl, hp, q.symm⟩
      · cases q
    · cases q) fun i j H Q p q => ⟨i, j, rfl, rfl, wide_div p.1 (b := 8000) p.2 (by decide) (by decide), q⟩
theorem ok_mod : CallOk F (B2 (rI (fun _ j => 0 < j) fun i j => .int (i % j))) (DL (g2 gMod)) := int2 (P := fun i j => 0 < j) (f := fun i j => i % j)
  (fun h d e z q => by
    unfold gMod at q
    split at q
    · split at q
      · rename_i hp; injection q with q; exact ⟨_, _, rfl, rfl, hp, q.symm⟩
      · cases q
    · cases q) fun i j H Q p q => ⟨i, j, rfl, rfl, p, q⟩
theorem ok_pow : CallOk F (B2 (rI CPow fun i j => .int (i ^ j.toNat))) (DL (g2 gPow)) := int2 (P := CPow) (f := fun i j => i ^ j.toNat)
  (fun h d e z q => by
    unfold gPow at q
    split at q
    · split at q
      · rename_i hp; injection q with q; exact ⟨_, _, rfl, rfl, hp, q.symm⟩
      · cases q
    · cases q) fun i j H Q p q => ⟨i, j, rfl, rfl, p, q⟩
theorem ok_xor : CallOk F (B2 (rI0 fun i j => .int (Builtin.bitXor i j))) (DL (g2 gXor)) := int2 (P := fun _ _ => True) (f := fun i j => Builtin.bitXor i j)
  (fun h d e z q => by unfold gXor at q; split at q <;> first | (injection q with q; exact ⟨_, _, rfl, rfl, trivial, q.symm⟩) | cases q) fun i j H Q _ q => ⟨i, j, rfl, rfl, q⟩
theorem ok_neg : CallOk F (B1 (rU fun i => .int (-i))) (DL (g1 gNeg)) := ok1 fun G H h x d z Q eg r r1 k => by
  unfold gNeg at eg
  split at eg
  · injection eg with eg
    subst eg
    obtain rfl := vr_int.mp r1
    exact ⟨_, rfl, k.int r⟩
  · cases eg
theorem vrl_rep {G : Gh} {H : Hp} {l : List D} {xs : List V} (hl : VRL F G H l xs) : ∀ n : Nat, VRL F G H (List.replicate n l).flatten (List.replicate n xs).flatten
  | 0 => by simpa using vrl_nil.mpr rfl
  | n + 1 => by
    rw [List.replicate_succ, List.replicate_succ, List.flatten_cons, List.flatten_cons]
    exact VRL.append hl (vrl_rep hl n)
theorem ok_mul : CallOk F (B2 (fun x y H Q => rI CMulW (fun i j => .int (i * j)) x y H Q ∨ rRepL x y H Q ∨ rRepT F.K x y H Q)) (DL (g2 gMul)) :=
  ok2 fun G H h x y d e z Q eg r r1 r2 k => by
    unfold gMul at eg
    split at eg
    · split at eg
      · rename_i hp
        injection eg with eg
        subst eg
        obtain rfl := vr_int.mp r1
        obtain rfl := vr_int.mp r2
        exact .inl ⟨_, _, rfl, rfl, wide_mul (a := 8000) (b := 8000) hp.1 hp.2 (by decide) (by decide) (by decide), k.int r⟩
      · cases eg
    · split at eg
      · rename_i l _ hp
        injection eg with eg
        subst eg
        obtain rfl := vr_int.mp r2
        obtain ⟨p, xs, rfl, hs, hl⟩ := vr_tupS r1
        have e := hl.length
        exact .inr (.inr ⟨p, _, xs, rfl, rfl, hs, fun z => by rw [z] at e; simp at e; omega, hp.2.1, hp.2.2.1, by omega, fun w hw => k.newT r hw (vrl_rep hl _)⟩)
      · cases eg
    · split at eg
      · rename_i l q1
        split at eg
        · rename_i hp
          injection eg with eg
          subst eg
          obtain rfl := vr_int.mp r2
          obtain ⟨p, xs, rfl, hs, hl⟩ := list_ofW r r1 q1
          exact .inr (.inl ⟨p, _, xs, rfl, rfl, hs, hp.2.1, hp.1, by rw [hl.length]; exact le_line hp.2.2, fun w hw => k.newL r hw (vrl_rep hl _)⟩)
        · cases eg
      · cases eg
    · cases eg
def allV (ls ks : List (Key × V)) : Bool := ks.all fun p => match valV ls p.1 with
  | some v => eqV p.2 v
  | none => false
theorem hits_any {A : Around} {s : Shared} {kvs : List (Key × V)} {vb : List (Key × Value)} (rb : KV kvs vb) (fb : ∀ k v, valV kvs k = some v → flatV v = true) {ks : List (Key × V)} {va : List (Key × Value)} (ra : KV ks va) :
    (∀ p ∈ ks, flatV p.2 = true) → PySem.W.KeqHits A s vb va (allV kvs ks) := by
  unfold KV at ra
  induction ra with
  | nil => intro _; exact .nil
  | @cons p q ps qs h t ih =>
    intro hp
    obtain ⟨h1, h2⟩ := h
    have f := hp p List.mem_cons_self
    have ih := ih fun p' hm => hp p' (List.mem_cons_of_mem _ hm)
    have rr := rb.val p.1
    obtain ⟨k, v⟩ := q
    have h1' : p.1 = k := h1
    show PySem.W.KeqHits A s vb ((k, v) :: qs) (List.all (p :: ps) _)
    rw [List.all_cons]
    cases hv : valV kvs p.1 with
    | none =>
      rw [hv] at rr
      have e := rr.none_of
      rw [h1'] at e
      exact .miss e
    | some x =>
      rw [hv] at rr
      obtain ⟨y, hy, ry⟩ := rr.some_of
      rw [h1'] at hy
      exact .hit hy (eqAt_V h2 ry f (fb _ _ hv)) ih
def rDicP (f : Bool → Bool) : R2 := fun x y H Q => ∃ a b ks ls, x = .ref a ∧ y = .ref b ∧ H a = some (.dK ks) ∧ H b = some (.dK ls) ∧ (∀ k v, valV ls k = some v → flatV v = true) ∧ (∀ p ∈ ks, flatV p.2 = true) ∧ Q (.bl (f (ks.length == ls.length && allV ls ks))) H
theorem op_eq_dicP {X : Cx} (hu : X.A.units < cLine) : OpR X (compareOp .Eq) (rDicP fun z => z) := by
  intro pins s σ H x y v u Q I rx ry h
  obtain ⟨a, b, ks, ls, rfl, rfl, ea, eb, fb, fa, q⟩ := h
  obtain rfl : v = Value.ref a := rx
  obtain rfl : u = Value.ref b := ry
  obtain ⟨_, ya, va, ra, da⟩ := (show ObjOk X.prog X.w H s.heap a (.dK ks) from I.hok a _ ea)
  obtain ⟨_, yb, vb, rb, db⟩ := (show ObjOk X.prog X.w H s.heap b (.dK ls) from I.hok b _ eb)
  exact PySem.W.keq_eq (knd := mixKind X.prog X.w) (r := allV ls ks) ya yb da db hu (fun _ => hits_any rb fb ra fa) (fin_bl I q (by rw [ra.length, rb.length]))
theorem op_ne_dicP {X : Cx} (hu : X.A.units < cLine) : OpR X (compareOp .NotEq) (rDicP fun z => !z) := by
  intro pins s σ H x y v u Q I rx ry h
  obtain ⟨a, b, ks, ls, rfl, rfl, ea, eb, fb, fa, q⟩ := h
  obtain rfl : v = Value.ref a := rx
  obtain rfl : u = Value.ref b := ry
  obtain ⟨_, ya, va, ra, da⟩ := (show ObjOk X.prog X.w H s.heap a (.dK ks) from I.hok a _ ea)
  obtain ⟨_, yb, vb, rb, db⟩ := (show ObjOk X.prog X.w H s.heap b (.dK ls) from I.hok b _ eb)
  exact PySem.W.keq_ne (knd := mixKind X.prog X.w) (r := allV ls ks) ya yb da db hu (fun _ => hits_any rb fb ra fa) (fin_bl I q (by rw [ra.length, rb.length]))
section
variable {G : Gh} {H : Hp} {h : Hs}
theorem fl_of {d : D} {v : V} (x : VR F G H d v) (f : flN d = true) : flatV v = true := by
  cases d <;> first | (cases f; done) | skip
  · rw [vr_non.mp x]; rfl
  · rw [vr_int.mp x]; rfl
theorem eqN_of {d e : D} {v w : V} (x : VR F G H d v) (y : VR F G H e w) (f : flN d = true) (g : flN e = true) : eqV v w = eqN d e := by
  cases d <;> first | (cases f; done) | skip
  · rw [vr_non.mp x]
    cases e <;> first | (cases g; done) | skip
    · rw [vr_non.mp y]; rfl
    · rw [vr_int.mp y]; rfl
  · rw [vr_int.mp x]
    cases e <;> first | (cases g; done) | skip
    · rw [vr_non.mp y]; rfl
    · rw [vr_int.mp y]
      show (_ == _) = decide _
      rw [Bool.eq_iff_iff]
      simp
theorem dFind_mem {k l : List D} {q : Key} {d : D} (e : dFind k l q = some d) : d ∈ l := by
  unfold dFind at e
  obtain ⟨p, hp, rfl⟩ := Option.map_eq_some_iff.mp e
  exact (List.of_mem_zip (List.mem_of_find?_eq_some hp)).2
theorem dAll_of {k' l' : List D} {qs' : List Key} {vs' : List V} (h1' : VRL F G H k' (qs'.map kV)) (h2' : VRL F G H l' vs') (hl' : qs'.length = vs'.length) (f' : ∀ d ∈ l', flN d = true) :
    ∀ {k l : List D} {qs : List Key} {vs : List V}, VRL F G H k (qs.map kV) → VRL F G H l vs → qs.length = vs.length → (∀ d ∈ l, flN d = true) → (∀ p ∈ qs.zip vs, flatV p.2 = true) ∧ allV (qs'.zip vs') (qs.zip vs) = dAll k' l' k l
  | [], l, qs, vs, h1, h2, hl, f => by
    have : qs = [] := by
      have := vrl_nil.mp h1
      cases qs <;> first | rfl | cases this
    subst this
    exact ⟨fun p hp => by simp at hp, by simp [allV, dAll]⟩
  | a :: k, l, qs, vs, h1, h2, hl, f => by
    obtain ⟨v, vr, e, x, y⟩ := vrl_cons.mp h1
    cases qs with
    | nil => cases e
    | cons q qs =>
      cases vs with
      | nil => cases hl
      | cons w ws =>
        rw [List.map_cons] at e
        injection e with e1 e2
        subst e1 e2
        cases l with
        | nil => have := vrl_nil.mp h2; cases this
        | cons d l =>
          obtain ⟨w', ws', e, x2, y2⟩ := vrl_cons.mp h2
          injection e with e1 e2
          subst e1 e2
          obtain ⟨i1, i2⟩ := dAll_of h1' h2' hl' f' y y2 (by simpa using hl) fun d' hd => f d' (List.mem_cons_of_mem _ hd)
          have fd := f d List.mem_cons_self
          refine ⟨fun p hp => ?_, ?_⟩
          · rw [List.zip_cons_cons] at hp
            rcases List.mem_cons.mp hp with rfl | hp
            · exact fl_of x2 fd
            · exact i1 p hp
          · unfold allV dAll at i2 ⊢
            rw [List.zip_cons_cons, List.zip_cons_cons, List.all_cons, List.all_cons, i2]
            congr 1
            obtain ⟨f1, f2⟩ := find_vr (q := q) h1' h2' hl'
            simp only [of_ky x, Option.bind_some]
            cases hf : dFind k' l' q with
            | none => rw [f2 hf]
            | some d' =>
              obtain ⟨v', e', x'⟩ := f1 d' hf
              rw [e']
              exact eqN_of x2 x' fd (f' d' (dFind_mem hf))
theorem valV_flat {k' l' : List D} {qs' : List Key} {vs' : List V} (h1' : VRL F G H k' (qs'.map kV)) (h2' : VRL F G H l' vs') (hl' : qs'.length = vs'.length) (f' : ∀ d ∈ l', flN d = true) (q : Key) (v : V) (e : valV (qs'.zip vs') q = some v) : flatV v = true := by
  obtain ⟨f1, f2⟩ := find_vr (q := q) h1' h2' hl'
  cases hf : dFind k' l' q with
  | none => rw [f2 hf] at e; cases e
  | some d' =>
    obtain ⟨v', e', x'⟩ := f1 d' hf
    rw [e] at e'
    injection e' with e'
    subst e'
    exact fl_of x' (f' d' (dFind_mem hf))
theorem dicP_core {x y : V} {d e : D} {z : Bool} (f : Bool → Bool) {Q : VK} (r : HR F G H h) (r1 : VR F G H d x) (r2 : VR F G H e y) (eg : dicP h d e = some z) (q : Q (.bl (f z)) H) : rDicP f x y H Q := by
  unfold dicP at eg
  split at eg
  · rename_i k l k' l' ed ee
    split at eg
    · rename_i hh
      injection eg with eg
      obtain ⟨p, qs, vs, rfl, u, hl, h1, h2⟩ := dicU_of r r1 ed
      obtain ⟨p', qs', vs', rfl, u', hl', h1', h2'⟩ := dicU_of r r2 ee
      have fa := List.all_eq_true.mp hh.1
      have fb := List.all_eq_true.mp hh.2.1
      obtain ⟨w1, w2⟩ := dAll_of h1' h2' hl' fb h1 h2 hl fa
      refine ⟨p, p', _, _, rfl, rfl, u, u', fun k v => valV_flat h1' h2' hl' fb k v, w1, ?_⟩
      have n1 : k.length = qs.length := by have := h1.length; simp at this; omega
      have n2 : k'.length = qs'.length := by have := h1'.length; simp at this; omega
      have m1 : (qs.zip vs).length = k.length := by rw [List.length_zip, ← hl, Nat.min_self, n1]
      have m2 : (qs'.zip vs').length = k'.length := by rw [List.length_zip, ← hl', Nat.min_self, n2]
      rw [w2, m1, m2]
      unfold dEq at eg
      rw [eg]
      exact q
    · cases eg
  · cases eg
end
theorem ok_eq : CallOk F (B2 (fun x y H Q => rEqD F.K x y H Q ∨ rDicP (fun z => z) x y H Q)) (DL (g2 gEq)) := ok2 fun G H h x y d e z Q eg r r1 r2 k => by
  unfold gEq at eg
  split at eg
  · rename_i b hb
    injection eg with eg
    subst eg
    exact .inr (dicP_core _ r r1 r2 hb (k.bl r))
  · split at eg
    · rename_i hh
      injection eg with eg
      subst eg
      exact .inl ⟨_, _, VR.dps r (SeqAt.canLay_of_shaped hh.1) r1, VR.dps r (SeqAt.canLay_of_shaped hh.2) r2, hh.1, hh.2, k.bl r⟩
    · cases eg
theorem ok_ne : CallOk F (B2 (fun x y H Q => rNeD F.K x y H Q ∨ rDicP (fun z => !z) x y H Q)) (DL (g2 gNe)) := ok2 fun G H h x y d e z Q eg r r1 r2 k => by
  unfold gNe at eg
  split at eg
  · rename_i b hb
    injection eg with eg
    subst eg
    exact .inr (dicP_core _ r r1 r2 hb (k.bl r))
  · split at eg
    · rename_i hh
      injection eg with eg
      subst eg
      exact .inl ⟨_, _, VR.dps r (SeqAt.canLay_of_shaped hh.1) r1, VR.dps r (SeqAt.canLay_of_shaped hh.2) r2, hh.1, hh.2, k.bl r⟩
    · cases eg
theorem inD_py {a : D} {l : List D} : ((pyL l).any fun z => PyData.eqv z a.py) = inD a l := by
  unfold inD
  rw [pyL_map, List.any_map]
  rfl
theorem in_core {G : Gh} {H : Hp} {h : Hs} {x y : V} {d e : D} {b : Bool} (r : HR F G H h) (r1 : VR F G H d x) (r2 : VR F G H e y) (eg : gIn0 h d e = some b) :
    ∃ ds, Dp F.K H x (rsv h d).py ∧ (Dp F.K H y (.list ds) ∨ Dp F.K H y (.tuple ds)) ∧ SeqAt.shaped (rsv h d).py = true ∧ SeqAt.shaped (.list ds) = true ∧ (ds.any fun z => PyData.eqv z (rsv h d).py) = b := by
  unfold gIn0 at eg
  split at eg
  · rename_i l q
    split at eg
    · rename_i hh
      injection eg with eg
      have k := VR.dps r (SeqAt.canLay_of_shaped hh.2) r2
      have s2 := hh.2
      unfold shp at s2
      rw [q] at k s2
      exact ⟨pyL l, VR.dps r (SeqAt.canLay_of_shaped hh.1) r1, .inr k, hh.1, s2, by rw [inD_py]; exact eg⟩
    · cases eg
  · rename_i l q
    split at eg
    · rename_i hh
      injection eg with eg
      have k := VR.dps r (SeqAt.canLay_of_shaped hh.2) r2
      have s2 := hh.2
      unfold shp at s2
      rw [q] at k s2
      exact ⟨pyL l, VR.dps r (SeqAt.canLay_of_shaped hh.1) r1, .inl k, hh.1, s2, by rw [inD_py]; exact eg⟩
    · cases eg
  · cases eg
def rDIn : R2 := fun y x H Q => ∃ a o, x = .ref a ∧ DGet H a y o ∧ Q (.bl o.isSome) H
def rDNotIn : R2 := fun y x H Q => ∃ a o, x = .ref a ∧ DGet H a y o ∧ Q (.bl (!o.isSome)) H
theorem op_dIn {X : Cx} (hu : X.A.units + 1 < cLine) : OpR X (compareOp .In) rDIn := by
  intro pins s σ H y x v u Q I ry rx h
  obtain ⟨a, o, rfl, g, q⟩ := h
  obtain rfl : u = Value.ref a := rx
  exact d_in hu I g ry fun s' I' => ⟨.bl o.isSome, H, I', rfl, q⟩
theorem op_dNotIn {X : Cx} (hu : X.A.units + 1 < cLine) : OpR X (compareOp .NotIn) rDNotIn := by
  intro pins s σ H y x v u Q I ry rx h
  obtain ⟨a, o, rfl, g, q⟩ := h
  obtain rfl : u = Value.ref a := rx
  exact d_notIn hu I g ry fun s' I' => ⟨.bl (!o.isSome), H, I', rfl, q⟩
theorem ok_in : CallOk F (B2 (fun x y H Q => rInQ F.K false x y H Q ∨ rDIn x y H Q)) (DL (g2 gIn)) := ok2 fun G H h x y d e z Q eg r r1 r2 k => by
  unfold gIn at eg
  split at eg
  · rename_i kk ll hd
    cases hq : kyD d with
    | none => rw [hq] at eg; cases eg
    | some q =>
      rw [hq] at eg
      injection eg with eg
      subst eg
      obtain ⟨p, rfl, _, f1, f2⟩ := dget_of r r2 r1 hd hq
      dsimp only at k
      cases hf : dFind kk ll q with
      | none => rw [hf] at k; exact .inr ⟨p, none, rfl, f2 hf, k.bl r⟩
      | some w =>
        rw [hf] at k
        obtain ⟨u, g1, _⟩ := f1 w hf
        exact .inr ⟨p, some u, rfl, g1, k.bl r⟩
  · split at eg
    · rename_i kk ll hd
      cases hq : kyT d with
      | none => rw [hq] at eg; cases eg
      | some q =>
        rw [hq] at eg
        injection eg with eg
        subst eg
        obtain ⟨p, rfl, f1, f2⟩ := dgetT_of r r2 r1 hd hq
        dsimp only at k
        cases hf : dFindT kk ll q with
        | none => rw [hf] at k; exact .inr ⟨p, none, rfl, f2 hf, k.bl r⟩
        | some w =>
          rw [hf] at k
          obtain ⟨u, g1, _⟩ := f1 w hf
          exact .inr ⟨p, some u, rfl, g1, k.bl r⟩
    · cases q : gIn0 h d e with
      | none => rw [q] at eg; cases eg
      | some b =>
        rw [q] at eg
        injection eg with eg
        subst eg
        obtain ⟨ds, a1, a2, a3, a4, a5⟩ := in_core r r1 r2 q
        exact .inl ⟨_, ds, a1, a2, a3, a4, by rw [if_neg Bool.false_ne_true, a5]; exact k.bl r⟩
theorem ok_notIn : CallOk F (B2 (fun x y H Q => rInQ F.K true x y H Q ∨ rDNotIn x y H Q)) (DL (g2 gNotIn)) := ok2 fun G H h x y d e z Q eg r r1 r2 k => by
  unfold gNotIn at eg
  split at eg
  · rename_i kk ll hd
    cases hq : kyD d with
    | none => rw [hq] at eg; cases eg
    | some q =>
      rw [hq] at eg
      injection eg with eg
      subst eg
      obtain ⟨p, rfl, _, f1, f2⟩ := dget_of r r2 r1 hd hq
      dsimp only at k
      cases hf : dFind kk ll q with
      | none => rw [hf] at k; exact .inr ⟨p, none, rfl, f2 hf, k.bl r⟩
      | some w =>
        rw [hf] at k
        obtain ⟨u, g1, _⟩ := f1 w hf
        exact .inr ⟨p, some u, rfl, g1, k.bl r⟩
  · split at eg
    · rename_i kk ll hd
      cases hq : kyT d with
      | none => rw [hq] at eg; cases eg
      | some q =>
        rw [hq] at eg
        injection eg with eg
        subst eg
        obtain ⟨p, rfl, f1, f2⟩ := dgetT_of r r2 r1 hd hq
        dsimp only at k
        cases hf : dFindT kk ll q with
        | none => rw [hf] at k; exact .inr ⟨p, none, rfl, f2 hf, k.bl r⟩
        | some w =>
          rw [hf] at k
          obtain ⟨u, g1, _⟩ := f1 w hf
          exact .inr ⟨p, some u, rfl, g1, k.bl r⟩
    · cases q : gIn0 h d e with
      | none => rw [q] at eg; cases eg
      | some b =>
        rw [q] at eg
        injection eg with eg
        subst eg
        obtain ⟨ds, a1, a2, a3, a4, a5⟩ := in_core r r1 r2 q
        exact .inl ⟨_, ds, a1, a2, a3, a4, by rw [if_pos rfl, a5]; exact k.bl r⟩
theorem ok_lt : CallOk F (B2 (fun x y H Q => rI0 (fun i j => .bl (decide (i < j))) x y H Q ∨ rLtT F.K x y H Q)) (DL (g2 gLt)) := ok2 fun G H h x y d e z Q eg r r1 r2 k => by
  unfold gLt at eg
  split at eg
  · injection eg with eg
    subst eg
    obtain rfl := vr_int.mp r1
    obtain rfl := vr_int.mp r2
    exact .inl ⟨_, _, rfl, rfl, k.bl r⟩
  · rename_i l m
    split at eg
    · rename_i a b ea eb
      injection eg with eg
      subst eg
      obtain ⟨p, xs, rfl, hs, hl⟩ := vr_tupS r1
      obtain ⟨q, ys, rfl, hs2, hl2⟩ := vr_tupS r2
      rw [intsOf_back ea] at hl
      rw [intsOf_back eb] at hl2
      rw [vrl_ints hl] at hs
      rw [vrl_ints hl2] at hs2
      exact .inr ⟨p, q, a, b, rfl, rfl, hs, hs2, k.bl r⟩
    · cases eg
  · cases eg
theorem intB {g : Hs → D → D → Option D} {f : Int → Int → Bool} (hg : ∀ h d e z, g h d e = some z → ∃ i j, d = .int i ∧ e = .int j ∧ z = .bl (f i j)) : CallOk F (B2 (rI0 fun i j => .bl (f i j))) (DL (g2 g)) :=
  ok2 fun G H h x y d e z Q eg r r1 r2 k => by
    obtain ⟨i, j, rfl, rfl, rfl⟩ := hg h d e z eg
    obtain rfl := vr_int.mp r1
    obtain rfl := vr_int.mp r2
    exact ⟨i, j, rfl, rfl, k.bl r⟩
theorem ok_le : CallOk F (B2 (rI0 fun i j => .bl (decide (i ≤ j)))) (DL (g2 gLe)) := intB fun h d e z q => by unfold gLe at q; split at q <;> first | (injection q with q; exact ⟨_, _, rfl, rfl, q.symm⟩) | cases q
theorem ok_gt : CallOk F (B2 (rI0 fun i j => .bl (decide (j < i)))) (DL (g2 gGt)) := intB fun h d e z q => by unfold gGt at q; split at q <;> first | (injection q with q; exact ⟨_, _, rfl, rfl, q.symm⟩) | cases q
theorem ok_ge : CallOk F (B2 (rI0 fun i j => .bl (decide (j ≤ i)))) (DL (g2 gGe)) := intB fun h d e z q => by unfold gGe at q; split at q <;> first | (injection q with q; exact ⟨_, _, rfl, rfl, q.symm⟩) | cases q
theorem ref_or {G : Gh} {H : Hp} {d : D} {v : V} (x : VR F G H d v) (n1 : d ≠ .non) : v ≠ .non := by
  cases d with
  | non => exact (n1 rfl).elim
  | bl b => rw [vr_bl.mp x]; exact fun z => nomatch z
  | int b => rw [vr_int.mp x]; exact fun z => nomatch z
  | str b => rw [vr_str.mp x]; exact fun z => nomatch z
  | tup l => obtain ⟨p, _, rfl, _⟩ := vr_tupS x; exact fun z => nomatch z
  | vl l => obtain ⟨p, _, rfl, _⟩ := vr_vl.mp x; exact fun z => nomatch z
  | sl l => obtain ⟨p, _, rfl, _⟩ := vr_sl.mp x; exact fun z => nomatch z
  | vd k l => obtain ⟨p, _, _, rfl, _⟩ := vr_vd.mp x; exact fun z => nomatch z
  | ref n => obtain ⟨p, rfl, _⟩ := vr_ref.mp x; exact fun z => nomatch z
  | exc c p => obtain ⟨a, _, rfl, _⟩ := vr_exc.mp x; exact fun z => nomatch z
theorem is_core {G : Gh} {H : Hp} {x y : V} {d e : D} {b : Bool} (eg : gIs0 d e = some b) (r1 : VR F G H d x) (r2 : VR F G H e y) : (∃ a c : Bool, x = .bl a ∧ y = .bl c ∧ b = decide (a = c)) ∨ (y = .non ∧ b = decide (x = .non)) := by
  unfold gIs0 at eg
  split at eg
  · injection eg with eg
    exact .inl ⟨_, _, vr_bl.mp r1, vr_bl.mp r2, eg.symm⟩
  · injection eg with eg
    exact .inr ⟨vr_non.mp r2, by rw [vr_non.mp r1, ← eg]; rfl⟩
  · rename_i n1
    injection eg with eg
    refine .inr ⟨vr_non.mp r2, ?_⟩
    rw [← eg, decide_eq_false (ref_or r1 (fun z => n1 z))]
  · cases eg
  · cases eg
theorem ok_is : CallOk F (B2 (fun x y H Q => rIsB x y H Q ∨ (y = .non ∧ Q (.bl (decide (x = .non))) H))) (DL (g2 gIs)) := ok2 fun G H h x y d e z Q eg r r1 r2 k => by
  unfold gIs at eg
  cases q : gIs0 d e with
  | none => rw [q] at eg; cases eg
  | some b =>
    rw [q] at eg
    injection eg with eg
    subst eg
    rcases is_core q r1 r2 with ⟨a, c, rfl, rfl, rfl⟩ | ⟨rfl, rfl⟩
    · exact .inl ⟨a, c, rfl, rfl, k.bl r⟩
    · exact .inr ⟨rfl, k.bl r⟩
theorem ok_isNot : CallOk F (B2 (fun x y H Q => rNotB x y H Q ∨ (y = .non ∧ Q (.bl (!decide (x = .non))) H))) (DL (g2 gIsNot)) := ok2 fun G H h x y d e z Q eg r r1 r2 k => by
  unfold gIsNot at eg
  cases q : gIs0 d e with
  | none => rw [q] at eg; cases eg
  | some b =>
    rw [q] at eg
    injection eg with eg
    subst eg
    rcases is_core q r1 r2 with ⟨a, c, rfl, rfl, rfl⟩ | ⟨rfl, rfl⟩
    · exact .inl ⟨a, c, rfl, rfl, k.bl r⟩
    · exact .inr ⟨rfl, k.bl r⟩
end
end Gx

namespace Gx
open PySem L2
/-- tuples of whole numbers, in order -/
def ltL : List Int → List Int → Bool
  | _, [] => false
  | [], _ :: _ => true
  | a :: r, b :: q => if a = b then ltL r q else decide (a < b)
def leT (a b : List Int) : Bool := !ltL b a
theorem ltL_irr : ∀ a : List Int, ltL a a = false
  | [] => rfl
  | a :: r => by
    unfold ltL
    rw [if_pos rfl]
    exact ltL_irr r
theorem ltL_asym : ∀ {a b : List Int}, ltL a b = true → ltL b a = false
  | [], [], h => by cases h
  | [], _ :: _, _ => rfl
  | _ :: _, [], h => by cases h
  | a :: r, b :: q, h => by
    unfold ltL at h ⊢
    by_cases z : a = b
    · rw [if_pos z] at h
      rw [if_pos z.symm]
      exact ltL_asym h
    · rw [if_neg z] at h
      rw [if_neg (fun w => z w.symm)]
      have := of_decide_eq_true h
      exact decide_eq_false (by omega)
theorem ltL_tri : ∀ a b : List Int, ltL a b = true ∨ a = b ∨ ltL b a = true
  | [], [] => .inr (.inl rfl)
  | [], _ :: _ => .inl rfl
  | _ :: _, [] => .inr (.inr rfl)
  | a :: r, b :: q => by
    unfold ltL
    by_cases z : a = b
    · subst z
      rw [if_pos rfl, if_pos rfl]
      rcases ltL_tri r q with h | h | h
      · exact .inl h
      · exact .inr (.inl (by rw [h]))
      · exact .inr (.inr h)
    · rw [if_neg z, if_neg (fun w => z w.symm)]
      rcases Int.lt_or_gt_of_ne z with h | h
      · exact .inl (decide_eq_true h)
      · exact .inr (.inr (decide_eq_true h))
theorem ltL_trans : ∀ {a b c : List Int}, ltL a b = true → ltL b c = true → ltL a c = true
  | a, [], c, h1, _ => by cases a <;> cases h1
  | a, b :: q, [], _, h2 => by cases h2
  | [], b :: q, c :: t, _, _ => rfl
  | a :: r, b :: q, c :: t, h1, h2 => by
    unfold ltL at h1 h2 ⊢
    by_cases z1 : a = b
    · subst z1
      rw [if_pos rfl] at h1
      by_cases z2 : a = c
      · rw [if_pos z2] at h2 ⊢
        exact ltL_trans h1 h2
      · rw [if_neg z2] at h2 ⊢
        exact h2
    · rw [if_neg z1] at h1
      have h1 := of_decide_eq_true h1
      by_cases z2 : b = c
      · subst z2
        rw [if_neg z1]
        exact decide_eq_true h1
      · rw [if_neg z2] at h2
        have h2 := of_decide_eq_true h2
        rw [if_neg (by omega)]
        exact decide_eq_true (by omega)
theorem leT_iff {a b : List Int} : leT a b = true ↔ a = b ∨ ltL a b = true := by
  unfold leT
  rw [Bool.not_eq_true']
  constructor
  · intro h
    rcases ltL_tri a b with z | z | z
    · exact .inr z
    · exact .inl z
    · rw [z] at h
      cases h
  · rintro (h | h)
    · rw [h]
      exact ltL_irr b
    · exact ltL_asym h
theorem leT_trans (a b c : List Int) (h1 : leT a b = true) (h2 : leT b c = true) : leT a c = true := by
  rcases leT_iff.mp h1 with z | z
  · rw [z]; exact h2
  · rcases leT_iff.mp h2 with w | w
    · rw [← w]; exact h1
    · exact leT_iff.mpr (.inr (ltL_trans z w))
theorem leT_total (a b : List Int) : (leT a b || leT b a) = true := by
  rcases ltL_tri a b with z | z | z
  · rw [leT_iff.mpr (.inr z)]; rfl
  · rw [leT_iff.mpr (.inl z)]; rfl
  · rw [leT_iff.mpr (.inr z), Bool.or_true]
open PySem.W PyProof.Rows in
theorem dataLt_ints : ∀ a b : List Int, dataLt (.tuple (a.map .int)) (.tuple (b.map .int)) = ltL a b := by
  have key : ∀ a b : List Int, lexLt itemOrd (keyToksAll (a.map PyData.int)) (keyToksAll (b.map PyData.int)) = ltL a b := by
    intro a
    induction a with
    | nil =>
      intro b
      cases b with
      | nil => exact lex_irrefl _
      | cons b q => exact (lex_diff (O := itemOrd) (by simp)).trans (show itemOrd.blt (.inl 0) (.inl 1) = true by decide)
    | cons a r ih =>
      intro b
      cases b with
      | nil => exact (lex_diff (O := itemOrd) (by simp)).trans (show itemOrd.blt (.inl 1) (.inl 0) = false by decide)
      | cons b q =>
        rw [List.map_cons, List.map_cons, dataLt_cons (by simp [alike]), ih q, dataLt_int]
        simp only [PyData.eqv, beq_iff_eq]
        rfl
  intro a b
  rw [dataLt_tuple]
  exact key a b
/-- sorted(xs), xs a list of tuples of whole numbers, of any length each, but none empty -/
def rSortG (K : PySem.W.Frag) : List V → Hp → VK → Prop := fun vs H Q => ∃ (a : Addr) (bs : List (V × List Int)), vs = [V.ref a] ∧ SqL K H a (bs.map (·.1)) ∧ (∀ b ∈ bs, TupI K H b.1 b.2 ∧ b.2 ≠ []) ∧ ∀ p, H p = none → Q (.ref p) (upd H p (.lst ((bs.mergeSort fun a b => leT a.2 b.2).map (·.1))))
section
variable {X : Cx}
open PySem.W PyProof.Rows in
theorem cr_sortG (hu : X.A.units + 3 < cLine) : CallR X (.builtin "sorted") (rSortG X.K) := by
  intro pins s σ H vs us Q I r h
  obtain ⟨a, bs, rfl, hs, hx, q⟩ := h
  obtain ⟨its, rv, hl, hz⟩ := I.list hs
  rw [Vals.ref1 r]
  obtain ⟨e1, e2⟩ := bkV_refs rv fun x m => by
    obtain ⟨b, hb, rfl⟩ := List.mem_map.mp m
    obtain ⟨⟨t, e, _⟩, _⟩ := hx b hb
    exact ⟨t, e⟩
  have each : ∀ (us : List Value) (cs : List (V × List Int)), cs.map (·.1) = us.map bkV → EachIs (fun v (b : V × List Int) => bkV v = b.1 ∧ v ∈ us ∧ b ∈ cs) us cs := by
    intro us
    induction us with
    | nil =>
      intro cs e
      cases cs with
      | nil => exact .nil
      | cons c cs => cases e
    | cons u us ih =>
      intro cs e
      cases cs with
      | nil => cases e
      | cons c cs =>
        injection e with e1 e2
        exact .cons ⟨e1.symm, List.mem_cons_self, List.mem_cons_self⟩ ((ih cs e2).mono fun v b h => ⟨h.1, List.mem_cons_of_mem _ h.2.1, List.mem_cons_of_mem _ h.2.2⟩)
  have er := each its bs e1
  have rd : ∀ v, ∀ b ∈ bs, bkV v = b.1 → v ∈ its → Reads s.heap v (.tuple (b.2.map .int)) [] := fun v b hb e hv => by
    obtain ⟨t, rfl⟩ := e2 v hv
    obtain ⟨⟨t', e', ht⟩, -⟩ := hx b hb
    have et : t = t' := by
      rw [e'] at e
      have := bkV_ref e
      injection this with this
    subst et
    obtain ⟨t2, xs, e3, ⟨o, ho, hc, n, hd⟩, hi⟩ := tupI_raw I ht
    cases e3
    exact .tuple ho hc hd (IntsAre.reads _ hi)
  have len : bs.length = its.length := by
    have := congrArg List.length e1
    rwa [List.length_map, List.length_map] at this
  refine sorted_data (bs := bs) (enc := fun b => .tuple (b.2.map .int)) hl.isList er (er.mono fun v b h => ⟨[], rd v b h.2.2 h.1 h.2.1⟩) (AllAlike.of fun b b' => ?_) (.inl fun d hd => ?_) ?_ (fun b hb => ?_) fun out hn ho => ?_
  · show alike (.tuple _) (.tuple _) = true
    rw [alike, alike_ints]
  · obtain ⟨b, hb, rfl⟩ := List.mem_map.mp hd
    obtain ⟨-, ne⟩ := hx b hb
    cases q : b.2 with
    | nil => exact (ne q).elim
    | cons x r => exact ⟨.int x, r.map .int, by simp [q]⟩
  · rw [len, ← rv.length]
    exact hz
  · show X.A.units + 2 + (PyData.depth (.tuple _)) < cLine
    rw [PyData.depth, depth_ints]
    omega
  · have el : dataLe false (fun (b : V × List Int) => PyData.tuple (b.2.map .int)) = fun a b => leT a.2 b.2 := by
      rw [dataLe_eq]
      funext a b
      show (!dataLt (.tuple (b.2.map .int)) (.tuple (a.2.map .int))) = leT a.2 b.2
      rw [dataLt_ints]
      rfl
    rw [el] at ho
    have eo : ∀ {us : List Value} {cs : List (V × List Int)}, EachIs (fun v (b : V × List Int) => bkV v = b.1 ∧ v ∈ its ∧ b ∈ bs) us cs → us.map bkV = cs.map (·.1) ∧ ∀ u ∈ us, ∃ a, u = Value.ref a := by
      intro us cs x
      induction x with
      | nil => exact ⟨rfl, fun u hu => by cases hu⟩
      | cons h1 _ ih =>
        refine ⟨by rw [List.map_cons, List.map_cons, h1.1, ih.1], fun u hu => ?_⟩
        rcases List.mem_cons.mp hu with z | z
        · rw [z]
          exact e2 _ h1.2.1
        · exact ih.2 u z
    obtain ⟨o1, o2⟩ := eo ho
    obtain ⟨ep, he'⟩ := PyProof.Rows.sortedAll_at s.heap its (List.toArray out)
    have hlen : (out.map bkV).length ≤ sizeLine := by
      rw [List.length_map, hn, len, ← rv.length]
      exact hz
    refine ⟨.ref _, upd H (s.heap.objs.size + 1) (.lst (out.map bkV)), I.laid (t' := s.toks) (fun _ _ => PyProof.Rows.sortedAll_old) (Nat.le_succ _) ⟨hlen, out, ep, bkV_vals o2, he'⟩, rfl, ?_⟩
    rw [o1]
    exact q _ (I.hok.fresh (Nat.le_succ _))
end
end Gx
namespace Gx
open PySem L2
section
variable {X : Cx}
theorem keysI {ns : List Int} : (ns.map (Sum.inl : Int → Key)).map kV = ns.map V.int := by
  rw [List.map_map]
  rfl
theorem zip_keys {H : Hp} : ∀ {kvs : List (List Key × V)} {as : List Addr}, IsKeys H kvs as → ∀ {L : List (List Int)}, kvs.map (·.1) = L.map (·.map Sum.inl) → (as.zip L).map (·.1) = as ∧ (as.zip L).map (·.2) = L ∧ ∀ b ∈ as.zip L, H b.1 = some (.tup (b.2.map V.int)) := by
  intro kvs as p
  unfold IsKeys at p
  induction p with
  | nil =>
    intro L e
    cases L with
    | nil => exact ⟨rfl, rfl, fun b hb => by cases hb⟩
    | cons a r => cases e
  | cons h _ ih =>
    intro L e
    cases L with
    | nil => cases e
    | cons a r =>
      injection e with e1 e2
      obtain ⟨i1, i2, i3⟩ := ih e2
      refine ⟨by rw [List.zip_cons_cons, List.map_cons, i1], by rw [List.zip_cons_cons, List.map_cons, i2], fun b hb => ?_⟩
      rcases List.mem_cons.mp hb with z | z
      · rw [z]
        have e1 := e1
        dsimp only at e1
        rw [e1, keysI] at h
        exact h
      · exact i3 b z
theorem each_refs {R : Value → (Addr × List Int) → Prop} : ∀ bs : List (Addr × List Int), (∀ b ∈ bs, R (.ref b.1) b) → PySem.W.EachIs R (bs.map fun b => Value.ref b.1) bs
  | [], _ => .nil
  | b :: r, h => .cons (h b List.mem_cons_self) (each_refs r fun b hb => h b (List.mem_cons_of_mem _ hb))
theorem refs_each {R : Addr × List Int → Prop} {us : List Value} {bs : List (Addr × List Int)} (h : PySem.W.EachIs (fun v (b : Addr × List Int) => v = Value.ref b.1 ∧ R b) us bs) : us = bs.map fun b => Value.ref b.1 := by
  induction h with
  | nil => rfl
  | cons h _ ih => rw [List.map_cons, ← ih, h.1]
open PySem.W PyProof.Rows in
/-- sorted(d) of a dict whose keys are tuples of whole numbers -/
theorem cr_sortDT (hc : X.calm = true) (hu : X.A.units + 5 < cLine) : CallR X (.builtin "sorted") (fun xs H Q => ∃ (a : Addr) (kvs : List (List Key × V)) (L : List (List Int)), xs = [.ref a] ∧ Rd H a (.dT kvs) ∧ kvs.map (·.1) = L.map (·.map Sum.inl) ∧ (∀ ns ∈ L, ns ≠ []) ∧
    ∀ (p : Addr) (bs : List (Addr × List Int)), H p = none → bs.map (·.2) = L → (∀ b ∈ bs, H b.1 = some (.tup (b.2.map V.int))) → Q (.ref p) (upd H p (.lst ((bs.mergeSort fun a b => leT a.2 b.2).map fun b => V.ref b.1)))) := by
  intro pins s σ H xs us Q I r h
  obtain ⟨d, kvs, L, rfl, hd, hL, hne, q⟩ := h
  obtain ⟨u, rfl, rx⟩ := r.one
  cases rx
  obtain ⟨z, hs, ks, pr, o, es, ep, ho, hx, hdt, he, hn⟩ := (show ObjOk X.prog X.w H s.heap d (.dT kvs) from hd.ok I.hok)
  have l1 : es.size = ks.length := size_of_entries he
  have l2 : kvs.length = ks.length := Paired.length pr
  have l3 : kvs.length = L.length := by
    have e := congrArg List.length hL
    rwa [List.length_map, List.length_map] at e
  refine Calls.call_function_entry PyProof.Rows.kind_sorted PyProof.Rows.plain_sorted PyProof.Rows.entry_sorted (PyProof.Rows.args_sorted1 _) ?_
  unfold Builtin.«sorted»
  refine wpAny_bind (m := checkCount "sorted" 1 1 _) (wpAny_pure ?_)
  refine wpAny_bind (PySem.W.kdu_collect (A := X.A.in1) (kdl_raw hs hx hdt) (I.ok.hd hc) ho (by omega) fun h' tk acc kp it => ?_)
  have ea : acc.toList = ks.map fun x => Value.ref x.2.1 := by
    have hl : acc.toList.length = ks.length := by rw [Array.length_toList, it.1]; exact l1
    apply List.ext_getElem?
    intro j
    rw [List.getElem?_map]
    cases hj : acc.toList[j]? with
    | none =>
      have h1 := List.getElem?_eq_none_iff.mp hj
      rw [List.getElem?_eq_none (by omega)]
      all_goals rfl
    | some v =>
      obtain ⟨en, hen, hv⟩ := it.2 j v (by rw [← Array.getElem?_toList]; exact hj)
      have qe := entry_at he j
      rw [hen] at qe
      cases hb : ks[j]? with
      | none =>
        rw [hb] at qe
        exact nomatch (show some en = none from qe)
      | some b =>
        rw [hb] at qe
        have e2 : en = entryOfKey (tupleKind (mixKind X.prog X.w)) b := Option.some.inj qe
        rw [hv, e2]
        all_goals rfl
  have ik := isKeys_of pr
  have I1 : Inv X pins σ H { s with heap := h', toks := tk } := I.kept kp
  obtain ⟨b1, b2, b3⟩ := zip_keys ik hL
  generalize (ks.map fun x => x.2.1).zip L = bs at b1 b2 b3
  have eb : acc.toList = bs.map fun b => Value.ref b.1 := by
    rw [ea]
    have := congrArg (fun l : List Addr => l.map Value.ref) b1
    simp only [List.map_map] at this
    exact this.symm
  have lb : bs.length = ks.length := by
    have := congrArg List.length b1
    rwa [List.length_map, List.length_map] at this
  refine wpAny_bind (wpAny_newList ?_ (by rw [eb, List.length_map]; omega))
  have hoL : (h'.push (seqObj "list" acc.toList.toArray 0)).get? h'.objs.size = some (seqObj "list" acc.toList.toArray 0) := Heap.get?_push_size _ rfl
  have old : ∀ b o, h'.get? b = some o → (sortingHeap (h'.push (seqObj "list" acc.toList.toArray 0)) h'.objs.size acc.toList).get? b = some o := fun b o e => sortingHeap_old (Nat.ne_of_lt (Heap.lt_size e)) (Heap.get?_push_of_some _ e)
  have rd : ∀ b ∈ bs, Reads (sortingHeap (h'.push (seqObj "list" acc.toList.toArray 0)) h'.objs.size acc.toList) (.ref b.1) (.tuple (b.2.map .int)) [] := fun b hb => by
    obtain ⟨t2, xs, e3, ⟨o, ho, hc, n, hd⟩, hi⟩ := tupI_raw I1 (t := b.1) (SqT.of (b3 b hb))
    cases e3
    exact .tuple (old _ _ ho) hc hd (IntsAre.reads _ hi)
  have hal : AllAlike (bs.map fun b => PyData.tuple (b.2.map .int)) := AllAlike.of fun b b' => by
    show alike (.tuple _) (.tuple _) = true
    rw [alike, alike_ints]
  have er := each_refs (R := fun v b => ∃ as, Reads (sortingHeap (h'.push (seqObj "list" acc.toList.toArray 0)) h'.objs.size acc.toList) v (.tuple (b.2.map .int)) as) bs fun b hb => ⟨[], rd b hb⟩
  have ee := each_refs (R := fun v b => v = Value.ref b.1 ∧ True) bs fun b hb => ⟨rfl, trivial⟩
  have so := sortVals_data (enc := fun b : Addr × List Int => PyData.tuple (b.2.map .int)) false ee er hal
  have el : dataLe false (fun (b : Addr × List Int) => PyData.tuple (b.2.map .int)) = fun a b => leT a.2 b.2 := by
    rw [dataLe_eq]
    funext a b
    show (!dataLt (.tuple (b.2.map .int)) (.tuple (a.2.map .int))) = leT a.2 b.2
    rw [dataLt_ints]
    rfl
  rw [el] at so
  have so := refs_each so
  rw [← eb] at so er
  show wpAny _ _ _ _ _ { s with heap := h'.push (seqObj "list" acc.toList.toArray 0), toks := tk }
  refine wpAny_bind (wpAny_holding (wpAny_call_entry PyProof.Rows.slot_list_sort ⟨_, hoL, rfl⟩ PyProof.Rows.entry_list_sort
    (list_sort_vals (s := { s with heap := h'.push (seqObj "list" acc.toList.toArray 0), toks := tk }) hoL (SortsAt.data (s := { s with heap := sortingHeap (h'.push (seqObj "list" acc.toList.toArray 0)) h'.objs.size acc.toList, toks := tk }) (each_map (R := fun v d => ∃ as, Reads (sortingHeap (h'.push (seqObj "list" acc.toList.toArray 0)) h'.objs.size acc.toList) v d as) _ er) hal (.inl fun d hd => ?_) fun d hd => ?_) (by rw [eb, List.length_map]; omega) ⟨_, rfl, ?_⟩)
    (PyProof.Rows.args_list_sort _)))
  · obtain ⟨b, hb, rfl⟩ := List.mem_map.mp hd
    have ne := hne b.2 (by rw [← b2]; exact List.mem_map.mpr ⟨b, hb, rfl⟩)
    cases q : b.2 with
    | nil => exact (ne q).elim
    | cons x r => exact ⟨.int x, r.map .int, by simp [q]⟩
  · obtain ⟨b, hb, rfl⟩ := List.mem_map.mp hd
    show X.A.units + 2 + (PyData.depth (.tuple _)) < cLine
    rw [PyData.depth, depth_ints]
    omega
  · obtain ⟨e', he'⟩ := PyProof.Rows.sortedHeap_at (vs := acc.toList) (out := (sortVals (dataKind (sortingHeap (h'.push (seqObj "list" acc.toList.toArray 0)) h'.objs.size acc.toList) (bs.map fun b => PyData.tuple (b.2.map .int))) false acc.toList acc.toList).toArray) hoL
    rw [so] at he' ⊢
    have hlen : ((bs.mergeSort fun a b => leT a.2 b.2).map fun b => V.ref b.1).length ≤ sizeLine := by
      rw [List.length_map, List.length_mergeSort]
      omega
    have vs := vals_refs ((bs.mergeSort fun a b => leT a.2 b.2).map fun b => b.1)
    rw [List.map_map, List.map_map] at vs
    refine wpAny_pure ⟨_, rfl, .ref h'.objs.size, upd H h'.objs.size (.lst ((bs.mergeSort fun a b => leT a.2 b.2).map fun b => V.ref b.1)), I1.laid (t' := tk) (fun b u e => ?_) (Nat.le_refl _)
      (show ObjOk X.prog X.w _ _ _ (.lst ((bs.mergeSort fun a b => leT a.2 b.2).map fun b => V.ref b.1)) from ⟨hlen, _, e', vs, he'⟩), rfl, q _ bs (I1.hok.fresh (Nat.le_refl _)) b2 b3⟩
    have hb : b < h'.objs.size := Heap.lt_size e
    rw [PyProof.Rows.sortedHeap_old (Nat.ne_of_lt hb) (by rw [size_push']; exact Nat.lt_succ_of_lt hb)]
    exact Heap.get?_push_of_some _ e
end
end Gx

/-! G7: displays, subscripts, slices, built-ins, isinstance, lists changed. -/
namespace HT
open PySem PySem.Spec PyProof.Rows
section
variable {prog : Program} {w : World} {A : Around} {E : Value → Shared → Prop} {s : Shared}
theorem adjust_rev (n : Nat) : Builtin.Slice.sliceAdjust none none (-1) (n : Int) = ((n : Int) - 1, -1) := by
  unfold Builtin.Slice.sliceAdjust
  simp
theorem places_rev (n : Nat) : Builtin.Slice.slicePlaces ((n : Int) - 1) (-1) (-1) = n := by
  unfold Builtin.Slice.slicePlaces
  have h1 : ¬ ((-1 : Int) > 0) := by omega
  rw [if_neg h1]
  by_cases h : (n : Int) - 1 > -1
  · rw [if_pos h, show (-(-1 : Int)) = 1 by decide, Int.ediv_one]
    omega
  · rw [if_neg h]
    omega
theorem sliceApplied_rev {sl : Addr} {vs : Value} {n : Nat} {Q : Int × Int × Nat → Shared → Prop} (hs : s.heap.IsSliceOf sl .none .none vs) (ps : IsPart vs (some (-1)))
    (h : Q ((n : Int) - 1, -1, n) s) : wpAny (model prog w) A (Builtin.Slice.sliceApplied (.ref sl) (pure (n : Int))) Q E s := by
  obtain ⟨os, hos, hcs, hds⟩ := id hs
  unfold Builtin.Slice.sliceApplied Builtin.Slice.sliceFields
  refine wpAny_bind (wpAny_bind (wpAny_field hos hds (x := .none) rfl (wpAny_bind (wpAny_field hos hds (x := .none) rfl (wpAny_bind (wpAny_field hos hds (x := vs) rfl (wpAny_pure ?_)))))))
  refine wpAny_bind (slicePart_ ps ?_)
  show wpAny _ _ (if ((-1 : Int) == 0) = true then _ else _) _ _ s
  rw [if_neg (by decide)]
  refine wpAny_bind (slicePart_none (wpAny_bind (slicePart_none (wpAny_bind (wpAny_pure ?_)))))
  show wpAny _ _ (match Builtin.Slice.sliceAdjust none none (-1) (n : Int) with | (lo, hi) => pure (lo, (-1 : Int), Builtin.Slice.slicePlaces lo hi (-1))) _ _ s
  rw [adjust_rev n]
  show wpAny _ _ (pure ((n : Int) - 1, (-1 : Int), Builtin.Slice.slicePlaces ((n : Int) - 1) (-1) (-1))) _ _ s
  rw [places_rev]
  exact wpAny_pure h
theorem fm_congr {α β : Type} {f g : α → Option β} : ∀ {l : List α}, (∀ a ∈ l, f a = g a) → l.filterMap f = l.filterMap g
  | [], _ => rfl
  | a :: r, h => by
    rw [List.filterMap_cons, List.filterMap_cons, h a List.mem_cons_self, fm_congr fun b hb => h b (List.mem_cons_of_mem _ hb)]
theorem pick_rev (xs : Array Value) : ((List.range xs.size).filterMap fun (m : Nat) => xs[((xs.size : Int) - 1 + (m : Int) * (-1)).toNat]?).toArray = xs.toList.reverse.toArray := by
  have e : (List.range xs.size).filterMap (fun (m : Nat) => xs[((xs.size : Int) - 1 + (m : Int) * (-1)).toNat]?) = xs.toList.reverse := by
    have e1 : ∀ m ∈ List.range xs.size, xs[((xs.size : Int) - 1 + (m : Int) * (-1)).toNat]? = some ((xs.toList.reverse)[m]?.getD .none) := fun m hm => by
      have hm := List.mem_range.mp hm
      have : ((xs.size : Int) - 1 + (m : Int) * (-1)).toNat = xs.size - 1 - m := by omega
      rw [this, Array.getElem?_eq_getElem (by omega), List.getElem?_reverse (by simpa using hm)]
      simp [List.getElem?_eq_getElem (show xs.size - 1 - m < xs.toList.length by simp; omega)]
    rw [fm_congr e1]
    refine List.ext_getElem (by simp) fun i h1 h2 => ?_
    simp at h1 h2
    simp [h2]
  rw [e]
theorem getItem_tuple_rev {t sl : Addr} {items : Array Value} {vs : Value} {Q : Value → Shared → Prop} (ht : IsTup s.heap t items) (hs : s.heap.IsSliceOf sl .none .none vs) (ps : IsPart vs (some (-1)))
    (h : Q (.ref s.heap.objs.size) { s with heap := s.heap.push { cls := .type "tuple", data := .seq items.toList.reverse.toArray } })
    (hsz : items.size ≤ sizeLine) : wpAny (model prog w) A (getItem (.ref t) (.ref sl)) Q E s := by
  have htake : sizeOk (.seq items.toList.reverse.toArray) := by
    show items.toList.reverse.toArray.size ≤ sizeLine
    rw [List.size_toArray, List.length_reverse, Array.length_toList]
    exact hsz
  obtain ⟨os, hos, hcs, hds⟩ := id hs
  have hTs : s.TypeIs (.ref sl) "slice" := ⟨os, hos, hcs⟩
  unfold getItem
  try with_reducible refine wpAny_holding ?_
  first | refine wpAny_bind (wpAny_pure ?_) | skip
  refine wpAny_bind (wpAny_sequenceKey ht.typeIs (by decide) ?_)
  refine wpAny_bind (wpAny_callSpecial?_slot (name := Str.ofString "__getitem__") ht.typeIs PyProof.Rows.slot_tuple_getitem
    (wpAny_call_entry PyProof.Rows.slot_tuple_getitem ht.typeIs entry_tuple_getitem ?_ (args_tuple_getitem _ _)))
  show wpAny _ _ (Builtin.Tuple.tupleItemsOf (.ref t) >>= _) _ _ s
  refine wpAny_bind (tupleItemsOf_ ht ?_)
  refine wpAny_bind (wpAny_typeOf hTs ?_)
  rw [if_pos (by decide)]
  refine wpAny_bind (sliceApplied_rev hs ps ?_)
  have hno : ¬ ((((items.size : Int) - 1) == 0 && (-1 : Int) == 1 && items.size == items.size) = true) := by
    intro q
    rw [Bool.and_eq_true, Bool.and_eq_true] at q
    have q1 : (-1 : Int) = 1 := eq_of_beq q.1.2
    omega
  show wpAny _ _ (if (((items.size : Int) - 1) == 0 && (-1 : Int) == 1 && items.size == items.size) = true then _ else _) _ _ s
  rw [if_neg hno, pick_rev]
  first
    | exact wpAny_bind (m := Builtin.Tuple.tupleExact _) (wpAny_newObj_type (wpAny_pure ⟨_, rfl, wpAny_pure h⟩) htake)
    | exact wpAny_bind (m := Builtin.Tuple.tupleExact _) (wpAny_newObj_type (wpAny_bind (wpAny_pure (wpAny_pure ⟨_, rfl, wpAny_pure h⟩))) htake)
    | exact wpAny_bind (wpAny_bind (m := Builtin.Tuple.tupleExact _) (wpAny_newObj_type (wpAny_pure (wpAny_pure ⟨_, rfl, wpAny_pure h⟩)) htake))
    | exact wpAny_bind (wpAny_bind (m := Builtin.Tuple.tupleExact _) (wpAny_newObj_type (wpAny_pure ⟨_, rfl, wpAny_pure h⟩) htake))
end
end HT
namespace L2
open PySem PySem.Spec PyProof.Rows
/-- e[::-1], a list or a tuple -/
def tRevLT (K : PySem.W.Frag) (te : TE) : TE := fun σ H Q => te σ H fun x H1 => (∃ a xs, x = .ref a ∧ SqL K H1 a xs ∧ ∀ p, H1 p = none → Q (.ref p) (upd H1 p (.lst xs.reverse))) ∨ ∃ a xs, x = .ref a ∧ SqT K H1 a xs ∧ ∀ p, H1 p = none → Q (.ref p) (upd H1 p (.tup xs.reverse))
theorem pe_revLT {X : Cx} {e : Expr} {te : TE} {k : Nat} {p1 p2 p3 pos : Pos} (he : PE X e te) : PE X (.Subscript e (.Slice none none (some (.UnaryOp .USub (.Constant (.int 1) k p1) p2)) p3) pos) (tRevLT X.K te) := by
  refine ⟨fun pins s σ H Q I h => ?_⟩
  refine Subscript_ (thn (he.run pins s σ H _ I h) fun v s1 ⟨x, H1, I1, r1, q1⟩ => ?_)
  have hst : PO X (some (.UnaryOp .USub (.Constant (.int 1) k p1) p2)) (tPart (tUn (rU fun i => .int (-i)) (tC (.int 1)))) := po_some (pe_un un_neg pe_int)
  refine wpAny_Slice (thn (po_none.run pins s1 σ H1 (fun o H2 => o = none ∧ H2 = H1) I1 ⟨rfl, rfl⟩) fun vl s2 ⟨l, H2, I2, pl, el, e2⟩ => ?_)
  subst el e2
  refine thn (po_none.run pins s2 σ H2 (fun o H3 => o = none ∧ H3 = H2) I2 ⟨rfl, rfl⟩) fun vu s3 ⟨u, H3, I3, pu, eu, e3⟩ => ?_
  subst eu e3
  refine thn (hst.run pins s3 σ H3 (fun o H4 => o = some (-1) ∧ H4 = H3) I3 ⟨1, rfl, -1, rfl, rfl, rfl⟩) fun vs s4 ⟨o, H4, I4, ps, eo, e4⟩ => ?_
  subst eo e4
  have I5 : Inv X pins σ H4 { s4 with heap := s4.heap.push { cls := .type "slice", data := .fields #[vl, vu, vs] } } := I4.kept (t' := s4.toks) fun b ob q => Heap.get?_push_of_some _ q
  rcases q1 with ⟨a, xs, ex, hx, q⟩ | ⟨a, xs, ex, hx, q⟩
  · subst ex
    cases r1
    obtain ⟨its, r, ht, hz⟩ := I5.list hx
    have hlen := r.length
    show wpAny (model X.prog X.w) X.A (subscriptTail e (.Slice none none (some (.UnaryOp .USub (.Constant (.int 1) k p1) p2)) p3) (.ref a) (.ref s4.heap.objs.size)) (EP X pins σ Q) X.xe { s4 with heap := s4.heap.push { cls := .type "slice", data := .fields #[vl, vu, vs] } }
    refine tail_any (ops := [.ref a, .ref s4.heap.objs.size]) ht.isList.typeIs (PySem.slot_list_getitem.lookup) ?_ (by with_unfolding_all rfl)
    refine wpAny_getItem_list_slice ht.isList (Heap.IsSliceOf.new _ vl vu vs) pl pu ps (by decide) ?_ (by rw [List.size_toArray]; omega)
    rw [PySem.W.krv_pick]
    refine ⟨.ref _, _, I5.laid (t' := s4.toks) (o := .lst xs.reverse) (fun b ob q => Heap.get?_push_of_some _ q) (Nat.le_refl _) ?_, rfl, q _ (I5.hok.fresh (Nat.le_refl _))⟩
    exact ⟨by rw [List.length_reverse]; exact hz, _, 0, r.reverse, Heap.get?_push_size _ rfl⟩
  · subst ex
    cases r1
    obtain ⟨its, r, ht, hz⟩ := I5.tuple hx
    have hlen := r.length
    cases pl
    cases pu
    show wpAny (model X.prog X.w) X.A (subscriptTail e (.Slice none none (some (.UnaryOp .USub (.Constant (.int 1) k p1) p2)) p3) (.ref a) (.ref s4.heap.objs.size)) (EP X pins σ Q) X.xe { s4 with heap := s4.heap.push { cls := .type "slice", data := .fields #[.none, .none, vs] } }
    refine tail_any (ops := [.ref a, .ref s4.heap.objs.size]) ht.typeIs (PyProof.Rows.slot_tuple_getitem.lookup) ?_ (by with_unfolding_all rfl)
    refine HT.getItem_tuple_rev ht (Heap.IsSliceOf.new _ .none .none vs) ps ?_ (by rw [List.size_toArray]; omega)
    refine ⟨.ref _, _, I5.laid (t' := s4.toks) (o := .tup xs.reverse) (fun b ob q => Heap.get?_push_of_some _ q) (Nat.le_refl _) ?_, rfl, q _ (I5.hok.fresh (Nat.le_refl _))⟩
    exact ⟨by rw [List.length_reverse]; exact hz, _, r.reverse, IsTup.new _ _⟩
def rIxG : R2 := fun x y H Q => ∃ a v, x = .ref a ∧ DGet H a y (some v) ∧ Q v H
theorem ix_dget {X : Cx} (hu : X.A.units + 1 < cLine) : IxR X rIxG := by
  intro value slice pins s σ H x y v u Q I rx ry h hs
  obtain ⟨p, r, rfl, g, q⟩ := h
  obtain rfl : v = Value.ref p := rx
  exact tail_any (dict_typeIs I g) PySem.F.slot_dict_getitem.lookup (d_getItem hu I g ry fun w' s' I' r' => ⟨r, H, I', r', q⟩) hs
end L2
namespace Gx
open PySem L2
def gTup (_ : Hs) (l : List D) : Option D := if l.length ≤ 16777216 then some (.tup l) else none
def mkL (m : Bool) (l : List D) (h : Hs) : R D := if l.length ≤ 16777216 then newL m l h else .stk
/-- t[i], xs[i], d[k] -/
def gIx (h : Hs) (a b : D) : Option D := match a, b with
  | .tup l, .int i => atI l i
  | .str z, .int i => if z.length ≤ 16777216 then (atI z.cps.toList i).map fun c => .str ⟨#[c]⟩ else none
  | a, b => match dicH h a with
    | some (k, l) => (kyD b).bind fun q => dFind k l q
    | none => match ditH h a with
      | some (k, l) => (kyT b).bind fun q => dFindT k l q
      | none => match b with
        | .int i => (lstH h a).bind fun l => atI l i
        | _ => none
def cutD (l : List D) (lo hi : Option Int) : List D := (l.drop (HT.sIx l.length 0 lo)).take (HT.sIx l.length l.length hi - HT.sIx l.length 0 lo)
def slG (m : Bool) (lo hi : Option Int) (d : D) (h : Hs) : R D := match d with
  | .tup l => .ok (.tup (cutD l lo hi)) h
  | d => match lstH h d with
    | some l => newL m (cutD l lo hi) h
    | none => .stk
def revG (m : Bool) (d : D) (h : Hs) : R D := match d with
  | .tup l => .ok (.tup l.reverse) h
  | d => match lstH h d with
    | some l => newL m l.reverse h
    | none => .stk
section
variable {X : Cx} {F : Fr} {W : WX} {G G' G1 G2 : Gh} {H H' H1 H2 : Hp} {σ : L2.St} {s : SD} {h h1 h2 h' : Hs}
/-- a new list, as a value or as an object -/
theorem newL_go {m : Bool} {l : List D} {Q : VK} {xs : List V} {p : Addr} {z : D} (e : newL m l h = .ok z h') (k : KO F G H h' z Q) (r : HR F G H h) (hp : H p = none) (hl : VRL F G H l xs) : Q (.ref p) (upd H p (.lst xs)) := by
  cases m with
  | false =>
    injection e with e1 e2
    subst e1 e2
    exact k.newL r hp hl
  | true =>
    injection e with e1 e2
    subst e1 e2
    exact KO.newO (o := .lst l) k r hp ⟨xs, rfl, hl⟩
theorem newL_nrs {m : Bool} {l : List D} {h : Hs} {c p h'} : newL m l h ≠ .rs c p h' := by cases m <;> exact fun z => nomatch z
theorem ok_tup : CallOk F (fun vs H Q => vs.length ≤ sizeLine ∧ ∀ p, H p = none → Q (.ref p) (upd H p (.tup vs))) (DL gTup) := okL fun G H h vs ds z Q e r rl k => by
  unfold gTup at e
  split at e
  · rename_i hh
    injection e with e
    subst e
    exact ⟨by rw [rl.length]; exact le_line hh, fun p hp => k.newT r hp rl⟩
  · cases e
theorem ok_lst (m : Bool) : CallOk F (fun vs H Q => vs.length ≤ sizeLine ∧ ∀ p, H p = none → Q (.ref p) (upd H p (.lst vs))) (mkL m) := by
  intro G H h vs ds z h' Q r rl e k
  unfold mkL at e
  split at e
  · rename_i hh
    exact ⟨by rw [rl.length]; exact le_line hh, fun p hp => newL_go e k r hp rl⟩
  · cases e
theorem mkL_nrs {m : Bool} : NoRs (mkL m) := fun ds h c p h' e => by
  unfold mkL at e
  split at e
  · exact newL_nrs e
  · cases e
theorem se_tup {es : List Expr} {fs : SD → Hs → R (List D)} {k : Nat} {pos : Pos} (hh : SA X F W es fs) : SE X F W (.Tuple es k pos) (fun s h => (fs s h).bind (DL gTup)) := by
  refine PE.imp (pe_tup hh) fun σ H Q ⟨G, h, s, t, o⟩ => ?_
  exact part t o fun ds vs h2 G2 H2 T t2 x o => call_go ok_tup nrsL t2.hr x o
theorem se_lst (m : Bool) {es : List Expr} {fs : SD → Hs → R (List D)} {pos : Pos} (hh : SA X F W es fs) : SE X F W (.List es pos) (fun s h => (fs s h).bind (mkL m)) := by
  refine PE.imp (pe_lst hh) fun σ H Q ⟨G, h, s, t, o⟩ => ?_
  exact part t o fun ds vs h2 G2 H2 T t2 x o => call_go (ok_lst m) mkL_nrs t2.hr x o
theorem atI_vr {l : List D} {xs : List V} {i : Int} {d : D} (hl : VRL F G H l xs) (e : atI l i = some d) : ∃ v, atI xs i = some v ∧ VR F G H d v := by
  unfold atI at e ⊢
  rw [hl.length]
  cases q : ixN l.length i with
  | none => rw [q] at e; cases e
  | some j =>
    rw [q] at e
    exact VRL.get hl e
theorem ok_ix : CallOk F (B2 (fun x y H Q => (rIxL F.K x y H Q ∨ rIxT F.K x y H Q ∨ rIxS x y H Q) ∨ rIxG x y H Q)) (DL (g2 gIx)) := ok2 fun G H h x y d e z Q eg r r1 r2 k => by
  unfold gIx at eg
  split at eg
  · obtain rfl := vr_int.mp r2
    obtain ⟨p, xs, rfl, hs, hl⟩ := vr_tupS r1
    obtain ⟨v, q1, q2⟩ := atI_vr hl eg
    exact .inl (.inr (.inl ⟨p, xs, _, v, rfl, rfl, hs, q1, k.val r q2⟩))
  · rename_i w i
    obtain rfl := vr_int.mp r2
    obtain rfl := vr_str.mp r1
    split at eg
    · rename_i hz
      cases q : atI w.cps.toList i with
      | none => rw [q] at eg; cases eg
      | some c =>
        rw [q] at eg
        injection eg with eg
        subst eg
        exact .inl (.inr (.inr ⟨w, i, c, rfl, rfl, le_line hz, q, k.str r⟩))
    · cases eg
  · split at eg
    · rename_i kk ll hd
      cases hq : kyD e with
      | none => rw [hq] at eg; cases eg
      | some q =>
        rw [hq] at eg
        obtain ⟨p, rfl, _, f1, _⟩ := dget_of r r1 r2 hd hq
        obtain ⟨u, g1, g2⟩ := f1 _ eg
        exact .inr ⟨p, u, rfl, g1, k.val r g2⟩
    · split at eg
      · rename_i kk ll hd
        cases hq : kyT e with
        | none => rw [hq] at eg; cases eg
        | some q =>
          rw [hq] at eg
          obtain ⟨p, rfl, f1, _⟩ := dgetT_of r r1 r2 hd hq
          obtain ⟨u, g1, g2⟩ := f1 _ eg
          exact .inr ⟨p, u, rfl, g1, k.val r g2⟩
      · split at eg
        · obtain rfl := vr_int.mp r2
          cases q : lstH h d with
          | none => rw [q] at eg; cases eg
          | some l =>
            rw [q] at eg
            obtain ⟨p, xs, rfl, hs, hl⟩ := list_of r r1 q
            obtain ⟨v, q1, q2⟩ := atI_vr hl eg
            exact .inl (.inl ⟨p, xs, _, v, rfl, rfl, hs, q1, k.val r q2⟩)
        · cases eg
theorem se_ix {a b : Expr} {fa fb : SD → Hs → R D} {pos : Pos} (hu : X.A.units + 1 < cLine) (hK : X.K = F.K) (hs : PlainIx b) (ha : SE X F W a fa) (hb : SE X F W b fb) : SE X F W (.Subscript a b pos) (bin2 gIx fa fb) :=
  se_bin (fun ta tb h1 h2 => by have := pe_ix (X := X) (ix_seq.or (ix_dget hu)) h1 h2 hs (pos := pos); rw [hK] at this; exact this) ok_ix ha hb
theorem vrl_cut {l : List D} {xs : List V} {lo hi : Option Int} (hl : VRL F G H l xs) : VRL F G H (cutD l lo hi) (cutV xs lo hi) := by
  unfold cutV cutD
  rw [hl.length]
  exact (hl.drop _).take _
def slR (m : Bool) (x : R D) (lo hi : Hs → R (Option Int)) : R D := x.bind fun d h1 => (lo h1).bind fun i h2 => (hi h2).bind fun j h3 => slG m i j d h3
theorem se_slice (m : Bool) {e : Expr} {lo hi : Option Expr} {fe : SD → Hs → R D} {fl fh : SD → Hs → R (Option Int)} {p2 pos : Pos} (hK : X.K = F.K) (he : SE X F W e fe) (hl : SO X F W lo fl) (hh : SO X F W hi fh) : SE X F W (.Subscript e (.Slice lo hi none p2) pos) (fun s h => slR m (fe s h) (fl s) (fh s)) := by
  refine PE.imp (pe_slice (sl_list.or sl_tupA) he hl hh) fun σ H Q ⟨G, h, s, t, o⟩ => ?_
  refine part t o fun d x h1 G1 H1 T1 t1 vx o1 => ?_
  refine part t1 o1 fun i i' h2 G2 H2 T2 t2 ei o2 => ?_
  obtain rfl : i = i' := ei
  refine part t2 o2 fun j j' h3 G3 H3 T3 t3 ej o3 => ?_
  clear o o1 o2
  obtain rfl : j = j' := ej
  replace vx := VR.step (T2.trans T3) t1.hr.aB d vx
  rw [hK]
  have o := o3
  clear o3
  unfold slG at o
  split at o
  · rename_i l
    obtain ⟨p, xs, rfl, hs, hl⟩ := vr_tupS vx
    refine .inr ⟨p, xs, rfl, hs, fun w => ?_, fun _ q hq => KO.newT o t3.hr hq (vrl_cut hl)⟩
    rw [hl.length] at w
    have : cutD l i j = l := by unfold cutD; rw [w.1, w.2]; simp
    rw [this] at o
    exact KO.val o t3.hr vx
  · split at o
    · rename_i l ql
      obtain ⟨p, xs, rfl, hs, hl⟩ := list_of t3.hr vx ql
      refine .inl ⟨p, xs, rfl, hs, fun q hq => ?_⟩
      cases e : newL m (cutD l i j) h3 with
      | ok z h' => rw [e] at o; exact newL_go e o t3.hr hq (vrl_cut hl)
      | rs c p h' => exact (newL_nrs e).elim
      | stk => rw [e] at o; exact o.elim
    · exact o.elim
theorem se_rev (m : Bool) {e : Expr} {fe : SD → Hs → R D} {k : Nat} {p1 p2 p3 pos : Pos} (hK : X.K = F.K) (he : SE X F W e fe) : SE X F W (.Subscript e (.Slice none none (some (.UnaryOp .USub (.Constant (.int 1) k p1) p2)) p3) pos) (fun s h => (fe s h).bind (revG m)) := by
  refine PE.imp (pe_revLT he) fun σ H Q ⟨G, h, s, t, o⟩ => ?_
  refine part t o fun d x h1 G1 H1 T1 t1 vx o => ?_
  unfold revG at o
  split at o
  · rename_i l
    obtain ⟨p, xs, rfl, hs, hl⟩ := vr_tupS vx
    rw [hK]
    exact .inr ⟨p, xs, rfl, hs, fun q hq => KO.newT o t1.hr hq hl.reverse⟩
  · split at o
    · rename_i l ql
      obtain ⟨p, xs, rfl, hs, hl⟩ := list_of t1.hr vx ql
      rw [hK]
      refine .inl ⟨p, xs, rfl, hs, fun q hq => ?_⟩
      cases e : newL m l.reverse h1 with
      | ok z h' => rw [e] at o; exact newL_go e o t1.hr hq hl.reverse
      | rs c p h' => exact (newL_nrs e).elim
      | stk => rw [e] at o; exact o.elim
    · exact o.elim
/-! ### built-ins -/
def gLen (h : Hs) (ds : List D) : Option D := match ds with
  | [.tup l] => some (.int (l.length : Nat))
  | [.str z] => if z.length ≤ 16777216 then some (.int (z.length : Nat)) else none
  | [d] => match dicH h d with
    | some (k, _) => some (.int (k.length : Nat))
    | none => match ditU h d with
      | some (k, _) => some (.int (k.length : Nat))
      | none => (lstH h d).map fun l => .int (l.length : Nat)
  | _ => none
/-- the items of a list or a tuple -/
def seqH (h : Hs) (d : D) : Option (List D) := match d with
  | .tup l => some l
  | d => lstH h d
def gSum (h : Hs) (ds : List D) : Option D := match ds with
  | [d] => (seqH h d).bind fun l => (intsOf l).map fun ns => .int ns.sum
  | _ => none
def gAll (h : Hs) (ds : List D) : Option D := match ds with
  | [d] => (lstH h d).bind fun l => (blsOf l).map fun bs => .bl (bs.all id)
  | _ => none
def gAny (h : Hs) (ds : List D) : Option D := match ds with
  | [d] => (lstH h d).bind fun l => (blsOf l).map fun bs => .bl (bs.any id)
  | _ => none
def gTupleF (h : Hs) (ds : List D) : Option D := match ds with
  | [d] => (seqH h d).map .tup
  | _ => none
def gListF (m : Bool) (ds : List D) (h : Hs) : R D := match ds with
  | [d] => match seqH h d with
    | some l => newL m l h
    | none => .stk
  | _ => .stk
def gAbs (_ : Hs) (ds : List D) : Option D := match ds with
  | [.int i] => some (.int (if i < 0 then -i else i))
  | _ => none
def gMax (h : Hs) (ds : List D) : Option D := match ds with
  | [.int i, .int j] => some (.int (if j > i then j else i))
  | [d] => match (lstH h d).bind intsOf with
    | some (a :: r) => some (.int (maxL a r))
    | _ => none
  | _ => none
def gMin (h : Hs) (ds : List D) : Option D := match ds with
  | [.int i, .int j] => some (.int (if j < i then j else i))
  | [d] => match (lstH h d).bind intsOf with
    | some (a :: r) => some (.int (minL a r))
    | _ => none
  | _ => none
def sortI (l : List Int) : List Int := l.mergeSort (fun a b => decide (a ≤ b))
/-- tuples of whole numbers -/
def tupsOf : List D → Option (List (List Int))
  | [] => some []
  | .tup l :: r => (intsOf l).bind fun a => (tupsOf r).map (a :: ·)
  | _ :: _ => none
def tupD (ns : List Int) : D := .tup (ns.map .int)
def sortT (L : List (List Int)) : List (List Int) := L.mergeSort leT
/-- none empty, not too many -/
def okT (L : List (List Int)) : Prop := L.length ≤ 16777216 ∧ ∀ a ∈ L, a ≠ []
/-- keys that are tuples of whole numbers -/
def intsK : List Key → Option (List Int)
  | [] => some []
  | .inl i :: r => (intsK r).map (i :: ·)
  | .inr _ :: _ => none
def intsKs : List (List Key) → Option (List (List Int))
  | [] => some []
  | k :: r => (intsK k).bind fun a => (intsKs r).map (a :: ·)
theorem intsK_back : ∀ {k : List Key} {ns : List Int}, intsK k = some ns → k = ns.map Sum.inl
  | [], ns, e => by injection e with e; subst e; rfl
  | .inl i :: r, ns, e => by
    have e : (intsK r).map (i :: ·) = some ns := e
    cases q : intsK r with
    | none => rw [q] at e; cases e
    | some a =>
      rw [q] at e
      injection e with e
      subst e
      rw [intsK_back q]
      rfl
  | .inr _ :: _, ns, e => by cases e
theorem intsKs_back : ∀ {k : List (List Key)} {L : List (List Int)}, intsKs k = some L → k = L.map (·.map Sum.inl)
  | [], L, e => by injection e with e; subst e; rfl
  | a :: r, L, e => by
    unfold intsKs at e
    cases q : intsK a with
    | none => rw [q] at e; cases e
    | some ns =>
      rw [q] at e
      have e : (intsKs r).map (ns :: ·) = some L := e
      cases q2 : intsKs r with
      | none => rw [q2] at e; cases e
      | some M =>
        rw [q2] at e
        injection e with e
        subst e
        rw [intsK_back q, intsKs_back q2]
        rfl
theorem intsK_map : ∀ ns : List Int, intsK (ns.map Sum.inl) = some ns
  | [] => rfl
  | i :: r => by show (intsK (r.map Sum.inl)).map (i :: ·) = _; rw [intsK_map r]; rfl
theorem intsKs_map : ∀ L : List (List Int), intsKs (L.map (·.map Sum.inl)) = some L
  | [] => rfl
  | a :: r => by rw [List.map_cons, intsKs, intsK_map, intsKs_map r]; rfl
open Classical in
noncomputable def gSort (m : Bool) (ds : List D) (h : Hs) : R D := match ds with
  | [d] => match (lstH h d).bind intsOf with
    | some ns => newL m ((sortI ns).map .int) h
    | none => match (lstH h d).bind tupsOf with
      | some L => if okT L then newL m ((sortT L).map tupD) h else .stk
      | none => match ditU h d with
        | some kl => match intsKs kl.1 with
          | some L => if okT L then newL m ((sortT L).map tupD) h else .stk
          | none => .stk
        | none => .stk
  | _ => .stk
theorem sort_uniq {l m : List Int} (p : l.Perm m) (hl : l.Pairwise (· ≤ ·)) (hm : m.Pairwise (· ≤ ·)) : l = m :=
  List.Perm.eq_of_pairwise (fun a b _ _ h1 h2 => by omega) hl hm p
theorem sortI_perm (l : List Int) : (sortI l).Perm l := List.mergeSort_perm l _
theorem sortI_le (l : List Int) : (sortI l).Pairwise (· ≤ ·) := by
  have := List.pairwise_mergeSort (le := fun a b : Int => decide (a ≤ b)) (fun a b c h1 h2 => by simp at *; omega) (fun a b => by simp; omega) l
  exact this.imp fun h => by simpa using h
theorem seq_of {d : D} {v : V} {l : List D} (r : HR F G H h) (x : VR F G H d v) (e : seqH h d = some l) : ∃ p xs, v = .ref p ∧ VRL F G H l xs ∧ ((SqT F.K H p xs ∧ d = .tup l) ∨ SqL F.K H p xs) := by
  unfold seqH at e
  split at e
  · injection e with e
    subst e
    obtain ⟨p, xs, rfl, hs, hl⟩ := vr_tupS x
    exact ⟨p, xs, rfl, hl, .inl ⟨hs, rfl⟩⟩
  · obtain ⟨p, xs, rfl, hs, hl⟩ := list_of r x e
    exact ⟨p, xs, rfl, hl, .inr hs⟩
def rLenA (K : PySem.W.Frag) : List V → Hp → VK → Prop := fun xs H Q => ((∃ x n, xs = [x] ∧ LenV K x H n ∧ Q (.int (n : Nat)) H) ∨ ∃ a kvs, xs = [V.ref a] ∧ Rd H a (.dK kvs) ∧ Q (.int (kvs.length : Nat)) H) ∨ rLenT xs H Q
theorem call_lenA : CallR X (.builtin "len") (rLenA X.K) := by
  intro pins s σ H xs us Q I r h
  rcases h with (h | ⟨a, kvs, rfl, ha, q⟩) | h
  rotate_left 2
  · exact call_len_dT pins s σ H xs us Q I r h
  · exact call_len pins s σ H xs us Q I r h
  · obtain ⟨u, rfl, ru⟩ := vals1 r
    cases ru
    exact d_len I ha fun t s' I' => ⟨.int kvs.length, H, I', ⟨t, rfl⟩, q⟩
theorem ok_len : CallOk F (rLenA F.K) (DL gLen) := okL fun G H h vs ds z Q e r rl k => by
  unfold gLen at e
  split at e
  · rename_i l
    injection e with e
    subst e
    obtain ⟨x, rfl, r1⟩ := vrl_onev rl
    obtain ⟨p, xs, rfl, hs, hl⟩ := vr_tupS r1
    exact .inl (.inl ⟨.ref p, l.length, rfl, .inr ⟨xs, hs, hl.length.symm⟩, k.int r⟩)
  · rename_i w
    split at e
    · rename_i hz
      injection e with e
      subst e
      obtain ⟨x, rfl, r1⟩ := vrl_onev rl
      obtain rfl := vr_str.mp r1
      exact .inl (.inl ⟨.str w, w.length, rfl, ⟨le_line hz, rfl⟩, k.int r⟩)
    · cases e
  · rename_i d _ _
    split at e
    · rename_i kk ll q
      injection e with e
      subst e
      obtain ⟨x, rfl, r1⟩ := vrl_onev rl
      obtain ⟨p, qs, vs, rfl, hp, hl, h1, h2⟩ := dic_of r r1 q
      refine .inl (.inr ⟨p, _, rfl, hp, ?_⟩)
      have e1 := h1.length
      rw [List.length_map] at e1
      have e2 : (qs.zip vs).length = kk.length := by rw [List.length_zip]; omega
      rw [e2]
      exact k.int r
    · split at e
      · rename_i kk ll q
        injection e with e
        subst e
        obtain ⟨x, rfl, r1⟩ := vrl_onev rl
        obtain ⟨p, vs, rfl, hp, hl, h2⟩ := ditU_of r r1 q
        refine .inr ⟨p, _, rfl, hp, ?_⟩
        have e2 : (kk.zip vs).length = kk.length := by rw [List.length_zip]; omega
        rw [e2]
        exact k.int r
      · cases q : lstH h d with
        | none => rw [q] at e; cases e
        | some l =>
          rw [q] at e
          injection e with e
          subst e
          obtain ⟨x, rfl, r1⟩ := vrl_onev rl
          obtain ⟨p, xs, rfl, hs, hl⟩ := list_of r r1 q
          exact .inl (.inl ⟨.ref p, l.length, rfl, .inl ⟨xs, hs, hl.length.symm⟩, k.int r⟩)
  · cases e
theorem ok_sum : CallOk F (rSumA F.K) (DL gSum) := okL fun G H h vs ds z Q e r rl k => by
  unfold gSum at e
  split at e
  · rename_i d
    cases q : seqH h d with
    | none => rw [q] at e; cases e
    | some l =>
      rw [q] at e
      have e : (intsOf l).map (fun ns => D.int ns.sum) = some z := e
      cases q2 : intsOf l with
      | none => rw [q2] at e; cases e
      | some ns =>
        rw [q2] at e
        injection e with e
        subst e
        obtain ⟨x, rfl, r1⟩ := vrl_onev rl
        obtain ⟨p, xs, rfl, hl, hs⟩ := seq_of r r1 q
        rw [intsOf_back q2] at hl
        rw [vrl_ints hl] at hs
        exact ⟨p, ns, rfl, hs.symm.imp id fun z => z.1, k.int r⟩
  · cases e
theorem ok_all : CallOk F (rAll F.K) (DL gAll) := okL fun G H h vs ds z Q e r rl k => by
  unfold gAll at e
  split at e
  · rename_i d
    cases q : lstH h d with
    | none => rw [q] at e; cases e
    | some l =>
      rw [q] at e
      have e : (blsOf l).map (fun bs => D.bl (bs.all id)) = some z := e
      cases q2 : blsOf l with
      | none => rw [q2] at e; cases e
      | some ns =>
        rw [q2] at e
        injection e with e
        subst e
        obtain ⟨x, rfl, r1⟩ := vrl_onev rl
        obtain ⟨p, xs, rfl, hs, hl⟩ := list_of r r1 q
        rw [blsOf_back q2] at hl
        rw [vrl_bls hl] at hs
        exact ⟨p, ns, rfl, hs, k.bl r⟩
  · cases e
theorem ok_any : CallOk F (rAny F.K) (DL gAny) := okL fun G H h vs ds z Q e r rl k => by
  unfold gAny at e
  split at e
  · rename_i d
    cases q : lstH h d with
    | none => rw [q] at e; cases e
    | some l =>
      rw [q] at e
      have e : (blsOf l).map (fun bs => D.bl (bs.any id)) = some z := e
      cases q2 : blsOf l with
      | none => rw [q2] at e; cases e
      | some ns =>
        rw [q2] at e
        injection e with e
        subst e
        obtain ⟨x, rfl, r1⟩ := vrl_onev rl
        obtain ⟨p, xs, rfl, hs, hl⟩ := list_of r r1 q
        rw [blsOf_back q2] at hl
        rw [vrl_bls hl] at hs
        exact ⟨p, ns, rfl, hs, k.bl r⟩
  · cases e
theorem ok_tupleF : CallOk F (fun xs H Q => ∃ p ys, xs = [.ref p] ∧ ((SqL F.K H p ys ∧ ∀ l, H l = none → Q (.ref l) (upd H l (.tup ys))) ∨ (SqT F.K H p ys ∧ Q (.ref p) H))) (DL gTupleF) := okL fun G H h vs ds z Q e r rl k => by
  unfold gTupleF at e
  split at e
  · rename_i d
    cases q : seqH h d with
    | none => rw [q] at e; cases e
    | some l =>
      rw [q] at e
      injection e with e
      subst e
      obtain ⟨x, rfl, r1⟩ := vrl_onev rl
      obtain ⟨p, xs, rfl, hl, hs⟩ := seq_of r r1 q
      rcases hs with ⟨hs, rfl⟩ | hs
      · exact ⟨p, xs, rfl, .inr ⟨hs, k.val r r1⟩⟩
      · exact ⟨p, xs, rfl, .inl ⟨hs, fun w hw => k.newT r hw hl⟩⟩
  · cases e
theorem ok_listF (m : Bool) : CallOk F (fun xs H Q => ∃ p ys, xs = [.ref p] ∧ (SqL F.K H p ys ∨ SqT F.K H p ys) ∧ ∀ l, H l = none → Q (.ref l) (upd H l (.lst ys))) (gListF m) := by
  intro G H h vs ds z h' Q r rl e k
  unfold gListF at e
  split at e
  · split at e
    · rename_i l q
      obtain ⟨x, rfl, r1⟩ := vrl_onev rl
      obtain ⟨p, xs, rfl, hl, hs⟩ := seq_of r r1 q
      exact ⟨p, xs, rfl, hs.symm.imp id fun z => z.1, fun w hw => newL_go e k r hw hl⟩
    · cases e
  · cases e
theorem listF_nrs {m : Bool} : NoRs (gListF m) := fun ds h c p h' e => by
  unfold gListF at e
  split at e
  · split at e
    · exact newL_nrs e
    · cases e
  · cases e
theorem tupsOf_back : ∀ {l : List D} {L : List (List Int)}, tupsOf l = some L → l = L.map tupD
  | [], L, h => by injection h with h; subst h; rfl
  | d :: r, L, h => by
    cases d with
    | tup l =>
      have h : ((intsOf l).bind fun a => (tupsOf r).map (a :: ·)) = some L := h
      cases q : intsOf l with
      | none => rw [q] at h; cases h
      | some a =>
        rw [q] at h
        have h : (tupsOf r).map (a :: ·) = some L := h
        cases q2 : tupsOf r with
        | none => rw [q2] at h; cases h
        | some L' =>
          rw [q2] at h
          injection h with h
          subst h
          rw [List.map_cons, ← tupsOf_back q2, intsOf_back q]
          rfl
    | _ => cases h
theorem tupsOf_map : ∀ {L : List (List Int)}, tupsOf (L.map tupD) = some L
  | [] => rfl
  | a :: r => by
    show ((intsOf (a.map .int)).bind fun a => (tupsOf (r.map tupD)).map (a :: ·)) = _
    rw [intsOf_map, tupsOf_map]
    rfl
theorem code_inj {B : Int} : ∀ {a b : List Int}, a.length = b.length → TS.Bd B a → TS.Bd B b → TS.code B a = TS.code B b → a = b
  | [], [], _, _, _, _ => rfl
  | [], b :: q, l, _, _, _ => by cases l
  | a :: r, [], l, _, _, _ => by cases l
  | a :: r, b :: q, l, h1, h2, e => by
    have l' : r.length = q.length := by simpa using l
    rcases Int.lt_trichotomy a b with z | z | z
    · have := TS.code_lt l' h1.tail h2.tail z
      omega
    · subst z
      have e2 : a * B ^ r.length + TS.code B r = a * B ^ q.length + TS.code B q := e
      rw [l'] at e2
      rw [code_inj l' h1.tail h2.tail (by omega)]
    · have := TS.code_lt l'.symm h2.tail h1.tail z
      omega
theorem map_inj_on {α β : Type} {f : α → β} : ∀ {l m : List α}, (∀ a ∈ l, ∀ b ∈ m, f a = f b → a = b) → l.map f = m.map f → l = m
  | [], [], _, _ => rfl
  | [], b :: m, _, e => by cases e
  | a :: l, [], _, e => by cases e
  | a :: l, b :: m, h, e => by
    rw [List.map_cons, List.map_cons] at e
    injection e with e1 e2
    rw [h a List.mem_cons_self b List.mem_cons_self e1, map_inj_on (fun a ha b hb => h a (List.mem_cons_of_mem _ ha) b (List.mem_cons_of_mem _ hb)) e2]
theorem sortT_perm (L : List (List Int)) : (sortT L).Perm L := List.mergeSort_perm L _
theorem sortT_le (L : List (List Int)) : (sortT L).Pairwise fun a b => leT a b = true := List.pairwise_mergeSort leT_trans leT_total L
/-- values in another order stand for data in that order -/
theorem VRL.perm {xs ys : List V} (p : ys.Perm xs) : ∀ {l : List D}, VRL F G H l xs → ∃ l', l'.Perm l ∧ VRL F G H l' ys := by
  induction p with
  | nil => intro l h; exact ⟨l, List.Perm.refl _, h⟩
  | @cons x l1 l2 _ ih =>
    intro l h
    cases l with
    | nil => have := vrl_nil.mp h; cases this
    | cons d r =>
      obtain ⟨v, vr, e, h1, h2⟩ := vrl_cons.mp h
      injection e with e1 e2
      subst e1 e2
      obtain ⟨l', p', h3⟩ := ih h2
      exact ⟨d :: l', p'.cons d, vrl_cons.mpr ⟨_, _, rfl, h1, h3⟩⟩
  | swap x y l1 =>
    intro l h
    cases l with
    | nil => have := vrl_nil.mp h; cases this
    | cons d r =>
      obtain ⟨v, vr, e, h1, h2⟩ := vrl_cons.mp h
      injection e with e1 e2
      subst e1 e2
      cases r with
      | nil => have := vrl_nil.mp h2; cases this
      | cons d2 r =>
        obtain ⟨v2, vr2, e, h3, h4⟩ := vrl_cons.mp h2
        injection e with e1 e2
        subst e1 e2
        exact ⟨d2 :: d :: r, List.Perm.swap _ _ _, vrl_cons.mpr ⟨_, _, rfl, h3, vrl_cons.mpr ⟨_, _, rfl, h1, h4⟩⟩⟩
  | trans _ _ ih1 ih2 =>
    intro l h
    obtain ⟨l1, p1, h1⟩ := ih2 h
    obtain ⟨l2, p2, h2⟩ := ih1 h1
    exact ⟨l2, p2.trans p1, h2⟩
/-- sorted(d): the keys -/
def rSortT : List V → Hp → VK → Prop := fun xs H Q => ∃ (a : Addr) (kvs : List (List Key × V)) (L : List (List Int)), xs = [.ref a] ∧ Rd H a (.dT kvs) ∧ kvs.map (·.1) = L.map (·.map Sum.inl) ∧ (∀ ns ∈ L, ns ≠ []) ∧
    ∀ (p : Addr) (bs : List (Addr × List Int)), H p = none → bs.map (·.2) = L → (∀ b ∈ bs, H b.1 = some (.tup (b.2.map V.int))) → Q (.ref p) (upd H p (.lst ((bs.mergeSort fun a b => leT a.2 b.2).map fun b => V.ref b.1)))
def rSortA (K : PySem.W.Frag) : List V → Hp → VK → Prop := fun vs H Q => (rSortedI K vs H Q ∨ rSortG K vs H Q) ∨ rSortT vs H Q
theorem cr_sortA (hc : X.calm = true) (hu : X.A.units + 5 < cLine) : CallR X (.builtin "sorted") (rSortA X.K) := by
  intro pins s σ H vs us Q I r h
  rcases h with (h | h) | h
  · exact cr_sortedI pins s σ H vs us Q I r h
  · exact cr_sortG (by omega) pins s σ H vs us Q I r h
  · exact cr_sortDT hc hu pins s σ H vs us Q I r h
theorem vr_tupI {a : List Int} {v : V} (x : VR F G H (tupD a) v) : TupI F.K H v a := by
  obtain ⟨p, xs, rfl, hs, hl⟩ := vr_tupS x
  rw [vrl_ints hl] at hs
  exact ⟨p, rfl, hs⟩
theorem vrl_tups {ys : List V} : ∀ {L : List (List Int)}, VRL F G H (L.map tupD) ys → ∀ x ∈ ys, ∃ a ∈ L, TupI F.K H x a
  | [], h, x, hx => by rw [vrl_nil.mp h] at hx; cases hx
  | a :: r, h, x, hx => by
    obtain ⟨v, vr, rfl, h1, h2⟩ := vrl_cons.mp h
    rcases List.mem_cons.mp hx with z | z
    · exact ⟨a, List.mem_cons_self, by rw [z]; exact vr_tupI h1⟩
    · obtain ⟨b, hb, q⟩ := vrl_tups h2 x z
      exact ⟨b, List.mem_cons_of_mem _ hb, q⟩
theorem vrl_zip : ∀ {L : List (List Int)} {xs : List V}, VRL F G H (L.map tupD) xs → (xs.zip L).map (·.1) = xs ∧ (xs.zip L).map (·.2) = L ∧ ∀ b ∈ xs.zip L, VR F G H (tupD b.2) b.1
  | [], xs, h => by
    rw [vrl_nil.mp h]
    exact ⟨rfl, rfl, fun b hb => by cases hb⟩
  | a :: r, xs, h => by
    obtain ⟨v, vr, rfl, h1, h2⟩ := vrl_cons.mp h
    obtain ⟨i1, i2, i3⟩ := vrl_zip h2
    refine ⟨by rw [List.zip_cons_cons, List.map_cons, i1], by rw [List.zip_cons_cons, List.map_cons, i2], fun b hb => ?_⟩
    rcases List.mem_cons.mp hb with z | z
    · rw [z]; exact h1
    · exact i3 b z
theorem zip_vrl : ∀ {bs : List (V × List Int)}, (∀ b ∈ bs, VR F G H (tupD b.2) b.1) → VRL F G H ((bs.map (·.2)).map tupD) (bs.map (·.1))
  | [], _ => vrl_nil.mpr rfl
  | b :: r, h => vrl_cons.mpr ⟨_, _, rfl, h b List.mem_cons_self, zip_vrl fun c hc => h c (List.mem_cons_of_mem _ hc)⟩
theorem ok_sort (m : Bool) : CallOk F (rSortA F.K) (gSort m) := by
  intro G H h vs ds z h' Q r rl e k
  unfold gSort at e
  split at e
  · rename_i d
    split at e
    · rename_i ns q
      cases q1 : lstH h d with
      | none => rw [q1] at q; cases q
      | some l =>
        rw [q1] at q
        have q : intsOf l = some ns := q
        obtain ⟨x, rfl, r1⟩ := vrl_onev rl
        obtain ⟨p, xs, rfl, hs, hl⟩ := list_of r r1 q1
        rw [intsOf_back q] at hl
        rw [vrl_ints hl] at hs
        refine .inl (.inl ⟨p, ns, rfl, hs, fun ns' w pm pw hw => ?_⟩)
        have : ns' = sortI ns := sort_uniq (pm.trans (sortI_perm ns).symm) pw (sortI_le ns)
        subst this
        exact newL_go e k r hw vrl_of_ints
    · split at e
      · rename_i L q
        split at e
        · rename_i ok
          cases q1 : lstH h d with
          | none => rw [q1] at q; cases q
          | some l =>
            rw [q1] at q
            have q : tupsOf l = some L := q
            obtain ⟨x, rfl, r1⟩ := vrl_onev rl
            obtain ⟨p, xs, rfl, hs, hl⟩ := list_of r r1 q1
            rw [tupsOf_back q] at hl
            obtain ⟨z1, z2, z3⟩ := vrl_zip hl
            generalize xs.zip L = bs at z1 z2 z3
            refine .inl (.inr ⟨p, bs, rfl, by rw [z1]; exact hs, fun b hb => ⟨vr_tupI (z3 b hb), ok.2 b.2 (by rw [← z2]; exact List.mem_map.mpr ⟨b, hb, rfl⟩)⟩, fun w hw => ?_⟩)
            have em : (bs.mergeSort fun a b => leT a.2 b.2).map (·.2) = sortT L := by
              rw [← z2]
              exact List.map_mergeSort fun _ _ _ _ => rfl
            rw [← em] at e
            exact newL_go e k r hw (zip_vrl fun b hb => z3 b ((List.mergeSort_perm bs _).mem_iff.mp hb))
        · cases e
      · split at e
        · rename_i kl q2
          split at e
          · rename_i L q3
            split at e
            · rename_i ok
              obtain ⟨kk, ll⟩ := kl
              obtain ⟨x, rfl, r1⟩ := vrl_onev rl
              obtain ⟨p, ws, rfl, hp, hl, h2⟩ := ditU_of r r1 q2
              have ek := intsKs_back q3
              refine .inr ⟨p, _, L, rfl, .inl hp, ?_, ok.2, fun w bs hw hb ht => ?_⟩
              · rw [List.map_fst_zip (by omega)]
                exact ek
              · have em : (bs.mergeSort fun a b => leT a.2 b.2).map (·.2) = sortT L := by
                  rw [← hb]
                  exact List.map_mergeSort fun _ _ _ _ => rfl
                rw [← em] at e
                refine newL_go e k r hw ?_
                have zz := zip_vrl (F := F) (G := G) (H := H) (bs := (bs.mergeSort fun a b => leT a.2 b.2).map fun b => (V.ref b.1, b.2)) fun c hc => by
                  obtain ⟨b, hb', rfl⟩ := List.mem_map.mp hc
                  exact vr_tup.mpr ⟨b.1, b.2.map V.int, rfl, ht b ((List.mergeSort_perm bs _).mem_iff.mp hb'), vrl_of_ints⟩
                simp only [List.map_map, Function.comp_def] at zz ⊢
                exact zz
            · cases e
          · cases e
        · cases e
  · cases e
theorem sort_nrs {m : Bool} : NoRs (gSort m) := fun ds h c p h' e => by
  unfold gSort at e
  split at e
  · split at e
    · exact newL_nrs e
    · split at e
      · split at e
        · exact newL_nrs e
        · cases e
      · split at e
        · split at e
          · split at e
            · exact newL_nrs e
            · cases e
          · cases e
        · cases e
  · cases e
theorem ok_max : CallOk F (rMaxA F.K) (DL gMax) := okL fun G H h vs ds z Q e r rl k => by
  unfold gMax at e
  split at e
  · injection e with e
    subst e
    rw [vals_int2 rl]
    exact .inl ⟨_, _, rfl, k.int r⟩
  · rename_i d
    split at e
    · rename_i a t q
      injection e with e
      subst e
      cases q1 : lstH h d with
      | none => rw [q1] at q; cases q
      | some l =>
        rw [q1] at q
        have q : intsOf l = some (a :: t) := q
        obtain ⟨x, rfl, r1⟩ := vrl_onev rl
        obtain ⟨p, xs, rfl, hs, hl⟩ := list_of r r1 q1
        rw [intsOf_back q] at hl
        rw [vrl_ints hl] at hs
        exact .inr ⟨p, a, t, rfl, hs, k.int r⟩
    · cases e
  · cases e
theorem ok_min : CallOk F (rMinA F.K) (DL gMin) := okL fun G H h vs ds z Q e r rl k => by
  unfold gMin at e
  split at e
  · injection e with e
    subst e
    rw [vals_int2 rl]
    exact .inl ⟨_, _, rfl, k.int r⟩
  · rename_i d
    split at e
    · rename_i a t q
      injection e with e
      subst e
      cases q1 : lstH h d with
      | none => rw [q1] at q; cases q
      | some l =>
        rw [q1] at q
        have q : intsOf l = some (a :: t) := q
        obtain ⟨x, rfl, r1⟩ := vrl_onev rl
        obtain ⟨p, xs, rfl, hs, hl⟩ := list_of r r1 q1
        rw [intsOf_back q] at hl
        rw [vrl_ints hl] at hs
        exact .inr ⟨p, a, t, rfl, hs, k.int r⟩
    · cases e
  · cases e
theorem ok_abs : CallOk F (fun xs H Q => ∃ i, xs = [.int i] ∧ Q (.int (if i < 0 then -i else i)) H) (DL gAbs) := okL fun G H h vs ds z Q e r rl k => by
  unfold gAbs at e
  split at e
  · injection e with e
    subst e
    rw [vals_int1 rl]
    exact ⟨_, rfl, k.int r⟩
  · cases e
/-! ### isinstance of built-in classes -/
def tyOf (h : Hs) : D → Option String
  | .non => some "NoneType"
  | .bl _ => some "bool"
  | .int _ => some "int"
  | .str _ => some "str"
  | .tup _ => some "tuple"
  | .vl _ => some "list"
  | .sl _ => some "list"
  | .vd _ _ => some "dict"
  | .ref n => match h[n]? with
    | some (.lst _) => some "list"
    | some (.dic _ _) => some "dict"
    | some (.fdc _ _) => some "dict"
    | some (.dit _ _) => some "dict"
    | _ => none
  | .exc _ _ => none
theorem VR.tyX (r : HR F G H h) {d : D} {v : V} {T : String} (x : VR F G H d v) (e : tyOf h d = some T) : TyX F.K H v (.type T) := by
  unfold tyOf at e
  split at e
  · injection e with e; subst e; rw [vr_non.mp x]; exact .base .non
  · injection e with e; subst e; rw [vr_bl.mp x]; exact .base (.bl _)
  · injection e with e; subst e; rw [vr_int.mp x]; exact .base (.int _)
  · injection e with e; subst e; rw [vr_str.mp x]; exact .base (.str _)
  · injection e with e
    subst e
    obtain ⟨p, xs, rfl, hs, hl⟩ := vr_tupS x
    rcases hs with (hs | ⟨o, hs⟩) | ⟨o, its, n, h1, h2, _⟩
    · exact .base (.tup hs)
    · exact .fTuple hs
    · exact .kTuple h1 h2
  · injection e with e
    subst e
    obtain ⟨p, xs, rfl, hs, hl⟩ := vr_vl.mp x
    rcases hs.1 with hs | ⟨o, hs⟩
    · exact .base (.lst hs)
    · exact .base (.frz hs)
  · injection e with e
    subst e
    obtain ⟨p, xs, rfl, hs, hl⟩ := vr_sl.mp x
    rcases hs with ⟨hs | ⟨o, hs⟩, _⟩ | ⟨o, its, n, h1, h2, _⟩
    · exact .base (.lst hs)
    · exact .base (.frz hs)
    · exact .kList h1 h2
  · injection e with e
    subst e
    obtain ⟨p, ks, vs, rfl, hs, _⟩ := vr_vd.mp x
    exact .base (.dK hs.1)
  · rename_i n
    obtain ⟨p, rfl, hp⟩ := vr_ref.mp x
    split at e
    · rename_i l q
      injection e with e
      subst e
      obtain ⟨q', hq, u, hu, xs, rfl, hl⟩ := r.obj n _ q
      rw [hp] at hq
      injection hq with hq
      subst hq
      exact .base (.lst hu)
    · rename_i k l q
      injection e with e
      subst e
      obtain ⟨q', hq, u, hu, qs, vs, rfl, _⟩ := r.obj n _ q
      rw [hp] at hq
      injection hq with hq
      subst hq
      exact .base (.dK hu)
    · rename_i k l q
      injection e with e
      subst e
      obtain ⟨q', hq, u, hu, od, qs, vs, rfl, _⟩ := r.obj n _ q
      rw [hp] at hq
      injection hq with hq
      subst hq
      exact .fDict hu
    · rename_i k l q
      injection e with e
      subst e
      obtain ⟨q', hq, u, hu, vs, rfl, _⟩ := r.obj n _ q
      rw [hp] at hq
      injection hq with hq
      subst hq
      exact .base (.dT hu)
    · cases e
  · cases e
def isiG (T : String) (d : D) (h : Hs) : R D := match (tyOf h d).bind fun t => kitB t T with
  | some b => .ok (.bl b) h
  | none => .stk
theorem se_isi {e : Expr} {f : SD → Hs → R D} {T : String} {x : Str} {px p pos : Pos} (hK : X.K = F.K) (hg : Gl X "isinstance") (hm : X.mg "isinstance" = none) (hgT : Gl X x) (hmT : X.mg x = none) (hv : bootBuiltins x = some (.type T)) (hn : x ≠ "__name__") (hd : (x == ("__debug__" : Str)) = false)
    (hs : starEach [e, .Name x px] X.env = (false, eval e X.env) :: starEach [.Name x px] X.env) (hpl : (backTo pos (starEach [.Name x px] X.env)).any (·.1) = false) (hh : SE X F W e f) :
    SE X F W (.Call (.Name "isinstance" p) [e, .Name x px] [] pos) (fun s h => (f s h).bind (isiG T)) := by
  have hb : bootBuiltins "isinstance" = some (.builtin "isinstance") := by decide +kernel
  refine PE.imp (pe_callB call_isi hg hm hb (pa_cons hh (pa_cons (pe_bltn (v := .ty T) hgT hmT hv rfl hn hd) pa_nil) hs) (he := hs)) fun σ H Q ⟨G, h, s, t, o⟩ => ?_
  refine part t o fun d v h1 G1 H1 T1 t1 x o => ?_
  unfold isiG at o
  cases q : tyOf h1 d with
  | none => rw [q] at o; exact o.elim
  | some u =>
    rw [q] at o
    dsimp only [Option.bind] at o
    cases q2 : kitB u T with
    | none => rw [q2] at o; exact o.elim
    | some b =>
      rw [q2] at o
      rw [hK]
      exact ⟨v, .ty T, .type u, .type T, b, rfl, .ty T, VR.tyX t1.hr x q, kit_ty q2, KO.bl o t1.hr⟩
/-! ### a place of a list stored -/
/-- an object's content changed, if nothing younger comes into it -/
def putH (n : Nat) (o : HO') (h : Hs) : Option Hs := some (h.set n o)
/-- d[q] = v -/
def dPut (k l : List D) (q : Key) (v : D) : List D × List D :=
  if (k.any fun a => decide (kyD a = some q)) = true then (k, (k.zip l).map fun p => if kyD p.1 = some q then v else p.2) else (k ++ [kD q], l ++ [v])
def dPutT (k : List (List Key)) (l : List D) (q : List Key) (v : D) : List (List Key) × List D :=
  if (k.any fun a => decide (a = q)) = true then (k, (k.zip l).map fun p => if p.1 = q then v else p.2) else (k ++ [q], l ++ [v])
def storeG (o i v : D) (h : Hs) : Option Hs := match o with
  | .ref n => match h[n]? with
    | some (.lst l) => (match i with
      | .int k => (ixN l.length k).bind fun j => putH n (.lst (l.set j v)) h
      | _ => none)
    | some (.dic k l) => (kyD i).bind fun q => if k.length < 16777216 then putH n (.dic (dPut k l q v).1 (dPut k l q v).2) h else none
    | some (.dit k l) => (kyT i).bind fun q => if k.length < 16777216 then putH n (.dit (dPutT k l q v).1 (dPutT k l q v).2) h else none
    | _ => none
  | _ => none
theorem put_map {κ : Type} [DecidableEq κ] {q : κ} {v : V} : ∀ {qs : List κ} {vs : List V}, qs.length = vs.length → (qs.zip vs).map (fun kv => if kv.1 = q then (kv.1, v) else kv) = qs.zip ((qs.zip vs).map fun kv => if kv.1 = q then v else kv.2)
  | [], vs, _ => rfl
  | a :: qs, [], h => by cases h
  | a :: qs, b :: vs, h => by
    simp only [List.zip_cons_cons, List.map_cons]
    rw [put_map (by simpa using h)]
    by_cases z : a = q
    · simp [z]
    · simp [z]
theorem put_vr {q : Key} {y : D} {v : V} (hv : VR F G H y v) : ∀ {k l : List D} {qs : List Key} {vs : List V}, VRL F G H k (qs.map kV) → VRL F G H l vs → qs.length = vs.length → VRL F G H ((k.zip l).map fun p => if kyD p.1 = some q then y else p.2) ((qs.zip vs).map fun kv => if kv.1 = q then v else kv.2) ∧ (k.any fun a => decide (kyD a = some q)) = (qs.zip vs).any fun kv => decide (kv.1 = q)
  | [], l, qs, vs, h1, h2, hl => by
    have : qs = [] := by
      have := vrl_nil.mp h1
      simpa using this
    subst this
    exact ⟨by simpa using vrl_nil.mpr rfl, rfl⟩
  | a :: k, l, qs, vs, h1, h2, hl => by
    obtain ⟨v0, vr, e, h3, h4⟩ := vrl_cons.mp h1
    cases qs with
    | nil => cases e
    | cons q0 qs =>
      rw [List.map_cons] at e
      injection e with e1 e2
      subst e1 e2
      cases vs with
      | nil => cases hl
      | cons v1 vs =>
        cases l with
        | nil => have := vrl_nil.mp h2; cases this
        | cons d l =>
          obtain ⟨v', vr', e, h5, h6⟩ := vrl_cons.mp h2
          injection e with e1 e2
          subst e1 e2
          obtain ⟨i1, i2⟩ := put_vr (q := q) hv h4 h6 (by simpa using hl)
          have ek := of_ky h3
          simp only [List.zip_cons_cons, List.map_cons, List.any_cons, ek, i2]
          by_cases z : q0 = q
          · subst z
            simp only [if_pos, if_true]
            exact ⟨vrl_cons.mpr ⟨v, _, rfl, hv, i1⟩, by simp⟩
          · have z' : ¬ (some q0 = some q) := fun w => z (Option.some.inj w)
            simp only [if_neg z, if_neg z']
            exact ⟨vrl_cons.mpr ⟨v1, _, rfl, h5, i1⟩, by simp [z]⟩
theorem dPut_vr {q : Key} {y : D} {v : V} (hv : VR F G H y v) {k l : List D} {qs : List Key} {vs : List V} (h1 : VRL F G H k (qs.map kV)) (h2 : VRL F G H l vs) (hl : qs.length = vs.length) : ∃ (qs' : List Key) (vs' : List V), putK (qs.zip vs) q v = qs'.zip vs' ∧ qs'.length = vs'.length ∧ VRL F G H (dPut k l q y).1 (qs'.map kV) ∧ VRL F G H (dPut k l q y).2 vs' := by
  obtain ⟨i1, i2⟩ := put_vr (q := q) hv h1 h2 hl
  unfold putK dPut
  rw [i2]
  split
  · exact ⟨qs, _, put_map hl, by simp [hl], h1, i1⟩
  · refine ⟨qs ++ [q], vs ++ [v], by rw [List.zip_append hl]; rfl, by simp [hl], ?_, h2.append (vrl_one.mpr hv)⟩
    rw [List.map_append]
    refine h1.append ?_
    cases q with
    | inl i => exact vrl_one.mpr (vr_int.mpr rfl)
    | inr i => exact vrl_one.mpr (vr_str.mpr rfl)
theorem putT_vr {q : List Key} {y : D} {v : V} (hv : VR F G H y v) : ∀ {k : List (List Key)} {l : List D} {vs : List V}, VRL F G H l vs → k.length = vs.length → VRL F G H ((k.zip l).map fun p => if p.1 = q then y else p.2) ((k.zip vs).map fun kv => if kv.1 = q then v else kv.2) ∧ (k.any fun a => decide (a = q)) = (k.zip vs).any fun kv => decide (kv.1 = q)
  | [], l, vs, h2, hl => ⟨by simpa using vrl_nil.mpr rfl, rfl⟩
  | a :: k, l, [], h2, hl => by cases hl
  | a :: k, [], v :: vs, h2, hl => by have := vrl_nil.mp h2; cases this
  | a :: k, d :: l, v1 :: vs, h2, hl => by
    obtain ⟨v', vr', e, h5, h6⟩ := vrl_cons.mp h2
    injection e with e1 e2
    subst e1 e2
    obtain ⟨i1, i2⟩ := putT_vr (q := q) hv h6 (by simpa using hl)
    simp only [List.zip_cons_cons, List.map_cons, List.any_cons, i2]
    by_cases z : a = q
    · subst z
      simp only [if_pos, if_true]
      exact ⟨vrl_cons.mpr ⟨v, _, rfl, hv, i1⟩, by simp⟩
    · simp only [if_neg z]
      exact ⟨vrl_cons.mpr ⟨v1, _, rfl, h5, i1⟩, by simp [z]⟩
theorem dPutT_vr {q : List Key} {y : D} {v : V} (hv : VR F G H y v) {k : List (List Key)} {l : List D} {vs : List V} (h2 : VRL F G H l vs) (hl : k.length = vs.length) : ∃ (vs' : List V), putK (k.zip vs) q v = (dPutT k l q y).1.zip vs' ∧ (dPutT k l q y).1.length = vs'.length ∧ VRL F G H (dPutT k l q y).2 vs' := by
  obtain ⟨i1, i2⟩ := putT_vr (q := q) hv h2 hl
  unfold putK dPutT
  rw [i2]
  split
  · exact ⟨_, put_map hl, by simp [hl], i1⟩
  · exact ⟨vs ++ [v], by rw [List.zip_append hl]; rfl, by simp [hl], h2.append (vrl_one.mpr hv)⟩
def storeO (fe fo fi : SD → Hs → R D) (s : SD) (h : Hs) : O := (fe s h).thenO s fun v h1 => (fo s h1).thenO s fun o h2 => (fi s h2).thenO s fun i h3 => match storeG o i v h3 with
  | some h4 => .nx s h4
  | none => .stk
theorem put_go {n : Nat} {p : Addr} {o : HO'} {u : HO} (t : St F G h s σ H) (e : putH n o h = some h') (hp : G.α n = some p) (nf : ∀ o u, H p ≠ some (.frz o u)) (ho : ON F G H u o) : Step G H G (upd H p u) ∧ St F G h' s σ (upd H p u) := by
  unfold putH at e
  injection e with e
  subst e
  exact ⟨Step.write t.hr hp nf, t.step (Step.write t.hr hp nf) (t.hr.write hp nf ho)⟩
def rSetA : TSet := fun o i v H Q => rSetL o i v H Q ∨ rSetD o i v H Q
theorem set_any (hu : X.A.units + 1 < cLine) : PSet X rSetA := by
  intro pins s σ H o i v ov iv u Q I ro ri rv h
  rcases h with h | h
  · exact set_list pins s σ H o i v ov iv u Q I ro ri rv h
  · exact set_dict hu pins s σ H o i v ov iv u Q I ro ri rv h
theorem store_go {fe fo fi : SD → Hs → R D} {Dn : Ends} (t : St F G h s σ H) (o : OutS F W Dn G H (storeO fe fo fi s h)) : tAsg (lift F W (VR F) fe) (L2.gSub (lift F W (VR F) fo) (lift F W (VR F) fi) rSetA) Dn σ H := by
  unfold storeO at o
  refine partS t o fun v x h1 G1 H1 T1 t1 vx o1 => ?_
  refine partS t1 o1 fun ob y h2 G2 H2 T2 t2 vy o2 => ?_
  refine partS t2 o2 fun i w h3 G3 H3 T3 t3 vw o3 => ?_
  have ho := o3
  clear o o1 o2 o3
  replace vx := VR.step (T2.trans T3) t1.hr.aB v vx
  replace vy := VR.step T3 t2.hr.aB ob vy
  split at ho
  · rename_i h4 e
    unfold storeG at e
    split at e
    · rename_i n
      split at e
      · rename_i l q
        split at e
        · rename_i k
          cases q2 : ixN l.length k with
          | none => rw [q2] at e; cases e
          | some j =>
            rw [q2] at e
            have e : putH n (.lst (l.set j v)) h3 = some h4 := e
            obtain ⟨p, xs, rfl, hp, hu, hl⟩ := ref_lst t3.hr vy q
            obtain rfl := vr_int.mp vw
            obtain ⟨T4, t4⟩ := put_go (u := .lst (xs.set j x)) t3 e hp (fun _ _ z => by rw [hu] at z; cases z) ⟨_, rfl, hl.set j vx⟩
            exact .inl ⟨p, xs, k, j, rfl, rfl, hu, by rw [hl.length]; exact q2, ho G3 σ _ T4 t4⟩
        · cases e
      · rename_i kk ll q
        cases q2 : kyD i with
        | none => rw [q2] at e; cases e
        | some ky =>
          rw [q2] at e
          dsimp only [Option.bind] at e
          split at e
          · rename_i hlen
            obtain ⟨p, rfl, hp⟩ := vr_ref.mp vy
            obtain ⟨p', hp', u, hu, qs, vs, rfl, hl, h1, h2⟩ := t3.hr.obj n _ q
            rw [hp] at hp'
            injection hp' with hp'
            subst hp'
            obtain rfl := ky_of vw q2
            obtain ⟨qs', vs', ep, hl', a1, a2⟩ := dPut_vr (q := ky) vx h1 h2 hl
            have e1 := h1.length
            rw [List.length_map] at e1
            obtain ⟨T4, t4⟩ := put_go (u := .dK (putK (qs.zip vs) ky x)) t3 e hp (fun _ _ z => by rw [hu] at z; cases z) ⟨qs', vs', by rw [ep], hl', a1, a2⟩
            exact .inr ⟨p, _, rfl, .inl ⟨_, ky, hu, rfl, by rw [List.length_zip, sizeLine_eq]; omega, rfl⟩, ho G3 σ _ T4 t4⟩
          · cases e
      · rename_i kk ll q
        cases q2 : kyT i with
        | none => rw [q2] at e; cases e
        | some ky =>
          rw [q2] at e
          dsimp only [Option.bind] at e
          split at e
          · rename_i hlen
            obtain ⟨p, rfl, hp⟩ := vr_ref.mp vy
            obtain ⟨p', hp', u, hu, vs, rfl, hl, h2⟩ := t3.hr.obj n _ q
            rw [hp] at hp'
            injection hp' with hp'
            subst hp'
            obtain ⟨b, rfl, hb⟩ := kyT_of vw q2
            obtain ⟨vs', ep, hl', a2⟩ := dPutT_vr (q := ky) vx h2 hl
            obtain ⟨T4, t4⟩ := put_go (u := .dT (putK (kk.zip vs) ky x)) t3 e hp (fun _ _ z => by rw [hu] at z; cases z) ⟨vs', by rw [ep], hl', a2⟩
            exact .inr ⟨p, _, rfl, .inr ⟨_, ky, b, hu, rfl, hb, by rw [List.length_zip, sizeLine_eq]; omega, rfl⟩, ho G3 σ _ T4 t4⟩
          · cases e
      · cases e
    · cases e
  · exact ho.elim
/-! ### methods of built-in types -/
/-- how a method answers one on data -/
def MthOk (F : Fr) (r : V → List V → Hp → VK → Prop) (g : D → List D → Hs → R D) : Prop := ∀ (G : Gh) (H : Hp) (h : Hs) (x : V) (d : D) (vs : List V) (ds : List D) (z : D) (h' : Hs) (Q : VK), HR F G H h → VR F G H d x → VRL F G H ds vs → g d ds h = .ok z h' → KO F G H h' z Q → r x vs H Q
/-- the receiver's type -/
def TyOk (F : Fr) (T : String) (c : Hs → D → Bool) : Prop := ∀ (G : Gh) (H : Hp) (h : Hs) (x : V) (d : D), HR F G H h → VR F G H d x → c h d = true → tyV F.K T x H
def isLst (h : Hs) (d : D) : Bool := (lstH h d).isSome
theorem ty_list : TyOk F "list" isLst := fun G H h x d r v c => by
  obtain ⟨l, e⟩ := Option.isSome_iff_exists.mp c
  obtain ⟨p, xs, rfl, hs, _⟩ := list_of r v e
  exact .inl ⟨rfl, xs, hs⟩
def isStr (_ : Hs) : D → Bool
  | .str _ => true
  | _ => false
theorem ty_str : TyOk F "str" isStr := fun G H h x d r v c => by
  cases d with
  | str z => rw [vr_str.mp v]; rfl
  | _ => cases c
def mthR (c : Hs → D → Bool) (g : D → List D → Hs → R D) (fo : SD → Hs → R D) (fs : SD → Hs → R (List D)) (s : SD) (h : Hs) : R D := (fo s h).bind fun d h1 => if c h1 d = true then (fs s h1).bind fun ds h2 => g d ds h2 else .stk
theorem mth_go {T : String} {c : Hs → D → Bool} {r : V → List V → Hp → VK → Prop} {g : D → List D → Hs → R D} {fo : SD → Hs → R D} {fs : SD → Hs → R (List D)} {Q : VK} (hT : TyOk F T c) (ok : MthOk F r g) (nr : ∀ d ds h c p h', g d ds h ≠ .rs c p h') (t : St F G h s σ H) (o : Out F W G σ H (VR F) Q (mthR c g fo fs s h)) :
    tBM F.K T r (lift F W (VR F) fo) (lift F W (VRL F) fs) σ H Q := by
  unfold mthR at o
  refine part t o fun d x h1 G1 H1 T1 t1 vx o => ?_
  split at o
  · rename_i hc
    refine ⟨hT G1 H1 h1 x d t1.hr vx hc, part t1 o fun ds vs h2 G2 H2 T2 t2 vy o => ?_⟩
    have vx := VR.step T2 t1.hr.aB d vx
    cases e : g d ds h2 with
    | ok z h' => rw [e] at o; exact ok G2 H2 h2 x d vs ds z h' Q t2.hr vx vy e o
    | rs cc p h' => exact (nr d ds h2 cc p h' e).elim
    | stk => rw [e] at o; exact o.elim
  · exact o.elim
theorem mth0_go {T : String} {c : Hs → D → Bool} {r : V → List V → Hp → VK → Prop} {g : D → List D → Hs → R D} {fo : SD → Hs → R D} {Q : VK} (hT : TyOk F T c) (ok : MthOk F r g) (nr : ∀ d ds h c p h', g d ds h ≠ .rs c p h') (t : St F G h s σ H) (o : Out F W G σ H (VR F) Q (mthR c g fo (fun _ h => .ok [] h) s h)) :
    tBM0 F.K T r (lift F W (VR F) fo) σ H Q := by
  unfold mthR at o
  refine part t o fun d x h1 G1 H1 T1 t1 vx o => ?_
  split at o
  · rename_i hc
    refine ⟨hT G1 H1 h1 x d t1.hr vx hc, ?_⟩
    have o : Out F W G1 σ H1 (VR F) Q (g d [] h1) := o
    cases e : g d [] h1 with
    | ok z h' => rw [e] at o; exact ok G1 H1 h1 x d [] [] z h' Q t1.hr vx (vrl_nil.mpr rfl) e o
    | rs cc p h' => exact (nr d [] h1 cc p h' e).elim
    | stk => rw [e] at o; exact o.elim
  · exact o.elim
/-- a method that changes a list and hands back a value -/
def lstM (g : Hs → List D → List D → Option (List D × D)) (d : D) (ds : List D) (h : Hs) : R D := match d with
  | .ref n => match h[n]? with
    | some (.lst l) => match g h l ds with
      | some (l', z) => match putH n (.lst l') h with
        | some h' => .ok z h'
        | none => .stk
      | none => .stk
    | _ => .stk
  | _ => .stk
theorem lstM_nrs {g : Hs → List D → List D → Option (List D × D)} : ∀ d ds h c p h', lstM g d ds h ≠ .rs c p h' := fun d ds h c p h' e => by
  unfold lstM at e
  split at e <;> first | (cases e; done) | skip
  split at e <;> first | (cases e; done) | skip
  split at e <;> first | (cases e; done) | skip
  all_goals (split at e <;> cases e)
/-- to be shown of such a method -/
theorem lstM_ok {g : Hs → List D → List D → Option (List D × D)} {r : V → List V → Hp → VK → Prop} (hh : ∀ (G : Gh) (H : Hp) (h : Hs) (p : Addr) (xs : List V) (l ds l' : List D) (vs : List V) (z : D) (Q : VK), HR F G H h → H p = some (.lst xs) → VRL F G H l xs → VRL F G H ds vs → g h l ds = some (l', z) →
    (∀ xs' v, VRL F G H l' xs' → VR F G H z v → Q v (upd H p (.lst xs'))) → r (.ref p) vs H Q) : MthOk F r (lstM g) := by
  intro G H h x d vs ds z h' Q rr vx vy e k
  unfold lstM at e
  split at e <;> first | (cases e; done) | skip
  rename_i n
  split at e <;> first | (cases e; done) | skip
  rename_i l q
  split at e <;> first | (cases e; done) | skip
  rename_i l' z' q2
  split at e <;> first | (cases e; done) | skip
  rename_i h2 q3
  injection e with e1 e2
  subst e1 e2
  obtain ⟨p, xs, rfl, hp, hu, hl⟩ := ref_lst rr vx q
  refine hh G H h p xs l ds l' vs z' Q rr hu hl vy q2 fun xs' v hx hv => ?_
  unfold putH at q3
  injection q3 with q3
  subst q3
  have nf : ∀ o u, H p ≠ some (.frz o u) := fun _ _ z => by rw [hu] at z; cases z
  have T := Step.write (u := .lst xs') rr hp nf
  exact k v G _ T (rr.write hp nf ⟨xs', rfl, hx⟩) (VR.step T rr.aB _ hv)
def txAppend (_ : Hs) (l ds : List D) : Option (List D × D) := match ds with
  | [d] => if l.length < 16777216 then some (l ++ [d], .non) else none
  | _ => none
def txExtend (h : Hs) (l ds : List D) : Option (List D × D) := match ds with
  | [d] => match lstW h d with
    | some m => if l.length + m.length ≤ 16777216 then some (l ++ m, .non) else none
    | none => none
  | _ => none
def txPopAt (_ : Hs) (l ds : List D) : Option (List D × D) := match ds with
  | [.int i] => if -(2 ^ 63) ≤ i ∧ i < 2 ^ 63 then (match ixN l.length i with
    | some j => (l[j]?).map fun z => (l.eraseIdx j, z)
    | none => none) else none
  | _ => none
def txPop (_ : Hs) (l ds : List D) : Option (List D × D) := match ds with
  | [] => (l[l.length - 1]?).map fun z => (l.dropLast, z)
  | _ => none
def txInsert (_ : Hs) (l ds : List D) : Option (List D × D) := match ds with
  | [.int i, d] => if l.length < 16777216 ∧ 0 ≤ i ∧ i < 2 ^ 63 then some (l.take i.toNat ++ [d] ++ l.drop i.toNat, .non) else none
  | _ => none
def rExtendR : V → List V → Hp → VK → Prop := fun x vs H Q => ∃ l b xs zs, x = .ref l ∧ vs = [.ref b] ∧ H l = some (.lst xs) ∧ Rd H b (.lst zs) ∧ xs.length + zs.length ≤ sizeLine ∧ Q .non (upd H l (.lst (xs ++ zs)))
theorem mt_extendR : MtM X "list.extend" rExtendR := by
  intro pins s σ H x vs v us Q I rx rv h
  obtain ⟨l, b, xs, zs, rfl, rfl, hH, hB, hz, q⟩ := h
  cases rx
  obtain ⟨u, rfl, ru⟩ := rv.one
  cases ru
  obtain ⟨z, its, n, r, hl, e⟩ := I.lstM hH
  obtain ⟨z2, its2, n2, r2, e2⟩ := hB.ok I.hok
  have hl2 := r2.length
  have hsz : its.toArray.size + its2.toArray.size ≤ sizeLine := by rw [List.size_toArray, List.size_toArray]; omega
  have hlong : ¬ (!its.toArray.isEmpty && Builtin.List.listTooLong (its.toArray.size + its2.toArray.size)) = true := by
    rw [notLongL hsz, Bool.and_false]
    exact Bool.false_ne_true
  refine call_meets F.slot_list_extend ⟨_, e, rfl⟩ F.entry_list_extend (F.args_list_extend_2 _ _)
    (AutoSeq1.list_extend_list_list_0 l its.toArray n b its2.toArray n2 hlong (by rw [List.size_toArray]; omega) (by omega)) ⟨e, e2, ?_⟩
  refine ⟨.non, _, I.lset (its' := its ++ its2) hH e (by simp) (r.append r2) ?_, rfl, q⟩
  rw [List.length_append]
  omega
theorem mok_append : MthOk F rAppend (lstM txAppend) := lstM_ok fun G H h p xs l ds l' vs z Q rr hu hl vy e k => by
  unfold txAppend at e
  split at e
  · split at e
    · rename_i hh
      injection e with e
      injection e with e1 e2
      subst e1 e2
      obtain ⟨y, rfl, r1⟩ := vrl_onev vy
      exact ⟨p, xs, y, rfl, rfl, hu, by rw [hl.length, sizeLine_eq]; exact hh, k _ _ (hl.append vy) (vr_non.mpr rfl)⟩
    · cases e
  · cases e
theorem mok_extend : MthOk F rExtendR (lstM txExtend) := lstM_ok fun G H h p xs l ds l' vs z Q rr hu hl vy e k => by
  unfold txExtend at e
  split at e
  · split at e
    · rename_i m q
      split at e
      · rename_i hh
        injection e with e
        injection e with e1 e2
        subst e1 e2
        obtain ⟨y, rfl, r1⟩ := vrl_onev vy
        obtain ⟨b, zs, rfl, hb, hm⟩ := list_ofW rr r1 q
        exact ⟨p, b, xs, zs, rfl, rfl, hu, hb, by rw [hl.length, hm.length]; exact le_line hh, k _ _ (hl.append hm) (vr_non.mpr rfl)⟩
      · cases e
    · cases e
  · cases e
theorem VRL.erase : ∀ {l : List D} {xs : List V} (j : Nat), VRL F G H l xs → VRL F G H (l.eraseIdx j) (xs.eraseIdx j)
  | [], xs, j, h => by rw [vrl_nil.mp h]; simpa using vrl_nil.mpr rfl
  | d :: r, xs, 0, h => by
    obtain ⟨v, vr, rfl, h1, h2⟩ := vrl_cons.mp h
    simpa using h2
  | d :: r, xs, j + 1, h => by
    obtain ⟨v, vr, rfl, h1, h2⟩ := vrl_cons.mp h
    simpa using vrl_cons.mpr ⟨v, _, rfl, h1, VRL.erase j h2⟩
theorem VRL.dropLast {l : List D} {xs : List V} (h : VRL F G H l xs) : VRL F G H l.dropLast xs.dropLast := by
  rw [List.dropLast_eq_take, List.dropLast_eq_take, h.length]
  exact h.take _
theorem mok_popAt : MthOk F rPopAt (lstM txPopAt) := lstM_ok fun G H h p xs l ds l' vs z Q rr hu hl vy e k => by
  unfold txPopAt at e
  split at e
  · rename_i i
    split at e
    · rename_i hh
      split at e
      · rename_i j hj
        cases q : l[j]? with
        | none => rw [q] at e; cases e
        | some z0 =>
          rw [q] at e
          injection e with e
          injection e with e1 e2
          subst e1 e2
          rw [vals_int1 vy]
          obtain ⟨h1, h2, _, _⟩ := ixN_seq hj
          obtain ⟨v, hv, hz⟩ := VRL.get hl q
          exact ⟨p, xs, i, j, v, rfl, rfl, hu, hh.1, hh.2, by rw [hl.length]; exact h1, hv, k _ _ (hl.erase j) hz⟩
      · cases e
    · cases e
  · cases e
theorem mok_pop : MthOk F rPop (lstM txPop) := lstM_ok fun G H h p xs l ds l' vs z Q rr hu hl vy e k => by
  unfold txPop at e
  split at e
  · cases q : l[l.length - 1]? with
    | none => rw [q] at e; cases e
    | some z0 =>
      rw [q] at e
      injection e with e
      injection e with e1 e2
      subst e1 e2
      rw [vrl_nil.mp vy]
      obtain ⟨v, hv, hz⟩ := VRL.get hl q
      exact ⟨p, xs, v, rfl, rfl, hu, by rw [hl.length]; exact hv, k _ _ hl.dropLast hz⟩
  · cases e
def rInsert : V → List V → Hp → VK → Prop := fun x vs H Q => ∃ (l : Addr) (xs : List V) (i : Int) (y : V), x = .ref l ∧ vs = [.int i, y] ∧ H l = some (.lst xs) ∧ xs.length < sizeLine ∧ 0 ≤ i ∧ i < 2 ^ 63 ∧
    Q .non (upd H l (.lst (xs.take i.toNat ++ [y] ++ xs.drop i.toNat)))
theorem mok_insert : MthOk F rInsert (lstM txInsert) := lstM_ok fun G H h p xs l ds l' vs z Q rr hu hl vy e k => by
  unfold txInsert at e
  split at e
  · rename_i i d
    split at e
    · rename_i hh
      injection e with e
      injection e with e1 e2
      subst e1 e2
      obtain ⟨x, y, rfl, r1, r2⟩ := vrl_two vy
      obtain rfl := vr_int.mp r1
      exact ⟨p, xs, i, y, rfl, rfl, hu, by rw [hl.length, sizeLine_eq]; exact hh.1, hh.2.1, hh.2.2, k _ _ (((hl.take _).append (vrl_one.mpr r2)).append (hl.drop _)) (vr_non.mpr rfl)⟩
    · cases e
  · cases e
/-! ### x op= e of ints -/
def augO (i : Nat) (g : Hs → D → D → Option D) (fe : SD → Hs → R D) (s : SD) (h : Hs) : O := match s[i]? with
  | some (some (.int a)) => (fe s h).thenO s fun y h1 => match g h1 (.int a) y with
    | some z => setO i s z h1
    | none => .stk
  | _ => .stk
theorem aug_go {i : Nat} {f : Int → Int → Int} {g : Hs → D → D → Option D} {fe : SD → Hs → R D} {Dn : Ends} (hg : ∀ h a y z, g h (.int a) y = some z → ∃ b, y = .int b ∧ z = .int (f a b)) (t : St F G h s σ H) (o : OutS F W Dn G H (augO i g fe s h)) : tAug i (lift F W (VR F) fe) (ipI f) Dn σ H := by
  unfold augO at o
  split at o
  · rename_i a e
    obtain ⟨v, h1, h2⟩ := t.slot i _ e
    obtain rfl := vr_int.mp h2
    refine ⟨.int a, h1, partS t o fun y w h1 G1 H1 T1 t1 vy o => ?_⟩
    split at o
    · rename_i z q
      obtain ⟨b, rfl, rfl⟩ := hg _ a y z q
      exact ⟨a, b, rfl, vr_int.mp vy, set_out t1 o (vr_int.mpr rfl)⟩
    · exact o.elim
  · exact o.elim
end
end Gx

/-! G75: exceptions of own classes: raise, try, isinstance, a field. -/
namespace Gx
open PySem L2
/-- all classes stand right below WharfError -/
def subX (c y : Str) : Bool := decide (y = c) || decide (y = "WharfError") || decide (y = "ValueError")
/-- a class that may be raised, with its text alone -/
structure RsOk (K : PySem.W.Frag) (mg : Str → Option Value) (x : Str) (C : Addr) : Prop where
  gC : mg x = some (.ref C)
  kC : PySem.W.keepIn K (.ref C) = true
  xC : PySem.W.excIn K C [.type "ValueError", .type "Exception", .type "BaseException", .type "object"] "ValueError.__new__" = true
  bC : PySem.W.subIn K (.ref C) (.type "BaseException") = some true
  tC : PySem.W.typeIn K (.ref C) = some (.type "type")
/-- what is asked of a class -/
structure AskOk (F : Fr) (mg : Str → Option Value) (exs : List Str) (y : Str) : Prop where
  own : (∃ D, mg y = some (.ref D) ∧ ∀ x ∈ exs, PySem.W.kitOne F.K (F.cls x) (.ref D) = some (subX x y) ∧ PySem.W.exmOne F.K (F.cls x) (.ref D) = some (subX x y)) ∨
    (mg y = none ∧ y = "ValueError" ∧ ∀ x ∈ exs, PySem.W.kitOne F.K (F.cls x) (.type "ValueError") = some true)
structure ExcT (F : Fr) (mg : Str → Option Value) (exs ask : List Str) : Prop where
  ec : ∀ x ∈ exs, ∃ C, F.cls x = .ref C ∧ ExcC F.K C
  ask : ∀ y ∈ ask, AskOk F mg exs y
  rs : ∀ x ∈ exs, x ≠ "Short" → ∃ C, F.cls x = .ref C ∧ RsOk F.K mg x C
  sh : ("Short" : Str) ∈ exs → ∃ C fI, F.cls "Short" = .ref C ∧ PySem.ShortX.ShortTxt F.K mg C fI
def isEG (cs : List Str) (y : Str) (d : D) (h : Hs) : R D := match d with
  | .exc c _ => if c ∈ cs then .ok (.bl (subX c y)) h else .stk
  | _ => .stk
def hadG (cs : List Str) (d : D) (h : Hs) : R D := match d with
  | .exc c (some i) => if c = "Short" ∧ c ∈ cs then .ok (.int i) h else .stk
  | _ => .stk
section
variable {X : Cx} {F : Fr} {W : WX} {G : Gh} {H : Hp} {σ : L2.St} {s : SD} {h : Hs} {exs ask : List Str}
theorem se_isE {e : Expr} {f : SD → Hs → R D} {y : Str} {px p pos : Pos} (T : ExcT F X.mg exs ask) (hy : y ∈ ask) (hK : X.K = F.K) (hg : Gl X "isinstance") (hm : X.mg "isinstance" = none) (hgT : Gl X y) (hn : y ≠ "__name__") (hd : (y == ("__debug__" : Str)) = false)
    (hs : starEach [e, .Name y px] X.env = (false, eval e X.env) :: starEach [.Name y px] X.env) (hpl : (backTo pos (starEach [.Name y px] X.env)).any (·.1) = false) (hh : SE X F W e f) :
    SE X F W (.Call (.Name "isinstance" p) [e, .Name y px] [] pos) (fun s h => (f s h).bind (isEG exs y)) := by
  have hb : bootBuiltins "isinstance" = some (.builtin "isinstance") := by decide +kernel
  have go : ∀ {d : D} {h1 : Hs} {v : V} {cv : V} {cu : Value} {G1 : Gh} {H1 : Hp} {Q : VK} {s : SD} {σ : L2.St}, St F G1 h1 s σ H1 → VR F G1 H1 d v → Out F W G1 σ H1 (VR F) Q (isEG exs y d h1) → (∀ u, RelV cv u → u = cu) → (∀ x ∈ exs, PySem.W.kitOne F.K (F.cls x) cu = some (subX x y)) → rIsT X.K [v, cv] H1 Q := by
    intro d h1 v cv cu G1 H1 Q s σ t1 x o hcv hk
    unfold isEG at o
    split at o
    · rename_i c q
      split at o
      · rename_i hc
        obtain ⟨C, eC, EC⟩ := T.ec c hc
        obtain ⟨a, dd, rfl, ⟨ha, _⟩, hp⟩ := vr_exc.mp x
        rw [eC] at ha
        have k1 := hk c hc
        rw [eC] at k1
        exact ⟨a, C, dd, cv, cu, subX c y, rfl, ha, hp.dc, by rw [hK]; exact EC, hcv, by rw [hK]; exact k1, KO.bl o t1.hr⟩
      · exact o.elim
    · exact o.elim
  rcases (T.ask y hy).own with ⟨D, hmD, hD⟩ | ⟨hmn, rfl, hD⟩
  · refine PE.imp (pe_callB call_isT hg hm hb (pa_cons hh (pa_cons (pe_glob (v := .ref D) hgT hmD rfl hd) pa_nil) hs) (he := hs)) fun σ H Q ⟨G, h, s, t, o⟩ => ?_
    refine part t o fun d v h1 G1 H1 T1 t1 x o => ?_
    exact go t1 x o (fun u r => r) fun x hx => (hD x hx).1
  · refine PE.imp (pe_callB call_isT hg hm hb (pa_cons hh (pa_cons (pe_bltn (v := .ty "ValueError") hgT hmn (by decide +kernel) rfl hn hd) pa_nil) hs) (he := hs)) fun σ H Q ⟨G, h, s, t, o⟩ => ?_
    refine part t o fun d v h1 G1 H1 T1 t1 x o => ?_
    exact go t1 x o (fun u r => r) fun x hx => by rw [hD x hx]; simp [subX]
theorem se_had {e : Expr} {f : SD → Hs → R D} {pos : Pos} (T : ExcT F X.mg exs ask) (hK : X.K = F.K) (hh : SE X F W e f) (hb : attributeBase e "had" X.env (eval e X.env) = eval e X.env) : SE X F W (.Attribute e "had" pos) (fun s h => (f s h).bind (hadG exs)) := by
  refine PE.imp (pe_xt hh hb) fun σ H Q ⟨G, h, s, t, o⟩ => ?_
  refine part t o fun d v h1 G1 H1 T1 t1 x o => ?_
  unfold hadG at o
  split at o
  · rename_i c i
    split at o
    · rename_i hc
      obtain ⟨rfl, hc⟩ := hc
      obtain ⟨C, fI, eC, S⟩ := T.sh hc
      obtain ⟨a, dd, rfl, ⟨ha, _⟩, hp⟩ := vr_exc.mp x
      rw [eC] at ha
      cases dd with
      | none => exact hp.elim
      | some d0 =>
        rw [hK]
        exact ⟨a, C, d0, _, .int i, rfl, ha, ⟨S.ga, S.gg, S.exC, S.hdC⟩, S.noN, hp.1, by simp [List.lookup], KO.int o t1.hr⟩
    · exact o.elim
  · exact o.elim
end
/-! ### raise, try -/
def rsVO (s : SD) (d : D) (h : Hs) : O := match d with
  | .int i => .rs "Short" (some i) s h
  | _ => .stk
def bindS (i : Option Nat) (d : D) (s : SD) : SD := match i with
  | some i => s.set i (some d)
  | none => s
/-- behind a suite: the name is gone -/
def goneS (i : Option Nat) (s : SD) : SD := match i with
  | some i => s.set i none
  | none => s
def endI (i : Option Nat) : O → O
  | .nx s h => .nx (goneS i s) h
  | .bk s h => .bk (goneS i s) h
  | .ct s h => .ct (goneS i s) h
  | .rt d h => .rt d h
  | _ => .stk
def trO (cs : List Str) (y : Str) (i : Option Nat) (fb fs : SD → Hs → O) (s : SD) (h : Hs) : O := match fb s h with
  | .rs c p s1 h1 => if c ∈ cs then (if subX c y = true then endI i (fs (bindS i (.exc c p) s1) h1) else .rs c p s1 h1) else .stk
  | o => o
section
variable {X : Cx} {F : Fr} {W : WX} {exs ask : List Str}
theorem ss_raise {x m : Str} {j : Nat} {p p2 pos pos' : Pos} (T : ExcT F X.mg exs ask) (hx : x ∈ exs) (hs : x ≠ "Short") (hK : X.K = F.K) (hc : X.calm = true) (tk : Takes X W) (hg : Gl X x) (hdb : (x == ("__debug__" : Str)) = false) :
    SS X F W (.Raise (some (.Call (.Name x p) [.Constant (.str m) j p2] [] pos)) none pos') (fun s h => .rs x none s h) := by
  obtain ⟨C, eC, r⟩ := T.rs x hx hs
  have xC := r.xC
  have kC := r.kC
  have bC := r.bC
  have tC := r.tC
  rw [← hK] at xC kC bC tC
  refine PS.imp (L2N.ps_raise hc tk (L2N.pmk_own PySem.F.excBase_ValueError xC r.gC kC (raises_own bC tC) hg hdb)) fun Dn σ H ⟨G, h, s, t, o⟩ => ?_
  have := o G σ H none (Step.refl G H) t trivial
  rw [eC] at this
  exact this
theorem ss_raiseS {e : Expr} {f : SD → Hs → R D} {k : Nat} {p pos pos' : Pos} (T : ExcT F X.mg exs ask) (hx : ("Short" : Str) ∈ exs) (hK : X.K = F.K) (hc : X.calm = true) (hr : Room k X.A) (tk : Takes X W) (hg : Gl X "Short")
    (hs : starEach [e] X.env = (false, eval e X.env) :: starEach [] X.env) (hh : SE X F W e f) : SS X F W (.Raise (some (.Call (.Name "Short" p) [e] [] pos)) none pos') (fun s h => (f s h).thenO s (rsVO s)) := by
  obtain ⟨C, fI, eC, r⟩ := T.sh hx
  rw [← hK] at r
  refine PS.imp (L2N.ps_raise hc tk (pmk_short r hr (pa_cons hh pa_nil hs) hg hs rfl)) fun Dn σ H ⟨G, h, s, t, o⟩ => ?_
  show lift F W (VR F) f σ H _
  refine partS t o fun d v h2 G2 H2 T2 t2 x o2 => ?_
  unfold rsVO at o2
  split at o2
  · rename_i i
    obtain rfl := vr_int.mp x
    refine ⟨_, rfl, fun dd hd => ?_⟩
    have := o2 G2 σ _ (some dd) (Step.same (same_upd hd)) (t2.step (Step.same (same_upd hd)) (t2.hr.same (same_upd hd))) ⟨upd_same, fun z => t2.hr.bt dd z hd⟩
    rw [eC] at this
    exact this
  · exact o2.elim
theorem St.unset {G : Gh} {H : Hp} {σ : L2.St} {s : SD} {h : Hs} (i : Nat) (t : St F G h s σ H) : St F G h (s.set i none) (σ.set i none) H :=
  ⟨fun j d e => by
    by_cases z : i = j
    · subst z
      by_cases hl : i < s.length
      · rw [List.getElem?_set_self hl] at e; cases e
      · rw [List.getElem?_eq_none (by rw [List.length_set]; omega)] at e; cases e
    · rw [List.getElem?_set_ne z] at e
      obtain ⟨v, h1, h2⟩ := t.slot j d e
      exact ⟨v, by rw [List.getElem?_set_ne z]; exact h1, h2⟩, t.hr, by simp [t.len]⟩
theorem St.set' {G : Gh} {H : Hp} {σ : L2.St} {s : SD} {h : Hs} {i : Nat} {v : V} {d : D} (t : St F G h s σ H) (x : VR F G H d v) : St F G h (s.set i (some d)) (σ.set i (some v)) H := by
  by_cases hi : i < s.length
  · exact t.set hi x
  · rw [List.set_eq_of_length_le (by omega), List.set_eq_of_length_le (by rw [← t.len]; omega)]
    exact t

theorem ss_try {y n : Str} {i : Nat} {body suite : List Stmt} {b₀ : Stmt} {np pos pos' : Pos} {fb fs : SD → Hs → O} (T : ExcT F X.mg exs ask) (hy : y ∈ ask) (hv : y ≠ "ValueError") (hK : X.K = F.K) (hgl : Gl X y) (hdb : (y == ("__debug__" : Str)) = false)
    (hs : X.stack = X.env :: X.outer) (hf : X.env.frame = some X.env.locals) (hN : X.N.Nodup) (hi : X.N[i]? = some n) (hln : X.env.kindOf n = some .local) (tk : Takes X W)
    (hb : ∀ (W' : WX) (pn : List (Addr × Obj)) (xe : Value → Shared → Prop), Takes (X.tr pn xe) W' → PassesOwn (model X.prog X.w) X.A X.env xe → SB (X.tr pn xe) F W' body fb)
    (hsu : ∀ (a : Addr) (pn : List (Addr × Obj)), SB (X.suite a pn) (F.with (some a)) W0 (b₀ :: suite) fs) :
    SS X F W (.Try body [.ExceptHandler (some (.Name y np)) (some n) (b₀ :: suite) pos'] [] [] pos) (trO exs y (some i) fb fs) := by
  obtain ⟨D, hmD, hD⟩ : ∃ D, X.mg y = some (.ref D) ∧ ∀ x ∈ exs, PySem.W.kitOne F.K (F.cls x) (.ref D) = some (subX x y) ∧ PySem.W.exmOne F.K (F.cls x) (.ref D) = some (subX x y) := by
    rcases (T.ask y hy).own with h | h
    · exact h
    · exact (hv h.2.1).elim
  refine PS.imp (ps_try_tr hs hf hN hi hln ⟨hgl, hdb, .inl hmD⟩ tk (tb := fun W' => liftS F W' fb) (ts := fun a _ _ => liftS (F.with (some a)) W0 fs) (Wout := W) hb fun a cls d pn => hsu a pn) fun Dn σ H ⟨G, h, s, t, o⟩ => ⟨G, h, s, t, ?_⟩
  unfold trO at o
  cases q : fb s h with
  | nx s1 h1 => rw [q] at o; exact o
  | bk s1 h1 => rw [q] at o; exact o
  | ct s1 h1 => rw [q] at o; exact o
  | rt d h1 => rw [q] at o; exact o
  | stk => rw [q] at o; exact o
  | rs c p s1 h1 =>
    rw [q] at o
    dsimp only at o
    intro G' σ' H' dct T1 t1 pp
    split at o
    · rename_i hc
      refine ⟨subX c y, by rw [hK]; exact (hD c hc).2, fun hb' a na => ?_, fun hb' => ?_⟩
      · rw [if_pos hb'] at o
        have st : Step G' H' G' (upd H' a (exV (F.cls c) dct a)) := Step.same (same_upd na)
        have t2 : St F G' h1 s1 σ' (upd H' a (exV (F.cls c) dct a)) := t1.step st (t1.hr.same (same_upd na))
        have vx : VR F G' (upd H' a (exV (F.cls c) dct a)) (.exc c p) (.ref a) := vr_exc.mpr ⟨a, dct, rfl, ⟨upd_same, fun z => t1.hr.bt a z na⟩, pp.step st t1.hr.aB⟩
        have t3 : St F G' h1 (bindS (some i) (.exc c p) s1) (bindI σ' a (some i)) (upd H' a (exV (F.cls c) dct a)) := t2.set' vx
        have hh : ∀ b, (F.with (some a)).hot = some b → ∃ cls d, upd H' a (exV (F.cls c) dct a) b = some (exV cls d b) ∧ ¬ G'.B b := fun b q => by
          obtain rfl := Option.some.inj (show some a = some b from q)
          exact ⟨_, _, upd_same, fun z => t1.hr.bt a z na⟩
        refine ⟨G', h1, _, St.fr (F := F) (F' := F.with (some a)) rfl rfl t3 hh, ?_⟩
        have ho : ∀ {G2 H2}, Step G' (upd H' a (exV (F.cls c) dct a)) G2 H2 → ∀ b, F.hot = some b → ∃ cls d, H2 b = some (exV cls d b) ∧ ¬ G2.B b := fun T2 => t2.hr.hotS T2
        generalize bindS (some i) (.exc c p) s1 = s2 at o
        have TT := T1.trans st
        cases q2 : fs s2 h1 with
        | nx s3 h3 => rw [q2] at o; exact fun G2 σ2 H2 T2 t4 => o G2 _ H2 (TT.trans T2) ((St.fr (F := F.with (some a)) (F' := F) rfl rfl t4 (ho T2)).unset i)
        | bk s3 h3 => rw [q2] at o; exact fun G2 σ2 H2 T2 t4 => o G2 _ H2 (TT.trans T2) ((St.fr (F := F.with (some a)) (F' := F) rfl rfl t4 (ho T2)).unset i)
        | ct s3 h3 => rw [q2] at o; exact fun G2 σ2 H2 T2 t4 => o G2 _ H2 (TT.trans T2) ((St.fr (F := F.with (some a)) (F' := F) rfl rfl t4 (ho T2)).unset i)
        | rt d h3 => rw [q2] at o; exact fun v G2 H2 T2 r2 x2 => o v G2 H2 (TT.trans T2) (HR.fr (F := F.with (some a)) (F' := F) rfl rfl r2 (ho T2)) (VR.fr (F := F.with (some a)) (F' := F) rfl rfl _ x2)
        | rs c2 p2 s3 h3 => rw [q2] at o; exact o.elim
        | stk => rw [q2] at o; exact o.elim
      · rw [hb', if_neg (by simp)] at o
        exact o G' σ' H' dct T1 t1 pp
    · exact o.elim

theorem ss_try0 {y : Str} {body suite : List Stmt} {b₀ : Stmt} {np pos pos' : Pos} {fb fs : SD → Hs → O} (T : ExcT F X.mg exs ask) (hy : y ∈ ask) (hv : y ≠ "ValueError") (hK : X.K = F.K) (hgl : Gl X y) (hdb : (y == ("__debug__" : Str)) = false)
    (hs : X.stack = X.env :: X.outer) (hf : X.env.frame = some X.env.locals) (tk : Takes X W)
    (hb : ∀ (W' : WX) (pn : List (Addr × Obj)) (xe : Value → Shared → Prop), Takes (X.tr pn xe) W' → PassesOwn (model X.prog X.w) X.A X.env xe → SB (X.tr pn xe) F W' body fb)
    (hsu : ∀ (a : Addr) (pn : List (Addr × Obj)), SB (X.suite a pn) (F.with (some a)) W0 (b₀ :: suite) fs) :
    SS X F W (.Try body [.ExceptHandler (some (.Name y np)) none (b₀ :: suite) pos'] [] [] pos) (trO exs y none fb fs) := by
  obtain ⟨D, hmD, hD⟩ : ∃ D, X.mg y = some (.ref D) ∧ ∀ x ∈ exs, PySem.W.kitOne F.K (F.cls x) (.ref D) = some (subX x y) ∧ PySem.W.exmOne F.K (F.cls x) (.ref D) = some (subX x y) := by
    rcases (T.ask y hy).own with h | h
    · exact h
    · exact (hv h.2.1).elim
  refine PS.imp (ps_try_tr0 hs hf ⟨hgl, hdb, .inl hmD⟩ tk (tb := fun W' => liftS F W' fb) (ts := fun a _ _ => liftS (F.with (some a)) W0 fs) (Wout := W) hb fun a cls d pn => hsu a pn) fun Dn σ H ⟨G, h, s, t, o⟩ => ⟨G, h, s, t, ?_⟩
  unfold trO at o
  cases q : fb s h with
  | nx s1 h1 => rw [q] at o; exact o
  | bk s1 h1 => rw [q] at o; exact o
  | ct s1 h1 => rw [q] at o; exact o
  | rt d h1 => rw [q] at o; exact o
  | stk => rw [q] at o; exact o
  | rs c p s1 h1 =>
    rw [q] at o
    dsimp only at o
    intro G' σ' H' dct T1 t1 pp
    split at o
    · rename_i hc
      refine ⟨subX c y, by rw [hK]; exact (hD c hc).2, fun hb' a na => ?_, fun hb' => ?_⟩
      · rw [if_pos hb'] at o
        have st : Step G' H' G' (upd H' a (exV (F.cls c) dct a)) := Step.same (same_upd na)
        have t2 : St F G' h1 s1 σ' (upd H' a (exV (F.cls c) dct a)) := t1.step st (t1.hr.same (same_upd na))
        have vx : VR F G' (upd H' a (exV (F.cls c) dct a)) (.exc c p) (.ref a) := vr_exc.mpr ⟨a, dct, rfl, ⟨upd_same, fun z => t1.hr.bt a z na⟩, pp.step st t1.hr.aB⟩
        have t3 : St F G' h1 (bindS none (.exc c p) s1) (bindI σ' a none) (upd H' a (exV (F.cls c) dct a)) := t2
        have hh : ∀ b, (F.with (some a)).hot = some b → ∃ cls d, upd H' a (exV (F.cls c) dct a) b = some (exV cls d b) ∧ ¬ G'.B b := fun b q => by
          obtain rfl := Option.some.inj (show some a = some b from q)
          exact ⟨_, _, upd_same, fun z => t1.hr.bt a z na⟩
        refine ⟨G', h1, _, St.fr (F := F) (F' := F.with (some a)) rfl rfl t3 hh, ?_⟩
        have ho : ∀ {G2 H2}, Step G' (upd H' a (exV (F.cls c) dct a)) G2 H2 → ∀ b, F.hot = some b → ∃ cls d, H2 b = some (exV cls d b) ∧ ¬ G2.B b := fun T2 => t2.hr.hotS T2
        generalize bindS none (.exc c p) s1 = s2 at o
        have TT := T1.trans st
        cases q2 : fs s2 h1 with
        | nx s3 h3 => rw [q2] at o; exact fun G2 σ2 H2 T2 t4 => o G2 _ H2 (TT.trans T2) (St.fr (F := F.with (some a)) (F' := F) rfl rfl t4 (ho T2))
        | bk s3 h3 => rw [q2] at o; exact fun G2 σ2 H2 T2 t4 => o G2 _ H2 (TT.trans T2) (St.fr (F := F.with (some a)) (F' := F) rfl rfl t4 (ho T2))
        | ct s3 h3 => rw [q2] at o; exact fun G2 σ2 H2 T2 t4 => o G2 _ H2 (TT.trans T2) (St.fr (F := F.with (some a)) (F' := F) rfl rfl t4 (ho T2))
        | rt d h3 => rw [q2] at o; exact fun v G2 H2 T2 r2 x2 => o v G2 H2 (TT.trans T2) (HR.fr (F := F.with (some a)) (F' := F) rfl rfl r2 (ho T2)) (VR.fr (F := F.with (some a)) (F' := F) rfl rfl _ x2)
        | rs c2 p2 s3 h3 => rw [q2] at o; exact o.elim
        | stk => rw [q2] at o; exact o.elim
      · rw [hb', if_neg (by simp)] at o
        exact o G' σ' H' dct T1 t1 pp
    · exact o.elim
end
/-! ### a list made by + or *, as an object -/
def ownO (cat : Bool) (a b : D) (h : Hs) : R D := match cat with
  | true => match lstH h a, lstH h b with
    | some l, some k => if l.length + k.length ≤ 16777216 then newL true (l ++ k) h else .stk
    | _, _ => .stk
  | false => match lstW h a, b with
    | some l, .int k => if k < 2 ^ 63 ∧ -(2 ^ 63) ≤ k ∧ l.length * k.toNat ≤ 16777216 then newL true (List.replicate k.toNat l).flatten h else .stk
    | _, _ => .stk
section
variable {X : Cx} {F : Fr} {W : WX}
theorem se_own {cat : Bool} {op : Operator} {a b : Expr} {fa fb : SD → Hs → R D} {pos : Pos} (ho : op = if cat = true then .Add else .Mult) (hK : X.K = F.K) (ha : SE X F W a fa) (hb : SE X F W b fb) :
    SE X F W (.BinOp a op b pos) (fun s h => (fa s h).bind fun x h1 => (fb s h1).bind fun y h2 => ownO cat x y h2) := by
  cases cat with
  | true =>
    obtain rfl : op = .Add := ho
    refine PE.imp (pe_op op_catL ha hb) fun σ H Q ⟨G, h, s, t, o⟩ => ?_
    refine part t o fun d x h1 G1 H1 T1 t1 vx o => ?_
    refine part t1 o fun d' y h2 G2 H2 T2 t2 vy o => ?_
    have vx' := VR.step T2 t1.hr.aB d vx
    unfold ownO at o
    dsimp only at o
    split at o
    · rename_i l k q1 q2
      split at o
      · rename_i hl
        obtain ⟨p, xs, rfl, h1', l1⟩ := list_of t2.hr vx' q1
        obtain ⟨q, ys, rfl, h2', l2⟩ := list_of t2.hr vy q2
        rw [hK]
        refine ⟨p, q, xs, ys, rfl, rfl, h1', h2', by rw [l1.length, l2.length]; exact le_line hl, fun w hw => ?_⟩
        exact newL_go (m := true) (h := h2) rfl o t2.hr hw (l1.append l2)
      · exact o.elim
    · exact o.elim
  | false =>
    obtain rfl : op = .Mult := ho
    refine PE.imp (pe_op op_repL ha hb) fun σ H Q ⟨G, h, s, t, o⟩ => ?_
    refine part t o fun d x h1 G1 H1 T1 t1 vx o => ?_
    refine part t1 o fun d' y h2 G2 H2 T2 t2 vy o => ?_
    have vx' := VR.step T2 t1.hr.aB d vx
    unfold ownO at o
    dsimp only at o
    split at o
    · rename_i l k q1
      split at o
      · rename_i hl
        obtain ⟨p, xs, rfl, h1', l1⟩ := list_ofW t2.hr vx' q1
        obtain rfl := vr_int.mp vy
        refine ⟨p, k, xs, rfl, rfl, h1', hl.2.1, hl.1, by rw [l1.length]; exact le_line hl.2.2, fun w hw => ?_⟩
        exact newL_go (m := true) (h := h2) rfl o t2.hr hw (vrl_rep l1 _)
      · exact o.elim
    · exact o.elim
end
end Gx

/-! G76: count and index of lists of flat items; len(set(ints)); tuple(range(..)); enumerate. -/
/-! ### set(xs) of a list of numbers -/
namespace L2
open PySem PySem.Spec PyProof.Rows
abbrev nSet (w : World) : Obj := { cls := .type "set", dict := none, data := .set #[] 0 (.fresh 0 0 (!w.params.followText "set-order")) }
section
variable {P : Program} {w : World} {A : Around} {E : Value → Shared → Prop} {s : Shared}
/-- what the set's making leaves -/
def Made (w : World) (ns : List Int) (s s2 : Shared) : Prop := ∃ h' tk c, s2 = { s with heap := h', toks := tk } ∧ SetR w h' s.heap.objs.size (fun j => decide (j ∈ ns)) c ∧ c ≤ ns.length ∧ ∀ b o, s.heap.get? b = some o → h'.get? b = some o
/-- the walk that fills it -/
theorem fill_list {l : Addr} {items : Array Value} {ns : List Int} {R : Result → Shared → Prop} (hh : A.handled = none) (hl : s.heap.IsList l items) (hi : IntsAre items.toList ns) (hb : ns.length + 1 < scanBound)
    (h : ∀ s2, Made w ns s s2 → R (.ok (.ret .none)) s2) :
    codeAny (model P w) A (.builtin "set.update.loop" ⟨[.ref s.heap.objs.size, .ref (s.heap.push (nSet w)).objs.size], []⟩) R { s with heap := (s.heap.push (nSet w)).push { cls := .type "list_iterator", data := .fields #[.ref l, .int 0 0] } } := by
  have sz : items.size = ns.length := by
    have q := IntsAre.length hi
    rwa [Array.length_toList] at q
  have hl1 : (s.heap.push (nSet w)).IsList l items := by
    obtain ⟨o, e, r⟩ := hl
    exact ⟨o, Heap.get?_push_of_some _ e, r⟩
  have lt : l < s.heap.objs.size := by
    obtain ⟨o, e, r⟩ := hl
    exact Heap.lt_size e
  have hS : (s.heap.push (nSet w)).get? s.heap.objs.size = some (nSet w) := Heap.get?_push_size _ rfl
  have ez : (s.heap.push (nSet w)).objs.size = s.heap.objs.size + 1 := Heap.size_push ..
  refine set_update_ints ((Walks.list (by simp [hh]) (s.heap.push (nSet w)).objs.size l (by rw [ez]; exact Nat.ne_of_lt (Nat.lt_succ_of_lt lt)) items).toS) s.heap.objs.size (by rw [ez]; simp only [List.mem_cons, List.not_mem_nil, or_false, not_or]; exact ⟨Nat.ne_of_lt (Nat.lt_succ_self _), Nat.ne_of_gt lt⟩) ns sz hb (fun i v hv => ?_) (items.size - 0) 0 _ (by omega) (Nat.zero_le _) ⟨⟨_, Heap.get?_push_size _ rfl, rfl, rfl⟩, hl1.push _⟩ ⟨0, Nat.le_refl 0, setR_new_at (Heap.get?_push_of_some _ hS)⟩ fun s' c m hc hS' => ?_
  · have lt : i < ns.length := by rw [← sz]; exact (Array.getElem?_eq_some_iff.mp hv).1
    obtain ⟨t, e⟩ := IntsAre.int_at hi i v (by rw [Array.getElem?_toList]; exact hv)
    exact ⟨ns[i], t, List.getElem?_eq_getElem lt, by rw [e, List.getD_eq_getElem?_getD, List.getElem?_eq_getElem lt] <;> rfl⟩
  · obtain ⟨h', g, d, tk, os⟩ := s'
    have eg : g = s.gens := m.gens
    have ed : d = s.drawn := m.drawn
    have eo : os = s.os := m.os
    subst eg ed eo
    refine h _ ⟨h', tk, c, rfl, hS', by omega, fun b o e => ?_⟩
    have lb := Heap.lt_size e
    exact m.heap b o (by rw [ez]; simp only [List.mem_cons, List.not_mem_nil, or_false, not_or]; exact ⟨Nat.ne_of_lt lb, Nat.ne_of_lt (Nat.lt_succ_of_lt lb)⟩) (Heap.get?_push_of_some _ (Heap.get?_push_of_some _ e))
theorem set_list_ints {l : Addr} {items : Array Value} {ns : List Int} {Q : Value → Shared → Prop} (hh : A.handled = none) (hl : s.heap.IsList l items) (hi : IntsAre items.toList ns) (hb : ns.length + 1 < scanBound)
    (h : ∀ s2, Made w ns s s2 → Q (.ref s.heap.objs.size) s2) : wpAny (model P w) A (call (.type "set") [.ref l]) Q E s := by
  obtain ⟨c, tl, hmro⟩ := F.called_set.mro
  have h1 := F.called_set.made
  have h2 := F.called_set.sub
  have h3 := F.called_set.notType
  have h4 := F.called_set.canCreate
  have h5 := F.typeCall_set_1 (.ref l)
  refine wpAny_call (codeAny_of_tree ?_)
  show wpAny _ _ (callAny (.type "set") _) _ _ _
  refine wpAny_pure ⟨Code.quiet_builtin _ (by decide +kernel), codeAny_builtin F.entry_type_call ?_⟩
  rw [Around.under_plain (weight_type_call_type "set" [.ref l] []) rfl]
  repeat (any_goals (first | assumption | wp_step))
  refine codeAny_mono (code_set_led1 (.ref l) (E := E) (Q₁ := fun o s1 => o = .ref s.heap.objs.size ∧ s1 = { s with heap := s.heap.push (nSet w) }) ⟨rfl, rfl⟩) fun r s1 hr => ?_
  rcases r with e | fl
  · exact hr
  cases fl <;> first | exact hr.elim | skip
  obtain ⟨rfl, rfl⟩ := hr
  have hT : Shared.TypeIs { s with heap := s.heap.push (nSet w) } (.ref s.heap.objs.size) "set" := ⟨_, Heap.get?_push_size _ rfl, rfl⟩
  have h6 := F.called_set.init.lookup
  have h7 := F.called_set.init.bind (.ref s.heap.objs.size)
  repeat (any_goals (first | assumption | wp_step))
  refine codeAny_mono (codeAny_call_builtin (R := wants (fun r s2 => r = .none ∧ Made w ns s s2) E) F.called_set.init.plain F.entry_set_init (check_set_init_1 hT ?_)) fun r s2 hr => ?_
  · have hl1 : (s.heap.push (nSet w)).IsList l items := by
      obtain ⟨o, e, r⟩ := hl
      exact ⟨o, Heap.get?_push_of_some _ e, r⟩
    have hl2 := hl1
    obtain ⟨⟨ocls, odict, odata, oslots⟩, ho, hcl, n, hd⟩ := hl2
    simp only at hcl hd
    subst hcl hd
    have g1 := F.sub_list_set
    have g2 := F.sub_list_frozenset
    have g3 : (Value.type "list" == Value.type "dict") = false := by decide
    unfold Builtin.«set.__init__» noKeywords Builtin.Frozenset.updateFrom
    generalize hp : pyIter = PI
    wp_walk
    subst hp
    refine wpAny_pyIter_list hl1 (wpAny_bind (wpAny_runValue ?_))
    refine fill_list (by simp [hh]) hl hi hb fun s2 m => ?_
    show wpAny _ _ _ _ _ _
    refine wpAny_pure ?_
    show wpAny _ _ (ret Value.none) _ _ _
    exact wpAny_pure ⟨rfl, m⟩
  · rcases r with e | fl
    · exact hr
    cases fl <;> first | exact hr.elim | skip
    obtain ⟨rfl, m⟩ := hr
    repeat (any_goals (first | assumption | wp_step))
    exact h _ m
end
end L2
namespace Gx
open PySem L2
/-! ### flat items -/
def flV : D → Option V
  | .non => some .non
  | .bl b => some (.bl b)
  | .int i => some (.int i)
  | .str x => some (.str x)
  | _ => none
def eqF (a b : D) : Bool := match flV a, flV b with
  | some x, some y => eqV x y
  | _, _ => false
def flD (d : D) : Bool := (flV d).isSome
section
variable {X : Cx} {F : Fr} {W : WX} {G G' : Gh} {H H' : Hp} {σ : L2.St} {s : SD} {h h' : Hs}
theorem vr_fl {d : D} {v w : V} (r : VR F G H d v) (e : flV d = some w) : v = w ∧ flatV w = true := by
  cases d with
  | non => injection e with e; subst e; exact ⟨vr_non.mp r, rfl⟩
  | bl b => injection e with e; subst e; exact ⟨vr_bl.mp r, rfl⟩
  | int i => injection e with e; subst e; exact ⟨vr_int.mp r, rfl⟩
  | str x => injection e with e; subst e; exact ⟨vr_str.mp r, rfl⟩
  | _ => cases e
theorem fl_some {d : D} (e : flD d = true) : ∃ w, flV d = some w := Option.isSome_iff_exists.mp e
theorem vrl_fl {y : D} {w : V} (ey : flV y = some w) : ∀ {l : List D} {xs : List V}, VRL F G H l xs → l.all flD = true → xs.all flatV = true ∧ (∀ z : V → Bool, True) ∧ xs.map (fun z => eqV z w) = l.map fun z => eqF z y
  | [], xs, r, _ => by rw [vrl_nil.mp r]; exact ⟨rfl, fun _ => trivial, rfl⟩
  | d :: l, xs, r, f => by
    obtain ⟨v, vr, rfl, r1, r2⟩ := vrl_cons.mp r
    rw [List.all_cons, Bool.and_eq_true] at f
    obtain ⟨u, eu⟩ := fl_some f.1
    obtain ⟨rfl, fu⟩ := vr_fl r1 eu
    obtain ⟨i1, _, i2⟩ := vrl_fl ey r2 f.2
    refine ⟨by rw [List.all_cons, fu, i1]; rfl, fun _ => trivial, ?_⟩
    rw [List.map_cons, List.map_cons, i2]
    congr 1
    unfold eqF
    rw [eu, ey]
def valM (g : List D → List D → Option D) (d : D) (ds : List D) (h : Hs) : R D := match lstH h d with
  | some l => match g l ds with
    | some z => .ok z h
    | none => .stk
  | none => .stk
theorem valM_nrs {g : List D → List D → Option D} : ∀ d ds h c p h', valM g d ds h ≠ .rs c p h' := fun d ds h c p h' e => by
  unfold valM at e
  split at e <;> first | (cases e; done) | skip
  split at e <;> cases e
def txCount (l ds : List D) : Option D := match ds with
  | [y] => if flD y = true ∧ l.all flD = true then some (.int (l.countP fun z => eqF z y : Nat)) else none
  | _ => none
def txIndex (l ds : List D) : Option D := match ds with
  | [y] => if flD y = true ∧ l.all flD = true then (l.findIdx? fun z => eqF z y).map fun (j : Nat) => .int j else none
  | _ => none
def rCount (K : PySem.W.Frag) : V → List V → Hp → VK → Prop := fun x xs H Q => ∃ (a : Addr) (ys : List V) (y : V), x = V.ref a ∧ xs = [y] ∧ SqL K H a ys ∧ flatV y = true ∧ ys.all flatV = true ∧ Q (.int (ys.countP fun z => eqV z y : Nat)) H
theorem countP_eqU {x : V} : ∀ {xs : List V} {us : List Value}, Vals xs us → xs.all flatV = true → us.countP (eqU x) = xs.countP fun y => eqV y x
  | _, _, .nil, _ => rfl
  | _, _, .cons r t, f => by
    rw [List.all_cons, Bool.and_eq_true] at f
    rw [List.countP_cons, List.countP_cons, countP_eqU t f.2, eqU_of r f.1]
theorem mt_count : MtR X "list.count" (rCount X.K) := by
  intro pins s σ H x xs v us Q I rx rxs h
  obtain ⟨a, ys, y, rfl, rfl, hs, fy, fys, q⟩ := h
  cases rx
  obtain ⟨u, rfl, ru⟩ := rxs.one
  obtain ⟨its, rv, ⟨⟨cls, dd, data, sl⟩, n, ho, hc, hdn, hd⟩, hlen⟩ := I.list hs
  simp only at hc hd
  subst hc hd
  refine call_meets PySem.F.slot_list_count ⟨_, ho, rfl⟩ PySem.F.entry_list_count (PySem.F.args_list_count_2 _ _)
    (SeqAt.list_countAt a its.toArray n dd sl u (eqU y)) ⟨ho, fun u' hu' => mem_eqAt ru fy rv fys u' (by simpa using hu'), ?_⟩
  have ec : its.toArray.toList.countP (eqU y) = ys.countP fun z => eqV z y := by
    rw [List.toList_toArray]
    exact countP_eqU rv fys
  refine ⟨.int (ys.countP fun z => eqV z y : Nat), H, I.tok _, ⟨s.toks, ?_⟩, q⟩
  show Value.int ((its.toArray.toList.countP (eqU y) : Nat) : Int) s.toks = Value.int ((ys.countP fun z => eqV z y : Nat) : Int) s.toks
  rw [ec]
theorem mok_count : MthOk F (rCount F.K) (valM txCount) := by
  intro G H h x d vs ds z h' Q rr vx vy e k
  unfold valM at e
  split at e <;> first | (cases e; done) | skip
  rename_i l ql
  split at e <;> first | (cases e; done) | skip
  rename_i z' qz
  injection e with e1 e2
  subst e1 e2
  obtain ⟨p, xs, rfl, hs, hl⟩ := list_of rr vx ql
  unfold txCount at qz
  split at qz
  · rename_i y
    split at qz
    · rename_i hh
      injection qz with qz
      subst qz
      obtain ⟨w, ew⟩ := fl_some hh.1
      obtain ⟨v, rfl, r1⟩ := vrl_onev vy
      obtain ⟨rfl, fw⟩ := vr_fl r1 ew
      obtain ⟨i1, _, i2⟩ := vrl_fl ew hl hh.2
      have ec : xs.countP (fun z => eqV z v) = l.countP fun z => eqF z y := by
        have e1 : xs.countP (fun z => eqV z v) = (xs.map fun z => eqV z v).countP id := by rw [List.countP_map]; rfl
        have e2 : l.countP (fun z => eqF z y) = (l.map fun z => eqF z y).countP id := by rw [List.countP_map]; rfl
        rw [e1, e2, i2]
      exact ⟨p, xs, v, rfl, rfl, hs, fw, i1, k _ G H (Step.refl _ _) rr (vr_int.mpr (by rw [ec]))⟩
    · cases qz
  · cases qz
theorem mok_index : MthOk F (rIndex F.K) (valM txIndex) := by
  intro G H h x d vs ds z h' Q rr vx vy e k
  unfold valM at e
  split at e <;> first | (cases e; done) | skip
  rename_i l ql
  split at e <;> first | (cases e; done) | skip
  rename_i z' qz
  injection e with e1 e2
  subst e1 e2
  obtain ⟨p, xs, rfl, hs, hl⟩ := list_of rr vx ql
  unfold txIndex at qz
  split at qz
  · rename_i y
    split at qz
    · rename_i hh
      obtain ⟨w, ew⟩ := fl_some hh.1
      obtain ⟨v, rfl, r1⟩ := vrl_onev vy
      obtain ⟨rfl, fw⟩ := vr_fl r1 ew
      obtain ⟨i1, _, i2⟩ := vrl_fl ew hl hh.2
      cases qj : l.findIdx? fun z => eqF z y with
      | none => rw [qj] at qz; cases qz
      | some j =>
        rw [qj] at qz
        injection qz with qz
        subst qz
        obtain ⟨h1, h2, h3⟩ := List.findIdx?_eq_some_iff_getElem.mp qj
        have len : xs.length = l.length := hl.length
        have at' : ∀ (m : Nat) (hm : m < l.length), eqV (xs[m]'(by omega)) v = eqF l[m] y := fun m hm => by
          have := congrArg (fun q => q[m]?) i2
          simp only [List.getElem?_map] at this
          rw [List.getElem?_eq_getElem (by omega), List.getElem?_eq_getElem hm] at this
          simpa using this
        refine ⟨p, xs, v, j, xs[j]'(by omega), rfl, rfl, hs, fw, i1, List.getElem?_eq_getElem (by omega), by rw [at' j h1]; exact h2, fun m z' hm ez => ?_, k _ G H (Step.refl _ _) rr (vr_int.mpr rfl)⟩
        obtain ⟨hm2, ez⟩ := List.getElem?_eq_some_iff.mp ez
        have := h3 m hm
        rw [← ez, at' m (by omega)]
        simpa using this
    · cases qz
  · cases qz
/-! ### len(set(xs)) -/
def setLen (ns : List Int) : Nat := (PyProof.Rows.firstMet (fun i => ns.getD i 0) ns.length).length
def tLS (K : PySem.W.Frag) (ta : TE) : TE := fun σ H Q => ta σ H fun x H1 => ∃ (l : Addr) (ns : List Int), x = V.ref l ∧ SqL K H1 l (ns.map V.int) ∧ ns.length < 4000 ∧ Q (.int (setLen ns)) H1
theorem pe_lenSetG {a : Expr} {ta : TE} {p p2 q pos : Pos} (hc : X.calm = true) (hg : Gl X "len") (hm : X.mg "len" = none) (hg2 : Gl X "set") (hm2 : X.mg "set" = none) (ha : PE X a ta)
    (na : starEach [a] X.env = (false, eval a X.env) :: starEach [] X.env) : PE X (.Call (.Name "len" p) [.Call (.Name "set" p2) [a] [] q] [] pos) (tLS X.K ta) := by
  refine ⟨fun pins s σ H Q I h => ?_⟩
  refine PyProof.Rows.Call_ (ld_blt I hg hm PySem.boot_len ?_)
  refine PyProof.Rows.callWith_builtin1 (PyProof.Rows.args_cons ?_ rfl) rfl rfl
  refine PyProof.Rows.Call_ (ld_blt I hg2 hm2 PyProof.Rows.boot_set ?_)
  refine PyProof.Rows.callWith_type1 (PyProof.Rows.args_cons (thn (ha.run pins s σ H _ I h) fun v s1 ⟨x, H1, I1, r1, q1⟩ => PyProof.Rows.args_nil ?_) na) na rfl
  obtain ⟨l, ns, rfl, hq, h1, q1⟩ := q1
  cases r1
  obtain ⟨its, r, pl, hz⟩ := I1.list hq
  have hl : its.toArray.size = ns.length := by rw [List.size_toArray, ← r.length, List.length_map]
  refine call_set_list (I1.ok.hd hc) pl.isList (ns := ns) (by simpa using r.ints) (by unfold scanBound; omega) fun h' tk hS hk => ?_
  rw [hl] at hS
  refine PyProof.Rows.args_nil ?_
  obtain ⟨o, es, ep, t, ho, hex, hd, _, _, _, hf, hn⟩ := hS
  have I2 : Inv X pins σ H1 { s1 with heap := h', toks := tk } := I1.kept fun b o e => hk b o (Heap.lt_size e) e
  have hb : (PyProof.Rows.firstMet (fun i => ns.getD i 0) ns.length).length ≤ ns.length := PyProof.Rows.firstMet_length_le _ _
  refine call_len_set ho hex hd hf (by rw [hn] <;> omega) ⟨.int (setLen ns), H1, I2.tok _, ⟨_, by unfold setLen; rw [hn]⟩, q1⟩
def lenSetO (ds : List D) (h : Hs) : R D := match ds with
  | [d] => match lstH h d with
    | some l => match intsOf l with
      | some ns => if ns.length < 4000 then .ok (.int (setLen ns)) h else .stk
      | none => .stk
    | none => .stk
  | _ => .stk
/-! ### sorted(set(xs)) -/
def tSS (K : PySem.W.Frag) (ta : TE) : TE := fun σ H Q => ta σ H fun x H1 => ∃ (l : Addr) (ns : List Int), x = V.ref l ∧ SqL K H1 l (ns.map V.int) ∧ ns.length < 64 ∧ ∀ (ms : List Int) (p : Addr), ms.Pairwise (· < ·) → (∀ k, k ∈ ms ↔ k ∈ ns) → H1 p = none → Q (.ref p) (upd H1 p (.lst (ms.map V.int)))
theorem pe_srtSetG {a : Expr} {ta : TE} {p p2 q pos : Pos} (hc : X.calm = true) (hg : Gl X "sorted") (hm : X.mg "sorted" = none) (hg2 : Gl X "set") (hm2 : X.mg "set" = none) (ha : PE X a ta)
    (na : starEach [a] X.env = (false, eval a X.env) :: starEach [] X.env) : PE X (.Call (.Name "sorted" p) [.Call (.Name "set" p2) [a] [] q] [] pos) (tSS X.K ta) := by
  refine ⟨fun pins s σ H Q I h => ?_⟩
  refine PyProof.Rows.Call_ (ld_blt I hg hm PyProof.Rows.boot_sorted ?_)
  refine PyProof.Rows.callWith_builtin1 (PyProof.Rows.args_cons ?_ rfl) rfl rfl
  refine PyProof.Rows.Call_ (ld_blt I hg2 hm2 PyProof.Rows.boot_set ?_)
  refine PyProof.Rows.callWith_type1 (PyProof.Rows.args_cons (thn (ha.run pins s σ H _ I h) fun v s1 ⟨x, H1, I1, r1, q1⟩ => PyProof.Rows.args_nil ?_) na) na rfl
  obtain ⟨l, ns, rfl, hq, h1, q1⟩ := q1
  cases r1
  obtain ⟨its, r, pl, hz⟩ := I1.list hq
  refine set_list_ints (I1.ok.hd hc) pl.isList (ns := ns) (by simpa using r.ints) (by unfold scanBound; omega) fun s2 ⟨h', tk, c, es, R, lc, hk⟩ => ?_
  refine PyProof.Rows.args_nil ?_
  have I2 : Inv X pins σ H1 s2 := by rw [es]; exact I1.kept fun b o e => hk b o e
  have R : SetR X.w s2.heap s1.heap.objs.size (fun j => decide (j ∈ ns)) c := by rw [es]; exact R
  clear es
  refine sorted_set R (I2.ok.hd hc) (by omega) fun s' p out c' ms k g o hp hg hi hs hm hl => ?_
  have hlen : (ms.map V.int).length ≤ sizeLine := by rw [List.length_map, hl, sizeLine_eq]; omega
  have hn : H1 p = none := I2.hok.fresh hp
  have J : Inv X pins σ (upd H1 p (.lst (ms.map V.int))) { s2 with heap := s'.heap, gens := s'.gens, drawn := s'.drawn, toks := s'.toks } :=
    I2.call (ch := []) (Un.laid k hp hn) (I2.hok.laid k hp ⟨hlen, out.toList, c', vals_of_ints hi, hg⟩) (by rw [g]; exact I2.bare) (fun _ z => nomatch z)
  have e : s' = { s2 with heap := s'.heap, gens := s'.gens, drawn := s'.drawn, toks := s'.toks } := by
    cases s'
    cases s2
    cases o
    rfl
  rw [e]
  exact ⟨.ref p, _, J, rfl, q1 ms p hs (fun k => by rw [hm k]; simp) hn⟩
def dedI : List Int → List Int
  | [] => []
  | a :: r => if a ∈ dedI r then dedI r else a :: dedI r
theorem dedI_mem {k : Int} : ∀ {l : List Int}, k ∈ dedI l ↔ k ∈ l
  | [] => Iff.rfl
  | a :: r => by
    have ih := dedI_mem (k := k) (l := r)
    unfold dedI
    split
    · rename_i z
      rw [ih, List.mem_cons]
      exact ⟨.inr, fun w => w.elim (fun e => by rw [e]; exact dedI_mem.mp z) id⟩
    · rw [List.mem_cons, List.mem_cons, ih]
theorem dedI_nd : ∀ l : List Int, (dedI l).Nodup
  | [] => List.Pairwise.nil
  | a :: r => by
    unfold dedI
    split
    · exact dedI_nd r
    · rename_i z
      exact List.nodup_cons.mpr ⟨z, dedI_nd r⟩
theorem nd_perm : ∀ {l m : List Int}, l.Nodup → m.Nodup → (∀ k, k ∈ l ↔ k ∈ m) → l.Perm m
  | [], m, _, _, h => by
    cases m with
    | nil => exact List.Perm.nil
    | cons b r => exact absurd ((h b).mpr List.mem_cons_self) List.not_mem_nil
  | a :: r, m, h1, h2, h => by
    obtain ⟨z, h1⟩ := List.nodup_cons.mp h1
    have hm := (h a).mp List.mem_cons_self
    refine ((nd_perm h1 (h2.erase a) fun k => ?_).cons a).trans (List.perm_cons_erase hm).symm
    rw [h2.mem_erase_iff, ← h k, List.mem_cons]
    exact ⟨fun w => ⟨fun e => z (e ▸ w), .inr w⟩, fun w => w.2.resolve_left w.1⟩
def sortU (ns : List Int) : List Int := sortI (dedI ns)
theorem sortU_uniq {ms ns : List Int} (h : ms.Pairwise (· < ·)) (e : ∀ k, k ∈ ms ↔ k ∈ ns) : ms = sortU ns :=
  sort_uniq ((nd_perm (h.imp fun w => by omega) (dedI_nd ns) fun k => by rw [e k, dedI_mem]).trans (sortI_perm _).symm) (h.imp fun w => by omega) (sortI_le _)
theorem sortU_mem {ns : List Int} {k : Int} : k ∈ sortU ns ↔ k ∈ ns := by
  unfold sortU
  rw [(sortI_perm _).mem_iff, dedI_mem]
def srtSetO (ds : List D) (h : Hs) : R D := match ds with
  | [d] => match lstH h d with
    | some l => match intsOf l with
      | some ns => if ns.length < 64 then .ok (.vl ((sortU ns).map .int)) h else .stk
      | none => .stk
    | none => .stk
  | _ => .stk
/-! ### tuple(range(..)) -/
def trG (k : Nat) (ds : List D) (h : Hs) : R D := match k, ds with
  | 1, [.int b] => if 0 ≤ b ∧ b ≤ 16777216 then .ok (.tup (rngD 0 b.toNat)) h else .stk
  | 2, [.int a, .int b] => if 0 ≤ a ∧ a ≤ 16777216 ∧ 0 ≤ b ∧ b ≤ 16777216 then .ok (.tup (rngD a (b - a).toNat)) h else .stk
  | _, _ => .stk
inductive Xf where
  | lenSet | trng (k : Nat) | srtSet
  deriving DecidableEq
def Xf.g : Xf → List D → Hs → R D
  | .lenSet => lenSetO
  | .trng k => trG k
  | .srtSet => srtSetO
/-! ### enumerate -/
def enumO (ds : List D) (h : Hs) : R Src := match ds with
  | [a] => match lstH h a with
    | some l => .ok ⟨l.zipIdx.map fun p => .tup [.int (p.2 : Nat), p.1], stays a l⟩ h
    | none => .stk
  | _ => .stk
theorem enum_get {l : List D} {xs : List V} (h1 : VRL F G H l xs) {i : Nat} {d : D} (e : (l.zipIdx.map fun p => D.tup [.int (p.2 : Nat), p.1])[i]? = some d) (rr : HR F G H h) :
    ∃ x, xs[i]? = some x ∧ ∀ T, H T = none → VR F G (upd H T (.tup [.int (i : Nat), x])) d (.ref T) := by
  rw [List.getElem?_map, List.getElem?_zipIdx] at e
  cases q : l[i]? with
  | none => rw [q] at e; cases e
  | some y =>
    rw [q] at e
    injection e with e
    subst e
    obtain ⟨x, x1, x2⟩ := VRL.get h1 q
    refine ⟨x, x1, fun T hT => ?_⟩
    have S : Step G H G (upd H T (.tup [.int (i : Nat), x])) := Step.same (same_upd hT)
    refine vr_tup.mpr ⟨T, [.int (i : Nat), x], rfl, upd_same, vrl_cons.mpr ⟨.int (i : Nat), [x], rfl, vr_int.mpr ?_, vrl_one.mpr (VR.step S rr.aB _ x2)⟩⟩
    simp
theorem si_enum {e : Expr} {elts : List Expr} {kk : Nat} {f : SD → Hs → R (List D)} {p pos tpos : Pos} (hK : X.K = F.K) (hg : Gl X "enumerate") (hm : X.mg "enumerate" = none) (hs : starEach [e] X.env = [(false, eval e X.env)]) (ha : SA X F W [e] f) :
    SI X F W (.Tuple elts kk tpos) (.Call (.Name "enumerate" p) [e] [] pos) (fun s h => (f s h).bind enumO) :=
  ⟨fun pins s' σ H R0 I ⟨G, h, s, t, o⟩ => (pi_enum hg hm ha hs).run pins s' σ H R0 I (partI t o fun d v h1 G1 H1 T1 t1 x o => by
    unfold enumO at o
    split at o
    · rename_i a
      split at o
      · rename_i l qa
        obtain ⟨va, rfl, ra⟩ := vrl_onev x
        obtain ⟨pa, rfl, ka⟩ := list_stays t1.hr ra qa
        obtain ⟨pa', xs, e1, hsa, _⟩ := list_of t1.hr ra qa
        injection e1 with e1
        subst e1
        refine ⟨pa, xs, rfl, by rw [hK]; exact hsa, o _ G1 H1 (Step.refl _ _) t1.hr ?_⟩
        rw [hK]
        refine ⟨fun G2 H2 h2 T r cc i hi => ?_, fun G2 H2 h2 T r cc i d e => ?_⟩
        · obtain ⟨xs2, a1, a2⟩ := ka G2 H2 h2 T r cc
          refine ⟨xs2, a1, ?_⟩
          rw [List.length_map, List.length_zipIdx] at hi
          rw [a2.length]
          exact hi
        · obtain ⟨xs2, a1, a2⟩ := ka G2 H2 h2 T r cc
          obtain ⟨x, hx, k⟩ := enum_get a2 e r
          refine ⟨⟨_, x, a1, hx⟩, fun v H3 hh => ?_⟩
          obtain ⟨T, x', rfl, hT, rfl, f1⟩ := hh
          have e1 := Option.some.inj (hx.symm.trans (f1 _ a1))
          subst e1
          exact ⟨same_upd hT, k T hT⟩
      · exact o.elim
    · exact o.elim)⟩
end
end Gx

/-! G77: any(xs) where an exception is handled. -/
namespace PySem
theorem pyNext_list_end_hot {prog : Program} {w : World} {A : Around} {E : Value → Shared → Prop} {s : Shared} {it l x1 : Addr} {i : Nat} {items : Array Value} {Q : Option Value → Shared → Prop} (hot : HotX.HotAt A x1 s.heap) (hne : it ≠ x1)
    (hit : s.heap.IsListIter it l i) (hl : s.heap.IsList l items) (hx : items[i]? = none)
    (hQ : ∀ h', Heap.ExtBut it s.heap h' → Q none { s with heap := h' }) : wpAny (model prog w) A (pyNext (.ref it)) Q E s := by
  obtain ⟨hh, o1, vs1, h1, d1, c1⟩ := hot
  obtain ⟨o, ho, hc, hd⟩ := id hit
  obtain ⟨ol, hol, _, nl, hdl⟩ := hl
  unfold pyNext
  refine wpAny_bind (wpAny_attempt (wpAny_callSpecial?_slot (name := Str.ofString "__next__") hit.typeIs slot_listiter_next
    (wpAny_call_entry slot_listiter_next hit.typeIs entry_listiter_next ?_ (args_listiter_next _))))
  show wpAny _ _ (field (.ref it) 0 >>= _) _ _ s
  refine wpAny_bind (wpAny_field ho hd (x := .ref l) rfl ?_)
  show wpAny _ _ (if (Value.ref l == Value.none) = true then _ else _) _ _ s
  rw [if_neg (show ¬ ((Value.ref l == Value.none) = true) from Bool.false_ne_true)]
  show wpAny _ _ (field (.ref it) 1 >>= _) _ _ s
  refine wpAny_bind (wpAny_field ho hd (x := .int i 0) rfl ?_)
  show wpAny _ _ (seqItems? (.ref l) >>= _) _ _ s
  refine wpAny_bind (wpAny_seqItems hol hdl ?_)
  simp only [Int.toNat_natCast, hx]
  refine wpAny_bind (wpAny_rule (wpAny_bind (wpAny_setField ho hd (by simp) ?_)))
  show wpAny _ _ (newExc (.type "StopIteration") [] >>= _) _ _ _
  refine wpAny_bind ?_
  simp only [newExc, newTuple]
  refine wpAny_bind (wpAny_newObj_type ?_ (by size_fits))
  refine wpAny_bind (m := firstArgMember _ _) (wpAny_of_eq (a := Value.none) (by first | rfl | (simp only [firstArgMember]; rfl)) ?_)
  refine wpAny_newObj_type ?_ (by size_fits)
  refine HotX.raiseNew_hot ⟨hh, o1, vs1, Heap.get?_push_of_some _ (Heap.get?_push_of_some _ ((Heap.get?_update_other _ _ hne).trans h1)), d1, c1⟩ (Nat.ne_of_lt (Heap.lt_size (Heap.get?_push_of_some _ ((Heap.get?_update_other _ _ hne).trans h1)))) (Heap.get?_push_size _ rfl) rfl (by first | (simp; done) | (simp; omega) | (simp only [Array.size_append]; simp; omega)) ?_
  refine wpAny_bind (wpAny_isInstance (T := "StopIteration") (b := true) ⟨_, Heap.get?_update_self _ (Heap.get?_push_size _ rfl) rfl, rfl⟩ isSubtype_stop ?_)
  refine wpAny_pure (hQ _ fun b o' hb e => ?_)
  have e2 := Heap.get?_push_of_some { cls := .type "tuple", data := .seq #[] } ((Heap.get?_update_other s.heap (Obj.mapFields (·.setIfInBounds 0 .none)) (Ne.symm hb)).trans e)
  first
  | (rw [Heap.get?_update_other _ _ (Nat.ne_of_gt (Heap.lt_size (Heap.get?_push_of_some _ ((Heap.get?_update_other _ _ (Ne.symm hb)).trans e))))]
     exact Heap.get?_push_of_some _ (Heap.get?_push_of_some _ ((Heap.get?_update_other _ _ (Ne.symm hb)).trans e)))
/-- the walk of a list, x1's exception being handled -/
theorem Walks.listHot {prog : Program} {w : World} {A : Around} {x1 : Addr} (hh : A.handled = some (.ref x1)) (I ax : Addr) (hne : ax ≠ I) (hne1 : I ≠ x1) (items : Array Value) :
    Walks prog w A I [I, ax, x1] [I] items.size (fun i v => items[i]? = some v) (fun i h => (h.IsListIter I ax i ∧ h.IsList ax items) ∧ ∃ (o : Obj) (vs : Array Value), h.get? x1 = some o ∧ o.data = .fields vs ∧ vs[2]? = some .none) where
  sub := fun b hb => by simp at hb; simp [hb]
  frame := fun _ _ _ st hk => ⟨⟨st.1.1.at fun o e => hk I (by simp) o e, st.1.2.at fun o e => hk ax (by simp) o e⟩, let ⟨o, vs, h1, h2, h3⟩ := st.2; ⟨o, vs, hk x1 (by simp) o h1, h2, h3⟩⟩
  item := fun i s Q E hi st hQ => by
    refine wpAny_pyNext_list_item st.1.1 st.1.2 (x := items[i]) (by simp [hi]) fun h' hit' hs' => ?_
    refine hQ _ h' s.toks (by simp [hi]) ⟨⟨hit', st.1.2.extBut hs'.extBut hne⟩, ?_⟩ fun b o hb e => hs'.extBut b o (fun h => hb (by simp [h])) e
    obtain ⟨o, vs, h1, h2, h3⟩ := st.2
    exact ⟨o, vs, hs'.extBut x1 o (Ne.symm hne1) h1, h2, h3⟩
  done := fun s Q E st hQ => pyNext_list_end_hot ⟨hh, st.2⟩ hne1 st.1.1 st.1.2 (by simp) fun h' he' => hQ h' s.toks fun b o hb e => he' b o (fun h => hb (by simp [h])) e
  self := fun _ _ _ _ st hQ => wpAny_pyIter_listiter st.1.1 hQ
end PySem
namespace Gx
open PySem PySem.Spec PyProof.Rows L2
def rAnyH (K : PySem.W.Frag) (x1 : Addr) : List V → Hp → VK → Prop := fun vs H Q => (∃ cls d, H x1 = some (exV cls d x1)) ∧ rAny K vs H Q
theorem cr_anyH {X : Cx} {x1 : Addr} (hh : X.A.handled = some (.ref x1)) : CallR X (.builtin "any") (rAnyH X.K x1) := by
  intro pins s σ H vs us Q I r h
  obtain ⟨⟨cls, d, hx⟩, a, bs, rfl, hs, q⟩ := h
  obtain ⟨oe, vs, g1, g2, g3⟩ := exV_at I.hok hx
  obtain ⟨its, rv, hl, _⟩ := I.list hs
  rw [Vals.ref1 r]
  have hb := rv.bls
  refine call_any_walk (iter_any hl.isList fun s₂ e2 st hne => ?_)
  subst e2
  have n1 : s.heap.objs.size ≠ x1 := fun z => by
    have := Heap.lt_size g1
    rw [← z] at this
    exact Nat.lt_irrefl _ this
  refine ⟨_, _, _, _, _, _, _, rfl, Walks.listHot (A := X.A.in1) hh _ a hne n1 its.toArray, ⟨st, oe, vs, Heap.get?_push_of_some _ g1, g3, g2.2.2 vs g3⟩, truth_bools hb, fun h' tk hk => ?_⟩
  refine ⟨.bl _, H, I.kept fun b o eo => hk b o (fun hmem => ?_) (Heap.get?_push_of_some _ eo), ?_, q⟩
  · rcases List.mem_cons.mp hmem with e1 | hmem
    · exact absurd (e1 ▸ Heap.lt_size eo) (Nat.lt_irrefl _)
    · cases hmem
  · show Value.bool _ = Value.bool _
    rw [← L2.any_range, hb, List.size_toArray, List.length_map]
theorem ok_anyH {F : Fr} {x1 : Addr} (hf : F.hot = some x1) : CallOk F (rAnyH F.K x1) (DL gAny) := by
  intro G H h vs ds z h' Q rr x e k
  obtain ⟨c, d, h1, _⟩ := rr.hot x1 hf
  exact ⟨⟨c, d, h1⟩, ok_any G H h vs ds z h' Q rr x e k⟩
end Gx

/-! G78: dicts: d.get, displays as values. -/
namespace Gx
open PySem PySem.Spec PyProof.Rows L2
section
variable {X : Cx} {F : Fr} {W : WX} {G G' : Gh} {H H' : Hp} {σ : L2.St} {s : SD} {h h' : Hs}
def isDic (h : Hs) (d : D) : Bool := (dicU h d).isSome || (ditU h d).isSome
theorem ty_dict : TyOk F "dict" isDic := fun G H h x d r v c => by
  unfold isDic at c
  rw [Bool.or_eq_true] at c
  rcases c with c | c
  rotate_left
  · obtain ⟨⟨k, l⟩, e⟩ := Option.isSome_iff_exists.mp c
    obtain ⟨p, vs, rfl, hp, _⟩ := ditU_of r v e
    exact .inr (.inr (.inl ⟨rfl, .inr ⟨_, hp⟩⟩))
  obtain ⟨⟨k, l⟩, e⟩ := Option.isSome_iff_exists.mp c
  obtain ⟨p, qs, vs, rfl, hp, _⟩ := dicU_of r v e
  exact .inr (.inr (.inl ⟨rfl, .inl ⟨_, hp⟩⟩))
def getM (d : D) (ds : List D) (h : Hs) : R D := match dicU h d with
  | some kl => match ds with
    | [y] => match kyD y with
      | some q => .ok ((dFind kl.1 kl.2 q).getD .non) h
      | none => .stk
    | [y, z] => match kyD y with
      | some q => .ok ((dFind kl.1 kl.2 q).getD z) h
      | none => .stk
    | _ => .stk
  | none => match ditU h d with
    | some kl => match ds with
      | [y] => match kyT y with
        | some q => .ok ((dFindT kl.1 kl.2 q).getD .non) h
        | none => .stk
      | [y, z] => match kyT y with
        | some q => .ok ((dFindT kl.1 kl.2 q).getD z) h
        | none => .stk
      | _ => .stk
    | none => .stk
theorem getM_nrs : ∀ d ds h c p h', getM d ds h ≠ .rs c p h' := fun d ds h c p h' e => by
  unfold getM at e
  split at e
  · split at e <;> first | (cases e; done) | skip
    all_goals (split at e <;> cases e)
  · split at e <;> first | (cases e; done) | skip
    split at e <;> first | (cases e; done) | skip
    all_goals (split at e <;> cases e)
/-- d.clear() of a dict that is an object -/
def clrM (d : D) (ds : List D) (h : Hs) : R D := match d, ds with
  | .ref n, [] => match h[n]? with
    | some (.dic _ _) => match putH n (.dic [] []) h with
      | some h' => .ok .non h'
      | none => .stk
    | _ => .stk
  | _, _ => .stk
theorem clrM_nrs : ∀ d ds h c p h', clrM d ds h ≠ .rs c p h' := fun d ds h c p h' e => by
  unfold clrM at e
  split at e <;> first | (cases e; done) | skip
  split at e <;> first | (cases e; done) | skip
  all_goals (split at e <;> cases e)
theorem mok_clr : MthOk F rDClear clrM := by
  intro G H h x d vs ds z h' Q rr vx vy e k
  unfold clrM at e
  split at e <;> first | (cases e; done) | skip
  rename_i n
  split at e <;> first | (cases e; done) | skip
  rename_i k0 l0 q
  split at e <;> first | (cases e; done) | skip
  rename_i h2 q3
  injection e with e1 e2
  subst e1 e2
  obtain ⟨p, rfl, hp⟩ := vr_ref.mp vx
  obtain ⟨p', hp', u, hu, qs, ws, rfl, hl, h1, h2'⟩ := rr.obj n _ q
  rw [hp] at hp'
  injection hp' with hp'
  subst hp'
  rw [vrl_nil.mp vy]
  refine ⟨p, _, rfl, rfl, hu, ?_⟩
  unfold putH at q3
  injection q3 with q3
  subst q3
  have nf : ∀ o u, H p ≠ some (.frz o u) := fun _ _ z => by rw [hu] at z; cases z
  have T := Step.write (u := .dK []) rr hp nf
  exact k .non G _ T (rr.write hp nf ⟨[], [], rfl, rfl, vrl_nil.mpr rfl, vrl_nil.mpr rfl⟩) (vr_non.mpr rfl)
def txClear (_ : Hs) (_ ds : List D) : Option (List D × D) := match ds with
  | [] => some ([], .non)
  | _ => none
theorem mok_clear : MthOk F rClear (lstM txClear) := lstM_ok fun G H h p xs l ds l' vs z Q rr hu hl vy e k => by
  unfold txClear at e
  split at e
  · injection e with e
    injection e with e1 e2
    subst e1 e2
    rw [vrl_nil.mp vy]
    exact ⟨p, xs, rfl, rfl, hu, k _ _ (vrl_nil.mpr rfl) (vr_non.mpr rfl)⟩
  · cases e
/-- x.clear(): of a dict or of a list -/
def isClr (h : Hs) (d : D) : Bool := isDic h d || isLst h d
def clrA (d : D) (ds : List D) (h : Hs) : R D := if isDic h d = true then clrM d ds h else lstM txClear d ds h
theorem clrA_d {d : D} {ds : List D} {h : Hs} (e : isDic h d = true) : clrA d ds h = clrM d ds h := if_pos e
theorem isClr_d {d : D} {h : Hs} (e : isDic h d = true) : isClr h d = true := by unfold isClr; rw [e]; rfl
theorem clrA_l {n : Nat} {l : List D} {h : Hs} (e : h[n]? = some (.lst l)) : clrA (.ref n) [] h = .ok .non (h.set n (.lst [])) := by
  have z : isDic h (.ref n) = false := by simp [isDic, dicU, ditU, e]
  unfold clrA
  rw [if_neg (by rw [z]; exact Bool.false_ne_true)]
  unfold lstM
  simp [e, txClear, putH]
theorem isClr_l {n : Nat} {l : List D} {h : Hs} (e : h[n]? = some (.lst l)) : isClr h (.ref n) = true := by
  unfold isClr isLst lstH
  simp [e]
/-- one of two readings -/
theorem se_two {e : Expr} {f f1 f2 : SD → Hs → R D} (h1 : SE X F W e f1) (h2 : SE X F W e f2) (hh : ∀ s h, f s h = f1 s h ∨ f s h = f2 s h) : SE X F W e f := ⟨fun pins s σ H Q I hl => by
  obtain ⟨G, h, sd, t, o⟩ := hl
  rcases hh sd h with q | q
  · rw [q] at o
    exact h1.run pins s σ H Q I ⟨G, h, sd, t, o⟩
  · rw [q] at o
    exact h2.run pins s σ H Q I ⟨G, h, sd, t, o⟩⟩
def rGet : V → List V → Hp → VK → Prop := fun x xs H Q => ∃ a, x = .ref a ∧ ((∃ y o, xs = [y] ∧ DGet H a y o ∧ Q (o.getD .non) H) ∨ ∃ y z o, xs = [y, z] ∧ DGet H a y o ∧ Q (o.getD z) H)
theorem mt_get (hu : X.A.units + 1 < cLine) : MtR X "dict.get" rGet := by
  intro pins s σ H x xs v us Q I rx rxs h
  obtain ⟨a, rfl, h⟩ := h
  obtain rfl : v = Value.ref a := rx
  rcases h with ⟨y, o, rfl, g, q⟩ | ⟨y, z, o, rfl, g, q⟩
  · cases rxs with
    | cons r1 rr =>
      cases rr
      exact d_get1 hu I g r1 fun w' s' I' r' => ⟨_, H, I', r', q⟩
  · cases rxs with
    | cons r1 rr =>
      cases rr with
      | cons r2 rr =>
        cases rr
        exact d_get2 hu I g r1 r2 fun w' s' I' r' => ⟨_, H, I', r', q⟩
theorem mok_get : MthOk F rGet getM := by
  intro G H h x d vs ds z h' Q rr vx vy e k
  unfold getM at e
  split at e
  rotate_left
  · split at e <;> first | (cases e; done) | skip
    rename_i kl hd
    obtain ⟨kk, ll⟩ := kl
    have hd := ditU_ditH hd
    dsimp only at e
    split at e <;> first | (cases e; done) | skip
    · rename_i y
      obtain ⟨w, rfl, ry⟩ := vrl_onev vy
      cases hq : kyT y with
      | none => rw [hq] at e; cases e
      | some q =>
        rw [hq] at e
        injection e with e1 e2
        subst e1 e2
        obtain ⟨p, rfl, f1, f2⟩ := dgetT_of rr vx ry hd hq
        cases hf : dFindT kk ll q with
        | none => rw [hf] at k; exact ⟨p, rfl, .inl ⟨w, none, rfl, f2 hf, k _ G H (Step.refl _ _) rr (vr_non.mpr rfl)⟩⟩
        | some u =>
          rw [hf] at k
          obtain ⟨u', g1, g2⟩ := f1 _ hf
          exact ⟨p, rfl, .inl ⟨w, some u', rfl, g1, k _ G H (Step.refl _ _) rr g2⟩⟩
    · rename_i y y2
      obtain ⟨w, ws, rfl, ry, hr⟩ := vrl_cons.mp vy
      obtain ⟨w2, rfl, ry2⟩ := vrl_onev hr
      cases hq : kyT y with
      | none => rw [hq] at e; cases e
      | some q =>
        rw [hq] at e
        injection e with e1 e2
        subst e1 e2
        obtain ⟨p, rfl, f1, f2⟩ := dgetT_of rr vx ry hd hq
        cases hf : dFindT kk ll q with
        | none => rw [hf] at k; exact ⟨p, rfl, .inr ⟨w, w2, none, rfl, f2 hf, k _ G H (Step.refl _ _) rr ry2⟩⟩
        | some u =>
          rw [hf] at k
          obtain ⟨u', g1, g2⟩ := f1 _ hf
          exact ⟨p, rfl, .inr ⟨w, w2, some u', rfl, g1, k _ G H (Step.refl _ _) rr g2⟩⟩
  rename_i kl hd
  obtain ⟨kk, ll⟩ := kl
  have hd := dicU_dicH hd
  dsimp only at e
  split at e <;> first | (cases e; done) | skip
  · rename_i y
    obtain ⟨w, rfl, ry⟩ := vrl_onev vy
    cases hq : kyD y with
    | none => rw [hq] at e; cases e
    | some q =>
      rw [hq] at e
      injection e with e1 e2
      subst e1 e2
      obtain ⟨p, rfl, _, f1, f2⟩ := dget_of rr vx ry hd hq
      cases hf : dFind kk ll q with
      | none => rw [hf] at k; exact ⟨p, rfl, .inl ⟨w, none, rfl, f2 hf, k _ G H (Step.refl _ _) rr (vr_non.mpr rfl)⟩⟩
      | some u =>
        rw [hf] at k
        obtain ⟨u', g1, g2⟩ := f1 _ hf
        exact ⟨p, rfl, .inl ⟨w, some u', rfl, g1, k _ G H (Step.refl _ _) rr g2⟩⟩
  · rename_i y y2
    obtain ⟨w, ws, rfl, ry, hr⟩ := vrl_cons.mp vy
    obtain ⟨w2, rfl, ry2⟩ := vrl_onev hr
    cases hq : kyD y with
    | none => rw [hq] at e; cases e
    | some q =>
      rw [hq] at e
      injection e with e1 e2
      subst e1 e2
      obtain ⟨p, rfl, _, f1, f2⟩ := dget_of rr vx ry hd hq
      cases hf : dFind kk ll q with
      | none => rw [hf] at k; exact ⟨p, rfl, .inr ⟨w, w2, none, rfl, f2 hf, k _ G H (Step.refl _ _) rr ry2⟩⟩
      | some u =>
        rw [hf] at k
        obtain ⟨u', g1, g2⟩ := f1 _ hf
        exact ⟨p, rfl, .inr ⟨w, w2, some u', rfl, g1, k _ G H (Step.refl _ _) rr g2⟩⟩
/-! ### displays -/
def dspO (qs : List Key) (l : List D) (h : Hs) : R D := .ok (.vd (qs.map kD) l) h
def keyE : Option Expr → Option Key
  | some (.Constant (.int i) _ _) => some (.inl i)
  | some (.Constant (.str x) _ _) => some (.inr x)
  | _ => none
def evF : List (SD → Hs → R D) → SD → Hs → R (List D)
  | [], _, h => .ok [] h
  | f :: r, s, h => (f s h).bind fun d h1 => (evF r s h1).bind fun ds h2 => .ok (d :: ds) h2
inductive SEs (X : Cx) (F : Fr) (W : WX) : List Expr → List (SD → Hs → R D) → Prop
  | nil : SEs X F W [] []
  | cons {e : Expr} {es : List Expr} {f : SD → Hs → R D} {fs : List (SD → Hs → R D)} : SE X F W e f → SEs X F W es fs → SEs X F W (e :: es) (f :: fs)
theorem key_pe {k : Expr} {q : Key} (e : keyE (some k) = some q) : PE X k (tC (kV q)) := by
  unfold keyE at e
  split at e
  · rename_i h2
    injection h2 with h2
    injection e with e
    subst h2 e
    exact pe_int
  · rename_i h2
    injection h2 with h2
    injection e with e
    subst h2 e
    exact pe_str
  · cases e
theorem pps_of {pos : Pos} : ∀ {ks : List (Option Expr)} {qs : List Key} {vs : List Expr} {fs : List (SD → Hs → R D)}, ks.map keyE = qs.map some → SEs X F W vs fs → ks.length = vs.length →
    ∃ trs, PPs X pos ks vs trs ∧ ∀ (R' : List (V × V) → Hp → Prop) (σ : L2.St) (G : Gh) (H : Hp) (h : Hs) (s : SD), St F G h s σ H → Out F W G σ H (VRL F) (fun ws H' => ws.length = qs.length → R' ((qs.zip ws).map fun kv => (kV kv.1, kv.2)) H') (evF fs s h) → tPairs trs σ H R'
  | [], qs, vs, fs, hk, hv, hl => by
    cases hv with
    | cons _ _ => cases hl
    | nil =>
      cases qs with
      | cons _ _ => cases hk
      | nil =>
        refine ⟨[], pps_nil, fun R' σ G H h s t o => ?_⟩
        exact o [] G H (Step.refl _ _) t.hr (vrl_nil.mpr rfl) rfl
  | k :: ks, qs, vs, fs, hk, hv, hl => by
    cases hv with
    | nil => cases hl
    | @cons e es f fs he hes =>
      cases qs with
      | nil => cases hk
      | cons q qs =>
        rw [List.map_cons, List.map_cons] at hk
        injection hk with hk1 hk2
        cases k with
        | none => cases hk1
        | some k =>
          obtain ⟨trs, P, T⟩ := pps_of (pos := pos) hk2 hes (by simpa using hl)
          refine ⟨(tC (kV q), lift F W (VR F) f) :: trs, pps_cons (key_pe hk1) he P, fun R' σ G H h s t o => ?_⟩
          show lift F W (VR F) f σ H _
          refine part t o fun d v h1 G1 H1 T1 t1 vx o => ?_
          refine T _ σ G1 H1 h1 s t1 ?_
          cases hq : evF fs s h1 with
          | ok ds h2 =>
            rw [hq] at o
            exact fun ws G2 H2 T2 r2 hw hlen => by
              have := o (v :: ws) G2 H2 T2 r2 (vrl_cons.mpr ⟨v, ws, rfl, VR.step T2 t1.hr.aB d vx, hw⟩) (by simp [hlen])
              simpa using this
          | rs c p h2 => rw [hq] at o; exact o
          | stk => rw [hq] at o; exact o
theorem merge_nd : ∀ (more kvs : List (Key × V)), ((kvs ++ more).map (·.1)).Nodup → mergeK kvs more = kvs ++ more
  | [], kvs, _ => by simp [mergeK]
  | p :: r, kvs, h => by
    have e : mergeK kvs (p :: r) = mergeK (putK kvs p.1 p.2) r := rfl
    have hn : valV kvs p.1 = none := by
      cases q : valV kvs p.1 with
      | none => rfl
      | some v =>
        have m := valV_in q
        rw [List.map_append, List.nodup_append] at h
        exact (h.2.2 p.1 m p.1 (by simp) rfl).elim
    rw [e, putK_new _ hn]
    have := merge_nd r (kvs ++ [(p.1, p.2)]) (by simpa using h)
    rw [this]
    simp
theorem vrl_keys : ∀ (qs : List Key), VRL F G H (qs.map kD) (qs.map kV)
  | [] => vrl_nil.mpr rfl
  | q :: r => by
    rw [List.map_cons, List.map_cons]
    refine vrl_cons.mpr ⟨kV q, r.map kV, rfl, ?_, vrl_keys r⟩
    cases q with
    | inl i => exact vr_int.mpr rfl
    | inr x => exact vr_str.mpr rfl
theorem se_dsp {ks : List (Option Expr)} {qs : List Key} {vs : List Expr} {fs : List (SD → Hs → R D)} {pos : Pos} (hk : ks.map keyE = qs.map some) (hv : SEs X F W vs fs) (hl : ks.length = vs.length) (nd : qs.Nodup) (h0 : ks ≠ []) (h15 : ks.length ≤ 15) : SE X F W (.Dict ks vs pos) (fun s h => (evF fs s h).bind (dspO qs)) := by
  obtain ⟨trs, P, T⟩ := pps_of (pos := pos) hk hv hl
  have hall : ks.all (·.isSome) = true := by
    refine List.all_eq_true.mpr fun k hm => ?_
    have : keyE k ∈ ks.map keyE := List.mem_map.mpr ⟨k, hm, rfl⟩
    rw [hk] at this
    obtain ⟨q, _, e⟩ := List.mem_map.mp this
    cases k with
    | none => cases e
    | some _ => rfl
  have lq : qs.length = ks.length := by
    have := congrArg List.length hk
    simpa using this.symm
  refine PE.imp (pe_disp P hall hl h0 h15) fun σ H Q ⟨G, h, s, t, o⟩ => fun p hp => ?_
  have r := t.hr
  have np : ∀ m, G.α m ≠ some p := fun m e => r.bt p (r.aB m p e) hp
  have T2 : Step G H (G.hide p) (upd H p (.dK [])) := by
    have S : Step G H G (upd H p (.dK [])) := Step.same (same_upd hp)
    exact ⟨S.ids, S.new, S.keep, S.tup, fun q hq b => b.elim id fun z => (hq (z ▸ hp)).elim, fun q b => .inl b, S.there, S.frz⟩
  have r2 : HR F (G.hide p) (upd H p (.dK [])) h := by
    have S := r.same (same_upd hp (o := .dK []))
    refine ⟨fun n o e => ?_, S.dom, S.inj, fun n p e => .inl (S.aB n p e), fun q b => ?_, fun a q => let ⟨c, d, h1, h2⟩ := S.hot a q; ⟨c, d, h1, fun z => z.elim h2 fun w => by rw [w, upd_same] at h1; cases h1⟩⟩
    · obtain ⟨q, e1, u, hu, ho⟩ := r.obj n o e
      exact ⟨q, e1, u, same_upd hp _ _ hu, ho.step T2 r.aB⟩
    · rcases b with b | rfl
      · exact S.bt q b
      · rw [upd_same]; exact fun z => nomatch z
  refine T _ σ (G.hide p) (upd H p (.dK [])) h s (t.step T2 r2) ?_
  dsimp only at o
  cases hq : evF fs s h with
  | stk => rw [hq] at o; exact o.elim
  | rs c p' h2 =>
    rw [hq] at o
    exact fun G' H' dct T3 r3 pp => o G' H' dct (T2.trans T3) r3 pp
  | ok ds h2 =>
    rw [hq] at o
    intro ws G' H' T3 r3 hw hlen
    have hp' : H' p = some (.dK []) := T3.keep p _ upd_same np
    have hb : G'.B p := T3.bans p (.inr rfl)
    have hn : ∀ m, G'.α m ≠ some p := fun m e => by
      rcases T3.new m p e with z | z
      · exact np m z
      · rw [upd_same] at z; cases z
    have ht : ∀ q xs, H' q = some (.tup xs) → (upd H' p (.dK (qs.zip ws))) q = some (.tup xs) := fun q xs z => by
      have : q ≠ p := fun w => by
        subst w
        rw [hp'] at z; cases z
      rw [upd_ne this]; exact z
    have lz : (qs.zip ws).length ≤ 15 := by
      rw [List.length_zip]
      omega
    refine ⟨hp', qs.zip ws, rfl, lz, ?_⟩
    have em : mergeK [] (qs.zip ws) = qs.zip ws := by
      rw [merge_nd _ [] ?_, List.nil_append]
      rw [List.nil_append, List.map_fst_zip (by omega)]
      exact nd
    rw [em]
    have T4 := T2.trans T3
    have r4 := r3.hid (u := .dK (qs.zip ws)) hb hn ht
    have sm : ∀ n p', G'.α n = some p' → (G'.show p).α n = some p' := fun _ _ e => e
    have bb : ∀ p', (G'.show p).B p' → G'.B p' := fun _ b => b.1
    refine o (.ref p) (G'.show p) (upd H' p (.dK (qs.zip ws))) ⟨T4.ids, T4.new, fun q u e na => ?_, fun q xs e => ht q xs (T4.tup q xs e), fun q e b => T4.ban q e b.1, fun q b => ⟨T4.bans q b, fun w => r.bt q b (by rw [w]; exact hp)⟩, fun q e => ?_, fun q o' u' e => by rw [upd_ne (ne_of_none e hp)]; exact T4.frz q o' u' e⟩ ?_ (vr_vd.mpr ⟨p, qs, ws, rfl, ⟨upd_same, fun b => b.2 rfl⟩, hlen.symm, vrl_keys qs, VRL.al sm bb _ (VRL.hid hb ht ds hw)⟩)
    · have : q ≠ p := fun w => by rw [w, hp] at e; cases e
      rw [upd_ne this]
      exact T4.keep q u e na
    · have : q ≠ p := fun w => e (by rw [w]; exact hp)
      rw [upd_ne this]
      exact T4.there q e
    · exact ⟨fun n o e => by
        obtain ⟨q, e1, u, hu, ho⟩ := r4.obj n o e
        exact ⟨q, e1, u, hu, ho.imp fun l xs z => VRL.al sm bb l z⟩, r4.dom, r4.inj, fun n q e => ⟨r4.aB n q e, fun w => hn n (by rw [← w]; exact e)⟩, fun q b => r4.bt q b.1, fun a q => let ⟨c, d, h1, h2⟩ := r4.hot a q; ⟨c, d, h1, fun z => h2 z.1⟩⟩
end
end Gx

/-! G79: dicts as objects: made, walked under a lock. -/
namespace Gx
open PySem L2
section
variable {X : Cx} {F : Fr} {W : WX} {G G' G1 G2 : Gh} {H H' H1 H2 : Hp} {σ : L2.St} {s : SD} {h h1 h2 h' : Hs}
/-! ### a hidden thing becomes an object -/
theorem reveal {p : Addr} {u : HO} {o : HO'} (r2 : HR F G2 H2 h2) (bD : G2.B p) (nD : ∀ m, G2.α m ≠ some p) (hDl : H2 p = some u) (ho : ON F G2 H2 u o) :
    HR F ⟨fun n => if n = h2.length then some p else G2.α n, G2.B⟩ H2 (h2 ++ [o]) := by
  have ids : ∀ n q, G2.α n = some q → (if n = h2.length then some p else G2.α n) = some q := fun n q e => by
    have := r2.dom n q e
    rw [if_neg (by omega)]; exact e
  have vr : ∀ l xs, VRL F G2 H2 l xs → VRL F ⟨fun n => if n = h2.length then some p else G2.α n, G2.B⟩ H2 l xs := fun l xs hl => VRL.al (G' := ⟨fun n => if n = h2.length then some p else G2.α n, G2.B⟩) ids (fun p b => b) l hl
  refine ⟨fun n o e => ?_, fun n q e => ?_, fun a b q e1 e2 => ?_, fun n q e => ?_, r2.bt, r2.hot⟩
  · rcases Nat.lt_trichotomy n h2.length with hn | hn | hn
    · rw [List.getElem?_append_left hn] at e
      obtain ⟨q, e1, u, hu, ho⟩ := r2.obj n o e
      exact ⟨q, ids n q e1, u, hu, ho.imp fun l xs z => vr l xs z⟩
    · subst hn
      rw [List.getElem?_append_right (Nat.le_refl _), Nat.sub_self] at e
      injection e with e
      subst e
      exact ⟨p, by show (if h2.length = h2.length then some p else _) = some p; rw [if_pos rfl], _, hDl, ho.imp fun l xs z => vr l xs z⟩
    · rw [List.getElem?_eq_none (by simp; omega)] at e; cases e
  · have e : (if n = h2.length then some p else G2.α n) = some q := e
    split at e
    · simp; omega
    · have := r2.dom n q e; simp; omega
  · have e1 : (if a = h2.length then some p else G2.α a) = some q := e1
    have e2 : (if b = h2.length then some p else G2.α b) = some q := e2
    split at e1 <;> split at e2
    · omega
    · injection e1 with e1; subst e1; exact (nD b e2).elim
    · injection e2 with e2; subst e2; exact (nD a e1).elim
    · exact r2.inj a b q e1 e2
  · have e : (if n = h2.length then some p else G2.α n) = some q := e
    split at e
    · injection e with e; subst e; exact bD
    · exact r2.aB n q e
/-! ### {}, {k: v} -/
def dnwO (m : Bool) (h : Hs) : R D := match m with
  | true => .ok (.ref h.length) (h ++ [.dic [] []])
  | false => .ok (.vd [] []) h
theorem se_dnw (m : Bool) {pos : Pos} : SE X F W (.Dict [] [] pos) (fun _ h => dnwO m h) := by
  refine PE.imp pe_dnewK fun σ H Q ⟨G, h, s, t, o⟩ => fun p hp => ?_
  cases m with
  | true => exact KO.newO (o := .dic [] []) o t.hr hp ⟨[], [], rfl, rfl, vrl_nil.mpr rfl, vrl_nil.mpr rfl⟩
  | false => exact o (.ref p) G (upd H p (.dK [])) (Step.same (same_upd hp)) (t.hr.same (same_upd hp)) (vr_vd.mpr ⟨p, [], [], rfl, ⟨upd_same, fun b => t.hr.bt p b hp⟩, rfl, vrl_nil.mpr rfl, vrl_nil.mpr rfl⟩)
def dntO (h : Hs) : R D := .ok (.ref h.length) (h ++ [.dit [] []])
theorem se_dnt {pos : Pos} : SE X F W (.Dict [] [] pos) (fun _ h => dntO h) := by
  refine PE.imp pe_dnewT fun σ H Q ⟨G, h, s, t, o⟩ => fun p hp => ?_
  exact KO.newO (o := .dit [] []) o t.hr hp ⟨[], rfl, rfl, vrl_nil.mpr rfl⟩
/-- {k: v}, as an object -/
def d1O (a b : D) (h : Hs) : R D := match kyD a with
  | some q => .ok (.ref h.length) (h ++ [.dic [kD q] [b]])
  | none => .stk
theorem se_d1 {k v : Expr} {fk fv : SD → Hs → R D} {pos : Pos} (hk : SE X F W k fk) (hv : SE X F W v fv) : SE X F W (.Dict [some k] [v] pos) (fun s h => (fk s h).bind fun a h1 => (fv s h1).bind fun b h2 => d1O a b h2) := by
  refine PE.imp (pe_disp (pps_cons hk hv pps_nil) rfl rfl (fun z => by cases z) (by simp)) fun σ H Q ⟨G, h, s, t, o⟩ => fun p hp => ?_
  have r := t.hr
  have np : ∀ m, G.α m ≠ some p := fun m e => r.bt p (r.aB m p e) hp
  have T2 : Step G H (G.hide p) (upd H p (.dK [])) := by
    have S : Step G H G (upd H p (.dK [])) := Step.same (same_upd hp)
    exact ⟨S.ids, S.new, S.keep, S.tup, fun q hq b => b.elim id fun z => (hq (z ▸ hp)).elim, fun q b => .inl b, S.there, S.frz⟩
  have r2 : HR F (G.hide p) (upd H p (.dK [])) h := by
    have S := r.same (same_upd hp (o := .dK []))
    refine ⟨fun n o e => ?_, S.dom, S.inj, fun n p e => .inl (S.aB n p e), fun q b => ?_, fun a q => let ⟨c, d, h1, h2⟩ := S.hot a q; ⟨c, d, h1, fun z => z.elim h2 fun w => by rw [w, upd_same] at h1; cases h1⟩⟩
    · obtain ⟨q, e1, u, hu, ho⟩ := r.obj n o e
      exact ⟨q, e1, u, same_upd hp _ _ hu, ho.step T2 r.aB⟩
    · rcases b with b | rfl
      · exact S.bt q b
      · rw [upd_same]; exact fun z => nomatch z
  have t2 : St F (G.hide p) h s σ (upd H p (.dK [])) := t.step T2 r2
  dsimp only at o
  show tPairs [(_, _)] σ (upd H p (.dK [])) _
  refine ⟨G.hide p, h, s, t2, ?_⟩
  cases ea : fk s h with
  | stk => rw [ea] at o; exact o.elim
  | rs c q h3 => rw [ea] at o; exact fun G' H' dct T3 r3 pp => o G' H' dct (T2.trans T3) r3 pp
  | ok a h3 =>
  rw [ea] at o
  intro x G3 H3 T3 r3 vx
  refine ⟨G3, h3, s, t2.step T3 r3, ?_⟩
  dsimp only [R.bind] at o
  cases eb : fv s h3 with
  | stk => rw [eb] at o; exact o.elim
  | rs c q h4 => rw [eb] at o; exact fun G' H' dct T4 r4 pp => o G' H' dct (T2.trans (T3.trans T4)) r4 pp
  | ok b h4 =>
  rw [eb] at o
  intro y G4 H4 T4 r4' vy
  have T34 := T3.trans T4
  have hp' : H4 p = some (.dK []) := T34.keep p _ upd_same np
  have hb : G4.B p := T34.bans p (.inr rfl)
  have hn : ∀ m, G4.α m ≠ some p := fun m e => by
    rcases T34.new m p e with z | z
    · exact np m z
    · rw [upd_same] at z; cases z
  dsimp only at o
  unfold d1O at o
  cases hq : kyD a with
  | none => rw [hq] at o; exact o.elim
  | some q =>
    rw [hq] at o
    have vx := VR.step T4 r3.aB a vx
    obtain rfl := ky_of vx hq
    have ht : ∀ q' xs, H4 q' = some (.tup xs) → (upd H4 p (.dK [(q, y)])) q' = some (.tup xs) := fun q' xs z => by
      have : q' ≠ p := fun w => by
        subst w
        rw [hp'] at z; cases z
      rw [upd_ne this]; exact z
    refine ⟨hp', [(q, y)], rfl, by simp, ?_⟩
    have r4 := r4'.hid (u := .dK [(q, y)]) hb hn ht
    have vkd : VR F G4 (upd H4 p (.dK [(q, y)])) (kD q) (kV q) := by
      cases q with
      | inl i => exact vr_int.mpr rfl
      | inr x => exact vr_str.mpr rfl
    have rv := reveal r4 hb hn upd_same (o := .dic [kD q] [b]) ⟨[q], [y], rfl, rfl, vrl_one.mpr vkd, vrl_one.mpr (VR.hid hb ht b vy)⟩
    have T0 := T2.trans T34
    have ids : ∀ n q', G4.α n = some q' → (if n = h4.length then some p else G4.α n) = some q' := fun n q' e => by
      have := r4'.dom n q' e
      rw [if_neg (by omega)]; exact e
    have mk : mergeK [] [(q, y)] = [(q, y)] := rfl
    rw [mk]
    refine o (.ref p) ⟨fun n => if n = h4.length then some p else G4.α n, G4.B⟩ (upd H4 p (.dK [(q, y)])) ⟨fun n q' e => ids n q' (T0.ids n q' e), fun n q' e => ?_, fun q' u e na => ?_, fun q' xs e => ht q' xs (T0.tup q' xs e), T0.ban, T0.bans, fun q' e => ?_, fun q' o u e => by rw [upd_ne (ne_of_none e hp)]; exact T0.frz q' o u e⟩ rv (vr_ref.mpr ⟨p, rfl, by show (if h4.length = h4.length then some p else _) = some p; rw [if_pos rfl]⟩)
    · have e : (if n = h4.length then some p else G4.α n) = some q' := e
      split at e
      · injection e with e; subst e; exact .inr hp
      · exact T0.new n q' e
    · rw [upd_ne (ne_of_none e hp)]; exact T0.keep q' u e na
    · by_cases w : q' = p
      · subst w; rw [upd_same]; exact fun z => nomatch z
      · rw [upd_ne w]; exact T0.there q' e
/-! ### dicts walked -/
def dlpI (kd : Nat) (k l : List D) : List D := match kd with
  | 0 => k
  | _ => (k.zip l).map fun p => .tup [p.1, p.2]
def tkD (q : List Key) : D := .tup (q.map kD)
/-- of a locked dict -/
def lckO (kd : Nat) (d : D) (h : Hs) : R Src := match d with
  | .ref n => match h[n]? with
    | some (.fdc k l) => .ok (src0 (dlpI kd k l)) h
    | some (.fdt k l) => if kd = 0 then .ok (src0 (k.map tkD)) h else .stk
    | _ => .stk
  | _ => .stk
theorem vrl_kD : ∀ {q : List Key}, VRL F G H (q.map kD) (q.map kV)
  | [] => vrl_nil.mpr rfl
  | .inl i :: r => vrl_cons.mpr ⟨_, _, rfl, vr_int.mpr rfl, vrl_kD⟩
  | .inr i :: r => vrl_cons.mpr ⟨_, _, rfl, vr_str.mpr rfl, vrl_kD⟩
theorem si_keys {tg e : Expr} {f : SD → Hs → R D} (he : SE X F W e f) : SI X F W tg e (fun s h => (f s h).bind (lckO 0)) :=
  ⟨fun pins s' σ H R0 I ⟨G, h, s, t, o⟩ => (pi_keys he).run pins s' σ H R0 I (partI t o fun d v h2 G2 H2 T2 t2 x o => by
    unfold lckO at o
    split at o
    · rename_i n
      split at o
      · rename_i k l q
        obtain ⟨p, rfl, hp⟩ := vr_ref.mp x
        obtain ⟨p', hp', u, hu, od, qs, vs, rfl, hl, h1, h2⟩ := t2.hr.obj n _ q
        rw [hp] at hp'
        injection hp' with hp'
        subst hp'
        have lk := h1.length
        rw [List.length_map] at lk
        refine ⟨p, od, rfl, .inl ⟨qs.zip vs, hu, o _ G2 H2 (Step.refl _ _) t2.hr ?_⟩⟩
        refine ⟨fun G3 H3 h3 T3 r3 _ i hi => ⟨T3.frz _ _ _ hu, ?_⟩, fun G3 H3 h3 T3 r3 _ i d e => ?_⟩
        · have hi : k.length ≤ i := hi
          rw [List.length_zip]
          omega
        · have e : k[i]? = some d := e
          obtain ⟨v, e1, e2⟩ := VRL.get (VRL.step T3 t2.hr.aB k h1) e
          rw [List.getElem?_map] at e1
          cases eq : qs[i]? with
          | none => rw [eq] at e1; cases e1
          | some qy =>
            rw [eq] at e1
            injection e1 with e1
            have hi := (List.getElem?_eq_some_iff.mp eq).1
            refine ⟨⟨T3.frz _ _ _ hu, by rw [List.length_zip]; omega⟩, fun x H4 hy => ?_⟩
            obtain ⟨rfl, ky, w, e3, rfl⟩ := hy
            obtain ⟨e4, _⟩ := List.getElem?_zip_eq_some.mp e3
            rw [eq] at e4
            injection e4 with e4
            subst e4
            exact ⟨Same.refl _, by rw [e1]; exact e2⟩
      · rename_i k l q
        rw [if_pos rfl] at o
        obtain ⟨p, rfl, hp⟩ := vr_ref.mp x
        obtain ⟨p', hp', u, hu, od, vs, rfl, hl, h2⟩ := t2.hr.obj n _ q
        rw [hp] at hp'
        injection hp' with hp'
        subst hp'
        refine ⟨p, od, rfl, .inr ⟨k.zip vs, hu, o _ G2 H2 (Step.refl _ _) t2.hr ?_⟩⟩
        refine ⟨fun G3 H3 h3 T3 r3 _ i hi => ⟨T3.frz _ _ _ hu, ?_⟩, fun G3 H3 h3 T3 r3 _ i d e => ?_⟩
        · have hi : (k.map tkD).length ≤ i := hi
          rw [List.length_map] at hi
          rw [List.length_zip]
          omega
        · have e : (k.map tkD)[i]? = some d := e
          rw [List.getElem?_map] at e
          cases eq : k[i]? with
          | none => rw [eq] at e; cases e
          | some qy =>
            rw [eq] at e
            injection e with e
            have hi := (List.getElem?_eq_some_iff.mp eq).1
            refine ⟨⟨T3.frz _ _ _ hu, by rw [List.length_zip]; omega⟩, fun x H4 hy => ?_⟩
            obtain ⟨rfl, ky, w, b, e3, rfl, hb⟩ := hy
            obtain ⟨e4, _⟩ := List.getElem?_zip_eq_some.mp e3
            rw [eq] at e4
            injection e4 with e4
            subst e4
            exact ⟨Same.refl _, by rw [← e]; exact vr_tup.mpr ⟨b, _, rfl, hb, vrl_kD⟩⟩
      · exact o.elim
    · exact o.elim)⟩
theorem si_items {e : Expr} {elts : List Expr} {kk : Nat} {tpos apos cpos : Pos} {f : SD → Hs → R D} (he : SE X F W e f) (hbase : attributeBase e "items" X.env (eval e X.env) = eval e X.env) (hline : (apos.endLine == cpos.line) = true) :
    SI X F W (.Tuple elts kk tpos) (.Call (.Attribute e "items" apos) [] [] cpos) (fun s h => (f s h).bind (lckO 1)) :=
  ⟨fun pins s' σ H R0 I ⟨G, h, s, t, o⟩ => (pi_items he hbase hline).run pins s' σ H R0 I (partI t o fun d v h2 G2 H2 T2 t2 x o => by
    unfold lckO at o
    split at o
    · rename_i n
      split at o
      · rename_i k l q
        obtain ⟨p, rfl, hp⟩ := vr_ref.mp x
        obtain ⟨p', hp', u, hu, od, qs, vs, rfl, hl, h1, h2⟩ := t2.hr.obj n _ q
        rw [hp] at hp'
        injection hp' with hp'
        subst hp'
        have lk := h1.length
        have ll := h2.length
        rw [List.length_map] at lk
        refine ⟨p, od, qs.zip vs, rfl, hu, o _ G2 H2 (Step.refl _ _) t2.hr ?_⟩
        refine ⟨fun G3 H3 h3 T3 r3 _ i hi => ⟨T3.frz _ _ _ hu, ?_⟩, fun G3 H3 h3 T3 r3 _ i d e => ?_⟩
        · have hi : ((k.zip l).map fun p => D.tup [p.1, p.2]).length ≤ i := hi
          rw [List.length_map, List.length_zip] at hi
          rw [List.length_zip]
          omega
        · have e : ((k.zip l).map fun p => D.tup [p.1, p.2])[i]? = some d := e
          obtain ⟨a, b, e1, e2, e3⟩ := zip_get (VRL.step T3 t2.hr.aB k h1) (VRL.step T3 t2.hr.aB l h2) e r3
          rw [List.getElem?_map] at e1
          cases eq : qs[i]? with
          | none => rw [eq] at e1; cases e1
          | some qy =>
            rw [eq] at e1
            injection e1 with e1
            have hi := (List.getElem?_eq_some_iff.mp eq).1
            refine ⟨⟨T3.frz _ _ _ hu, by rw [List.length_zip]; omega⟩, fun x H4 hy => ?_⟩
            obtain ⟨T, ky, w, e5, rfl, hT, rfl⟩ := hy
            obtain ⟨e6, e7⟩ := List.getElem?_zip_eq_some.mp e5
            rw [eq] at e6
            injection e6 with e6
            rw [e2] at e7
            injection e7 with e7
            subst e6 e7
            refine ⟨same_upd hT, ?_⟩
            have := e3 T hT
            rw [← e1] at this
            exact this
      · rw [if_neg (by omega)] at o
        exact o.elim
      · exact o.elim
    · exact o.elim)⟩
/-- the lock taken off -/
theorem HR.unlock {n : Nat} {p : Addr} {u : HO} {o' : HO'} (r : HR F G H h) (hp : G.α n = some p) (ht : ∀ q xs, H q = some (.tup xs) → (upd H p u) q = some (.tup xs)) (ho : ON F G H u o') : HR F G (upd H p u) (h.set n o') := by
  have hn := r.dom n p hp
  have hb := r.aB n p hp
  refine ⟨fun m o e => ?_, fun m q e => by rw [List.length_set]; exact r.dom m q e, r.inj, r.aB, fun q z => ?_, fun a q => let ⟨c, d, h1, h2⟩ := r.hot a q; ⟨c, d, by rw [upd_ne (show a ≠ p from fun z => h2 (by rw [z]; exact hb))]; exact h1, h2⟩⟩
  · by_cases z : n = m
    · subst z
      rw [List.getElem?_set_self hn] at e
      injection e with e
      subst e
      exact ⟨p, hp, u, upd_same, ho.imp fun l xs z => VRL.hid hb ht l z⟩
    · rw [List.getElem?_set_ne z] at e
      obtain ⟨q, e1, w, hw, h1⟩ := r.obj m o e
      refine ⟨q, e1, w, ?_, h1.imp fun l xs z => VRL.hid hb ht l z⟩
      rw [upd_ne]
      · exact hw
      · intro w'
        subst w'
        exact z (r.inj n m q hp e1)
  · by_cases w : q = p
    · subst w; rw [upd_same]; exact fun z => nomatch z
    · rw [upd_ne w]; exact r.bt q z
def unlH (n : Nat) (h : Hs) : Option Hs := match h[n]? with
  | some (.fdc k l) => some (h.set n (.dic k l))
  | some (.fdt k l) => some (h.set n (.dit k l))
  | _ => none
def unlO (n : Nat) : O → O
  | .nx s h => match unlH n h with
    | some h' => .nx s h'
    | none => .stk
  | .bk s h => match unlH n h with
    | some h' => .bk s h'
    | none => .stk
  | .ct s h => match unlH n h with
    | some h' => .ct s h'
    | none => .stk
  | .rt d h => match unlH n h with
    | some h' => .rt d h'
    | none => .stk
  | .rs _ _ _ _ => .stk
  | .stk => .stk
/-- a loop over a dict, which is locked meanwhile -/
noncomputable def dlpO (kd i : Nat) (f : D → SD → Hs → O) (s : SD) (h : Hs) : O := match s[i]? with
  | some (some (.ref n)) => match h[n]? with
    | some (.dic k l) => unlO n (forC (fun _ => True) f (dlpI kd k l) s (h.set n (.fdc k l)))
    | some (.dit k l) => if kd = 0 then unlO n (forC (fun _ => True) f (k.map tkD) s (h.set n (.fdt k l))) else .stk
    | _ => .stk
  | _ => .stk
theorem unl_core {n : Nat} {p : Addr} {od : Obj} {kvs : List (Key × V)} (hp : G.α n = some p) (hu : H p = some (.dK kvs)) (T : Step G (upd H p (.frz od (.dK kvs))) G' H') (r : HR F G' H' h') (e : unlH n h' = some h2) :
    H' p = some (.frz od (.dK kvs)) ∧ Step G H G' (upd H' p (.dK kvs)) ∧ HR F G' (upd H' p (.dK kvs)) h2 ∧ (∀ d v, VR F G' H' d v → VR F G' (upd H' p (.dK kvs)) d v) := by
  have q : H' p = some (.frz od (.dK kvs)) := T.frz p od _ upd_same
  have hp' := T.ids n p hp
  have hb := r.aB n p hp'
  have ht : ∀ q xs, H' q = some (.tup xs) → (upd H' p (.dK kvs)) q = some (.tup xs) := fun z xs w => by
    have : z ≠ p := fun y => by
      subst y
      rw [q] at w; cases w
    rw [upd_ne this]; exact w
  have up : ∀ z, z ≠ p → upd H p (.frz od (.dK kvs)) z = H z := fun z w => upd_ne w
  refine ⟨q, ⟨T.ids, fun m z e => ?_, fun z o e na => ?_, fun z xs w => ?_, fun z e b => T.ban z ?_ b, T.bans, fun z e => ?_, fun z o u e => ?_⟩, ?_, fun d v w => VR.hid hb ht d w⟩
  · rcases T.new m z e with w | w
    · exact .inl w
    · by_cases y : z = p
      · rw [y, upd_same] at w; cases w
      · rw [up z y] at w; exact .inr w
  · have y : z ≠ p := fun y => na n (by rw [y]; exact hp)
    rw [upd_ne y]
    exact T.keep z o (by rw [up z y]; exact e) na
  · have y : z ≠ p := fun y => by
      subst y
      rw [hu] at w; cases w
    exact ht z xs (T.tup z xs (by rw [up z y]; exact w))
  · by_cases y : z = p
    · rw [y, upd_same]; exact fun w => nomatch w
    · rw [up z y]; exact e
  · by_cases y : z = p
    · rw [y, upd_same]; exact fun w => nomatch w
    · rw [upd_ne y]; exact T.there z (by rw [up z y]; exact e)
  · have y : z ≠ p := fun y => by rw [y, hu] at e; cases e
    rw [upd_ne y]
    exact T.frz z o u (by rw [up z y]; exact e)
  · unfold unlH at e
    split at e
    · rename_i k l qh
      injection e with e
      subst e
      obtain ⟨p2, hp2, u, hu2, od2, qs, vs, rfl, hl, h1, h2⟩ := r.obj n _ qh
      rw [hp'] at hp2
      injection hp2 with hp2
      subst hp2
      rw [q] at hu2
      injection hu2 with hu2
      injection hu2 with _ hu2
      injection hu2 with hu2
      exact r.unlock hp' ht ⟨qs, vs, by rw [hu2], hl, h1, h2⟩
    · rename_i k l qh
      obtain ⟨p2, hp2, u, hu2, od2, vs, rfl, hl, h2⟩ := r.obj n _ qh
      rw [hp'] at hp2
      injection hp2 with hp2
      subst hp2
      rw [q] at hu2
      injection hu2 with hu2
      injection hu2 with _ hu2
      cases hu2
    · cases e
theorem unl_coreT {n : Nat} {p : Addr} {od : Obj} {kvs : List (List Key × V)} (hp : G.α n = some p) (hu : H p = some (.dT kvs)) (T : Step G (upd H p (.frz od (.dT kvs))) G' H') (r : HR F G' H' h') (e : unlH n h' = some h2) :
    H' p = some (.frz od (.dT kvs)) ∧ Step G H G' (upd H' p (.dT kvs)) ∧ HR F G' (upd H' p (.dT kvs)) h2 ∧ (∀ d v, VR F G' H' d v → VR F G' (upd H' p (.dT kvs)) d v) := by
  have q : H' p = some (.frz od (.dT kvs)) := T.frz p od _ upd_same
  have hp' := T.ids n p hp
  have hb := r.aB n p hp'
  have ht : ∀ q xs, H' q = some (.tup xs) → (upd H' p (.dT kvs)) q = some (.tup xs) := fun z xs w => by
    have : z ≠ p := fun y => by
      subst y
      rw [q] at w; cases w
    rw [upd_ne this]; exact w
  have up : ∀ z, z ≠ p → upd H p (.frz od (.dT kvs)) z = H z := fun z w => upd_ne w
  refine ⟨q, ⟨T.ids, fun m z e => ?_, fun z o e na => ?_, fun z xs w => ?_, fun z e b => T.ban z ?_ b, T.bans, fun z e => ?_, fun z o u e => ?_⟩, ?_, fun d v w => VR.hid hb ht d w⟩
  · rcases T.new m z e with w | w
    · exact .inl w
    · by_cases y : z = p
      · rw [y, upd_same] at w; cases w
      · rw [up z y] at w; exact .inr w
  · have y : z ≠ p := fun y => na n (by rw [y]; exact hp)
    rw [upd_ne y]
    exact T.keep z o (by rw [up z y]; exact e) na
  · have y : z ≠ p := fun y => by
      subst y
      rw [hu] at w; cases w
    exact ht z xs (T.tup z xs (by rw [up z y]; exact w))
  · by_cases y : z = p
    · rw [y, upd_same]; exact fun w => nomatch w
    · rw [up z y]; exact e
  · by_cases y : z = p
    · rw [y, upd_same]; exact fun w => nomatch w
    · rw [upd_ne y]; exact T.there z (by rw [up z y]; exact e)
  · have y : z ≠ p := fun y => by rw [y, hu] at e; cases e
    rw [upd_ne y]
    exact T.frz z o u (by rw [up z y]; exact e)
  · unfold unlH at e
    split at e
    · rename_i k l qh
      obtain ⟨p2, hp2, u, hu2, od2, qs, vs, rfl, hl, h1, h2⟩ := r.obj n _ qh
      rw [hp'] at hp2
      injection hp2 with hp2
      subst hp2
      rw [q] at hu2
      injection hu2 with hu2
      injection hu2 with _ hu2
      cases hu2
    · rename_i k l qh
      injection e with e
      subst e
      obtain ⟨p2, hp2, u, hu2, od2, vs, rfl, hl, h2⟩ := r.obj n _ qh
      rw [hp'] at hp2
      injection hp2 with hp2
      subst hp2
      rw [q] at hu2
      injection hu2 with hu2
      injection hu2 with _ hu2
      injection hu2 with hu2
      exact r.unlock hp' ht ⟨vs, by rw [hu2], hl, h2⟩
    · cases e
theorem ss_dlp {kd i : Nat} {st : Stmt} {ft : D → SD → Option SD} {fb : SD → Hs → O} (hh : SS X F W st (fun s h => ((getS s i h).bind (lckO kd)).thenO s fun z h => forC z.c (turnO ft fb) z.ds s h)) : SS X F W st (dlpO kd i (turnO ft fb)) :=
  PS.imp (ps_lock hh) fun Dn σ H ⟨G, h, s, t, o⟩ => by
    unfold dlpO at o
    split at o
    case h_2 => exact o.elim
    rename_i n hs
    split at o
    · rename_i k l qh
      obtain ⟨p, hp, u, hu, qs, vs, rfl, hl, h1, h2⟩ := t.hr.obj n _ qh
      have nf : ∀ o u, H p ≠ some (.frz o u) := fun o u z => by rw [hu] at z; cases z
      refine ⟨p, _, hu, trivial, fun od => ?_⟩
      have ho : ON F G H (.frz od (.dK (qs.zip vs))) (.fdc k l) := ⟨od, qs, vs, rfl, hl, h1, h2⟩
      have T1 : Step G H G (upd H p (.frz od (.dK (qs.zip vs)))) := Step.write t.hr hp nf
      have t1 : St F G (h.set n (.fdc k l)) s σ (upd H p (.frz od (.dK (qs.zip vs)))) := t.step T1 (t.hr.write hp nf ho)
      refine ⟨G, h.set n (.fdc k l), s, t1, ?_⟩
      have hn := t.hr.dom n p hp
      have e1 : getS s i (h.set n (.fdc k l)) = .ok (.ref n) (h.set n (.fdc k l)) := by unfold getS; rw [hs]
      have e2 : (h.set n (HO'.fdc k l))[n]? = some (.fdc k l) := List.getElem?_set_self hn
      have e3 : ((getS s i (h.set n (.fdc k l))).bind (lckO kd)).thenO s (fun z h => forC z.c (turnO ft fb) z.ds s h) = forC (fun _ => True) (turnO ft fb) (dlpI kd k l) s (h.set n (.fdc k l)) := by
        rw [e1]
        show (lckO kd (.ref n) (h.set n (.fdc k l))).thenO s _ = _
        unfold lckO
        dsimp only
        rw [e2]
        rfl
      dsimp only
      rw [e3]
      generalize forC (fun _ => True) (turnO ft fb) (dlpI kd k l) s (h.set n (.fdc k l)) = oo at o
      cases oo with
      | stk => exact o.elim
      | rs c q s' h' => exact o.elim
      | nx s' h' =>
        unfold unlO at o
        dsimp only at o
        cases eu : unlH n h' with
        | none => rw [eu] at o; exact o.elim
        | some h2' =>
          rw [eu] at o
          intro G' σ' H' T t'
          obtain ⟨a1, a2, a3, a4⟩ := unl_core hp hu T t'.hr eu
          exact ⟨a1, o G' σ' _ a2 ⟨fun j d e => let ⟨v, b1, b2⟩ := t'.slot j d e; ⟨v, b1, a4 d v b2⟩, a3, t'.len⟩⟩
      | bk s' h' =>
        unfold unlO at o
        dsimp only at o
        cases eu : unlH n h' with
        | none => rw [eu] at o; exact o.elim
        | some h2' =>
          rw [eu] at o
          intro G' σ' H' T t'
          obtain ⟨a1, a2, a3, a4⟩ := unl_core hp hu T t'.hr eu
          exact ⟨a1, o G' σ' _ a2 ⟨fun j d e => let ⟨v, b1, b2⟩ := t'.slot j d e; ⟨v, b1, a4 d v b2⟩, a3, t'.len⟩⟩
      | ct s' h' =>
        unfold unlO at o
        dsimp only at o
        cases eu : unlH n h' with
        | none => rw [eu] at o; exact o.elim
        | some h2' =>
          rw [eu] at o
          intro G' σ' H' T t'
          obtain ⟨a1, a2, a3, a4⟩ := unl_core hp hu T t'.hr eu
          exact ⟨a1, o G' σ' _ a2 ⟨fun j d e => let ⟨v, b1, b2⟩ := t'.slot j d e; ⟨v, b1, a4 d v b2⟩, a3, t'.len⟩⟩
      | rt d h' =>
        unfold unlO at o
        dsimp only at o
        cases eu : unlH n h' with
        | none => rw [eu] at o; exact o.elim
        | some h2' =>
          rw [eu] at o
          intro v G' H' T r' vd
          obtain ⟨a1, a2, a3, a4⟩ := unl_core hp hu T r' eu
          exact ⟨a1, o v G' _ a2 a3 (a4 d v vd)⟩
    · rename_i k l qh
      split at o
      case isFalse => exact o.elim
      rename_i hkd
      obtain ⟨p, hp, u, hu, vs, rfl, hl, h2⟩ := t.hr.obj n _ qh
      have nf : ∀ o u, H p ≠ some (.frz o u) := fun o u z => by rw [hu] at z; cases z
      refine ⟨p, _, hu, trivial, fun od => ?_⟩
      have ho : ON F G H (.frz od (.dT (k.zip vs))) (.fdt k l) := ⟨od, vs, rfl, hl, h2⟩
      have T1 : Step G H G (upd H p (.frz od (.dT (k.zip vs)))) := Step.write t.hr hp nf
      have t1 : St F G (h.set n (.fdt k l)) s σ (upd H p (.frz od (.dT (k.zip vs)))) := t.step T1 (t.hr.write hp nf ho)
      refine ⟨G, h.set n (.fdt k l), s, t1, ?_⟩
      have hn := t.hr.dom n p hp
      have e1 : getS s i (h.set n (.fdt k l)) = .ok (.ref n) (h.set n (.fdt k l)) := by unfold getS; rw [hs]
      have e2 : (h.set n (HO'.fdt k l))[n]? = some (.fdt k l) := List.getElem?_set_self hn
      have e3 : ((getS s i (h.set n (.fdt k l))).bind (lckO kd)).thenO s (fun z h => forC z.c (turnO ft fb) z.ds s h) = forC (fun _ => True) (turnO ft fb) (k.map tkD) s (h.set n (.fdt k l)) := by
        rw [e1]
        show (lckO kd (.ref n) (h.set n (.fdt k l))).thenO s _ = _
        unfold lckO
        dsimp only
        rw [e2]
        dsimp only
        rw [if_pos hkd]
        rfl
      dsimp only
      rw [e3]
      generalize forC (fun _ => True) (turnO ft fb) (k.map tkD) s (h.set n (.fdt k l)) = oo at o
      cases oo with
      | stk => exact o.elim
      | rs c q s' h' => exact o.elim
      | nx s' h' =>
        unfold unlO at o
        dsimp only at o
        cases eu : unlH n h' with
        | none => rw [eu] at o; exact o.elim
        | some h2' =>
          rw [eu] at o
          intro G' σ' H' T t'
          obtain ⟨a1, a2, a3, a4⟩ := unl_coreT hp hu T t'.hr eu
          exact ⟨a1, o G' σ' _ a2 ⟨fun j d e => let ⟨v, b1, b2⟩ := t'.slot j d e; ⟨v, b1, a4 d v b2⟩, a3, t'.len⟩⟩
      | bk s' h' =>
        unfold unlO at o
        dsimp only at o
        cases eu : unlH n h' with
        | none => rw [eu] at o; exact o.elim
        | some h2' =>
          rw [eu] at o
          intro G' σ' H' T t'
          obtain ⟨a1, a2, a3, a4⟩ := unl_coreT hp hu T t'.hr eu
          exact ⟨a1, o G' σ' _ a2 ⟨fun j d e => let ⟨v, b1, b2⟩ := t'.slot j d e; ⟨v, b1, a4 d v b2⟩, a3, t'.len⟩⟩
      | ct s' h' =>
        unfold unlO at o
        dsimp only at o
        cases eu : unlH n h' with
        | none => rw [eu] at o; exact o.elim
        | some h2' =>
          rw [eu] at o
          intro G' σ' H' T t'
          obtain ⟨a1, a2, a3, a4⟩ := unl_coreT hp hu T t'.hr eu
          exact ⟨a1, o G' σ' _ a2 ⟨fun j d e => let ⟨v, b1, b2⟩ := t'.slot j d e; ⟨v, b1, a4 d v b2⟩, a3, t'.len⟩⟩
      | rt d h' =>
        unfold unlO at o
        dsimp only at o
        cases eu : unlH n h' with
        | none => rw [eu] at o; exact o.elim
        | some h2' =>
          rw [eu] at o
          intro v G' H' T r' vd
          obtain ⟨a1, a2, a3, a4⟩ := unl_coreT hp hu T r' eu
          exact ⟨a1, o v G' _ a2 a3 (a4 d v vd)⟩
    · exact o.elim
end
end Gx

/-! G795: instances of own classes: their attributes, methods, how they are made. -/
namespace Gx
open PySem L2
/-- a class whose instances are served, with the names of its attributes -/
structure InsC (F : Fr) (fl : List Str) (nm : Str) : Prop where
  ex : ∃ C, F.cls nm = .ref C ∧ Cls F.K C ∧ ∀ f ∈ fl, NoAttr F.K C f
def fldG (cs : List Str) (f : Str) (d : D) (h : Hs) : R D := match d with
  | .ref n => match h[n]? with
    | some (.ins c fs l) => if c ∈ cs then (match (fs.zip l).lookup f with
      | some v => .ok v h
      | none => .stk) else .stk
    | _ => .stk
  | _ => .stk
/-- an attribute stored: names, values -/
def putP {α : Type} (f : Str) (y : α) : List Str → List α → List Str × List α
  | g :: r, x :: s => if g = f then (g :: r, y :: s) else (g :: (putP f y r s).1, x :: (putP f y r s).2)
  | _, _ => ([f], [y])
def fstG (cs : List Str) (f : Str) (d v : D) (h : Hs) : Option Hs := match d with
  | .ref n => match h[n]? with
    | some (.ins c fs l) => if c ∈ cs ∧ fs.length < 1000 ∧ fs.length = l.length then some (h.set n (.ins c (putP f v fs l).1 (putP f v fs l).2)) else none
    | _ => none
  | _ => none
def fstO (cs : List Str) (f : Str) (fe fo : SD → Hs → R D) (s : SD) (h : Hs) : O := (fe s h).thenO s fun v h1 => (fo s h1).thenO s fun o h2 => match fstG cs f o v h2 with
  | some h3 => .nx s h3
  | none => .stk
/-- o.m(..), a method of a class that ms tells; q: what a method of a number does -/
def mclR (ms : List (Str × Nat)) (m : Str) (q : Nat → List D → Hs → R D) (fo : SD → Hs → R D) (fs : SD → Hs → R (List D)) (s : SD) (h : Hs) : R D := (fo s h).bind fun d h1 => match d with
  | .ref n => match h1[n]? with
    | some (.ins c gs l) => match ms.lookup c with
      | some j => if m ∈ gs then .stk else (fs s h1).bind fun ds h2 => q j (d :: ds) h2
      | none => .stk
    | _ => .stk
  | _ => .stk
/-- C(..): q is what its __init__ does -/
def newI (c : Str) (q : List D → Hs → R D) (ds : List D) (h : Hs) : R D := match q (.ref h.length :: ds) (h ++ [.ins c [] []]) with
  | .ok .non h' => .ok (.ref h.length) h'
  | .rs c p h' => .rs c p h'
  | _ => .stk
section
variable {X : Cx} {F : Fr} {W : WX} {G G' : Gh} {H H' : Hp} {σ : L2.St} {s : SD} {h : Hs}
theorem zip_vr {f : Str} {d : D} : ∀ {fs : List Str} {l : List D} {vs : List V}, VRL F G H l vs → (fs.zip l).lookup f = some d → ∃ v, (fs.zip vs).lookup f = some v ∧ VR F G H d v
  | [], _, _, _, e => by cases e
  | g :: r, [], _, _, e => by cases e
  | g :: r, x :: s, vs, h, e => by
    obtain ⟨v, vr, rfl, h1, h2⟩ := vrl_cons.mp h
    rw [List.zip_cons_cons, List.lookup_cons] at e ⊢
    split at e
    · rename_i q
      injection e with e
      subst e
      exact ⟨v, rfl, h1⟩
    · rename_i q
      exact zip_vr h2 e
theorem zip_no {m : Str} : ∀ {fs : List Str} {vs : List V}, m ∉ fs → (fs.zip vs).lookup m = none
  | [], _, _ => rfl
  | g :: r, [], _ => rfl
  | g :: r, x :: s, e => by
    rw [List.zip_cons_cons, List.lookup_cons, beq_eq_false_iff_ne.mpr (fun z => e (by rw [z]; exact List.mem_cons_self))]
    exact zip_no fun z => e (List.mem_cons_of_mem _ z)
theorem putP_zip {f : Str} {y : D} {v : V} (hv : VR F G H y v) : ∀ {fs : List Str} {l : List D} {vs : List V}, VRL F G H l vs → fs.length = vs.length →
    ∃ ws, putF f v (fs.zip vs) = (putP f y fs l).1.zip ws ∧ (putP f y fs l).1.length = ws.length ∧ VRL F G H (putP f y fs l).2 ws
  | [], [], vs, h, e => by
    obtain rfl := vrl_nil.mp h
    exact ⟨[v], rfl, rfl, vrl_one.mpr hv⟩
  | [], x :: s, vs, h, e => by
    obtain ⟨v, vr, rfl, h1, h2⟩ := vrl_cons.mp h
    cases e
  | g :: r, [], vs, h, e => by
    obtain rfl := vrl_nil.mp h
    cases e
  | g :: r, x :: s, vs, h, e => by
    obtain ⟨w, vr, rfl, h1, h2⟩ := vrl_cons.mp h
    obtain ⟨ws, a1, a2, a3⟩ := putP_zip (f := f) hv h2 (by simpa using e)
    rw [List.zip_cons_cons]
    unfold putF putP
    by_cases z : g = f
    · rw [if_pos z, if_pos z]
      exact ⟨v :: vr, rfl, by simpa using e, vrl_cons.mpr ⟨v, vr, rfl, hv, h2⟩⟩
    · rw [if_neg z, if_neg z]
      exact ⟨w :: ws, by rw [List.zip_cons_cons, a1], by simpa using a2, vrl_cons.mpr ⟨w, ws, rfl, h1, a3⟩⟩
theorem ins_at {n : Nat} {c : Str} {fs : List Str} {l : List D} {x : V} (r : HR F G H h) (vx : VR F G H (.ref n) x) (e : h[n]? = some (.ins c fs l)) : ∃ p C dx vs, x = .ref p ∧ G.α n = some p ∧ H p = some (.ins C dx (fs.zip vs)) ∧ F.cls c = .ref C ∧ fs.length = vs.length ∧ VRL F G H l vs := by
  obtain ⟨p, rfl, hp⟩ := vr_ref.mp vx
  obtain ⟨p', hp', u, e3, C, dx, vs, e4, rfl, hl, hv⟩ := r.obj n _ e
  rw [hp] at hp'
  injection hp' with hp'
  subst hp'
  exact ⟨p, C, dx, vs, rfl, hp, e3, e4, hl, hv⟩
theorem InsC.at {fl : List Str} {nm : Str} {C : Addr} (i : InsC F fl nm) (e : F.cls nm = .ref C) : Cls F.K C ∧ ∀ f ∈ fl, NoAttr F.K C f := by
  obtain ⟨C', e', a, b⟩ := i.ex
  rw [e] at e'
  injection e' with e'
  subst e'
  exact ⟨a, b⟩
theorem se_fld {e : Expr} {fe : SD → Hs → R D} {pos : Pos} {f : Str} {cs fl : List Str} (hK : X.K = F.K) (hc : ∀ c ∈ cs, InsC F fl c) (hf : f ∈ fl) (he : SE X F W e fe) (hb : attributeBase e f X.env (eval e X.env) = eval e X.env) :
    SE X F W (.Attribute e f pos) (fun s h => (fe s h).bind (fldG cs f)) := by
  refine PE.imp (pe_fld he hb) fun σ H Q ⟨G, h, s, t, o⟩ => ?_
  refine part t o fun d x h2 G2 H2 T2 t2 vx o => ?_
  unfold fldG at o
  split at o
  · rename_i n
    split at o
    · rename_i c fs l e1
      split at o
      · rename_i hm
        split at o
        · rename_i v e2
          obtain ⟨p, C, dx, vs, rfl, hp, e3, e4, hl, hv⟩ := ins_at t2.hr vx e1
          obtain ⟨cl, na⟩ := (hc c hm).at e4
          obtain ⟨w, q1, q2⟩ := zip_vr hv e2
          exact ⟨p, C, dx, _, w, rfl, e3, by rw [hK]; exact cl, by rw [hK]; exact na f hf, q1, KO.val o t2.hr q2⟩
        · exact o.elim
      · exact o.elim
    · exact o.elim
  · exact o.elim
theorem ss_fst {oe value : Expr} {fe fo : SD → Hs → R D} {f : Str} {pos pos' : Pos} {cs fl : List Str} (hK : X.K = F.K) (hc : ∀ c ∈ cs, InsC F fl c) (hf : f ∈ fl) (he : SE X F W value fe) (ho : SE X F W oe fo) (hs : swapsWith value (some (.Attribute oe f pos')) pos.line X.env = pure false) :
    SS X F W (.Assign [.Attribute oe f pos'] value pos) (fstO cs f fe fo) := by
  refine PS.imp (ps_fld ho he hs) fun Dn σ H ⟨G, h, s, t, o⟩ => ?_
  unfold fstO at o
  refine partS t o fun v x h1 G1 H1 T1 t1 vx o1 => ?_
  refine partS t1 o1 fun ob y h2 G2 H2 T2 t2 vy o2 => ?_
  clear o o1
  replace vx := VR.step T2 t1.hr.aB v vx
  unfold fstG at o2
  split at o2
  · rename_i h3 e
    split at e
    · rename_i n
      split at e
      · rename_i c fs l q
        split at e
        · rename_i hm
          injection e with e
          subst e
          obtain ⟨p, C, dx, vs, rfl, hp, e3, e4, hl, hv⟩ := ins_at t2.hr vy q
          obtain ⟨cl, na⟩ := (hc c hm.1).at e4
          obtain ⟨ws, a1, a2, a3⟩ := putP_zip (f := f) vx hv hl
          have nf : ∀ o u, H2 p ≠ some (.frz o u) := fun _ _ z => by rw [e3] at z; cases z
          have T4 := Step.write (u := .ins C dx (putF f x (fs.zip vs))) t2.hr hp nf
          have r4 := t2.hr.write (u := .ins C dx (putF f x (fs.zip vs))) (o' := .ins c (putP f v fs l).1 (putP f v fs l).2) hp nf ⟨C, dx, ws, e4, by rw [a1], a2, a3⟩
          exact ⟨p, C, dx, _, rfl, e3, by rw [hK]; exact cl, by rw [hK]; exact na f hf, by rw [List.length_zip]; omega, o2 G2 σ _ T4 (t2.step T4 r4)⟩
        · cases e
      · cases e
    · cases e
  · exact o2.elim
end
/-! ### int(..), str(..) -/
def gInt (_ : Hs) (ds : List D) : Option D := match ds with
  | [.int i] => some (.int i)
  | [.bl b] => some (.int (if b then 1 else 0))
  | [.str x] => if x.length ≤ 640 then (PySem.intText? x).map .int else none
  | _ => none
def gStr (_ : Hs) (ds : List D) : Option D := match ds with
  | [.int i] => if i.natAbs.log2 < 1920 then some (.str (toString i)) else none
  | _ => none
section
variable {F : Fr}
theorem ok_int : CallOk F (fun xs H Q => ((∃ i, xs = [.int i] ∧ Q (.int i) H) ∨ ∃ k, xs = [.bl k] ∧ Q (.int (if k then 1 else 0)) H) ∨ ∃ a n, xs = [.str a] ∧ PySem.intText? a = some n ∧ a.length ≤ 640 ∧ Q (.int n) H) (DL gInt) := okL fun G H h vs ds z Q e r rl k => by
  unfold gInt at e
  split at e
  · injection e with e
    subst e
    obtain ⟨x, rfl, r1⟩ := vrl_onev rl
    exact .inl (.inl ⟨_, by rw [vr_int.mp r1], k.int r⟩)
  · injection e with e
    subst e
    obtain ⟨x, rfl, r1⟩ := vrl_onev rl
    exact .inl (.inr ⟨_, by rw [vr_bl.mp r1], k.int r⟩)
  · split at e
    · rename_i hl
      cases q : PySem.intText? _ with
      | none => rw [q] at e; cases e
      | some n =>
        rw [q] at e
        injection e with e
        subst e
        obtain ⟨x, rfl, r1⟩ := vrl_onev rl
        exact .inr ⟨_, n, by rw [vr_str.mp r1], q, hl, k.int r⟩
    · cases e
  · cases e
theorem ok_str : CallOk F (fun xs H Q => ∃ i : Int, xs = [.int i] ∧ i.natAbs.log2 < 1920 ∧ Q (.str (toString i)) H) (DL gStr) := okL fun G H h vs ds z Q e r rl k => by
  unfold gStr at e
  split at e
  · split at e
    · rename_i hl
      injection e with e
      subst e
      obtain ⟨x, rfl, r1⟩ := vrl_onev rl
      exact ⟨_, by rw [vr_int.mp r1], hl, k.str r⟩
    · cases e
  · cases e
end
/-! ### rules for calls of methods and classes whose exceptions are wished for at the caller's slots -/
section
variable {X : Cx} {CX : CXT} {k : Nat} {f C : Addr} {fd : FuncData} {ps : List Str} {sp : Sp} {E : L2.St → XK} {x m : Str} {p pos apos : Pos} {e o : Expr} {es : List Expr} {ta : TE} {t : TA} {Ms : Addr → Sp → Prop}
def tMethS (Ms : Addr → Sp → Prop) (m : Str) (E : L2.St → XK) (ta : TE) (t : TA) : TE := fun σ H Q => ta σ H fun x H1 => ∃ a C dx fs sp, x = .ref a ∧ H1 a = some (.ins C dx fs) ∧ Ms C sp ∧ fs.lookup m = none ∧ t σ H1 fun vs H2 => sp (x :: vs) H2 Q (E σ)
def tMakeS (C : Addr) (sp : Sp) (E : L2.St → XK) (t : TA) : TE := fun σ H Q => t σ H fun vs H1 => ∀ x dx, H1 x = none → H1 dx = none → dx ≠ x → sp (.ref x :: vs) (upd (upd H1 dx (.own x)) x (.ins C dx [])) (fun v H2 => v = .non ∧ Q (.ref x) H2) (E σ)
theorem pe_methS {pl : Sem Bool} (he : PE X o ta) (hM : ∀ C sp, Ms C sp → ∃ f fd ps, Cls X.K C ∧ Meth X.K C m f ∧ FnOk X.prog X.w X.K X.mg X.base CX k f fd ps sp ∧ Binds X.K fd ps []) (hr : Room k X.A) (hx : ∀ σ, PassesAt CX X σ (E σ)) (ha : PA X (e :: es) t)
    (hst : starEach (e :: es) X.env = (false, eval e X.env) :: starEach es X.env) (hpl : (backTo pos (starEach es X.env)).any (·.1) = false)
    (ht : eval (.Call (.Attribute o m apos) (e :: es) [] pos) X.env = (do
      let ov ← eval o X.env
      standAt apos.atName
      let (f, first) ← holding [ov] (getMethod ov m pl)
      callWith pos f first (backTo pos (starEach (e :: es) X.env)) (backToKw pos (keywordEach [] X.env)))) :
    PE X (.Call (.Attribute o m apos) (e :: es) [] pos) (tMethS Ms m E ta t) := by
  refine ⟨fun pins s σ H Q I h => ?_⟩
  refine PySem.W.methodCall_KW (pl := pl) (thn (he.run pins s σ H _ I h) fun u s1 ⟨x, H1, I1, rx, a, C, dx, fs, sp, ex, ea, hm, l, q⟩ => ?_) ht
  subst ex
  obtain rfl : u = Value.ref a := rx
  obtain ⟨f, fd, ps, c, mt, F, hb⟩ := hM C sp hm
  refine getmeth_ok I1 ea c mt l ?_
  refine PySem.W.callWith_K (first := [.ref a]) (h₀ := X.base) I.ok.mod.kin mt.kp (thn (ha.run pos pins s1 σ H1 _ I1 q) fun us s2 ⟨vs, H2, I2, r, q2⟩ => ⟨I2.kIn, ?_⟩) hst hpl
  exact run_fnS (us := .ref a :: us) (vs := .ref a :: vs) F hr hb (hx σ) I2 (.cons rfl r) q2
theorem pe_methS0 {pl : Sem Bool} (he : PE X o ta) (hM : ∀ C sp, Ms C sp → ∃ f fd ps, Cls X.K C ∧ Meth X.K C m f ∧ FnOk X.prog X.w X.K X.mg X.base CX k f fd ps sp ∧ Binds X.K fd ps []) (hr : Room k X.A) (hx : ∀ σ, PassesAt CX X σ (E σ))
    (ht : eval (.Call (.Attribute o m apos) [] [] pos) X.env = (do
      let ov ← eval o X.env
      standAt apos.atName
      let (f, first) ← holding [ov] (getMethod ov m pl)
      callWith pos f first (backTo pos (starEach [] X.env)) (backToKw pos (keywordEach [] X.env)))) :
    PE X (.Call (.Attribute o m apos) [] [] pos) (tMethS Ms m E ta tNil) := by
  refine ⟨fun pins s σ H Q I h => ?_⟩
  refine PySem.W.methodCall_KW (pl := pl) (thn (he.run pins s σ H _ I h) fun u s1 ⟨x, H1, I1, rx, a, C, dx, fs, sp, ex, ea, hm, l, q⟩ => ?_) ht
  subst ex
  obtain rfl : u = Value.ref a := rx
  obtain ⟨f, fd, ps, c, mt, F, hb⟩ := hM C sp hm
  refine getmeth_ok I1 ea c mt l ?_
  exact PySem.W.callWith_K0 (first := [.ref a]) I1.kIn mt.kp (run_fnS (us := [.ref a]) (vs := [.ref a]) F hr hb (hx σ) I1 (.cons rfl .nil) q)
theorem run_makeS {pins : List (Addr × Obj)} {σ : L2.St} {H : Hp} {s : Shared} {Q : VK} {us : List Value} {vs : List V} (M : Mk X.K C f) (F : FnOk X.prog X.w X.K X.mg X.base CX k f fd ps sp) (hr : Room (k + 1) X.A) (hb : Binds X.K fd ps [])
    (hx : PassesAt CX X σ (E σ)) (I : Inv X pins σ H s) (r : Vals vs us)
    (h : ∀ x dx, H x = none → H dx = none → dx ≠ x → sp (.ref x :: vs) (upd (upd H dx (.own x)) x (.ins C dx [])) (fun v H2 => v = .non ∧ Q (.ref x) H2) (E σ)) :
    wpAny (model X.prog X.w) X.A (call (.ref C) us) (EP X pins σ Q) X.xe s := by
  have hq := h (s.heap.objs.size + 1) s.heap.objs.size (I.hok.fresh (Nat.le_succ _)) (I.hok.fresh (Nat.le_refl _)) (Nat.ne_of_lt (Nat.lt_succ_self _))
  have I2 := Inv.made (C := C) I
  have r2 : Vals (V.ref (s.heap.objs.size + 1) :: vs) (Value.ref (s.heap.objs.size + 1) :: us) := .cons rfl r
  have hl : (Value.ref (s.heap.objs.size + 1) :: us).length = ps.length := by
    have e := r2.length
    rw [F.len _ _ _ _ hq] at e
    exact e.symm
  have b := hb _ (Value.ref (s.heap.objs.size + 1) :: us) I2.kIn (by rw [List.append_nil]; exact hl)
  rw [List.append_nil] at b
  refine wpAny_call (make_map (f := f) I.kIn M.makes M.init (beq_iff_eq.mp M.fn) (codeAny_mono (F.run _ X.stack _ _ ⟨Value.ref (s.heap.objs.size + 1) :: us, []⟩ (Value.ref (s.heap.objs.size + 1) :: us) _ _ (E σ) (hr.make C us [])
    (I2.env0.make C us []) b r2 hq) fun r s' hq' => ?_))
  cases r with
  | error e => exact hx pins _ _ e s' I2 hq'
  | ok fl =>
    cases fl with
    | ret u =>
      obtain ⟨v, H', I3, rv, ev, q3⟩ := I2.after hq'
      subst ev
      exact ⟨rv, ⟨V.ref (s.heap.objs.size + 1), H', I3, rfl, q3⟩⟩
    | next => exact False.elim hq'
    | brk => exact False.elim hq'
    | cont => exact False.elim hq'
theorem pe_makeS (M : Mk X.K C f) (F : FnOk X.prog X.w X.K X.mg X.base CX k f fd ps sp) (hr : Room (k + 1) X.A) (hg : Gl X x) (hm : X.mg x = some (.ref C)) (hb : Binds X.K fd ps []) (hx : ∀ σ, PassesAt CX X σ (E σ))
    (ha : PA X (e :: es) t) (hdb : (x == ("__debug__" : Str)) = false) (he : starEach (e :: es) X.env = (false, eval e X.env) :: starEach es X.env) (hpl : (backTo pos (starEach es X.env)).any (·.1) = false) :
    PE X (.Call (.Name x p) (e :: es) [] pos) (tMakeS C sp E t) := by
  refine ⟨fun pins s σ H Q I h => ?_⟩
  refine wpAny_Call_Name_kw (ld_glob I hg hm ?_ hdb)
  refine PySem.W.callWith_K (h₀ := X.base) I.ok.mod.kin M.kp (thn (ha.run pos pins s σ H _ I h) fun us s1 ⟨vs, H1, I1, r, q⟩ => ⟨I1.kIn, ?_⟩) he hpl
  exact run_makeS M F hr hb (hx σ) I1 r q
theorem pe_makeS0 (M : Mk X.K C f) (F : FnOk X.prog X.w X.K X.mg X.base CX k f fd ps sp) (hr : Room (k + 1) X.A) (hg : Gl X x) (hm : X.mg x = some (.ref C)) (hb : Binds X.K fd ps []) (hx : ∀ σ, PassesAt CX X σ (E σ)) (hdb : (x == ("__debug__" : Str)) = false) :
    PE X (.Call (.Name x p) [] [] pos) (tMakeS C sp E tNil) := by
  refine ⟨fun pins s σ H Q I h => ?_⟩
  refine wpAny_Call_Name_kw (ld_glob I hg hm ?_ hdb)
  exact PySem.W.callWith_K0 I.kIn M.kp (run_makeS (us := []) M F hr hb (hx σ) I .nil h)
end
/-- a new instance is laid -/
theorem new_ins {F : Fr} {G : Gh} {H : Hp} {h : Hs} {c : Str} {C x dx : Addr} (r : HR F G H h) (hC : F.cls c = .ref C) (hx : H x = none) (hd : H dx = none) (ne : dx ≠ x) :
    Step G H (G.add h.length x) (upd (upd H dx (.own x)) x (.ins C dx [])) ∧ HR F (G.add h.length x) (upd (upd H dx (.own x)) x (.ins C dx [])) (h ++ [.ins c [] []]) := by
  have r1 := r.same (same_upd (o := .own x) hd)
  have hx1 : upd H dx (.own x) x = none := by rw [upd_ne ne.symm]; exact hx
  exact ⟨(Step.same (same_upd hd)).trans (Step.add r1 hx1), r1.add hx1 ⟨C, dx, [], hC, rfl, rfl, vrl_nil.mpr rfl⟩⟩
/-! a dict of the module, text keys and numbers -/
def kinF (neg : Bool) (t : List (Str × Int)) (_ : Hs) : D → Option D
  | .str z => some (.bl (xor neg (t.lookup z).isSome))
  | _ => none
def kixF (t : List (Str × Int)) (_ : Hs) : D → Option D
  | .str z => (t.lookup z).map .int
  | _ => none
structure KTab (K : PySem.W.Frag) (w : World) (d : Addr) (t : List (Str × Int)) : Prop where
  kd : ∃ es n, KDict K w d es n
  at' : ∀ z : Str, ∃ r, PySem.W.nsIn K d z = some r ∧ r.isSome = (t.lookup z).isSome ∧ ∀ i, t.lookup z = some i → ∃ u, r = some u ∧ RelV (.int i) u
def kdE (P : Params) (l : List (Str × Tok × Int × Tok)) : List DictEntry := l.map fun e => ⟨PyData.keyHash P e.1, .str e.1 e.2.1, .int e.2.2.1 e.2.2.2⟩
theorem kdE_lit {P : Params} : ∀ l : List (Str × Tok × Int × Tok), PySem.W.KeysLit P (kdE P l)
  | [] => trivial
  | e :: r => ⟨⟨e.1, e.2.1, rfl, rfl⟩, kdE_lit r⟩
theorem kdE_find {P : Params} {z : Str} : ∀ l : List (Str × Tok × Int × Tok), (kdE P l).any (·.refKey) = false ∧ ((∃ i t e, (l.map fun e => (e.1, e.2.2.1)).lookup z = some i ∧ (kdE P l).find? (·.key.isStr z) = some e ∧ e.val = .int i t) ∨ ((l.map fun e => (e.1, e.2.2.1)).lookup z = none ∧ (kdE P l).find? (·.key.isStr z) = none))
  | [] => ⟨rfl, .inr ⟨rfl, rfl⟩⟩
  | (x, t, i, u) :: r => by
    obtain ⟨h1, h2⟩ := kdE_find (P := P) (z := z) r
    have e0 : kdE P ((x, t, i, u) :: r) = ⟨PyData.keyHash P x, .str x t, .int i u⟩ :: kdE P r := rfl
    have e1 : (Value.str x t).isStr z = (x == z) := rfl
    rw [e0]
    refine ⟨by rw [List.any_cons, h1]; rfl, ?_⟩
    rw [List.map_cons, List.find?_cons, List.lookup_cons]
    dsimp only
    rw [e1]
    by_cases q : x = z
    · subst q
      rw [beq_self_eq_true]
      exact .inl ⟨i, u, _, rfl, rfl, rfl⟩
    · have q1 : (x == z) = false := beq_eq_false_iff_ne.mpr q
      have q2 : (z == x) = false := beq_eq_false_iff_ne.mpr fun w => q w.symm
      rw [q1, q2]
      exact h2
theorem ktab_of {K : PySem.W.Frag} {w : World} {d : Addr} {n : Nat} {l : List (Str × Tok × Int × Tok)} (low : (d == sysModules) = false) (hl : K.lookup d = some ⟨.type "dict", none, .dict (kdE w.params l).toArray n, #[]⟩) : KTab K w d (l.map fun e => (e.1, e.2.2.1)) where
  kd := ⟨_, n, hl, by rw [List.toList_toArray]; exact kdE_lit l, low⟩
  at' := fun z => by
    obtain ⟨h1, h2⟩ := kdE_find (P := w.params) (z := z) l
    unfold PySem.W.nsIn
    rw [hl]
    dsimp only
    rcases h2 with ⟨i, t, e, q1, q2, q3⟩ | ⟨q1, q2⟩
    · rw [q2, q1]
      refine ⟨some e.val, rfl, rfl, fun j hj => ?_⟩
      injection hj with hj
      subst hj
      exact ⟨e.val, rfl, t, q3⟩
    · rw [q2, q1]
      dsimp only
      rw [h1]
      exact ⟨none, rfl, rfl, fun j hj => (nomatch hj)⟩
section
variable {X : Cx} {F : Fr} {W : WX}
theorem st_un {e a : Expr} {r : V → Hp → VK → Prop} {fa : SD → Hs → R D} {g : Hs → D → Option D} (rule : ∀ ta, PE X a ta → PT X e (tTest fun σ H Q => ta σ H fun x H1 => r x H1 Q)) (ok : CallOk F (B1 r) (DL (g1 g))) (ha : SE X F W a fa) : ST X F W e (un1 g fa) := by
  refine PT.imp (rule _ ha) fun σ H Q ⟨G, h, s, t, o⟩ => ?_
  have o := outT_E o
  refine part t o fun d x h1 G1 H1 T1 t1 vx o => ?_
  obtain ⟨x', e, q⟩ := call_go (g := DL (g1 g)) (ds := [d]) (vs := [x]) ok nrsL t1.hr (vrl_one.mpr vx) o
  injection e with e1 e2
  subst e1
  exact q
def rKin (K : PySem.W.Frag) (d : Addr) (neg : Bool) : V → Hp → VK → Prop := fun x H Q => ∃ (z : Str) (r : Option Value), x = .str z ∧ (V.ref d) = .ref d ∧ PySem.W.nsIn K d z = some r ∧ Q (.bl (xor neg r.isSome)) H
theorem op_kin {w : World} {d : Addr} {t : List (Str × Int)} {op : CmpOp} {neg : Bool} (hop : (op = .In ∧ neg = false) ∨ (op = .NotIn ∧ neg = true)) (hw : X.w = w) (T : KTab X.K w d t) : OpR X (compareOp op) (fun x y H Q => ∃ (z : Str) (r : Option Value), x = .str z ∧ y = .ref d ∧ PySem.W.nsIn X.K d z = some r ∧ Q (.bl (xor neg r.isSome)) H) := by
  subst hw
  obtain ⟨es, n, D⟩ := T.kd
  rcases hop with ⟨rfl, rfl⟩ | ⟨rfl, rfl⟩
  · have := op_in_kd D
    simpa using this
  · have := op_notIn_kd D
    simpa using this
theorem ok_kin {K : PySem.W.Frag} {w : World} {d : Addr} {t : List (Str × Int)} {neg : Bool} (T : KTab K w d t) : CallOk F (B1 (rKin K d neg)) (DL (g1 (kinF neg t))) :=
  ok1 fun G H h x e z Q q rr vx k => by
    cases e with
    | str y =>
      obtain rfl := vr_str.mp vx
      obtain ⟨r, r1, r2, r3⟩ := T.at' y
      injection q with q
      subst q
      rw [← r2] at k
      exact ⟨y, r, rfl, rfl, r1, k.bl rr⟩
    | _ => cases q
theorem se_kin {a : Expr} {x : Str} {py pos : Pos} {op : CmpOp} {neg : Bool} {d : Addr} {t : List (Str × Int)} {fa : SD → Hs → R D} (hop : (op = .In ∧ neg = false) ∨ (op = .NotIn ∧ neg = true)) (hg : Gl X x) (hm : X.mg x = some (.ref d)) (hd : (x == ("__debug__" : Str)) = false) (T : KTab X.K X.w d t) (ha : SE X F W a fa) :
    SE X F W (.Compare a [op] [.Name x py] pos) (un1 (kinF neg t) fa) ∧ ST X F W (.Compare a [op] [.Name x py] pos) (un1 (kinF neg t) fa) := by
  have hb : behindInMarks op (.Name x py) = false := by rcases hop with ⟨rfl, rfl⟩ | ⟨rfl, rfl⟩ <;> rfl
  exact ⟨se_un (r := rKin X.K d neg) (fun ta p => PE.imp (pe_cmpR (op_kin hop rfl T) p (pe_glob (v := .ref d) hg hm rfl hd) hb) fun σ H Q h => h) (ok_kin T) ha,
    st_un (r := rKin X.K d neg) (fun ta p => PT.imp (pt_cmpR (op_kin hop rfl T) p (pe_glob (v := .ref d) hg hm rfl hd) hb) fun σ H Q h => h) (ok_kin T) ha⟩
theorem se_kix {b : Expr} {x : Str} {py pos : Pos} {d : Addr} {t : List (Str × Int)} {fb : SD → Hs → R D} (hg : Gl X x) (hm : X.mg x = some (.ref d)) (hd : (x == ("__debug__" : Str)) = false) (T : KTab X.K X.w d t) (hs : PlainIx b) (hb : SE X F W b fb) :
    SE X F W (.Subscript (.Name x py) b pos) (un1 (kixF t) fb) := by
  refine se_un (r := fun y H Q => rIxD X.K X.w (.ref d) y H Q) (fun tb p => PE.imp (pe_ix (ix_kdict (X := X)) (pe_glob (v := .ref d) hg hm rfl hd) p hs) fun σ H Q h => h) (ok1 fun G H h y e z Q q rr vx k => ?_) hb
  cases e with
  | str y =>
    obtain rfl := vr_str.mp vx
    obtain ⟨r, r1, r2, r3⟩ := T.at' y
    cases ql : t.lookup y with
    | none => simp only [kixF, ql] at q; cases q
    | some i =>
      simp only [kixF, ql] at q
      injection q with q
      subst q
      obtain ⟨u, rfl, ru⟩ := r3 i ql
      obtain ⟨es, n, D⟩ := T.kd
      exact ⟨d, y, .int i, rfl, rfl, ⟨es, n, u, D.at_, D.lit, r1, ru⟩, k.int rr⟩
  | _ => cases q
end
/-! range with a step -/
def rngC (lo c : Int) (n : Nat) : List D := (List.range n).map fun i => .int (lo + (i : Nat) * c)
def rngO3 (ds : List D) (h : Hs) : R Src := match ds with
  | [.int i, .int j, .int c] => if 0 < c ∧ c < 1073741824 ∧ Builtin.Range.small i j c = true then .ok (src0 (rngC i c (Builtin.Range.rangeSize i j c).toNat)) h else .stk
  | _ => .stk
theorem size_nn {i j c : Int} (hc : 0 < c) : 0 ≤ Builtin.Range.rangeSize i j c := by
  unfold Builtin.Range.rangeSize
  rw [if_pos hc]
  split
  · have := Int.ediv_nonneg (a := j - i - 1) (b := c) (by omega) (by omega)
    omega
  · omega
section
variable {X : Cx} {F : Fr} {W : WX} {G : Gh} {H : Hp}
theorem rngC_get {lo c : Int} {n i : Nat} {d : D} (h : (rngC lo c n)[i]? = some d) : i < n ∧ d = .int (lo + (i : Nat) * c) := by
  unfold rngC at h
  rw [List.getElem?_map] at h
  by_cases hi : i < n
  · rw [List.getElem?_range hi] at h
    exact ⟨hi, (Option.some.inj h).symm⟩
  · rw [List.getElem?_eq_none (by simp; omega)] at h
    cases h
theorem rngC_len {lo c : Int} {n : Nat} : (rngC lo c n).length = n := by simp [rngC]
theorem yields_rngC {lo c : Int} {n : Nat} : Yields F G H (Itc lo c n) (src0 (rngC lo c n)) := by
  refine ⟨fun G2 H2 h2 T r cc i hi => by show n ≤ i; rw [← rngC_len (lo := lo) (c := c) (n := n)]; exact hi, fun G2 H2 h2 T r cc i d e => ?_⟩
  obtain ⟨hi, rfl⟩ := rngC_get e
  refine ⟨hi, fun x H3 hy => ?_⟩
  obtain ⟨rfl, rfl⟩ := hy
  exact ⟨Same.refl _, vr_int.mpr rfl⟩
theorem vals_int3 {vs : List V} {i j k : Int} (x : VRL F G H [.int i, .int j, .int k] vs) : vs = [.int i, .int j, .int k] := by
  obtain ⟨v, vr, rfl, h1, h2⟩ := vrl_cons.mp x
  rw [vr_int.mp h1, vals_int2 h2]
theorem si_range3 {tg a b c : Expr} {f : SD → Hs → R (List D)} {p pos : Pos} (hg : Gl X "range") (hm : X.mg "range" = none) (hs : starEach [a, b, c] X.env = (false, eval a X.env) :: starEach [b, c] X.env) (hs2 : (backTo pos (starEach [b, c] X.env)).any (·.1) = false) (ha : SA X F W [a, b, c] f) :
    SI X F W tg (.Call (.Name "range" p) [a, b, c] [] pos) (fun s h => (f s h).bind rngO3) :=
  ⟨fun pins s' σ H R0 I ⟨G, h, s, t, o⟩ => (pi_range3 hg hm ha hs hs2).run pins s' σ H R0 I (partI t o fun d v h2 G2 H2 T2 t2 x o => by
    unfold rngO3 at o
    split at o
    · rename_i i j c
      split at o
      · rename_i hh
        obtain ⟨c0, c1, c2⟩ := hh
        exact ⟨i, j, c, (Builtin.Range.rangeSize i j c).toNat, vals_int3 x, ⟨by omega, by omega, c2, by have := size_nn (i := i) (j := j) c0; omega⟩, o _ G2 H2 (Step.refl _ _) t2.hr yields_rngC⟩
      · exact o.elim
    · exact o.elim)⟩
end
end Gx

/-! G8: what a def promises; expressions and statements as a small tongue of their own. -/
namespace Gx
open PySem L2
/-- called with values that stand for ds it does what m says -/
def spOf (F : Fr) (n : Nat) (m : List D → Hs → R D) : Sp := fun vs H Q E => ∃ (G : Gh) (h : Hs) (ds : List D), ds.length = n ∧ HR F G H h ∧ VRL F G H ds vs ∧
  match m ds h with
  | .ok d h' => ∀ v G' H', Step G H G' H' → HR F G' H' h' → VR F G' H' d v → Q v H'
  | .rs c p h' => ∀ G' H' dct, Step G H G' H' → HR F G' H' h' → Pay G' H' dct p → E (F.cls c) dct H'
  | .stk => False
inductive Op where
  | add | sub | mul | fdiv | mod | pow | xor | eq | ne | lt | le | gt | ge | isIn | notIn | is | isNot
  deriving DecidableEq
def Op.g : Op → Hs → D → D → Option D
  | .add => gAdd | .sub => gSub | .mul => gMul | .fdiv => gFdiv | .mod => gMod | .pow => gPow | .xor => gXor | .eq => gEq | .ne => gNe | .lt => gLt | .le => gLe | .gt => gGt | .ge => gGe
  | .isIn => gIn | .notIn => gNotIn | .is => gIs | .isNot => gIsNot
/-- of ints alone, for chains -/
def Op.p : Op → Option (Int → Int → Bool)
  | .le => some fun i j => decide (i ≤ j)
  | .gt => some fun i j => decide (j < i)
  | .ge => some fun i j => decide (j ≤ i)
  | .lt => some fun i j => decide (i < j)
  | _ => none
inductive Bi where
  | len | sum | all | any | tuple | list (m : Bool) | abs | max | min | sorted (m : Bool) | int | str
  deriving DecidableEq
noncomputable def Bi.g : Bi → List D → Hs → R D
  | .len => DL gLen | .sum => DL gSum | .all => DL gAll | .any => DL gAny | .tuple => DL gTupleF | .list m => gListF m | .abs => DL gAbs | .max => DL gMax | .min => DL gMin | .sorted m => gSort m | .int => DL gInt | .str => DL gStr
def biOf0 (m : Bool) (x : Str) : Option (Str × Bi) :=
  if x = "len" then some ("len", .len) else if x = "sum" then some ("sum", .sum) else if x = "all" then some ("all", .all) else if x = "any" then some ("any", .any) else if x = "tuple" then some ("tuple", .tuple)
  else if x = "list" then some ("list", .list m) else if x = "abs" then some ("abs", .abs) else if x = "max" then some ("max", .max) else if x = "min" then some ("min", .min) else if x = "sorted" then some ("sorted", .sorted m) else none
def biOf (m : Bool) (x : Str) : Option (Str × Bi) := if x = "int" then some ("int", .int) else if x = "str" then some ("str", .str) else biOf0 m x
inductive Me where
  | append | extend | popAt | pop | insert | count | index | get | clr
  deriving DecidableEq
def Me.c : Me → Hs → D → Bool
  | .get => isDic
  | .clr => isClr
  | _ => isLst
def Me.g : Me → D → List D → Hs → R D
  | .append => lstM txAppend | .extend => lstM txExtend | .popAt => lstM txPopAt | .pop => lstM txPop | .insert => lstM txInsert | .count => valM txCount | .index => valM txIndex | .get => getM | .clr => clrA
def meOf (x : Str) (n : Nat) : Option Me := if x = "append" then some .append else if x = "extend" then some .extend else if x = "pop" then (if n = 0 then some .pop else some .popAt) else if x = "insert" then some .insert else if x = "count" then some .count else if x = "index" then some .index else if x = "get" then some .get else if x = "clear" then (if n = 0 then some .clr else none) else none
inductive E where
  | var (i : Nat) | int (i : Int) | bl (b : Bool) | str (x : Str) | non | cst (d : D)
  | op (o : Op) (a b : E) | neg (a : E) | not (a : E) | and (a b : E) | or (a b : E) | ite (c a b : E) | ch (o o' : Op) (a b c : E)
  | tup (es : List E) | lst (m : Bool) (es : List E)
  | ix (a b : E) | sl (m : Bool) (a : E) (lo hi : List E) | rev (m : Bool) (a : E)
  | bi (b : Bi) (es : List E) | isi (T : String) (e : E) | lrng (m : Bool) (k : Nat) (es : List E)
  | call (j : Nat) (es : List E) | mth (me : Me) (o : E) (es : List E)
  | xf (x : Xf) (es : List E) | dsp (qs : List Key) (es : List E) | dnw (m : Bool) | dnt | d1 (a b : E)
  | own (cat : Bool) (a b : E) | isE (cs : List Str) (y : Str) (e : E) | had (cs : List Str) (e : E)
  | kin (neg : Bool) (t : List (Str × Int)) (a : E) | kix (t : List (Str × Int)) (a : E)
  | fld (cs : List Str) (f : Str) (e : E) | mcl (ms : List (Str × Nat)) (m : Str) (o : E) (es : List E) | new (c : Str) (j : Nat) (es : List E)
  | lc (m : Bool) (k : Nat) (src : List E) (tp : Bool) (is : List Nat) (tst : List E) (elt : E) (vs : List Nat)
def tgF (tp : Bool) (is : List Nat) : D → SD → Option SD := match tp with
  | true => setT is
  | false => match is with
    | [i] => setN i
    | _ => fun _ _ => none
def itG : Nat → List D → Hs → R Src
  | 0, [d], h => srcOf d h
  | 1, ds, h => rngO1 ds h
  | 2, ds, h => rngO2 ds h
  | 3, ds, h => zipO ds h
  | 4, ds, h => enumO ds h
  | 5, ds, h => rngO3 ds h
  | _, _, _ => .stk
/-- list(range(..)), as a value or as an object -/
def lrG (m : Bool) (k : Nat) (ds : List D) (h : Hs) : R D := match k, ds with
  | 1, [.int b] => if 0 ≤ b ∧ b ≤ 16777216 then newL m (rngD 0 b.toNat) h else .stk
  | 2, [.int a, .int b] => if 0 ≤ a ∧ a ≤ 16777216 ∧ 0 ≤ b ∧ b ≤ 16777216 then newL m (rngD a (b - a).toNat) h else .stk
  | _, _ => .stk
abbrev Mir := Nat → Nat × (List D → Hs → R D)
def callR (Γ : Mir) (j : Nat) (ds : List D) (h : Hs) : R D := if ds.length = (Γ j).1 then (Γ j).2 ds h else .stk
section
variable (Γ : Mir)
mutual
noncomputable def E.ev : E → SD → Hs → R D
  | .var i, s, h => getS s i h
  | .int i, _, h => .ok (.int i) h
  | .bl b, _, h => .ok (.bl b) h
  | .str x, _, h => .ok (.str x) h
  | .non, _, h => .ok .non h
  | .cst d, _, h => .ok d h
  | .op o a b, s, h => bin2 o.g a.ev b.ev s h
  | .neg a, s, h => un1 gNeg a.ev s h
  | .not a, s, h => notR (a.ev s h)
  | .and a b, s, h => andR (a.ev s h) (b.ev s)
  | .or a b, s, h => orR (a.ev s h) (b.ev s)
  | .ite c a b, s, h => iteR (c.ev s h) (a.ev s) (b.ev s)
  | .ch o o' a b c, s, h => match o.p, o'.p with
    | some p, some p' => chR p p' (a.ev s h) (b.ev s) (c.ev s)
    | _, _ => .stk
  | .tup es, s, h => (E.evs es s h).bind (DL gTup)
  | .lst m es, s, h => (E.evs es s h).bind (mkL m)
  | .ix a b, s, h => bin2 gIx a.ev b.ev s h
  | .sl m a lo hi, s, h => slR m (a.ev s h) (E.evO lo s) (E.evO hi s)
  | .rev m a, s, h => (a.ev s h).bind (revG m)
  | .bi b es, s, h => (E.evs es s h).bind b.g
  | .isi T e, s, h => (e.ev s h).bind (isiG T)
  | .own cat a b, s, h => (a.ev s h).bind fun x h1 => (b.ev s h1).bind fun y h2 => ownO cat x y h2
  | .isE cs y e, s, h => (e.ev s h).bind (isEG cs y)
  | .had cs e, s, h => (e.ev s h).bind (hadG cs)
  | .lrng m k es, s, h => (E.evs es s h).bind (lrG m k)
  | .xf x es, s, h => (E.evs es s h).bind x.g
  | .dsp qs es, s, h => (E.evs es s h).bind (dspO qs)
  | .dnw m, _, h => dnwO m h
  | .dnt, _, h => dntO h
  | .d1 a b, s, h => (a.ev s h).bind fun x h1 => (b.ev s h1).bind fun y h2 => d1O x y h2
  | .call j es, s, h => (E.evs es s h).bind (callR Γ j)
  | .kin ng t a, s, h => un1 (kinF ng t) a.ev s h
  | .kix t a, s, h => un1 (kixF t) a.ev s h
  | .fld cs f e, s, h => (e.ev s h).bind (fldG cs f)
  | .mcl ms m o es, s, h => mclR ms m (callR Γ) o.ev (E.evs es) s h
  | .new c j es, s, h => (E.evs es s h).bind (newI c (callR Γ j))
  | .mth me o es, s, h => mthR me.c me.g o.ev (E.evs es) s h
  | .lc m k src tp is tst elt vs, s, h => ((E.evs src s h).bind (itG k)).bind (lcO m (tgF tp is) (E.evT tst) elt.ev vs s)
noncomputable def E.evs : List E → SD → Hs → R (List D)
  | [], _, h => .ok [] h
  | e :: r, s, h => (e.ev s h).bind fun d h1 => (E.evs r s h1).bind fun ds h2 => .ok (d :: ds) h2
/-- a test that may lack -/
noncomputable def E.evT : List E → SD → Hs → R D
  | [], _, h => .ok (.bl true) h
  | e :: _, s, h => e.ev s h
/-- a slice's end that may lack -/
noncomputable def E.evO : List E → SD → Hs → R (Option Int)
  | [], _, h => .ok none h
  | e :: _, s, h => ixR (e.ev s h)
end
end
/-! ### reading off -/
/-- the own classes whose instances are served: their names, the attributes' names, the numbers of __init__ by class, of methods by name and class -/
structure ClsI where
  cs : List Str
  fl : List Str
  ni : List (Str × Nat)
  mt : List (Str × List (Str × Nat))
structure Cfg where
  N : List Str
  sc : Scope
  blt : List Str
  fid : List (Str × Nat)
  cst : List (Str × D)
  md : List (Nat × Nat)
  ct : List (Nat × Nat)
  calm : Bool
  exs : List Str
  ask : List Str
  cl : ClsI
  kd : List (Str × List (Str × Int))
def Cfg.m (c : Cfg) (p : Pos) : Bool := c.md.contains (p.line, p.col)
/-- a dict that will be keyed by tuples -/
def Cfg.mT (c : Cfg) (p : Pos) : Bool := c.md.contains (p.line, p.col + 4000)
def ixOf (N : List Str) (x : Str) : Option Nat := N.findIdx? (· == x)
def Cfg.own (c : Cfg) (scope : Scope) : List (Str × Nat) := scope.names.filterMap fun (x, k) => if k == .local || k == .cell then (ixOf c.N x).map fun i => (x, i) else none
def visC (sc : Scope) (x : Str) : Bool := match sc.names.lookup x with
  | some .local => true
  | some .cell => true
  | some .free => true
  | _ => false
def stoC (sc : Scope) (x : Str) : Bool := match sc.names.lookup x with
  | some .local => true
  | some .cell => true
  | _ => false
def glC (sc : Scope) (x : Str) : Bool := match sc.names.lookup x with
  | some .globalImplicit => true
  | _ => false
def plainName (x : Str) : Bool := !(x == ("__debug__" : Str)) && !(x == ("__classdict__" : Str)) && !(x == ("__name__" : Str))
def mapO {α β : Type} (f : α → Option β) : List α → Option (List β)
  | [] => some []
  | a :: r => (f a).bind fun b => (mapO f r).map (b :: ·)
def binOp : Operator → Option Op
  | .Add => some .add | .Sub => some .sub | .Mult => some .mul | .FloorDiv => some .fdiv | .Mod => some .mod | .Pow => some .pow | .BitXor => some .xor
  | _ => none
def cmpOp : CmpOp → Option Op
  | .Eq => some .eq | .NotEq => some .ne | .Lt => some .lt | .LtE => some .le | .Gt => some .gt | .GtE => some .ge | .In => some .isIn | .NotIn => some .notIn | .Is => some .is | .IsNot => some .isNot
def tyName (x : Str) : Option String :=
  if x = "int" then some "int" else if x = "bool" then some "bool" else if x = "tuple" then some "tuple" else if x = "list" then some "list" else if x = "str" then some "str" else if x = "dict" then some "dict" else none
/-- a dict of the module -/
def kdK (c : Cfg) : Expr → Option (List (Str × Int))
  | .Name x _ => if (glC c.sc x && plainName x) = true then c.kd.lookup x else none
  | _ => none
def kinOp : CmpOp → Option Bool
  | .In => some false
  | .NotIn => some true
  | _ => none
def foldB (g : E → E → E) : List E → Option E
  | [] => none
  | [a] => some a
  | a :: r => (foldB g r).map (g a)
/-- a target's slots; true: a tuple of names -/
def nameIx (c : Cfg) : Expr → Option Nat
  | .Name x _ => if stoC c.sc x = true then ixOf c.N x else none
  | _ => none
def compG (c : Cfg) : Expr → Option (Bool × List Nat)
  | .Name x p => (nameIx c (.Name x p)).map fun i => (false, [i])
  | .Tuple es _ _ => if c.calm = true then (mapO (nameIx c) es).map fun is => (true, is) else none
  | _ => none
/-- a receiver that is no name of a module, no literal -/
def rcvOk : Expr → Bool
  | .Name _ _ => true
  | .Subscript _ _ _ => true
  | .List _ _ => true
  | _ => false
/-- the shape of what is walked: the kind, the parts -/
def iterK (c : Cfg) (iter : Expr) : Nat × List Expr := match iter with
  | .Call (.Name x _) [a] [] _ => if x = "range" ∧ glC c.sc x = true ∧ x ∈ c.blt then (1, [a]) else if x = "enumerate" ∧ glC c.sc x = true ∧ x ∈ c.blt then (4, [a]) else (0, [iter])
  | .Call (.Name x _) [a, b] [] _ => if x = "range" ∧ glC c.sc x = true ∧ x ∈ c.blt then (2, [a, b]) else if x = "zip" ∧ glC c.sc x = true ∧ x ∈ c.blt then (3, [a, b]) else (0, [iter])
  | .Call (.Name x _) [a, b, d] [] _ => if x = "range" ∧ glC c.sc x = true ∧ x ∈ c.blt then (5, [a, b, d]) else (0, [iter])
  | _ => (0, [iter])
def compI (f : Expr → Option E) (c : Cfg) (iter : Expr) : Option (Nat × List E) := (mapO f (iterK c iter).2).map fun src => ((iterK c iter).1, src)
/-- list(range(..)): its parts -/
def lrngK (c : Cfg) (f : Str) (es : List Expr) : Option (Nat × List Expr) := match es with
  | [.Call (.Name x _) [a] [] _] => if f = "list" ∧ f ∈ c.blt ∧ x = "range" ∧ glC c.sc x = true ∧ x ∈ c.blt then some (1, [a]) else none
  | [.Call (.Name x _) [a, b] [] _] => if f = "list" ∧ f ∈ c.blt ∧ x = "range" ∧ glC c.sc x = true ∧ x ∈ c.blt then some (2, [a, b]) else none
  | _ => none
/-- other calls of a shape of their own -/
def xK (c : Cfg) (f : Str) (es : List Expr) : Option (Xf × List Expr) := match es with
  | [.Call (.Name x _) [a] [] _] => if f = "len" ∧ f ∈ c.blt ∧ x = "set" ∧ glC c.sc x = true ∧ x ∈ c.blt then some (.lenSet, [a]) else if f = "tuple" ∧ f ∈ c.blt ∧ x = "range" ∧ glC c.sc x = true ∧ x ∈ c.blt then some (.trng 1, [a]) else if f = "sorted" ∧ f ∈ c.blt ∧ x = "set" ∧ glC c.sc x = true ∧ x ∈ c.blt then some (.srtSet, [a]) else none
  | [.Call (.Name x _) [a, b] [] _] => if f = "tuple" ∧ f ∈ c.blt ∧ x = "range" ∧ glC c.sc x = true ∧ x ∈ c.blt then some (.trng 2, [a, b]) else none
  | _ => none
/-- what is walked with a tuple of names alone -/
def tupK (k : Nat) : Bool := k == 3 || k == 4
/-- a display of one entry, to be an object -/
def d1K (c : Cfg) (p : Pos) : List (Option Expr) → List Expr → Option (Expr × Expr)
  | [some k], [v] => if c.m p = true then some (k, v) else none
  | _, _ => none
/-- a walk over a dict -/
def dlK (c : Cfg) (p : Pos) : Expr → Option (Nat × Expr)
  | .Name x px => if c.md.contains (p.line, p.col + 2000) then some (0, .Name x px) else none
  | .Call (.Attribute (.Name x px) a apos) [] [] cpos => if a = "items" ∧ (apos.endLine == cpos.line) = true then some (1, .Name x px) else none
  | _ => none
/-- [::-1] -/
def revE : Expr → Bool
  | .Slice none none (some (.UnaryOp .USub (.Constant (.int i) _ _) _)) _ => i == 1
  | _ => false
def compE : Nat → Cfg → Expr → Option E
  | 0, _, _ => none
  | n + 1, c, e => match e with
    | .Name x _ => if plainName x then (if visC c.sc x then (ixOf c.N x).map E.var else if glC c.sc x then (c.cst.lookup x).map E.cst else none) else none
    | .Constant (.int i) _ _ => some (.int i)
    | .Constant (.bool i) _ _ => some (.bl i)
    | .Constant (.str i) _ _ => some (.str i)
    | .Constant .none _ _ => some .non
    | .BinOp a op b p => (binOp op).bind fun o => (compE n c a).bind fun x => (compE n c b).map fun y => if c.m p = true then (if o = .add then .own true x y else if o = .mul then .own false x y else .op o x y) else .op o x y
    | .UnaryOp .USub a _ => (compE n c a).map E.neg
    | .UnaryOp .Not a _ => (compE n c a).map E.not
    | .BoolOp .And es _ => (mapO (compE n c) es).bind (foldB E.and)
    | .BoolOp .Or es _ => (mapO (compE n c) es).bind (foldB E.or)
    | .IfExp t a b _ => (compE n c t).bind fun x => (compE n c a).bind fun y => (compE n c b).map fun z => .ite x y z
    | .Compare a [op] [b] _ => match kdK c b with
      | some t => (kinOp op).bind fun g => (compE n c a).map fun x => .kin g t x
      | none => (cmpOp op).bind fun o => (compE n c a).bind fun x => (compE n c b).map fun y => .op o x y
    | .Compare a [op, op'] [b, d] _ => (cmpOp op).bind fun o => (cmpOp op').bind fun o' => (compE n c a).bind fun x => (compE n c b).bind fun y => (compE n c d).bind fun z => if o.p.isSome && o'.p.isSome then some (.ch o o' x y z) else none
    | .Tuple es _ _ => (mapO (compE n c) es).map E.tup
    | .List es p => (mapO (compE n c) es).map (E.lst (c.m p))
    | .Dict [] [] p => some (if c.mT p = true then .dnt else .dnw (c.m p))
    | .Dict ks vs p => match d1K c p ks vs with
      | some kv => (compE n c kv.1).bind fun x => (compE n c kv.2).map fun y => .d1 x y
      | none => (mapO keyE ks).bind fun qs => if qs.Nodup ∧ ks ≠ [] ∧ ks.length ≤ 15 ∧ ks.length = vs.length then (mapO (compE n c) vs).map (E.dsp qs) else none
    | .Subscript a (.Slice none none (some (.UnaryOp .USub (.Constant (.int 1) _ _) _)) _) p => (compE n c a).map (E.rev (c.m p))
    | .Subscript a (.Slice lo hi none _) p => (compE n c a).bind fun x => (mapO (compE n c) lo.toList).bind fun l => (mapO (compE n c) hi.toList).map fun h => .sl (c.m p) x l h
    | .Subscript a b _ => match kdK c a with
      | some t => (compE n c b).map fun y => .kix t y
      | none => (compE n c a).bind fun x => (compE n c b).map fun y => .ix x y
    | .Call (.Attribute o a apos) es [] cpos => if rcvOk o && (apos.endLine == cpos.line) && decide (es.length < 20) then
        match meOf a es.length with
        | some me => (compE n c o).bind fun x => (mapO (compE n c) es).map fun l => .mth me x l
        | none => if c.calm = true then (c.cl.mt.lookup a).bind fun ms => (compE n c o).bind fun x => (mapO (compE n c) es).map fun l => .mcl ms a x l else none
      else none
    | .Call (.Name f _) [] [] _ => if (c.calm && glC c.sc f && plainName f) = true then (c.cl.ni.lookup f).map fun j => .new f j [] else none
    | .Call (.Name f _) (e :: es) [] p =>
      if glC c.sc f && plainName f then
        if f = "isinstance" then (match es with
          | [.Name T _] => if decide (f ∈ c.blt) && glC c.sc T && plainName T then (if T ∈ c.ask then (compE n c e).map (E.isE c.exs T) else if T ∈ c.blt then (tyName T).bind fun t => (compE n c e).map (E.isi t) else none) else none
          | _ => none)
        else if c.calm = true then match lrngK c f (e :: es) with
        | some ks => (mapO (compE n c) ks.2).map (E.lrng (c.m p) ks.1)
        | none => match xK c f (e :: es) with
        | some ks => (mapO (compE n c) ks.2).map (E.xf ks.1)
        | none => match biOf (c.m p) f with
          | some b => if decide (f ∈ c.blt) then (mapO (compE n c) (e :: es)).map (E.bi b.2) else none
          | none => match c.cl.ni.lookup f with
            | some j => (mapO (compE n c) (e :: es)).map (E.new f j)
            | none => (c.fid.lookup f).bind fun j => (mapO (compE n c) (e :: es)).map (E.call j)
        else if f = "any" ∧ f ∈ c.blt then (mapO (compE n c) (e :: es)).map (E.bi .any)
        else none
      else none
    | .Attribute (.Name x p) a _ => if a = "had" then (compE n c (.Name x p)).map (E.had c.exs) else if a ∈ c.cl.fl then (compE n c (.Name x p)).map (E.fld c.cl.cs a) else none
    | .ListComp elt [⟨tg, iter, ifs, az⟩] scope p =>
      if az = 0 ∧ blkC c.N c.sc scope (c.own scope) = true ∧ c.calm = true then
        (compI (compE n c) c iter).bind fun ks => (compG { c with sc := scope } tg).bind fun g =>
          if ifs.length < 2 && (!tupK ks.1 || g.1) && g.2.all (fun i => decide (i ∈ (c.own scope).map (·.2))) then
            (mapO (compE n { c with sc := scope }) ifs).bind fun t => (compE n { c with sc := scope } elt).map fun x => E.lc (c.m p) ks.1 ks.2 g.1 g.2 t x ((c.own scope).map (·.2))
          else none
      else none
    | _ => none
inductive S where
  | fst (cs : List Str) (o : E) (f : Str) (e : E) | set (i : Nat) (e : E) | tset (tp : Bool) (is : List Nat) (e : E) | store (o i e : E) | aug (i : Nat) (o : Op) (e : E)
  | ret (e : E) | retN | expr (e : E)
  | iff (c : E) (a b : List S) | loop (ct : Bool) (k : Nat) (src : List E) (tp : Bool) (is : List Nat) (body : List S) | whl (ct : Bool) (c : E) (body : List S)
  | pass | brk | cont | no
  | dlp (ct : Bool) (kd i : Nat) (tp : Bool) (is : List Nat) (body : List S)
  | rs (x : Str) | rsS (e : E) | tr (cs : List Str) (y : Str) (i : Option Nat) (body suite : List S)
def tsetO (tp : Bool) (is : List Nat) (s : SD) (d : D) (h : Hs) : O := match tgF tp is d s with
  | some s' => .nx s' h
  | none => .stk
noncomputable def cutB (ct : Bool) (f : SD → Hs → O) (s : SD) (h : Hs) : O := match ct with
  | true => (f s h).cut h
  | false => f s h
section
variable (Γ : Mir) (n : Nat)
mutual
noncomputable def S.ev : S → SD → Hs → O
  | .set i e, s, h => (e.ev Γ s h).thenO s (setO i s)
  | .tset tp is e, s, h => (e.ev Γ s h).thenO s (tsetO tp is s)
  | .store o i e, s, h => storeO (e.ev Γ) (o.ev Γ) (i.ev Γ) s h
  | .fst cs o f e, s, h => fstO cs f (e.ev Γ) (o.ev Γ) s h
  | .aug i o e, s, h => augO i o.g (e.ev Γ) s h
  | .ret e, s, h => (e.ev Γ s h).thenO s .rt
  | .retN, _, h => .rt .non h
  | .expr e, s, h => (e.ev Γ s h).thenO s fun _ h => .nx s h
  | .iff c a b, s, h => (c.ev Γ s h).thenO s (ifO s (S.evs a) (S.evs b))
  | .loop ct k src tp is body, s, h => ((E.evs Γ src s h).bind (itG k)).thenO s fun z h => forC z.c (turnO (tgF tp is) (cutB ct (S.evs body))) z.ds s h
  | .dlp ct kd i tp is body, s, h => dlpO kd i (turnO (tgF tp is) (cutB ct (S.evs body))) s h
  | .whl ct c body, s, h => whL (c.ev Γ) (cutB ct (S.evs body)) n s h
  | .pass, s, h => .nx s h
  | .brk, s, h => .bk s h
  | .cont, s, h => .ct s h
  | .no, _, _ => .stk
  | .rs x, s, h => .rs x none s h
  | .rsS e, s, h => (e.ev Γ s h).thenO s (rsVO s)
  | .tr cs y i body suite, s, h => trO cs y i (S.evs body) (S.evs suite) s h
noncomputable def S.evs : List S → SD → Hs → O
  | [], s, h => .nx s h
  | a :: r, s, h => (a.ev s h).seq (S.evs r)
end
end
def isComp : Expr → Bool
  | .ListComp _ _ _ _ => true
  | .SetComp _ _ _ _ => true
  | .DictComp _ _ _ _ _ => true
  | _ => false
def isTupE : Expr → Bool
  | .Tuple _ _ _ => true
  | _ => false
def Cfg.cut (c : Cfg) (p : Pos) : Bool := c.ct.contains (p.line, p.col)
def compS (m : Nat) (c : Cfg) : Nat → Stmt → Option S
  | 0, _ => none
  | n + 1, st => match st with
    | .Assign [.Name y py] e _ => if stoC c.sc y then (ixOf c.N y).bind fun i => (compE m c e).map fun x => .set i x else none
    | .Assign [.Tuple es kt pt] e _ => if isTupE e || isComp e then none else (compG c (.Tuple es kt pt)).bind fun g => (compE m c e).map fun x => .tset g.1 g.2 x
    | .Assign [.Subscript o i _] e _ => if isComp e then none else (compE m c o).bind fun x => (compE m c i).bind fun k => (compE m c e).map fun y => .store x k y
    | .Assign [.Attribute o f _] e _ => if isComp e then none else if f ∈ c.cl.fl then (compE m c o).bind fun x => (compE m c e).map fun y => .fst c.cl.cs x f y else none
    | .AugAssign (.Name y _) op e _ => if plainName y && stoC c.sc y then (ixOf c.N y).bind fun i => (compE m c e).bind fun x => match op with
      | .Add => some (.aug i .add x)
      | .Sub => some (.aug i .sub x)
      | _ => none
      else none
    | .Return none _ => some .retN
    | .Return (some e) _ => (compE m c e).map .ret
    | .If t a b _ => (compE m c t).bind fun x => (mapO (compS m c n) a).bind fun y => (mapO (compS m c n) b).map fun z => .iff x y z
    | .For tg iter body [] p => match dlK c p iter with
      | some kx => (match compE m c kx.2 with
        | some (.var i) => (compG c tg).bind fun g => if ((kx.1 == 0 || g.1) && c.calm) = true then (mapO (compS m c n) body).map fun b => .dlp (c.cut p) kx.1 i g.1 g.2 b else none
        | _ => none)
      | none => (compI (compE m c) c iter).bind fun ks => (compG c tg).bind fun g => if ((!tupK ks.1 || g.1) && c.calm) = true then (mapO (compS m c n) body).map fun b => .loop (c.cut p) ks.1 ks.2 g.1 g.2 b else none
    | .While t body [] p => (compE m c t).bind fun x => (mapO (compS m c n) body).map fun b => .whl (c.cut p) x b
    | .Expr (.Call f es kws cpos) _ => (compE m c (.Call f es kws cpos)).map S.expr
    | .Pass _ => some .pass
    | .Break _ => some .brk
    | .Continue _ => some .cont
    | .Raise (some (.Call (.Name x _) [e] [] _)) none _ => if (c.calm && decide (x ∈ c.exs) && glC c.sc x && plainName x) = true then (if x = "Short" then (compE m c e).map S.rsS else match e with
        | .Constant (.str _) _ _ => some (.rs x)
        | _ => none) else some .no
    | .Raise _ _ _ => some .no
    | .Try body [.ExceptHandler (some (.Name y _)) none (b₀ :: suite) _] [] [] _ => if (decide (y ∈ c.ask) && decide (y ≠ "ValueError") && glC c.sc y && plainName y) = true then
        (mapO (compS m c n) body).bind fun b => (mapO (compS m { c with calm := false } n) (b₀ :: suite)).map fun s => .tr c.exs y none b s
      else none
    | .Try body [.ExceptHandler (some (.Name y _)) (some x) (b₀ :: suite) _] [] [] _ => if (decide (y ∈ c.ask) && decide (y ≠ "ValueError") && glC c.sc y && plainName y && (c.sc.names.lookup x == some .local)) = true then
        (ixOf c.N x).bind fun i => (mapO (compS m c n) body).bind fun b => (mapO (compS m { c with calm := false } n) (b₀ :: suite)).map fun s => .tr c.exs y (some i) b s
      else none
    | _ => none
end Gx

/-! G9: what is read off an expression is right. -/
namespace Gx
open PySem L2
/-! ### what is read off is right -/
/-- what is known of the own classes -/
structure ClsOk (P : Program) (w : World) (F : Fr) (mg : Str → Option Value) (base : Heap) (Γ : Mir) (cl : ClsI) (k : Nat) : Prop where
  ni : ∀ c j, cl.ni.lookup c = some j → ∃ C f fd ps k', k' + 1 ≤ k ∧ F.cls c = .ref C ∧ mg c = some (.ref C) ∧ Mk F.K C f ∧ Binds F.K fd ps [] ∧ FnOk P w F.K mg base (L2N.CX P w) k' f fd ps (spOf F (Γ j).1 (Γ j).2)
  mt : ∀ m js, cl.mt.lookup m = some js → ∀ c j, js.lookup c = some j → ∃ C f fd ps, F.cls c = .ref C ∧ Cls F.K C ∧ Meth F.K C m f ∧ Binds F.K fd ps [] ∧ FnOk P w F.K mg base (L2N.CX P w) k f fd ps (spOf F (Γ j).1 (Γ j).2)
structure Good (X : Cx) (F : Fr) (W : WX) (Γ : Mir) (c : Cfg) (k : Nat) : Prop where
  N : X.N = c.N
  nd : c.N.Nodup
  K : X.K = F.K
  calm : c.calm = true → X.calm = true
  vis : ∀ x, visC c.sc x = true → Vis X.env.scope x
  fr : ∀ x, c.sc.names.lookup x = some .cell ∨ c.sc.names.lookup x = some .free → X.env.scope.names.lookup x = some .cell ∨ X.env.scope.names.lookup x = some .free
  sto : ∀ x, stoC c.sc x = true → Loc X.env.scope x ∧ (X.fn x = true ∨ X.env.scope.names.lookup x = some .local)
  gl : ∀ x, glC c.sc x = true → Gl X x
  blt : ∀ x ∈ c.blt, X.mg x = none
  room : c.calm = true → Room k X.A
  u65 : X.A.units + 65 < cLine
  hot : c.calm = false → ∃ a, X.A.handled = some (.ref a) ∧ F.hot = some a
  fns : c.calm = true → ∀ x j, c.fid.lookup x = some j → ∃ f fd ps, X.mg x = some (.ref f) ∧ PySem.W.keepIn X.K (.ref f) = true ∧ Binds X.K fd ps [] ∧ FnOk X.prog X.w X.K X.mg X.base (L2N.CX X.prog X.w) k f fd ps (spOf F (Γ j).1 (Γ j).2)
  ins : ∀ n ∈ c.cl.cs, InsC F c.cl.fl n
  cls : c.calm = true → ClsOk X.prog X.w F X.mg X.base Γ c.cl k
  tk : Takes X W
  exc : ExcT F X.mg c.exs c.ask
  cst : ∀ x d, c.cst.lookup x = some d → ∃ u v, X.mg x = some u ∧ RelV v u ∧ ∀ G H, VR F G H d v
  kds : ∀ x t, c.kd.lookup x = some t → ∃ d, X.mg x = some (.ref d) ∧ KTab X.K X.w d t
section
variable {X : Cx} {F : Fr} {W : WX} {Γ : Mir} {c : Cfg} {k : Nat}
theorem lookup_relabel {env : Env} : ∀ {names : List (Str × NameKind)} {x : Str} {kd : NameKind}, names.lookup x = some kd →
    (names.map fun (n, k) => if (k == NameKind.free && env.scope.kind == .function && env.kindOf n == some .cell) = true then (n, NameKind.cell) else (n, k)).lookup x = some kd ∨ (kd = .free ∧ (names.map fun (n, k) => if (k == NameKind.free && env.scope.kind == .function && env.kindOf n == some .cell) = true then (n, NameKind.cell) else (n, k)).lookup x = some .cell)
  | [], _, _, h => by simp at h
  | (n, k') :: r, x, kd, h => by
    have ih := @lookup_relabel env r x kd
    rw [List.map_cons]
    cases hx : x == n with
    | true =>
      simp only [List.lookup_cons, hx] at h
      injection h with h
      subst h
      dsimp only
      split
      · rename_i hc
        have h1 : k' = .free := by
          rw [Bool.and_eq_true, Bool.and_eq_true] at hc
          cases k' <;> first | rfl | exact absurd hc.1.1 (by decide)
        exact .inr ⟨h1, by simp [List.lookup_cons, hx]⟩
      · exact .inl (by simp [List.lookup_cons, hx])
    | false =>
      simp only [List.lookup_cons, hx] at h
      dsimp only
      split
      · simp only [List.lookup_cons, hx]; exact ih h
      · simp only [List.lookup_cons, hx]; exact ih h
theorem Good.blk (g : Good X F W Γ c k) (scope : Scope) (s : Shared) (H : Hp) (C : Addr) (cl : List (Str × Addr)) (fp : List Addr) : Good (X.blk s H scope (compEnvC scope cl C X.env) fp) F W0 Γ { c with sc := scope } k where
  N := g.N
  nd := g.nd
  K := g.K
  calm := g.calm
  vis := fun x h => by
    unfold visC at h
    show Vis (relabel scope X.env) x
    have lk : ∀ kd, scope.names.lookup x = some kd → (relabel scope X.env).names.lookup x = some kd ∨ (kd = .free ∧ (relabel scope X.env).names.lookup x = some .cell) := fun kd e => lookup_relabel e
    split at h
    · rename_i e; exact (lk _ e).elim .inl fun z => nomatch z.1
    · rename_i e; exact (lk _ e).elim (fun z => .inr (.inl z)) fun z => nomatch z.1
    · rename_i e; exact (lk _ e).elim (fun z => .inr (.inr z)) fun z => .inr (.inl z.2)
    · cases h
  fr := fun x h => by
    have lk : ∀ kd, scope.names.lookup x = some kd → (relabel scope X.env).names.lookup x = some kd ∨ (kd = .free ∧ (relabel scope X.env).names.lookup x = some .cell) := fun kd e => lookup_relabel e
    show (relabel scope X.env).names.lookup x = _ ∨ (relabel scope X.env).names.lookup x = _
    rcases h with h | h
    · exact (lk _ h).elim .inl fun z => nomatch z.1
    · exact (lk _ h).elim .inr fun z => .inl z.2
  sto := fun x h => by
    unfold stoC at h
    have lk : ∀ kd, scope.names.lookup x = some kd → (relabel scope X.env).names.lookup x = some kd ∨ (kd = .free ∧ (relabel scope X.env).names.lookup x = some .cell) := fun kd e => lookup_relabel e
    show Loc (relabel scope X.env) x ∧ ((scope.names.lookup x == some NameKind.cell) = true ∨ (relabel scope X.env).names.lookup x = some .local)
    split at h
    · rename_i e
      have e' : (relabel scope X.env).names.lookup x = some .local := (lk _ e).elim id fun z => nomatch z.1
      exact ⟨.inl e', .inr e'⟩
    · rename_i e
      have e' : (relabel scope X.env).names.lookup x = some .cell := (lk _ e).elim id fun z => nomatch z.1
      exact ⟨.inr e', .inl (by rw [e]; rfl)⟩
    · cases h
  gl := fun x h => by
    unfold glC at h
    split at h
    · rename_i e
      show (relabel scope X.env).names.lookup x = some .globalImplicit
      exact (lookup_relabel (env := X.env) e).elim id fun z => nomatch z.1
    · cases h
  blt := g.blt
  room := g.room
  u65 := g.u65
  hot := g.hot
  fns := g.fns
  ins := g.ins
  cls := g.cls
  tk := takes0
  exc := g.exc
  cst := g.cst
  kds := g.kds
theorem ixOf_get {N : List Str} {x : Str} {i : Nat} (h : ixOf N x = some i) : N[i]? = some x := by
  unfold ixOf at h
  rw [List.findIdx?_eq_some_iff_getElem] at h
  obtain ⟨hi, h1, _⟩ := h
  rw [List.getElem?_eq_getElem hi]
  rw [eq_of_beq h1]
theorem plain_of {x : Str} (h : plainName x = true) : (x == ("__debug__" : Str)) = false ∧ (x == ("__classdict__" : Str)) = false ∧ x ≠ "__name__" := by
  unfold plainName at h
  simp only [Bool.and_eq_true, Bool.not_eq_true'] at h
  exact ⟨h.1.1, h.1.2, fun e => by rw [e] at h; simp at h⟩
/-- both an expression and a test -/
structure Snd (Γ : Mir) (k : Nat) (c : Cfg) (e : Expr) (ir : E) : Prop where
  se : ∀ X F W, Good X F W Γ c k → SE X F W e (ir.ev Γ)
  st : ∀ X F W, Good X F W Γ c k → ST X F W e (ir.ev Γ)
theorem snd_plain {e : Expr} {ir : E} (he : ∀ env whole, isTrue e env whole = (do let v ← whole; standAt e.pos; holding [v] (truthy v))) (h : ∀ X F W, Good X F W Γ c k → SE X F W e (ir.ev Γ)) : Snd Γ k c e ir :=
  ⟨h, fun X F W g => st_val (fun wh => he X.env wh) (h X F W g)⟩
def notStar : Expr → Bool
  | .Starred _ _ => false
  | _ => true
theorem star_each {e : Expr} {es : List Expr} {env : Env} (h : notStar e = true) : starEach (e :: es) env = (false, eval e env) :: starEach es env := by
  cases e <;> first | rfl | cases h
theorem plain_args {pos : Pos} {env : Env} : ∀ {es : List Expr}, (∀ e ∈ es, notStar e = true) → (backTo pos (starEach es env)).any (·.1) = false
  | [], _ => rfl
  | e :: es, h => by
    rw [star_each (h e List.mem_cons_self)]
    show (false || (backTo pos (starEach es env)).any (·.1)) = false
    rw [plain_args fun e he => h e (List.mem_cons_of_mem _ he)]
    rfl
theorem compE_star {n : Nat} {e : Expr} {ir : E} (h : compE n c e = some ir) : notStar e = true := by
  cases n with
  | zero => cases h
  | succ n => cases e <;> first | rfl | (simp only [compE] at h; cases h)
theorem hu_room (g : Good X F W Γ c k) : X.A.units + 64 < cLine := by have := g.u65; omega
theorem snd_bin {op : Operator} {o : Op} {a b : Expr} {x y : E} {pos : Pos} (ho : binOp op = some o) (ha : Snd Γ k c a x) (hb : Snd Γ k c b y) : Snd Γ k c (.BinOp a op b pos) (.op o x y) := by
  refine snd_plain (fun _ _ => rfl) fun X F W g => ?_
  have h1 := ha.se X F W g
  have h2 := hb.se X F W g
  cases op <;> (first | (cases ho; done) | skip) <;> (injection ho with ho; subst ho)
  · exact se_bin (fun ta tb p q => pe_op (op_add.or (op_add_str.or (op_catA.or op_catL))) p q) (by rw [g.K]; exact ok_add) h1 h2
  · exact se_bin (fun ta tb p q => pe_op op_sub p q) ok_sub h1 h2
  · exact se_bin (fun ta tb p q => pe_op (op_mulW.or (op_repL.or op_repT)) p q) (by rw [g.K]; exact ok_mul) h1 h2
  · exact se_bin (fun ta tb p q => pe_op op_mod p q) ok_mod h1 h2
  · exact se_bin (fun ta tb p q => pe_op op_pow p q) ok_pow h1 h2
  · exact se_bin (fun ta tb p q => pe_op op_xor p q) ok_xor h1 h2
  · exact se_bin (fun ta tb p q => pe_op op_fdivW p q) ok_fdiv h1 h2
theorem cmp_rule {op : CmpOp} {o : Op} (hK : X.K = F.K) (hu : X.A.units + 65 < cLine) (ho : cmpOp op = some o) : ∃ r, OpR X (compareOp op) r ∧ CallOk F (B2 r) (DL (g2 o.g)) := by
  cases op <;> (injection ho with ho; subst ho)
  · exact ⟨_, (op_eqD (by omega)).or (op_eq_dicP (by omega)), by rw [hK]; exact ok_eq⟩
  · exact ⟨_, (op_neD (by omega)).or (op_ne_dicP (by omega)), by rw [hK]; exact ok_ne⟩
  · exact ⟨_, op_lt.or (op_ltT (by omega)), by rw [hK]; exact ok_lt⟩
  · exact ⟨_, op_le, ok_le⟩
  · exact ⟨_, op_gt, ok_gt⟩
  · exact ⟨_, op_ge, ok_ge⟩
  · exact ⟨_, op_isBl.or op_isN, ok_is⟩
  · exact ⟨_, op_notBl.or op_notN, ok_isNot⟩
  · exact ⟨_, (op_inQ hu).or (op_dIn (by omega)), by rw [hK]; exact ok_in⟩
  · exact ⟨_, (op_notInQ hu).or (op_dNotIn (by omega)), by rw [hK]; exact ok_notIn⟩
theorem notSet_mark {op : CmpOp} {n : Nat} {b : Expr} {y : E} (h : compE n c b = some y) : behindInMarks op b = false := by
  cases n with
  | zero => cases h
  | succ n => cases b <;> first | rfl | (simp only [compE] at h; cases h)
theorem snd_cmp {op : CmpOp} {o : Op} {a b : Expr} {x y : E} {pos : Pos} (ho : cmpOp op = some o) (hm : behindInMarks op b = false) (ha : Snd Γ k c a x) (hb : Snd Γ k c b y) : Snd Γ k c (.Compare a [op] [b] pos) (.op o x y) := by
  refine ⟨fun X F W g => ?_, fun X F W g => ?_⟩
  · obtain ⟨r, h1, h2⟩ := cmp_rule (X := X) (F := F) g.K g.u65 ho
    exact se_bin (fun ta tb p q => pe_cmpR h1 p q hm) h2 (ha.se X F W g) (hb.se X F W g)
  · obtain ⟨r, h1, h2⟩ := cmp_rule (X := X) (F := F) g.K g.u65 ho
    exact st_bin (fun ta tb p q => pt_cmpR h1 p q hm) h2 (ha.se X F W g) (hb.se X F W g)
theorem kdK_name {b : Expr} {t : List (Str × Int)} (h : kdK c b = some t) : ∃ y py, b = .Name y py ∧ glC c.sc y = true ∧ plainName y = true ∧ c.kd.lookup y = some t := by
  cases b with
  | Name y py =>
    simp only [kdK] at h
    split at h
    · rename_i hh
      rw [Bool.and_eq_true] at hh
      exact ⟨y, py, rfl, hh.1, hh.2, h⟩
    · cases h
  | _ => simp only [kdK] at h; cases h
theorem snd_kin {op : CmpOp} {neg : Bool} {t : List (Str × Int)} {a b : Expr} {x : E} {pos : Pos} (hk : kdK c b = some t) (ho : kinOp op = some neg) (ha : Snd Γ k c a x) : Snd Γ k c (.Compare a [op] [b] pos) (.kin neg t x) := by
  obtain ⟨y, py, rfl, hg, hp, hl⟩ := kdK_name hk
  have hop : (op = .In ∧ neg = false) ∨ (op = .NotIn ∧ neg = true) := by
    cases op <;> first | (cases ho; done) | (injection ho with ho; subst ho) <;> first | exact .inl ⟨rfl, rfl⟩ | exact .inr ⟨rfl, rfl⟩
  have ev : E.ev Γ (.kin neg t x) = un1 (kinF neg t) (x.ev Γ) := by funext s h; simp only [E.ev]
  refine ⟨fun X F W g => ?_, fun X F W g => ?_⟩
  · obtain ⟨d, hm, T⟩ := g.kds y t hl
    rw [ev]
    exact (se_kin hop (g.gl y hg) hm (plain_of hp).1 T (ha.se X F W g)).1
  · obtain ⟨d, hm, T⟩ := g.kds y t hl
    rw [ev]
    exact (se_kin hop (g.gl y hg) hm (plain_of hp).1 T (ha.se X F W g)).2
theorem snd_kix {t : List (Str × Int)} {a b : Expr} {y : E} {pos : Pos} (hk : kdK c a = some t) (hs : PlainIx b) (hb : Snd Γ k c b y) : Snd Γ k c (.Subscript a b pos) (.kix t y) := by
  obtain ⟨x, px, rfl, hg, hp, hl⟩ := kdK_name hk
  have ev : E.ev Γ (.kix t y) = un1 (kixF t) (y.ev Γ) := by funext s h; simp only [E.ev]
  refine snd_plain (fun _ _ => rfl) fun X F W g => ?_
  obtain ⟨d, hm, T⟩ := g.kds x t hl
  rw [ev]
  exact se_kix (g.gl x hg) hm (plain_of hp).1 T hs (hb.se X F W g)
theorem chain_rule {op : CmpOp} {o : Op} {p : Int → Int → Bool} (ho : cmpOp op = some o) (hp : o.p = some p) : OpR X (compareOp op) (rI0 fun i j => .bl (p i j)) := by
  cases op <;> (injection ho with ho; subst ho) <;> first | (cases hp; done) | (injection hp with hp; subst hp)
  · exact op_lt
  · exact op_le
  · exact op_gt
  · exact op_ge
theorem snd_chain {op op' : CmpOp} {o o' : Op} {a b d : Expr} {x y z : E} {pos : Pos} (ho : cmpOp op = some o) (ho' : cmpOp op' = some o') (hp : (o.p.isSome && o'.p.isSome) = true) (hm : lastMarks [op, op'] [b, d] = false) (ha : Snd Γ k c a x) (hb : Snd Γ k c b y) (hd : Snd Γ k c d z) :
    Snd Γ k c (.Compare a [op, op'] [b, d] pos) (.ch o o' x y z) := by
  rw [Bool.and_eq_true] at hp
  obtain ⟨p, e1⟩ := Option.isSome_iff_exists.mp hp.1
  obtain ⟨p', e2⟩ := Option.isSome_iff_exists.mp hp.2
  have ev : E.ev Γ (.ch o o' x y z) = fun s h => chR p p' (x.ev Γ s h) (y.ev Γ s) (z.ev Γ s) := by
    funext s h
    simp only [E.ev, e1, e2]
  refine ⟨fun X F W g => ?_, fun X F W g => ?_⟩
  · rw [ev]
    exact se_chain (chain_rule ho e1) (chain_rule ho' e2) hm (ha.se X F W g) (hb.se X F W g) (hd.se X F W g)
  · rw [ev]
    exact st_chain (chain_rule ho e1) (chain_rule ho' e2) hm (ha.se X F W g) (hb.se X F W g) (hd.se X F W g)
/-! lists of expressions -/
theorem mapO_cons {α β : Type} {f : α → Option β} {a : α} {r : List α} {l : List β} (h : mapO f (a :: r) = some l) : ∃ b l', f a = some b ∧ mapO f r = some l' ∧ l = b :: l' := by
  unfold mapO at h
  cases q : f a with
  | none => rw [q] at h; cases h
  | some b =>
    rw [q] at h
    have h' : (mapO f r).map (b :: ·) = some l := h
    cases q2 : mapO f r with
    | none => rw [q2] at h'; cases h'
    | some l' =>
      rw [q2] at h'
      injection h' with h'
      exact ⟨b, l', rfl, rfl, h'.symm⟩
theorem sa_map {n : Nat} (ih : ∀ e ir, compE n c e = some ir → Snd Γ k c e ir) : ∀ {es : List Expr} {irs : List E}, mapO (compE n c) es = some irs → (∀ X F W, Good X F W Γ c k → SA X F W es (E.evs Γ irs)) ∧ (∀ e ∈ es, notStar e = true) ∧ irs.length = es.length
  | [], irs, h => by
    injection h with h
    subst h
    exact ⟨fun X F W g => by show SA X F W [] (fun s h => E.evs Γ [] s h); simp only [E.evs]; exact sa_nil, fun _ h => (nomatch h), rfl⟩
  | e :: es, irs, h => by
    obtain ⟨x, l, h1, h2, rfl⟩ := mapO_cons h
    obtain ⟨a1, a2, a3⟩ := sa_map ih h2
    refine ⟨fun X F W g => ?_, fun e' he => ?_, by simp [a3]⟩
    · show SA X F W (e :: es) (fun s h => E.evs Γ (x :: l) s h)
      simp only [E.evs]
      exact sa_cons (star_each (compE_star h1)) ((ih e x h1).se X F W g) (a1 X F W g)
    · rcases List.mem_cons.mp he with rfl | he
      · exact compE_star h1
      · exact a2 e' he
theorem evF_map {irs : List E} : evF (irs.map fun x => E.ev Γ x) = fun s h => E.evs Γ irs s h := by
  funext s h
  induction irs generalizing h with
  | nil => simp only [List.map_nil, evF, E.evs]
  | cons x r ih =>
    simp only [List.map_cons, evF, E.evs]
    congr 1
    funext d h1
    rw [ih]
theorem ses_map {n : Nat} (ih : ∀ e ir, compE n c e = some ir → Snd Γ k c e ir) {X : Cx} {F : Fr} {W : WX} (g : Good X F W Γ c k) : ∀ {es : List Expr} {irs : List E}, mapO (compE n c) es = some irs → SEs X F W es (irs.map fun x => E.ev Γ x)
  | [], irs, h => by
    injection h with h
    subst h
    exact .nil
  | e :: es, irs, h => by
    obtain ⟨x, l, h1, h2, rfl⟩ := mapO_cons h
    exact .cons ((ih e x h1).se X F W g) (ses_map ih g h2)
theorem mapO_some {α β : Type} {f : α → Option β} : ∀ {l : List α} {m : List β}, mapO f l = some m → l.map f = m.map some
  | [], m, h => by
    injection h with h
    subst h
    rfl
  | a :: r, m, h => by
    obtain ⟨x, l, h1, h2, rfl⟩ := mapO_cons h
    rw [List.map_cons, List.map_cons, h1, mapO_some h2]
theorem snd_and {n : Nat} {pos : Pos} (ih : ∀ e ir, compE n c e = some ir → Snd Γ k c e ir) : ∀ {es : List Expr} {irs : List E} {ir : E}, mapO (compE n c) es = some irs → foldB E.and irs = some ir →
    ∀ X F W, Good X F W Γ c k → SE X F W (.BoolOp .And es pos) (ir.ev Γ) ∧ SW X F W (.BoolOp .And es pos) (ir.ev Γ)
  | [], irs, ir, h, h2 => by
    injection h with h
    subst h
    cases h2
  | [e], irs, ir, h, h2 => by
    obtain ⟨x, l, h1, h3, rfl⟩ := mapO_cons h
    injection h3 with h3
    subst h3
    injection h2 with h2
    subst h2
    exact fun X F W g => ⟨se_one ((ih e x h1).se X F W g), sw_and1 ((ih e x h1).st X F W g)⟩
  | e :: e2 :: es, irs, ir, h, h2 => by
    obtain ⟨x, l, h1, h3, rfl⟩ := mapO_cons h
    obtain ⟨x2, l2, h4, h5, rfl⟩ := mapO_cons h3
    have h2' : (foldB E.and (x2 :: l2)).map (E.and x) = some ir := h2
    cases q : foldB E.and (x2 :: l2) with
    | none => rw [q] at h2'; cases h2'
    | some y =>
      rw [q] at h2'
      injection h2' with h2'
      subst h2'
      intro X F W g
      obtain ⟨r1, r2⟩ := snd_and ih h3 q X F W g
      have ev : E.ev Γ (.and x y) = fun s h => andR (x.ev Γ s h) (y.ev Γ s) := by funext s h; simp only [E.ev]
      rw [ev]
      exact ⟨se_and ((ih e x h1).se X F W g) r1, sw_and ((ih e x h1).st X F W g) r2⟩
theorem snd_or {n : Nat} {pos : Pos} (ih : ∀ e ir, compE n c e = some ir → Snd Γ k c e ir) : ∀ {es : List Expr} {irs : List E} {ir : E}, mapO (compE n c) es = some irs → foldB E.or irs = some ir →
    ∀ X F W, Good X F W Γ c k → SE X F W (.BoolOp .Or es pos) (ir.ev Γ) ∧ SW X F W (.BoolOp .Or es pos) (ir.ev Γ)
  | [], irs, ir, h, h2 => by
    injection h with h
    subst h
    cases h2
  | [e], irs, ir, h, h2 => by
    obtain ⟨x, l, h1, h3, rfl⟩ := mapO_cons h
    injection h3 with h3
    subst h3
    injection h2 with h2
    subst h2
    exact fun X F W g => ⟨se_one ((ih e x h1).se X F W g), sw_or1 ((ih e x h1).st X F W g)⟩
  | e :: e2 :: es, irs, ir, h, h2 => by
    obtain ⟨x, l, h1, h3, rfl⟩ := mapO_cons h
    obtain ⟨x2, l2, h4, h5, rfl⟩ := mapO_cons h3
    have h2' : (foldB E.or (x2 :: l2)).map (E.or x) = some ir := h2
    cases q : foldB E.or (x2 :: l2) with
    | none => rw [q] at h2'; cases h2'
    | some y =>
      rw [q] at h2'
      injection h2' with h2'
      subst h2'
      intro X F W g
      obtain ⟨r1, r2⟩ := snd_or ih h3 q X F W g
      have ev : E.ev Γ (.or x y) = fun s h => orR (x.ev Γ s h) (y.ev Γ s) := by funext s h; simp only [E.ev]
      rw [ev]
      exact ⟨se_or ((ih e x h1).se X F W g) r1, sw_or ((ih e x h1).st X F W g) r2⟩
/-! built-ins -/
theorem bi_ok (hcal : c.calm = true) {m : Bool} {x : Str} {b : Str × Bi} {e : Expr} {es : List Expr} {fs : SD → Hs → R (List D)} {p pos : Pos} (hb : biOf m x = some b) (g : Good X F W Γ c k) (hg : Gl X x) (hm : X.mg x = none) (hst : ∀ e' ∈ e :: es, notStar e' = true) (h : SA X F W (e :: es) fs) :
    SE X F W (.Call (.Name x p) (e :: es) [] pos) (fun s h => (fs s h).bind b.2.g) := by
  have he : starEach (e :: es) X.env = (false, eval e X.env) :: starEach es X.env := star_each (hst e List.mem_cons_self)
  have hp : (backTo pos (starEach es X.env)).any (·.1) = false := plain_args fun e' h' => hst e' (List.mem_cons_of_mem _ h')
  have hK := g.K
  unfold biOf at hb
  split at hb
  · rename_i ex; injection hb with hb; subst hb ex
    exact se_call (fun ta h => pe_callTy (call_int1.or call_int_str) hg hm (by decide +kernel) h (by decide +kernel) (by decide +kernel) he hp) ok_int nrsL h
  split at hb
  · rename_i ex; injection hb with hb; subst hb ex
    exact se_call (fun ta h => pe_callTy call_str_int hg hm (by decide +kernel) h (by decide +kernel) (by decide +kernel) he hp) ok_str nrsL h
  unfold biOf0 at hb
  split at hb
  · rename_i ex; injection hb with hb; subst hb ex
    exact se_call (fun ta h => pe_callB call_lenA hg hm (by decide +kernel) h (by decide +kernel) (by decide +kernel) he hp) (by rw [hK]; exact ok_len) nrsL h
  split at hb
  · rename_i ex; injection hb with hb; subst hb ex
    exact se_call (fun ta h => pe_callB (cr_sumA (g.calm hcal)) hg hm (by decide +kernel) h (by decide +kernel) (by decide +kernel) he hp) (by rw [hK]; exact ok_sum) nrsL h
  split at hb
  · rename_i ex; injection hb with hb; subst hb ex
    exact se_call (fun ta h => pe_callB (cr_all (g.calm hcal)) hg hm (by decide +kernel) h (by decide +kernel) (by decide +kernel) he hp) (by rw [hK]; exact ok_all) nrsL h
  split at hb
  · rename_i ex; injection hb with hb; subst hb ex
    exact se_call (fun ta h => pe_callB (cr_any (g.calm hcal)) hg hm (by decide +kernel) h (by decide +kernel) (by decide +kernel) he hp) (by rw [hK]; exact ok_any) nrsL h
  split at hb
  · rename_i ex; injection hb with hb; subst hb ex
    exact se_call (fun ta h => pe_callTy call_tuple_of hg hm (by decide +kernel) h (by decide +kernel) (by decide +kernel) he hp) (by rw [hK]; exact ok_tupleF) nrsL h
  split at hb
  · rename_i ex; injection hb with hb; subst hb ex
    exact se_call (fun ta h => pe_callTy call_list_of hg hm (by decide +kernel) h (by decide +kernel) (by decide +kernel) he hp) (by rw [hK]; exact ok_listF m) listF_nrs h
  split at hb
  · rename_i ex; injection hb with hb; subst hb ex
    exact se_call (fun ta h => pe_callB call_abs hg hm (by decide +kernel) h (by decide +kernel) (by decide +kernel) he hp) ok_abs nrsL h
  split at hb
  · rename_i ex; injection hb with hb; subst hb ex
    exact se_call (fun ta h => pe_callB (cr_maxA (g.calm hcal)) hg hm (by decide +kernel) h (by decide +kernel) (by decide +kernel) he hp) (by rw [hK]; exact ok_max) nrsL h
  split at hb
  · rename_i ex; injection hb with hb; subst hb ex
    exact se_call (fun ta h => pe_callB (cr_minA (g.calm hcal)) hg hm (by decide +kernel) h (by decide +kernel) (by decide +kernel) he hp) (by rw [hK]; exact ok_min) nrsL h
  split at hb
  · rename_i ex; injection hb with hb; subst hb ex
    exact se_call (fun ta h => pe_callB (cr_sortA (g.calm hcal) (by have := g.u65; omega)) hg hm (by decide +kernel) h (by decide +kernel) (by decide +kernel) he hp) (by rw [hK]; exact ok_sort m) sort_nrs h
  · cases hb
theorem any_ok (hcal : c.calm = false) {e : Expr} {es : List Expr} {fs : SD → Hs → R (List D)} {p pos : Pos} (g : Good X F W Γ c k) (hg : Gl X "any") (hm : X.mg "any" = none) (hst : ∀ e' ∈ e :: es, notStar e' = true) (h : SA X F W (e :: es) fs) :
    SE X F W (.Call (.Name "any" p) (e :: es) [] pos) (fun s h => (fs s h).bind (DL gAny)) := by
  have he : starEach (e :: es) X.env = (false, eval e X.env) :: starEach es X.env := star_each (hst e List.mem_cons_self)
  have hp : (backTo pos (starEach es X.env)).any (·.1) = false := plain_args fun e' h' => hst e' (List.mem_cons_of_mem _ h')
  obtain ⟨a, h1, h2⟩ := g.hot hcal
  have hK := g.K
  exact se_call (fun ta h => pe_callB (cr_anyH h1) hg hm (by decide +kernel) h (by decide +kernel) (by decide +kernel) he hp) (by rw [hK]; exact ok_anyH h2) nrsL h
theorem tyName_boot {x : Str} {T : String} (h : tyName x = some T) : bootBuiltins x = some (.type T) := by
  unfold tyName at h
  split at h
  · rename_i e; injection h with h; subst h e; decide +kernel
  split at h
  · rename_i e; injection h with h; subst h e; decide +kernel
  split at h
  · rename_i e; injection h with h; subst h e; decide +kernel
  split at h
  · rename_i e; injection h with h; subst h e; decide +kernel
  split at h
  · rename_i e; injection h with h; subst h e; decide +kernel
  split at h
  · rename_i e; injection h with h; subst h e; decide +kernel
  · cases h
/-! calls of defs -/
theorem se_callU (hcal : c.calm = true) {x : Str} {j : Nat} {e : Expr} {es : List Expr} {fs : SD → Hs → R (List D)} {p pos : Pos} (g : Good X F W Γ c k) (hg : Gl X x) (hj : c.fid.lookup x = some j) (hd : (x == ("__debug__" : Str)) = false) (hst : ∀ e' ∈ e :: es, notStar e' = true) (h : SA X F W (e :: es) fs) :
    SE X F W (.Call (.Name x p) (e :: es) [] pos) (fun s h => (fs s h).bind (callR Γ j)) := by
  obtain ⟨f, fd, ps, hm, hk, hb, hF⟩ := g.fns hcal x j hj
  have he : starEach (e :: es) X.env = (false, eval e X.env) :: starEach es X.env := star_each (hst e List.mem_cons_self)
  have hp : (backTo pos (starEach es X.env)).any (·.1) = false := plain_args fun e' h' => hst e' (List.mem_cons_of_mem _ h')
  refine PE.imp (pe_callS hF (g.room hcal) hg hm hk hb (fun σ => L2N.passAt g.tk σ) h hd he hp) fun σ H Q ⟨G, h, s, t, o⟩ => ?_
  refine part t o fun ds vs h1 G1 H1 T1 t1 x o => ?_
  unfold callR at o
  split at o
  · rename_i hl
    refine ⟨G1, h1, ds, hl, t1.hr, x, ?_⟩
    cases q : (Γ j).2 ds h1 with
    | stk => rw [q] at o; exact o.elim
    | rs cc pp h2 => rw [q] at o; exact o
    | ok d h2 => rw [q] at o; exact o
  · exact o.elim
/-! methods and classes -/
theorem se_mcl (hcal : c.calm = true) {m : Str} {ms : List (Str × Nat)} {o e : Expr} {es : List Expr} {fo : SD → Hs → R D} {fs : SD → Hs → R (List D)} {apos pos : Pos} {pl : Sem Bool} (g : Good X F W Γ c k) (hm : c.cl.mt.lookup m = some ms) (hst : ∀ e' ∈ e :: es, notStar e' = true) (ho : SE X F W o fo) (h : SA X F W (e :: es) fs)
    (ht : eval (.Call (.Attribute o m apos) (e :: es) [] pos) X.env = (do
      let ov ← eval o X.env
      standAt apos.atName
      let (f, first) ← holding [ov] (getMethod ov m pl)
      callWith pos f first (backTo pos (starEach (e :: es) X.env)) (backToKw pos (keywordEach [] X.env)))) :
    SE X F W (.Call (.Attribute o m apos) (e :: es) [] pos) (mclR ms m (callR Γ) fo fs) := by
  have he : starEach (e :: es) X.env = (false, eval e X.env) :: starEach es X.env := star_each (hst e List.mem_cons_self)
  have hp : (backTo pos (starEach es X.env)).any (·.1) = false := plain_args fun e' h' => hst e' (List.mem_cons_of_mem _ h')
  refine PE.imp (pe_methS (Ms := fun C sp => ∃ n j, ms.lookup n = some j ∧ F.cls n = .ref C ∧ sp = spOf F (Γ j).1 (Γ j).2) ho (fun C sp ⟨n, j, e1, e2, e3⟩ => ?_) (g.room hcal) (fun σ => L2N.passAt g.tk σ) h he hp ht) fun σ H Q ⟨G, h, s, t, o⟩ => ?_
  · obtain ⟨C', f, fd, ps, q1, q2, q3, q4, q5⟩ := (g.cls hcal).mt m ms hm n j e1
    rw [e2] at q1
    injection q1 with q1
    subst q1
    subst e3
    exact ⟨f, fd, ps, by rw [g.K]; exact q2, by rw [g.K]; exact q3, by rw [g.K]; exact q5, by rw [g.K]; exact q4⟩
  · refine part t o fun d x h1 G1 H1 T1 t1 vx o1 => ?_
    split at o1
    · rename_i n
      split at o1
      · rename_i c' gs l e1
        split at o1
        · rename_i j e2
          split at o1
          · exact o1.elim
          · rename_i hn
            obtain ⟨p, C, dx, vs, rfl, hp, e3, e4, hl, hv⟩ := ins_at t1.hr vx e1
            refine ⟨p, C, dx, _, _, rfl, e3, ⟨c', j, e2, e4, rfl⟩, zip_no hn, ?_⟩
            refine part t1 o1 fun ds ws h2 G2 H2 T2 t2 vxs o2 => ?_
            unfold callR at o2
            split at o2
            · rename_i hlen
              refine ⟨G2, h2, .ref n :: ds, hlen, t2.hr, vrl_cons.mpr ⟨_, _, rfl, VR.step T2 t1.hr.aB _ vx, vxs⟩, ?_⟩
              cases q : (Γ j).2 (.ref n :: ds) h2 with
              | stk => rw [q] at o2; exact o2.elim
              | rs cc pp h3 => rw [q] at o2; exact o2
              | ok d h3 => rw [q] at o2; exact o2
            · exact o2.elim
        · exact o1.elim
      · exact o1.elim
    · exact o1.elim
theorem se_mcl0 (hcal : c.calm = true) {m : Str} {ms : List (Str × Nat)} {o : Expr} {fo : SD → Hs → R D} {apos pos : Pos} {pl : Sem Bool} (g : Good X F W Γ c k) (hm : c.cl.mt.lookup m = some ms) (ho : SE X F W o fo)
    (ht : eval (.Call (.Attribute o m apos) [] [] pos) X.env = (do
      let ov ← eval o X.env
      standAt apos.atName
      let (f, first) ← holding [ov] (getMethod ov m pl)
      callWith pos f first (backTo pos (starEach [] X.env)) (backToKw pos (keywordEach [] X.env)))) :
    SE X F W (.Call (.Attribute o m apos) [] [] pos) (mclR ms m (callR Γ) fo (fun _ h => .ok [] h)) := by
  refine PE.imp (pe_methS0 (Ms := fun C sp => ∃ n j, ms.lookup n = some j ∧ F.cls n = .ref C ∧ sp = spOf F (Γ j).1 (Γ j).2) ho (fun C sp ⟨n, j, e1, e2, e3⟩ => ?_) (g.room hcal) (fun σ => L2N.passAt g.tk σ) ht) fun σ H Q ⟨G, h, s, t, o⟩ => ?_
  · obtain ⟨C', f, fd, ps, q1, q2, q3, q4, q5⟩ := (g.cls hcal).mt m ms hm n j e1
    rw [e2] at q1
    injection q1 with q1
    subst q1
    subst e3
    exact ⟨f, fd, ps, by rw [g.K]; exact q2, by rw [g.K]; exact q3, by rw [g.K]; exact q5, by rw [g.K]; exact q4⟩
  · refine part t o fun d x h1 G1 H1 T1 t1 vx o1 => ?_
    split at o1
    · rename_i n
      split at o1
      · rename_i c' gs l e1
        split at o1
        · rename_i j e2
          split at o1
          · exact o1.elim
          · rename_i hn
            obtain ⟨p, C, dx, vs, rfl, hp, e3, e4, hl, hv⟩ := ins_at t1.hr vx e1
            refine ⟨p, C, dx, _, _, rfl, e3, ⟨c', j, e2, e4, rfl⟩, zip_no hn, ?_⟩
            have o2 : Out F W G1 σ H1 (VR F) Q (callR Γ j [.ref n] h1) := o1
            unfold callR at o2
            split at o2
            · rename_i hlen
              show spOf F _ _ _ _ _ _
              refine ⟨G1, h1, [.ref n], hlen, t1.hr, vrl_one.mpr vx, ?_⟩
              cases q : (Γ j).2 [.ref n] h1 with
              | stk => rw [q] at o2; exact o2.elim
              | rs cc pp h3 => rw [q] at o2; exact o2
              | ok d h3 => rw [q] at o2; exact o2
            · exact o2.elim
        · exact o1.elim
      · exact o1.elim
    · exact o1.elim
theorem new_go {cn : Str} {C : Addr} {j : Nat} {G : Gh} {H : Hp} {σ : L2.St} {s : SD} {h : Hs} {ds : List D} {vs : List V} {Q : VK} (hC : F.cls cn = .ref C) (t : St F G h s σ H) (vx : VRL F G H ds vs) (o : Out F W G σ H (VR F) Q (newI cn (callR Γ j) ds h)) (x dx : Addr) (hx : H x = none) (hd : H dx = none) (ne : dx ≠ x) :
    spOf F (Γ j).1 (Γ j).2 (.ref x :: vs) (upd (upd H dx (.own x)) x (.ins C dx [])) (fun v H2 => v = .non ∧ Q (.ref x) H2) (WE W σ) := by
  obtain ⟨T2, r2⟩ := new_ins (c := cn) t.hr hC hx hd ne
  have e0 : (G.add h.length x).α h.length = some x := by show (if h.length = h.length then some x else G.α h.length) = some x; rw [if_pos rfl]
  unfold newI callR at o
  by_cases hlen : (D.ref h.length :: ds).length = (Γ j).1
  · rw [if_pos hlen] at o
    refine ⟨_, _, .ref h.length :: ds, hlen, r2, vrl_cons.mpr ⟨_, _, rfl, vr_ref.mpr ⟨x, rfl, e0⟩, VRL.step T2 t.hr.aB _ vx⟩, ?_⟩
    cases q : (Γ j).2 (.ref h.length :: ds) (h ++ [.ins cn [] []]) with
    | stk => rw [q] at o; exact o.elim
    | rs cc pp h3 => rw [q] at o; exact fun G' H' dct T' r' pp' => o G' H' dct (T2.trans T') r' pp'
    | ok d h3 =>
      rw [q] at o
      cases d with
      | non => exact fun v G' H' T' r' vv => ⟨vr_non.mp vv, o _ G' H' (T2.trans T') r' (vr_ref.mpr ⟨x, rfl, T'.ids _ _ e0⟩)⟩
      | _ => exact o.elim
  · rw [if_neg hlen] at o
    exact o.elim
theorem se_new (hcal : c.calm = true) {x : Str} {j : Nat} {e : Expr} {es : List Expr} {fs : SD → Hs → R (List D)} {p pos : Pos} (g : Good X F W Γ c k) (hg : Gl X x) (hj : c.cl.ni.lookup x = some j) (hd : (x == ("__debug__" : Str)) = false) (hst : ∀ e' ∈ e :: es, notStar e' = true) (h : SA X F W (e :: es) fs) :
    SE X F W (.Call (.Name x p) (e :: es) [] pos) (fun s h => (fs s h).bind (newI x (callR Γ j))) := by
  obtain ⟨C, f, fd, ps, k', hk', hC, hm, M, hb, hF⟩ := (g.cls hcal).ni x j hj
  have he : starEach (e :: es) X.env = (false, eval e X.env) :: starEach es X.env := star_each (hst e List.mem_cons_self)
  have hp : (backTo pos (starEach es X.env)).any (·.1) = false := plain_args fun e' h' => hst e' (List.mem_cons_of_mem _ h')
  refine PE.imp (pe_makeS (by rw [g.K]; exact M) (by rw [g.K]; exact hF) ((g.room hcal).mono hk') hg hm (by rw [g.K]; exact hb) (fun σ => L2N.passAt g.tk σ) h hd he hp) fun σ H Q ⟨G, h, s, t, o⟩ => ?_
  exact part t o fun ds vs h1 G1 H1 T1 t1 vx o => fun x dx hx hd ne => new_go hC t1 vx o x dx hx hd ne
theorem se_new0 (hcal : c.calm = true) {x : Str} {j : Nat} {p pos : Pos} (g : Good X F W Γ c k) (hg : Gl X x) (hj : c.cl.ni.lookup x = some j) (hd : (x == ("__debug__" : Str)) = false) :
    SE X F W (.Call (.Name x p) [] [] pos) (fun s h => newI x (callR Γ j) [] h) := by
  obtain ⟨C, f, fd, ps, k', hk', hC, hm, M, hb, hF⟩ := (g.cls hcal).ni x j hj
  refine PE.imp (pe_makeS0 (by rw [g.K]; exact M) (by rw [g.K]; exact hF) ((g.room hcal).mono hk') hg hm (by rw [g.K]; exact hb) (fun σ => L2N.passAt g.tk σ) hd) fun σ H Q ⟨G, h, s, t, o⟩ => ?_
  exact fun x dx hx hd ne => new_go hC t (vrl_nil.mpr rfl) o x dx hx hd ne
/-! targets -/
theorem nameTup {pos : Pos} (g : Good X F W Γ c k) : ∀ {es : List Expr} {is : List Nat}, mapO (nameIx c) es = some is → ∃ gs, PGs X es gs ∧ TgsOk F is gs ∧ (assignEach es X.env).findIdx? (·.1) = none ∧ (assignEach es X.env).length = is.length ∧ gs = is.foldr (fun i r => gCons (gName i) r) gNil
  | [], is, h => by
    injection h with h
    subst h
    exact ⟨gNil, pgs_nil, tgs_nil, rfl, rfl, rfl⟩
  | e :: es, is, h => by
    obtain ⟨i, l, h1, h2, rfl⟩ := mapO_cons h
    obtain ⟨gs, a1, a2, a3, a4, a5⟩ := nameTup (pos := pos) g h2
    cases e with
    | Name x p =>
      have h1 : (if stoC c.sc x = true then ixOf c.N x else none) = some i := h1
      split at h1
      · rename_i hs
        have hi := ixOf_get h1
        obtain ⟨k1, k2⟩ := g.sto x hs
        refine ⟨gCons (gName i) gs, pgs_cons (pg_name (by rw [g.N]; exact g.nd) (by rw [g.N]; exact hi) k1 k2) a1 rfl, tgs_cons a2, ?_, ?_, by rw [a5]; rfl⟩
        · show List.findIdx? (·.1) ((false, _) :: assignEach es X.env) = none
          rw [List.findIdx?_cons]
          simp [a3]
        · show ((false, _) :: assignEach es X.env).length = _
          simp [a4]
      · cases h1
    | _ => cases h1
def tgG (K : PySem.W.Frag) (tp : Bool) (is : List Nat) : TG := match tp with
  | true => L2.gTup K is.length (is.foldr (fun i r => gCons (gName i) r) gNil)
  | false => match is with
    | [i] => gName i
    | _ => fun _ _ _ _ => False
theorem comp_tg {tg : Expr} {gt : Bool × List Nat} (h : compG c tg = some gt) : (∀ X F W, Good X F W Γ c k → PG X tg (tgG F.K gt.1 gt.2)) ∧ ∀ F, TgOk F gt.2 (tgF gt.1 gt.2) (tgG F.K gt.1 gt.2) := by
  unfold compG at h
  split at h
  · rename_i x p
    have h : (if stoC c.sc x = true then ixOf c.N x else none).map (fun i => (false, [i])) = some gt := h
    split at h
    · rename_i hs
      cases q : ixOf c.N x with
      | none => rw [q] at h; cases h
      | some i =>
        rw [q] at h
        injection h with h
        subst h
        exact ⟨fun X F W g => pg_name (by rw [g.N]; exact g.nd) (by rw [g.N]; exact ixOf_get q) (g.sto x hs).1 (g.sto x hs).2, fun F => tg_name⟩
    · cases h
  · rename_i es kk p
    split at h
    rotate_left
    · cases h
    rename_i hcal
    cases q : mapO (nameIx c) es with
    | none => rw [q] at h; cases h
    | some is =>
      rw [q] at h
      injection h with h
      subst h
      refine ⟨fun X F W g => ?_, fun F => ?_⟩
      · obtain ⟨gs, a1, a2, a3, a4, a5⟩ := nameTup (pos := p) g q
        have := pg_tup (pos := p) (k := kk) (g.calm hcal) a1 a4 a3
        rw [g.K, a5] at this
        exact this
      · have hg : TgsOk F is (is.foldr (fun i r => gCons (gName i) r) gNil) := by
          clear q
          induction is with
          | nil => exact tgs_nil
          | cons i is ih => exact tgs_cons ih
        exact tg_tup hg
  · cases h
end
end Gx

/-! G10: what is read off any expression is right. -/
namespace Gx
open PySem L2
section
variable {X : Cx} {F : Fr} {W : WX} {G : Gh} {H H' H1 : Hp} {σ : L2.St} {s : SD}
/-- a if t else b, as a test -/
theorem st_ite {c a b : Expr} {fc fa fb : SD → Hs → R D} {pos : Pos} (hc : ST X F W c fc) (ha : ST X F W a fa) (hb : ST X F W b fb) : ST X F W (.IfExp c a b pos) (fun s h => iteR (fc s h) (fa s) (fb s)) := by
  refine ⟨fun pins s' σ H Q I ⟨G, h, s, t, o⟩ => ?_⟩
  refine PyProof.Rows.isTrue_IfExp (thn (hc.run pins s' σ H (fun b H1 => if b = true then lift F W relB (fun s h => toB (fa s h)) σ H1 Q else lift F W relB (fun s h => toB (fb s h)) σ H1 Q) I ?_) fun d s1 ⟨H1, I1, q1⟩ => ?_)
  · dsimp only at o
    have e : toB (iteR (fc s h) (fa s) (fb s)) = (toB (fc s h)).bind fun b h1 => toB (match b with | true => fa s h1 | false => fb s h1) := by
      rw [iteR_toB]
      cases toB (fc s h) with
      | ok b h => cases b <;> rfl
      | rs c p h => rfl
      | stk => rfl
    rw [e] at o
    refine part (f := fun s h => toB (fc s h)) t o fun b v h1 G1 H1 T1 t1 vx o => ?_
    obtain rfl : b = v := vx
    cases b with
    | true => exact iteT ⟨G1, h1, s, t1, o⟩
    | false => exact iteF ⟨G1, h1, s, t1, o⟩
  · cases d with
    | true =>
      have q1 : lift F W relB (fun s h => toB (fa s h)) σ H1 Q := q1
      exact ha.run pins s1 σ H1 Q I1 q1
    | false =>
      have q1 : lift F W relB (fun s h => toB (fb s h)) σ H1 Q := q1
      exact hb.run pins s1 σ H1 Q I1 q1
end
section
variable {Γ : Mir} {k : Nat}
theorem map_some {α β : Type} {f : α → β} {o : Option α} {b : β} (h : o.map f = some b) : ∃ a, o = some a ∧ b = f a := by
  cases o with
  | none => cases h
  | some a => injection h with h; exact ⟨a, rfl, h.symm⟩
theorem bind_some {α β : Type} {f : α → Option β} {o : Option α} {b : β} (h : o.bind f = some b) : ∃ a, o = some a ∧ f a = some b := by
  cases o with
  | none => cases h
  | some a => exact ⟨a, rfl, h⟩
theorem noSl_of {n : Nat} {c : Cfg} {b : Expr} {y : E} (h : compE n c b = some y) : PlainIx b := by
  cases n with
  | zero => cases h
  | succ n => cases b <;> first | exact fun _ _ => rfl | (simp only [compE] at h; cases h)
theorem noSet_of {n : Nat} {c : Cfg} {b : Expr} {y : E} (h : compE n c b = some y) {env : Env} : ∀ x, foldedSetIterable b env x = pure x := by
  cases n with
  | zero => cases h
  | succ n => cases b <;> first | exact fun _ => rfl | (simp only [compE] at h; cases h)
theorem lastMark_of {n : Nat} {c : Cfg} {b d : Expr} {op op' : CmpOp} {y : E} (h : compE n c d = some y) : lastMarks [op, op'] [b, d] = false := by
  have e := notSet_mark (op := op') h
  show lastMarks [op'] [d] = false
  show behindInMarks op' d = false
  exact e
theorem evs_one {x : E} {s : SD} {h : Hs} : ((E.evs Γ [x] s h).bind (itG 0)) = (x.ev Γ s h).bind srcOf := by
  simp only [E.evs]
  cases x.ev Γ s h <;> rfl
theorem ev1 {a : Expr} {n : Nat} {c : Cfg} {src : List E} (h1 : mapO (compE n c) [a] = some src) : ∃ x, compE n c a = some x ∧ src = [x] := by
  obtain ⟨x, l, e1, e2, rfl⟩ := mapO_cons h1
  injection e2 with e2
  subst e2
  exact ⟨x, e1, rfl⟩
theorem compI_ok {n : Nat} {c : Cfg} (ih : ∀ e ir, compE n c e = some ir → Snd Γ k c e ir) {iter : Expr} {ks : Nat × List E} (h : compI (compE n c) c iter = some ks) {X : Cx} {F : Fr} {W : WX} (g : Good X F W Γ c k) (tg : Expr) (htg : tupK ks.1 = true → ∃ es kk tp, tg = .Tuple es kk tp) :
    SI X F W tg iter (fun s h => (E.evs Γ ks.2 s h).bind (itG ks.1)) ∧ ∀ x, foldedSetIterable iter X.env x = pure x := by
  unfold compI at h
  obtain ⟨src, h1, rfl⟩ := map_some h
  have gen : ∀ {it : Expr}, mapO (compE n c) [it] = some src → SI X F W tg it (fun s h => (E.evs Γ src s h).bind (itG 0)) ∧ ∀ x, foldedSetIterable it X.env x = pure x := by
    intro it q1
    obtain ⟨x, q2, rfl⟩ := ev1 q1
    have := se_iter (tg := tg) g.K ((ih it x q2).se X F W g)
    refine ⟨?_, noSet_of q2⟩
    have ev : (fun s h => (E.evs Γ [x] s h).bind (itG 0)) = fun s h => (x.ev Γ s h).bind srcOf := by funext s h; exact evs_one
    rw [ev]
    exact this
  clear h
  revert h1 htg
  dsimp only
  unfold iterK
  split
  · rename_i x p a pos
    split
    · rename_i hx
      obtain ⟨rfl, hg, hb⟩ := hx
      intro h1 htg
      obtain ⟨a1, a2, a3⟩ := sa_map ih h1
      refine ⟨?_, fun _ => rfl⟩
      have ev : (fun s h => (E.evs Γ src s h).bind (itG 1)) = fun s h => (E.evs Γ src s h).bind rngO1 := by
        funext s h
        cases E.evs Γ src s h <;> rfl
      show SI X F W tg _ (fun s h => (E.evs Γ src s h).bind (itG 1))
      rw [ev]
      exact si_range1 (g.gl _ hg) (g.blt _ hb) (by rw [star_each (a2 a List.mem_cons_self)]; rfl) (a1 X F W g)
    · split
      · rename_i hx
        obtain ⟨rfl, hg, hb⟩ := hx
        intro h1 htg
        obtain ⟨a1, a2, a3⟩ := sa_map ih h1
        refine ⟨?_, fun _ => rfl⟩
        have ev : (fun s h => (E.evs Γ src s h).bind (itG 4)) = fun s h => (E.evs Γ src s h).bind enumO := by
          funext s h
          cases E.evs Γ src s h <;> rfl
        obtain ⟨es, kk, tp, rfl⟩ := htg rfl
        show SI X F W _ _ (fun s h => (E.evs Γ src s h).bind (itG 4))
        rw [ev]
        exact si_enum g.K (g.gl _ hg) (g.blt _ hb) (by rw [star_each (a2 a List.mem_cons_self)]; rfl) (a1 X F W g)
      · exact fun h1 _ => gen h1
  · rename_i x p a b pos
    split
    · rename_i hx
      obtain ⟨rfl, hg, hb⟩ := hx
      intro h1 htg
      obtain ⟨a1, a2, a3⟩ := sa_map ih h1
      refine ⟨?_, fun _ => rfl⟩
      have ev : (fun s h => (E.evs Γ src s h).bind (itG 2)) = fun s h => (E.evs Γ src s h).bind rngO2 := by
        funext s h
        cases E.evs Γ src s h <;> rfl
      show SI X F W tg _ (fun s h => (E.evs Γ src s h).bind (itG 2))
      rw [ev]
      have e2 : starEach [b] X.env = [(false, eval b X.env)] := by rw [star_each (a2 b (List.mem_cons_of_mem _ List.mem_cons_self))]; rfl
      exact si_range2 (g.gl _ hg) (g.blt _ hb) (by rw [star_each (a2 a List.mem_cons_self), e2]) e2 (a1 X F W g)
    · split
      · rename_i hx
        obtain ⟨rfl, hg, hb⟩ := hx
        intro h1 htg
        obtain ⟨a1, a2, a3⟩ := sa_map ih h1
        refine ⟨?_, fun _ => rfl⟩
        have ev : (fun s h => (E.evs Γ src s h).bind (itG 3)) = fun s h => (E.evs Γ src s h).bind zipO := by
          funext s h
          cases E.evs Γ src s h <;> rfl
        obtain ⟨es, kk, tp, rfl⟩ := htg rfl
        show SI X F W _ _ (fun s h => (E.evs Γ src s h).bind (itG 3))
        rw [ev]
        have e2 : starEach [b] X.env = [(false, eval b X.env)] := by rw [star_each (a2 b (List.mem_cons_of_mem _ List.mem_cons_self))]; rfl
        exact si_zip g.K (g.gl _ hg) (g.blt _ hb) (star_each (a2 a List.mem_cons_self)) (plain_args fun e' h' => a2 e' (List.mem_cons_of_mem _ h')) (a1 X F W g)
      · exact fun h1 _ => gen h1
  · rename_i x p a b d pos
    split
    · rename_i hx
      obtain ⟨rfl, hg, hb⟩ := hx
      intro h1 htg
      obtain ⟨a1, a2, a3⟩ := sa_map ih h1
      refine ⟨?_, fun _ => rfl⟩
      have ev : (fun s h => (E.evs Γ src s h).bind (itG 5)) = fun s h => (E.evs Γ src s h).bind rngO3 := by
        funext s h
        cases E.evs Γ src s h <;> rfl
      show SI X F W tg _ (fun s h => (E.evs Γ src s h).bind (itG 5))
      rw [ev]
      exact si_range3 (g.gl _ hg) (g.blt _ hb) (star_each (a2 a List.mem_cons_self)) (plain_args fun e' h' => a2 e' (List.mem_cons_of_mem _ h')) (a1 X F W g)
    · exact fun h1 _ => gen h1
  · exact fun h1 _ => gen h1
theorem zip_tup {kk : Nat} {c : Cfg} {tg : Expr} {gt : Bool × List Nat} (h : (!tupK kk || gt.1) = true) (h2 : compG c tg = some gt) : tupK kk = true → ∃ es k tp, tg = .Tuple es k tp := by
  intro e
  have h : gt.1 = true := by simpa [e] using h
  unfold compG at h2
  split at h2
  · obtain ⟨i, _, rfl⟩ := map_some h2
    cases h
  · exact ⟨_, _, _, rfl⟩
  · cases h2
theorem tst_ok {n : Nat} {c : Cfg} (ih : ∀ e ir, compE n c e = some ir → Snd Γ k c e ir) : ∀ {ifs : List Expr} {t : List E}, mapO (compE n c) ifs = some t → ifs.length < 2 → ∃ tt : Fr → TT, (∀ X F, Good X F W0 Γ c k → PTs X ifs (tt F)) ∧ ∀ F σ H Q, lift F W0 relB (fun s h => toB (E.evT Γ t s h)) σ H Q → tt F σ H Q
  | [], t, h, _ => by
    injection h with h
    subst h
    refine ⟨fun _ => tYes, fun X F g => pts_nil, fun F σ H Q ⟨G, h, s, t, o⟩ => ?_⟩
    dsimp only at o
    have : E.evT Γ [] s h = .ok (.bl true) h := by simp only [E.evT]
    rw [this] at o
    exact o true G H (Step.refl _ _) t.hr rfl
  | [e], t, h, _ => by
    obtain ⟨x, l, h1, h2, rfl⟩ := mapO_cons h
    injection h2 with h2
    subst h2
    have : E.evT Γ [x] = x.ev Γ := by funext s h; simp only [E.evT]
    exact ⟨fun F => lift F W0 relB (fun s h => toB (E.evT Γ [x] s h)), fun X F g => pts_one (by rw [this]; exact (ih e x h1).st X F W0 g), fun F σ H Q o => o⟩
  | _ :: _ :: _, _, _, hl => by simp at hl; omega
theorem own_ok {c : Cfg} {scope : Scope} (h : blkC c.N c.sc scope (c.own scope) = true) {X : Cx} {F : Fr} {W : WX} (g : Good X F W Γ c k) : BlkOk X.N X.env.scope scope (c.own scope) := by
  have b := blkOk_by h
  exact ⟨b.kind, b.uniq, by rw [g.N]; exact b.ix, fun y hy e => g.fr y.1 (b.free y hy e), by rw [g.N]; exact b.own⟩
/-- a comprehension's parts -/
structure LcOk (Γ : Mir) (k : Nat) (c : Cfg) (elt tg iter : Expr) (ifs : List Expr) (scope : Scope) (ir : E) : Prop where
  ex : ∃ m kk src tp is tst x, ir = .lc m kk src tp is tst x ((c.own scope).map (·.2)) ∧ c.calm = true ∧ blkC c.N c.sc scope (c.own scope) = true ∧ (∀ i ∈ is, i ∈ (c.own scope).map (·.2)) ∧
    (∀ X F W, Good X F W Γ c k → SI X F W tg iter (fun s h => (E.evs Γ src s h).bind (itG kk)) ∧ ∀ x, foldedSetIterable iter X.env x = pure x) ∧
    (∀ X F W, Good X F W Γ { c with sc := scope } k → PG X tg (tgG F.K tp is)) ∧ (∀ F, TgOk F is (tgF tp is) (tgG F.K tp is)) ∧
    (∃ tt : Fr → TT, (∀ X F, Good X F W0 Γ { c with sc := scope } k → PTs X ifs (tt F)) ∧ ∀ F σ H Q, lift F W0 relB (fun s h => toB (E.evT Γ tst s h)) σ H Q → tt F σ H Q) ∧
    ∀ X F, Good X F W0 Γ { c with sc := scope } k → SE X F W0 elt (x.ev Γ)
theorem lc_parts {n : Nat} {c : Cfg} {elt tg iter : Expr} {ifs : List Expr} {scope : Scope} {pos : Pos} {ir : E} (ih : ∀ c e ir, compE n c e = some ir → Snd Γ k c e ir) (h : compE (n + 1) c (.ListComp elt [⟨tg, iter, ifs, 0⟩] scope pos) = some ir) : LcOk Γ k c elt tg iter ifs scope ir := by
  simp only [compE] at h
  split at h
  · rename_i hb
    have hcal := hb.2.2
    have hb := hb.2.1
    obtain ⟨ks, h1, h⟩ := bind_some h
    obtain ⟨gt, h2, h⟩ := bind_some h
    split at h
    · rename_i hl
      rw [Bool.and_eq_true, Bool.and_eq_true] at hl
      obtain ⟨t, h3, h⟩ := bind_some h
      obtain ⟨x, h4, rfl⟩ := map_some h
      obtain ⟨g1, g2⟩ := comp_tg (Γ := Γ) (k := k) h2
      refine ⟨c.m pos, ks.1, ks.2, gt.1, gt.2, t, x, rfl, hcal, hb, fun i hi => ?_, fun X F W g => compI_ok (ih c) h1 g tg (zip_tup hl.1.2 h2), g1, g2, tst_ok (ih _) h3 (of_decide_eq_true hl.1.1), fun X F g => (ih _ elt x h4).se X F W0 g⟩
      exact of_decide_eq_true (List.all_eq_true.mp hl.2 i hi)
    · cases h
  · cases h
theorem lc_se {c : Cfg} {elt tg iter : Expr} {ifs : List Expr} {scope : Scope} {pos : Pos} {ir : E} (h : LcOk Γ k c elt tg iter ifs scope ir) {X : Cx} {F : Fr} {W : WX} (g : Good X F W Γ c k) : SE X F W (.ListComp elt [⟨tg, iter, ifs, 0⟩] scope pos) (ir.ev Γ) := by
  obtain ⟨m, kk, src, tp, is, tst, x, rfl, hcal, hb, his, hi, hg, htg, ⟨tt, ht1, ht2⟩, he⟩ := h.ex
  have ev : E.ev Γ (.lc m kk src tp is tst x ((c.own scope).map (·.2))) = fun s h => ((E.evs Γ src s h).bind (itG kk)).bind (lcO m (tgF tp is) (E.evT Γ tst) (x.ev Γ) ((c.own scope).map (·.2)) s) := by funext s h; simp only [E.ev]
  rw [ev]
  obtain ⟨i1, i2⟩ := hi X F W g
  exact se_lc m (g.calm hcal) (by rw [g.N]; exact g.nd) i1 (own_ok hb g) i2 (fun s H C cl fp => hg _ F W0 (g.blk scope s H C cl fp)) (htg F) his (fun s H C cl fp => ht1 _ F (g.blk scope s H C cl fp)) (ht2 F) (fun s H C cl fp => he _ F (g.blk scope s H C cl fp))
theorem lc_set {c : Cfg} {elt tg iter : Expr} {ifs : List Expr} {scope : Scope} {pos py spos : Pos} {ir : E} {y : Str} {i : Nat} (h : LcOk Γ k c elt tg iter ifs scope ir) {X : Cx} {F : Fr} {W : WX} (g : Good X F W Γ c k) (hy : X.N[i]? = some y) (hyl : X.env.scope.names.lookup y = some .local)
    (hsw : swapsWith (.ListComp elt [⟨tg, iter, ifs, 0⟩] scope pos) (some (.Name y py)) spos.line X.env = pure true) : SS X F W (.Assign [.Name y py] (.ListComp elt [⟨tg, iter, ifs, 0⟩] scope pos) spos) (fun s h => (ir.ev Γ s h).thenO s (setO i s)) := by
  obtain ⟨m, kk, src, tp, is, tst, x, rfl, hcal, hb, his, hi, hg, htg, ⟨tt, ht1, ht2⟩, he⟩ := h.ex
  have ev : ∀ s h, E.ev Γ (.lc m kk src tp is tst x ((c.own scope).map (·.2))) s h = ((E.evs Γ src s h).bind (itG kk)).bind (lcO m (tgF tp is) (E.evT Γ tst) (x.ev Γ) ((c.own scope).map (·.2)) s) := fun s h => by simp only [E.ev]
  simp only [ev]
  obtain ⟨i1, i2⟩ := hi X F W g
  exact ss_setLc m (g.calm hcal) (by rw [g.N]; exact g.nd) hy hyl hsw i1 (own_ok hb g) i2 (fun s H C cl fp => hg _ F W0 (g.blk scope s H C cl fp)) (htg F) his (fun s H C cl fp => ht1 _ F (g.blk scope s H C cl fp)) (ht2 F) (fun s H C cl fp => he _ F (g.blk scope s H C cl fp))
theorem so_map {n : Nat} {c : Cfg} (ih : ∀ e ir, compE n c e = some ir → Snd Γ k c e ir) {o : Option Expr} {l : List E} (h : mapO (compE n c) o.toList = some l) {X : Cx} {F : Fr} {W : WX} (g : Good X F W Γ c k) : SO X F W o (E.evO Γ l) := by
  cases o with
  | none =>
    injection h with h
    subst h
    have ev : E.evO Γ [] = fun _ h => .ok none h := by funext s h; simp only [E.evO]
    rw [ev]
    exact so_none
  | some e =>
    obtain ⟨x, l', h1, h2, rfl⟩ := mapO_cons h
    injection h2 with h2
    subst h2
    have ev : E.evO Γ [x] = fun s h => ixR (x.ev Γ s h) := by funext s h; simp only [E.evO]
    rw [ev]
    exact so_some ((ih e x h1).se X F W g)
theorem all_plain {es : List Expr} {X : Cx} {cpos : Pos} (hst : ∀ e' ∈ es, notStar e' = true) (hl : es.length < 21) : ((backTo cpos (starEach es X.env)).all (fun x => !x.1) && (backToKw cpos (keywordEach [] X.env)).all (fun x => x.1.isSome)
      && decide (es.length + ([] : List Keyword).length + (if ([] : List Keyword).isEmpty then 0 else 1) < 30)) = true := by
  have hall : (backTo cpos (starEach es X.env)).all (fun x => !x.1) = true := by
    have := plain_args (pos := cpos) (env := X.env) hst
    rw [List.all_eq_not_any_not]
    simpa using this
  rw [hall]
  show (true && true && decide _) = true
  simp
  omega
/-- a method's call -/
theorem ev_mth {o : Expr} {a : Str} {es : List Expr} {apos cpos : Pos} {X : Cx} (ho : rcvOk o = true) (hline : (apos.endLine == cpos.line) = true) (hst : ∀ e' ∈ es, notStar e' = true) (hl : es.length < 21) :
    eval (.Call (.Attribute o a apos) es [] cpos) X.env = (do
      let ov ← eval o X.env
      standAt apos.atName
      let (f, first) ← holding [ov] (getMethod ov a (do return (← importBound o X.env).getD true))
      callWith cpos f first (backTo cpos (starEach es X.env)) (backToKw cpos (keywordEach [] X.env))) := by
  have hb : attributeBase o a X.env (eval o X.env) = eval o X.env := by cases o <;> first | rfl | cases ho
  have hform : methodCallForm (es.length + ([] : List Keyword).length) (backTo cpos (starEach es X.env)) (backToKw cpos (keywordEach [] X.env)) = true := all_plain hst hl
  have hpos : methodCallPos true o X.env apos cpos = pure cpos := by unfold methodCallPos; simp [hline]
  rw [arm_eval_Call, hb]
  unfold methodCall
  rw [hform, hpos]
  rfl
theorem se_mth {c : Cfg} {me : Me} {a : Str} {o : Expr} {es : List Expr} {fo : SD → Hs → R D} {fs : SD → Hs → R (List D)} {apos cpos : Pos} {X : Cx} {F : Fr} {W : WX} (g : Good X F W Γ c k) (hme : meOf a es.length = some me) (ho : rcvOk o = true) (hline : (apos.endLine == cpos.line) = true) (hlen : es.length < 20)
    (hst : ∀ e' ∈ es, notStar e' = true) (hp : SE X F W o fo) (ha : SA X F W es fs) (h0 : es = [] → fs = fun _ h => .ok [] h) : SE X F W (.Call (.Attribute o a apos) es [] cpos) (mthR me.c me.g fo fs) := by
  have hb : attributeBase o a X.env (eval o X.env) = eval o X.env := by cases o <;> first | rfl | cases ho
  have hK := g.K
  have hfew := all_plain (X := X) (cpos := cpos) hst (by omega)
  have key : ∀ {T name id : String} {r : V → List V → Hp → VK → Prop} {cc : Hs → D → Bool} {gg : D → List D → Hs → R D} (pa : PlainAttrs T) (slot : Slot T a id) (hty : typeOf (.builtin id) = pure (.type "method_descriptor")) (hm : MtR X id r) (hT : TyOk F T cc) (ok : MthOk F r gg) (nr : ∀ d ds h c p h', gg d ds h ≠ .rs c p h'),
      SE X F W (.Call (.Attribute o a apos) es [] cpos) (mthR cc gg fo fs) := by
    intro T name id r cc gg pa slot hty hm hT ok nr
    cases es with
    | nil =>
      obtain rfl := h0 rfl
      refine PE.imp (pe_bm0 pa slot hty hm hp hb hline) fun σ H Q ⟨G, h, s, t, o⟩ => ?_
      rw [hK]
      exact mth0_go hT ok nr t o
    | cons e es =>
      refine PE.imp (pe_bm pa slot hty hm hp ha hb hfew hline (star_each (hst e List.mem_cons_self)) (plain_args fun e' h' => hst e' (List.mem_cons_of_mem _ h'))) fun σ H Q ⟨G, h, s, t, o⟩ => ?_
      rw [hK]
      exact mth_go hT ok nr t o
  unfold meOf at hme
  split at hme
  · rename_i e0
    injection hme with hme
    subst hme e0
    exact key (name := "") PySem.F.plainAttrs_list PySem.F.slot_list_append PySem.F.type_list_append mt_append ty_list mok_append lstM_nrs
  split at hme
  · rename_i e0
    injection hme with hme
    subst hme e0
    exact key (name := "") PySem.F.plainAttrs_list PySem.F.slot_list_extend PySem.F.type_list_extend mt_extendR ty_list mok_extend lstM_nrs
  split at hme
  · rename_i e0
    subst e0
    split at hme
    · injection hme with hme
      subst hme
      exact key (name := "") PySem.F.plainAttrs_list PySem.F.slot_list_pop PySem.F.type_list_pop mt_pop ty_list mok_pop lstM_nrs
    · injection hme with hme
      subst hme
      exact key (name := "") PySem.F.plainAttrs_list PySem.F.slot_list_pop PySem.F.type_list_pop mt_popAt ty_list mok_popAt lstM_nrs
  split at hme
  · rename_i e0
    injection hme with hme
    subst hme e0
    exact key (name := "") PySem.F.plainAttrs_list PySem.F.slot_list_insert PySem.F.type_list_insert mt_insert ty_list mok_insert lstM_nrs
  split at hme
  · rename_i e0
    injection hme with hme
    subst hme e0
    exact key (name := "") PySem.F.plainAttrs_list PySem.F.slot_list_count PySem.F.type_list_count mt_count ty_list (by rw [hK]; exact mok_count) valM_nrs
  split at hme
  · rename_i e0
    injection hme with hme
    subst hme e0
    exact key (name := "") PySem.F.plainAttrs_list PySem.F.slot_list_index PySem.F.type_list_index mt_index ty_list (by rw [hK]; exact mok_index) valM_nrs
  split at hme
  · rename_i e0
    injection hme with hme
    subst hme e0
    exact key (name := "") PySem.F.plainAttrs_dict PySem.F.slot_dict_get PySem.F.type_dict_get (mt_get (by have := g.u65; omega)) ty_dict mok_get getM_nrs
  split at hme
  · rename_i e0
    subst e0
    split at hme
    · rename_i e1
      injection hme with hme
      subst hme
      obtain rfl : es = [] := List.length_eq_zero_iff.mp e1
      obtain rfl := h0 rfl
      refine se_two (key (name := "") PySem.F.plainAttrs_dict PySem.F.slot_dict_clear PySem.F.type_dict_clear mtd_clear ty_dict mok_clr clrM_nrs) (key (name := "") PySem.F.plainAttrs_list PySem.F.slot_list_clear PySem.F.type_list_clear mt_clear ty_list mok_clear lstM_nrs) fun s h => ?_
      show mthR isClr clrA fo (fun _ h => .ok [] h) s h = _ ∨ mthR isClr clrA fo (fun _ h => .ok [] h) s h = _
      unfold mthR
      cases q : fo s h with
      | ok d h1 =>
        cases q2 : isDic h1 d with
        | true =>
          refine .inl ?_
          simp only [R.bind, isClr_d q2, q2, if_true, clrA_d q2]
        | false =>
          refine .inr ?_
          have e1 : isClr h1 d = isLst h1 d := by unfold isClr; rw [q2]; rfl
          have e2 : clrA d [] h1 = lstM txClear d [] h1 := by unfold clrA; rw [q2]; rfl
          simp only [R.bind, e1, e2]
      | rs c p h1 => exact .inl rfl
      | stk => exact .inl rfl
    · cases hme
  · cases hme
end
end Gx

/-! G11: what is read off any expression is right. -/
namespace Gx
open PySem L2
section
variable {Γ : Mir} {k : Nat}
theorem rg_vals {F : Fr} {G : Gh} {H : Hp} {a b : Int} : VRL F G H (rngD a (b - a).toNat) (rgV a b) := by
  unfold rngD rgV
  induction (List.range (b - a).toNat) with
  | nil => exact vrl_nil.mpr rfl
  | cons i r ih => exact vrl_cons.mpr ⟨_, _, rfl, vr_int.mpr rfl, ih⟩
theorem lrng_ok {n : Nat} {c : Cfg} (hcal : c.calm = true) (ih : ∀ e ir, compE n c e = some ir → Snd Γ k c e ir) {X : Cx} {F : Fr} {W : WX} (g : Good X F W Γ c k) {f : Str} {es : List Expr} {ks : Nat × List Expr} {l : List E} {m : Bool} {px p : Pos} (hf : glC c.sc f = true) (hks : lrngK c f es = some ks) (h1 : mapO (compE n c) ks.2 = some l) :
    SE X F W (.Call (.Name f px) es [] p) (fun s h => (E.evs Γ l s h).bind (lrG m ks.1)) := by
  have nr : ∀ {a : Expr}, notStar a = true → starEach [a] X.env = (false, eval a X.env) :: starEach [] X.env := fun h => star_each h
  unfold lrngK at hks
  split at hks
  · rename_i x px2 a p2
    split at hks
    · rename_i hh
      obtain ⟨rfl, b1, rfl, b2, b3⟩ := hh
      injection hks with hks
      subst hks
      obtain ⟨y, e1, rfl⟩ := ev1 h1
      have ns := compE_star e1
      refine PE.imp (pe_listRg (g.calm hcal) (g.gl _ hf) (g.blt _ b1) (prg_1 (g.gl _ b2) (g.blt _ b3) ((ih a y e1).se X F W g) (nr ns))) fun σ H Q ⟨G, h, s, t, o⟩ => ?_
      have e2 : ((E.evs Γ [y] s h).bind (lrG m 1)) = (y.ev Γ s h).bind fun d h => lrG m 1 [d] h := by
        simp only [E.evs]
        cases y.ev Γ s h <;> rfl
      dsimp only at o
      rw [e2] at o
      refine part t o fun d v h1 G1 H1 T1 t1 vx o => ?_
      cases d with
      | int b =>
        have o : Out F W G1 σ H1 (VR F) Q (if 0 ≤ b ∧ b ≤ 16777216 then newL m (rngD 0 b.toNat) h1 else .stk) := o
        split at o
        · rename_i hb
          refine ⟨b, vr_int.mp vx, RgOk.of_le (by omega) (by omega) (by omega) (by omega), fun q hq => ?_⟩
          have e3 : b - 0 = b := by omega
          cases e : newL m (rngD 0 b.toNat) h1 with
          | ok z h' =>
            rw [e] at o
            exact newL_go e o t1.hr hq (by have := rg_vals (F := F) (G := G1) (H := H1) (a := 0) (b := b); rw [e3] at this; exact this)
          | rs cc pp h' => exact (newL_nrs e).elim
          | stk => rw [e] at o; exact o.elim
        · exact o.elim
      | _ => exact o.elim
    · cases hks
  · rename_i x px2 a b p2
    split at hks
    · rename_i hh
      obtain ⟨rfl, b1, rfl, b2, b3⟩ := hh
      injection hks with hks
      subst hks
      obtain ⟨y, l', e1, e1', rfl⟩ := mapO_cons h1
      obtain ⟨y2, e2, rfl⟩ := ev1 e1'
      have ns := compE_star e1
      have ns2 := compE_star e2
      refine PE.imp (pe_listRg (g.calm hcal) (g.gl _ hf) (g.blt _ b1) (prg_2 (g.gl _ b2) (g.blt _ b3) ((ih a y e1).se X F W g) ((ih b y2 e2).se X F W g) (star_each ns) (nr ns2) (plain_args fun e' h' => by simp at h'; subst h'; exact ns2)) ) fun σ H Q ⟨G, h, s, t, o⟩ => ?_
      have e3 : ((E.evs Γ [y, y2] s h).bind (lrG m 2)) = (y.ev Γ s h).bind fun d h => (y2.ev Γ s h).bind fun d2 h => lrG m 2 [d, d2] h := by
        simp only [E.evs]
        cases y.ev Γ s h with
        | ok d h1 => simp only [R.bind]; cases y2.ev Γ s h1 <;> rfl
        | rs c p h1 => rfl
        | stk => rfl
      dsimp only at o
      rw [e3] at o
      refine part t o fun d v h1 G1 H1 T1 t1 vx o => ?_
      refine part t1 o fun d2 v2 h2 G2 H2 T2 t2 vy o => ?_
      cases d with
      | int i =>
        cases d2 with
        | int j =>
          have o : Out F W G2 σ H2 (VR F) Q (if 0 ≤ i ∧ i ≤ 16777216 ∧ 0 ≤ j ∧ j ≤ 16777216 then newL m (rngD i (j - i).toNat) h2 else .stk) := o
          split at o
          · rename_i hb
            refine ⟨i, j, vr_int.mp vx, vr_int.mp vy, RgOk.of_le hb.1 hb.2.2.2 hb.2.1 hb.2.2.1, fun q hq => ?_⟩
            cases e : newL m (rngD i (j - i).toNat) h2 with
            | ok z h' => rw [e] at o; exact newL_go e o t2.hr hq rg_vals
            | rs cc pp h' => exact (newL_nrs e).elim
            | stk => rw [e] at o; exact o.elim
          · exact o.elim
        | _ => exact o.elim
      | _ => exact o.elim
    · cases hks
  · cases hks
theorem xK_ok {n : Nat} {c : Cfg} (hcal : c.calm = true) (ih : ∀ e ir, compE n c e = some ir → Snd Γ k c e ir) {X : Cx} {F : Fr} {W : WX} (g : Good X F W Γ c k) {f : Str} {es : List Expr} {ks : Xf × List Expr} {l : List E} {px p : Pos} (hf : glC c.sc f = true) (hks : xK c f es = some ks) (h1 : mapO (compE n c) ks.2 = some l) :
    SE X F W (.Call (.Name f px) es [] p) (fun s h => (E.evs Γ l s h).bind ks.1.g) := by
  have nr : ∀ {a : Expr}, notStar a = true → starEach [a] X.env = (false, eval a X.env) :: starEach [] X.env := fun h => star_each h
  have hK := g.K
  unfold xK at hks
  split at hks
  · rename_i x px2 a p2
    split at hks
    · rename_i hh
      obtain ⟨rfl, b1, rfl, b2, b3⟩ := hh
      injection hks with hks
      subst hks
      obtain ⟨y, e1, rfl⟩ := ev1 h1
      have ns := compE_star e1
      refine PE.imp (pe_lenSetG (g.calm hcal) (g.gl _ hf) (g.blt _ b1) (g.gl _ b2) (g.blt _ b3) ((ih a y e1).se X F W g) (nr ns)) fun σ H Q ⟨G, h, s, t, o⟩ => ?_
      have e2 : ((E.evs Γ [y] s h).bind lenSetO) = (y.ev Γ s h).bind fun d h => lenSetO [d] h := by
        simp only [E.evs]
        cases y.ev Γ s h <;> rfl
      dsimp only [Xf.g] at o
      rw [e2] at o
      rw [hK]
      refine part t o fun d v h1 G1 H1 T1 t1 vx o => ?_
      have o : Out F W G1 σ H1 (VR F) Q (match lstH h1 d with
        | some l => match intsOf l with
          | some ns => if ns.length < 4000 then .ok (.int (setLen ns)) h1 else .stk
          | none => .stk
        | none => .stk) := o
      cases ql : lstH h1 d with
      | none => rw [ql] at o; exact o.elim
      | some l =>
        rw [ql] at o
        dsimp only at o
        cases qn : intsOf l with
        | none => rw [qn] at o; exact o.elim
        | some ns =>
          rw [qn] at o
          dsimp only at o
          split at o
          · rename_i hb
            obtain ⟨pa, xs, rfl, hs, hl⟩ := list_of t1.hr vx ql
            have ex : xs = ns.map V.int := vrl_ints (by rw [← intsOf_back qn]; exact hl)
            subst ex
            exact ⟨pa, ns, rfl, hs, hb, o _ G1 H1 (Step.refl _ _) t1.hr (vr_int.mpr rfl)⟩
          · exact o.elim
    split at hks
    · rename_i hh
      obtain ⟨rfl, b1, rfl, b2, b3⟩ := hh
      injection hks with hks
      subst hks
      obtain ⟨y, e1, rfl⟩ := ev1 h1
      have ns := compE_star e1
      refine PE.imp (pe_tupRg (g.calm hcal) (g.gl _ hf) (g.blt _ b1) (prg_1 (g.gl _ b2) (g.blt _ b3) ((ih a y e1).se X F W g) (nr ns))) fun σ H Q ⟨G, h, s, t, o⟩ => ?_
      have e2 : ((E.evs Γ [y] s h).bind (trG 1)) = (y.ev Γ s h).bind fun d h => trG 1 [d] h := by
        simp only [E.evs]
        cases y.ev Γ s h <;> rfl
      dsimp only [Xf.g] at o
      rw [e2] at o
      refine part t o fun d v h1 G1 H1 T1 t1 vx o => ?_
      cases d with
      | int b =>
        have o : Out F W G1 σ H1 (VR F) Q (if 0 ≤ b ∧ b ≤ 16777216 then .ok (.tup (rngD 0 b.toNat)) h1 else .stk) := o
        split at o
        · rename_i hb
          refine ⟨b, vr_int.mp vx, RgOk.of_le (by omega) (by omega) (by omega) (by omega), fun q hq => ?_⟩
          have e3 : b - 0 = b := by omega
          exact KO.newT o t1.hr hq (by have := rg_vals (F := F) (G := G1) (H := H1) (a := 0) (b := b); rw [e3] at this; exact this)
        · exact o.elim
      | _ => exact o.elim
    split at hks
    · rename_i hh
      obtain ⟨rfl, b1, rfl, b2, b3⟩ := hh
      injection hks with hks
      subst hks
      obtain ⟨y, e1, rfl⟩ := ev1 h1
      have ns := compE_star e1
      refine PE.imp (pe_srtSetG (g.calm hcal) (g.gl _ hf) (g.blt _ b1) (g.gl _ b2) (g.blt _ b3) ((ih a y e1).se X F W g) (nr ns)) fun σ H Q ⟨G, h, s, t, o⟩ => ?_
      have e2 : ((E.evs Γ [y] s h).bind srtSetO) = (y.ev Γ s h).bind fun d h => srtSetO [d] h := by
        simp only [E.evs]
        cases y.ev Γ s h <;> rfl
      dsimp only [Xf.g] at o
      rw [e2] at o
      rw [hK]
      refine part t o fun d v h1 G1 H1 T1 t1 vx o => ?_
      have o : Out F W G1 σ H1 (VR F) Q (match lstH h1 d with
        | some l => match intsOf l with
          | some ns => if ns.length < 64 then .ok (.vl ((sortU ns).map .int)) h1 else .stk
          | none => .stk
        | none => .stk) := o
      cases ql : lstH h1 d with
      | none => rw [ql] at o; exact o.elim
      | some l =>
        rw [ql] at o
        dsimp only at o
        cases qn : intsOf l with
        | none => rw [qn] at o; exact o.elim
        | some ns =>
          rw [qn] at o
          dsimp only at o
          split at o
          · rename_i hb
            obtain ⟨pa, xs, rfl, hs, hl⟩ := list_of t1.hr vx ql
            have ex : xs = ns.map V.int := vrl_ints (by rw [← intsOf_back qn]; exact hl)
            subst ex
            refine ⟨pa, ns, rfl, hs, hb, fun ms p hp he hn => ?_⟩
            have em := sortU_uniq hp he
            subst em
            exact KO.newL o t1.hr hn vrl_of_ints
          · exact o.elim
    · cases hks
  · rename_i x px2 a b p2
    split at hks
    · rename_i hh
      obtain ⟨rfl, b1, rfl, b2, b3⟩ := hh
      injection hks with hks
      subst hks
      obtain ⟨y, l', e1, e1', rfl⟩ := mapO_cons h1
      obtain ⟨y2, e2, rfl⟩ := ev1 e1'
      have ns := compE_star e1
      have ns2 := compE_star e2
      refine PE.imp (pe_tupRg (g.calm hcal) (g.gl _ hf) (g.blt _ b1) (prg_2 (g.gl _ b2) (g.blt _ b3) ((ih a y e1).se X F W g) ((ih b y2 e2).se X F W g) (star_each ns) (nr ns2) (plain_args fun e' h' => by simp at h'; subst h'; exact ns2)) ) fun σ H Q ⟨G, h, s, t, o⟩ => ?_
      have e3 : ((E.evs Γ [y, y2] s h).bind (trG 2)) = (y.ev Γ s h).bind fun d h => (y2.ev Γ s h).bind fun d2 h => trG 2 [d, d2] h := by
        simp only [E.evs]
        cases y.ev Γ s h with
        | ok d h1 => simp only [R.bind]; cases y2.ev Γ s h1 <;> rfl
        | rs c p h1 => rfl
        | stk => rfl
      dsimp only [Xf.g] at o
      rw [e3] at o
      refine part t o fun d v h1 G1 H1 T1 t1 vx o => ?_
      refine part t1 o fun d2 v2 h2 G2 H2 T2 t2 vy o => ?_
      cases d with
      | int i =>
        cases d2 with
        | int j =>
          have o : Out F W G2 σ H2 (VR F) Q (if 0 ≤ i ∧ i ≤ 16777216 ∧ 0 ≤ j ∧ j ≤ 16777216 then .ok (.tup (rngD i (j - i).toNat)) h2 else .stk) := o
          split at o
          · rename_i hb
            refine ⟨i, j, vr_int.mp vx, vr_int.mp vy, RgOk.of_le hb.1 hb.2.2.2 hb.2.1 hb.2.2.1, fun q hq => ?_⟩
            exact KO.newT o t2.hr hq rg_vals
          · exact o.elim
        | _ => exact o.elim
      | _ => exact o.elim
    · cases hks
  · cases hks
theorem compE_ok : ∀ (n : Nat) (c : Cfg) (e : Expr) (ir : E), compE n c e = some ir → Snd Γ k c e ir
  | 0, _, _, _, h => by cases h
  | n + 1, c, e, ir, h => by
    have ih := compE_ok n
    have ihc := ih c
    cases e with
    | Name x p =>
      simp only [compE] at h
      split at h
      · rename_i hp
        obtain ⟨p1, p2, p3⟩ := plain_of hp
        split at h
        · rename_i hv
          obtain ⟨i, h1, rfl⟩ := map_some h
          refine snd_plain (fun _ _ => rfl) fun X F W g => ?_
          have := se_var (F := F) (W := W) (pos := p) (by rw [g.N]; exact ixOf_get h1) (g.vis x hv) p1 p2
          have ev : E.ev Γ (.var i) = fun s h => getS s i h := by funext s h; simp only [E.ev]
          rw [ev]
          exact this
        · split at h
          · rename_i hg
            obtain ⟨d, h1, rfl⟩ := map_some h
            refine snd_plain (fun _ _ => rfl) fun X F W g => ?_
            obtain ⟨u, v, hm, rv, rp⟩ := g.cst x d h1
            have ev : E.ev Γ (.cst d) = fun s h => .ok d h := by funext s h; simp only [E.ev]
            rw [ev]
            exact PE.imp (pe_glob (g.gl x hg) hm rv p1) fun σ H Q ⟨G, h, s, t, o⟩ => KO.val o t.hr (rp _ _)
          · cases h
      · cases h
    | Constant v j p =>
      cases v <;> simp only [compE] at h <;> first | (cases h; done) | (injection h with h; subst h)
      · refine snd_plain (fun _ _ => rfl) fun X F W g => ?_
        have ev : E.ev Γ .non = fun s h => .ok .non h := by funext s h; simp only [E.ev]
        rw [ev]; exact se_non
      · rename_i b
        refine snd_plain (fun _ _ => rfl) fun X F W g => ?_
        have ev : E.ev Γ (.bl b) = fun s h => .ok (.bl b) h := by funext s h; simp only [E.ev]
        rw [ev]; exact se_bl
      · rename_i b
        refine snd_plain (fun _ _ => rfl) fun X F W g => ?_
        have ev : E.ev Γ (.int b) = fun s h => .ok (.int b) h := by funext s h; simp only [E.ev]
        rw [ev]; exact se_int
      · rename_i b
        refine snd_plain (fun _ _ => rfl) fun X F W g => ?_
        have ev : E.ev Γ (.str b) = fun s h => .ok (.str b) h := by funext s h; simp only [E.ev]
        rw [ev]; exact se_str
    | BinOp a op b p =>
      simp only [compE] at h
      obtain ⟨o, h1, h⟩ := bind_some h
      obtain ⟨x, h2, h⟩ := bind_some h
      obtain ⟨y, h3, rfl⟩ := map_some h
      have own : ∀ {cat : Bool}, op = (if cat = true then .Add else .Mult) → Snd Γ k c (.BinOp a op b p) (.own cat x y) := fun {cat} ho => snd_plain (fun _ _ => rfl) fun X F W g => by
        have ev : E.ev Γ (.own cat x y) = fun s h => (x.ev Γ s h).bind fun x h1 => (y.ev Γ s h1).bind fun y h2 => ownO cat x y h2 := by funext s h; simp only [E.ev]
        rw [ev]
        exact se_own ho g.K ((ihc a x h2).se X F W g) ((ihc b y h3).se X F W g)
      split
      · split
        · rename_i hq
          subst hq
          exact own (by clear own h; cases op <;> first | rfl | (simp [binOp] at h1))
        · split
          · rename_i hq
            subst hq
            exact own (by clear own h; cases op <;> first | rfl | (simp [binOp] at h1))
          · exact snd_bin h1 (ihc a x h2) (ihc b y h3)
      · exact snd_bin h1 (ihc a x h2) (ihc b y h3)
    | UnaryOp op a p =>
      cases op <;> simp only [compE] at h <;> first | (cases h; done) | skip
      all_goals obtain ⟨x, h1, rfl⟩ := map_some h
      · have ev : E.ev Γ (.not x) = fun s h => notR (x.ev Γ s h) := by funext s h; simp only [E.ev]
        exact ⟨fun X F W g => by rw [ev]; exact se_not ((ihc a x h1).se X F W g), fun X F W g => by rw [ev]; exact st_not ((ihc a x h1).st X F W g)⟩
      · have ev : E.ev Γ (.neg x) = un1 gNeg (x.ev Γ) := by funext s h; simp only [E.ev]
        exact snd_plain (fun _ _ => rfl) fun X F W g => by rw [ev]; exact se_un (r := rU fun i => .int (-i)) (fun ta q => pe_un un_neg q) ok_neg ((ihc a x h1).se X F W g)
    | BoolOp op es p =>
      cases op with
      | And =>
        simp only [compE] at h
        obtain ⟨irs, h1, h2⟩ := bind_some h
        have q := snd_and (pos := p) ihc h1 h2
        exact ⟨fun X F W g => (q X F W g).1, fun X F W g => (q X F W g).2.pt⟩
      | Or =>
        simp only [compE] at h
        obtain ⟨irs, h1, h2⟩ := bind_some h
        have q := snd_or (pos := p) ihc h1 h2
        exact ⟨fun X F W g => (q X F W g).1, fun X F W g => (q X F W g).2.pt⟩
    | Dict ks vs p =>
      have main : ∀ ks vs, (match d1K c p ks vs with
          | some kv => (compE n c kv.1).bind fun x => (compE n c kv.2).map fun y => E.d1 x y
          | none => (mapO keyE ks).bind fun qs => if qs.Nodup ∧ ks ≠ [] ∧ ks.length ≤ 15 ∧ ks.length = vs.length then (mapO (compE n c) vs).map (E.dsp qs) else none) = some ir → Snd Γ k c (.Dict ks vs p) ir := fun ks vs h => by
        split at h
        · rename_i kv hkv
          obtain ⟨kx, vx⟩ := kv
          unfold d1K at hkv
          split at hkv
          · split at hkv
            · injection hkv with hkv
              injection hkv with e1 e2
              subst e1 e2
              obtain ⟨x, h1, h⟩ := bind_some h
              obtain ⟨y, h2, rfl⟩ := map_some h
              have ev : E.ev Γ (.d1 x y) = fun s h => (x.ev Γ s h).bind fun a h1 => (y.ev Γ s h1).bind fun b h2 => d1O a b h2 := by
                funext s h
                simp only [E.ev]
              exact snd_plain (fun _ _ => rfl) fun X F W g => by
                rw [ev]
                exact se_d1 ((ihc _ x h1).se X F W g) ((ihc _ y h2).se X F W g)
            · cases hkv
          · cases hkv
        · obtain ⟨qs, h1, h⟩ := bind_some h
          split at h
          · rename_i hh
            obtain ⟨l, h2, rfl⟩ := map_some h
            have ev : E.ev Γ (.dsp qs l) = fun s h => (evF (l.map fun x => E.ev Γ x) s h).bind (dspO qs) := by
              rw [evF_map]
              funext s h
              simp only [E.ev]
            exact snd_plain (fun _ _ => rfl) fun X F W g => by
              rw [ev]
              exact se_dsp (mapO_some h1) (ses_map ihc g h2) hh.2.2.2 hh.1 hh.2.1 hh.2.2.1
          · cases h
      cases ks with
      | nil =>
        cases vs with
        | nil =>
          simp only [compE] at h
          injection h with h
          subst h
          by_cases z : c.mT p = true
          · rw [if_pos z]
            have ev : E.ev Γ .dnt = fun s h => dntO h := by
              funext s h
              simp only [E.ev]
            exact snd_plain (fun _ _ => rfl) fun X F W g => by
              rw [ev]
              exact se_dnt
          · rw [if_neg z]
            have ev : E.ev Γ (.dnw (c.m p)) = fun s h => dnwO (c.m p) h := by
              funext s h
              simp only [E.ev]
            exact snd_plain (fun _ _ => rfl) fun X F W g => by
              rw [ev]
              exact se_dnw _
        | cons v vs =>
          simp only [compE] at h
          exact main _ _ h
      | cons k ks =>
        simp only [compE] at h
        exact main _ _ h
    | IfExp t a b p =>
      simp only [compE] at h
      obtain ⟨x, h1, h⟩ := bind_some h
      obtain ⟨y, h2, h⟩ := bind_some h
      obtain ⟨z, h3, rfl⟩ := map_some h
      have ev : E.ev Γ (.ite x y z) = fun s h => iteR (x.ev Γ s h) (y.ev Γ s) (z.ev Γ s) := by funext s h; simp only [E.ev]
      have q : ∀ X F W, Good X F W Γ c k → SE X F W (.IfExp t a b p) (E.ev Γ (.ite x y z)) := fun X F W g => by
        rw [ev]
        exact se_ite ((ihc t x h1).st X F W g) ((ihc a y h2).se X F W g) ((ihc b z h3).se X F W g)
      refine ⟨q, fun X F W g => ?_⟩
      rw [ev]
      exact st_ite ((ihc t x h1).st X F W g) ((ihc a y h2).st X F W g) ((ihc b z h3).st X F W g)
    | Compare a ops cs p =>
      cases ops with
      | nil => simp only [compE] at h; cases h
      | cons op ops =>
        cases ops with
        | nil =>
          cases cs with
          | nil => simp only [compE] at h; cases h
          | cons b cs =>
            cases cs with
            | nil =>
              simp only [compE] at h
              split at h
              · rename_i t hk
                obtain ⟨g, h1, h⟩ := bind_some h
                obtain ⟨x, h2, rfl⟩ := map_some h
                exact snd_kin hk h1 (ihc a x h2)
              · obtain ⟨o, h1, h⟩ := bind_some h
                obtain ⟨x, h2, h⟩ := bind_some h
                obtain ⟨y, h3, rfl⟩ := map_some h
                exact snd_cmp h1 (notSet_mark h3) (ihc a x h2) (ihc b y h3)
            | cons _ _ => simp only [compE] at h; cases h
        | cons op' ops =>
          cases ops with
          | cons _ _ => cases cs <;> first | (simp only [compE] at h; cases h; done) | (rename_i cs; cases cs <;> first | (simp only [compE] at h; cases h; done) | (rename_i cs; cases cs <;> (simp only [compE] at h; cases h)))
          | nil =>
            cases cs with
            | nil => simp only [compE] at h; cases h
            | cons b cs =>
              cases cs with
              | nil => simp only [compE] at h; cases h
              | cons d cs =>
                cases cs with
                | cons _ _ => simp only [compE] at h; cases h
                | nil =>
                  simp only [compE] at h
                  obtain ⟨o, h1, h⟩ := bind_some h
                  obtain ⟨o', h2, h⟩ := bind_some h
                  obtain ⟨x, h3, h⟩ := bind_some h
                  obtain ⟨y, h4, h⟩ := bind_some h
                  obtain ⟨z, h5, h⟩ := bind_some h
                  split at h
                  · rename_i hp
                    injection h with h
                    subst h
                    exact snd_chain h1 h2 hp (lastMark_of h5) (ihc a x h3) (ihc b y h4) (ihc d z h5)
                  · cases h
    | Tuple es kk p =>
      simp only [compE] at h
      obtain ⟨l, h1, rfl⟩ := map_some h
      have ev : E.ev Γ (.tup l) = fun s h => (E.evs Γ l s h).bind (DL gTup) := by funext s h; simp only [E.ev]
      exact snd_plain (fun _ _ => rfl) fun X F W g => by rw [ev]; exact se_tup ((sa_map ihc h1).1 X F W g)
    | List es p =>
      simp only [compE] at h
      obtain ⟨l, h1, rfl⟩ := map_some h
      have ev : E.ev Γ (.lst (c.m p) l) = fun s h => (E.evs Γ l s h).bind (mkL (c.m p)) := by funext s h; simp only [E.ev]
      exact snd_plain (fun _ _ => rfl) fun X F W g => by rw [ev]; exact se_lst _ ((sa_map ihc h1).1 X F W g)
    | Subscript a b p =>
      have gen : ∀ {x y : E}, compE n c a = some x → compE n c b = some y → Snd Γ k c (.Subscript a b p) (.ix x y) := fun {x y} h1 h2 => by
        have ev : E.ev Γ (.ix x y) = bin2 gIx (x.ev Γ) (y.ev Γ) := by funext s h; simp only [E.ev]
        exact snd_plain (fun _ _ => rfl) fun X F W g => by rw [ev]; exact se_ix (by have := g.u65; omega) g.K (noSl_of h2) ((ihc a x h1).se X F W g) ((ihc b y h2).se X F W g)
      unfold compE at h
      split at h
      all_goals first | (rename_i e0; cases e0; done) | skip
      · rename_i a' i1 i2 i3 i4 i5 e0
        injection e0 with e1 e2 e3
        subst e1 e2 e3
        obtain ⟨x, h1, rfl⟩ := map_some h
        have ev : E.ev Γ (.rev (c.m p) x) = fun s h => (x.ev Γ s h).bind (revG (c.m p)) := by funext s h; simp only [E.ev]
        exact snd_plain (fun _ _ => rfl) fun X F W g => by rw [ev]; exact se_rev _ g.K ((ihc a x h1).se X F W g)
      · rename_i a' lo hi i1 i2 n1 e0
        injection e0 with e1 e2 e3
        subst e1 e2 e3
        obtain ⟨x, h1, h⟩ := bind_some h
        obtain ⟨l, h2, h⟩ := bind_some h
        obtain ⟨m, h3, rfl⟩ := map_some h
        have ev : E.ev Γ (.sl (c.m p) x l m) = fun s h => slR (c.m p) (x.ev Γ s h) (E.evO Γ l s) (E.evO Γ m s) := by funext s h; simp only [E.ev]
        exact snd_plain (fun _ _ => rfl) fun X F W g => by rw [ev]; exact se_slice _ g.K ((ihc a x h1).se X F W g) (so_map ihc h2 g) (so_map ihc h3 g)
      · rename_i a' b' i1 n1 n2 e0
        injection e0 with e1 e2 e3
        subst e1 e2 e3
        split at h
        · rename_i t hk
          obtain ⟨y, h2, rfl⟩ := map_some h
          exact snd_kix hk (noSl_of h2) (ihc b y h2)
        · obtain ⟨x, h1, h⟩ := bind_some h
          obtain ⟨y, h2, rfl⟩ := map_some h
          exact gen h1 h2
      · cases h
    | Call f es kws p =>
      cases f with
      | Attribute o a apos =>
        cases kws with
        | cons _ _ => cases es <;> (simp only [compE] at h; cases h)
        | nil =>
          have h : (if (rcvOk o && (apos.endLine == p.line) && decide (es.length < 20)) = true then (match meOf a es.length with
              | some me => (compE n c o).bind fun x => (mapO (compE n c) es).map fun l => E.mth me x l
              | none => if c.calm = true then (c.cl.mt.lookup a).bind fun ms => (compE n c o).bind fun x => (mapO (compE n c) es).map fun l => E.mcl ms a x l else none) else none) = some ir := by
            cases es <;> (simp only [compE] at h; exact h)
          split at h
          · rename_i hh
            rw [Bool.and_eq_true, Bool.and_eq_true] at hh
            split at h
            · rename_i me h1
              obtain ⟨x, h2, h⟩ := bind_some h
              obtain ⟨l, h3, rfl⟩ := map_some h
              obtain ⟨a1, a2, a3⟩ := sa_map (Γ := Γ) (k := k) ihc h3
              have ev : E.ev Γ (.mth me x l) = mthR me.c me.g (x.ev Γ) (E.evs Γ l) := by funext s h; simp only [E.ev]
              exact snd_plain (fun _ _ => rfl) fun X F W g => by
                rw [ev]
                exact se_mth g h1 hh.1.1 hh.1.2 (of_decide_eq_true hh.2) a2 ((ihc o x h2).se X F W g) (a1 X F W g) fun e0 => by
                  subst e0
                  injection h3 with h3
                  subst h3
                  funext s h
                  simp only [E.evs]
            · split at h
              · rename_i hcal
                obtain ⟨ms, h1, h⟩ := bind_some h
                obtain ⟨x, h2, h⟩ := bind_some h
                obtain ⟨l, h3, rfl⟩ := map_some h
                obtain ⟨a1, a2, a3⟩ := sa_map (Γ := Γ) (k := k) ihc h3
                have ev : E.ev Γ (.mcl ms a x l) = mclR ms a (callR Γ) (x.ev Γ) (E.evs Γ l) := by funext s h; simp only [E.ev]
                refine snd_plain (fun _ _ => rfl) fun X F W g => ?_
                rw [ev]
                cases es with
                | nil =>
                  injection h3 with h3
                  subst h3
                  have e0 : E.evs Γ [] = fun _ h => .ok [] h := by funext s h; simp only [E.evs]
                  rw [e0]
                  exact se_mcl0 hcal g h1 ((ihc o x h2).se X F W g) (ev_mth hh.1.1 hh.1.2 (fun e he => (by cases he)) (by simp))
                | cons e es => exact se_mcl hcal g h1 a2 ((ihc o x h2).se X F W g) (a1 X F W g) (ev_mth hh.1.1 hh.1.2 a2 (by have := of_decide_eq_true hh.2; omega))
              · cases h
          · cases h
      | Name x px =>
        cases es with
        | nil =>
          cases kws with
          | cons _ _ => simp only [compE] at h; cases h
          | nil =>
            simp only [compE] at h
            split at h
            · rename_i hg
              rw [Bool.and_eq_true, Bool.and_eq_true] at hg
              obtain ⟨j, h1, rfl⟩ := map_some h
              obtain ⟨p1, p2, p3⟩ := plain_of hg.2
              have ev : E.ev Γ (.new x j []) = fun s h => newI x (callR Γ j) [] h := by
                funext s h
                simp only [E.ev, E.evs]
                rfl
              exact snd_plain (fun _ _ => rfl) fun X F W g => by
                rw [ev]
                exact se_new0 hg.1.1 g (g.gl _ hg.1.2) h1 p1
            · cases h
        | cons e es =>
          cases kws with
          | cons _ _ => simp only [compE] at h; cases h
          | nil =>
            simp only [compE] at h
            split at h
            · rename_i hg
              rw [Bool.and_eq_true] at hg
              obtain ⟨p1, p2, p3⟩ := plain_of hg.2
              split at h
              · rename_i hx
                subst hx
                split at h
                · rename_i T pT
                  split at h
                  · rename_i hh
                    simp only [Bool.and_eq_true, decide_eq_true_eq] at hh
                    obtain ⟨⟨b1, b2⟩, b4⟩ := hh
                    obtain ⟨q1, q2, q3⟩ := plain_of b4
                    split at h
                    · rename_i ha
                      obtain ⟨x, h2, rfl⟩ := map_some h
                      have ev : E.ev Γ (.isE c.exs T x) = fun s h => (x.ev Γ s h).bind (isEG c.exs T) := by funext s h; simp only [E.ev]
                      exact snd_plain (fun _ _ => rfl) fun X F W g => by
                        rw [ev]
                        exact se_isE g.exc ha g.K (g.gl _ hg.1) (g.blt _ b1) (g.gl _ b2) q3 q1 (star_each (compE_star h2)) (plain_args fun e' he => by simp at he; subst he; rfl) ((ihc e x h2).se X F W g)
                    split at h
                    rotate_left
                    · cases h
                    rename_i b3
                    obtain ⟨t, h1, h⟩ := bind_some h
                    obtain ⟨x, h2, rfl⟩ := map_some h
                    have ev : E.ev Γ (.isi t x) = fun s h => (x.ev Γ s h).bind (isiG t) := by funext s h; simp only [E.ev]
                    exact snd_plain (fun _ _ => rfl) fun X F W g => by
                      rw [ev]
                      exact se_isi g.K (g.gl _ hg.1) (g.blt _ b1) (g.gl _ b2) (g.blt _ b3) (tyName_boot h1) q3 q1 (star_each (compE_star h2)) (plain_args fun e' he => by simp at he; subst he; rfl) ((ihc e x h2).se X F W g)
                  · cases h
                · cases h
              · split at h
                rotate_left
                · rename_i hcal
                  split at h
                  · rename_i ha
                    obtain ⟨l, h1, rfl⟩ := map_some h
                    obtain ⟨rfl, hb⟩ := ha
                    have ev : E.ev Γ (.bi .any l) = fun s h => (E.evs Γ l s h).bind (DL gAny) := by funext s h; simp only [E.ev]; rfl
                    obtain ⟨a1, a2, a3⟩ := sa_map (Γ := Γ) (k := k) ihc h1
                    exact snd_plain (fun _ _ => rfl) fun X F W g => by
                      rw [ev]
                      exact any_ok (Bool.eq_false_iff.mpr hcal) g (g.gl _ hg.1) (g.blt _ hb) a2 (a1 X F W g)
                  · cases h
                rename_i hcal
                split at h
                · rename_i ks hks
                  obtain ⟨l, h1, rfl⟩ := map_some h
                  have ev : E.ev Γ (.lrng (c.m p) ks.1 l) = fun s h => (E.evs Γ l s h).bind (lrG (c.m p) ks.1) := by funext s h; simp only [E.ev]
                  exact snd_plain (fun _ _ => rfl) fun X F W g => by
                    rw [ev]
                    exact lrng_ok hcal ihc g hg.1 hks h1
                split at h
                · rename_i ks hks
                  obtain ⟨l, h1, rfl⟩ := map_some h
                  have ev : E.ev Γ (.xf ks.1 l) = fun s h => (E.evs Γ l s h).bind ks.1.g := by funext s h; simp only [E.ev]
                  exact snd_plain (fun _ _ => rfl) fun X F W g => by
                    rw [ev]
                    exact xK_ok hcal ihc g hg.1 hks h1
                · split at h
                  · rename_i b hb
                    split at h
                    · rename_i hm
                      obtain ⟨l, h1, rfl⟩ := map_some h
                      have ev : E.ev Γ (.bi b.2 l) = fun s h => (E.evs Γ l s h).bind b.2.g := by funext s h; simp only [E.ev]
                      obtain ⟨a1, a2, a3⟩ := sa_map (Γ := Γ) (k := k) ihc h1
                      exact snd_plain (fun _ _ => rfl) fun X F W g => by
                        rw [ev]
                        exact bi_ok hcal hb g (g.gl _ hg.1) (g.blt _ (of_decide_eq_true hm)) a2 (a1 X F W g)
                    · cases h
                  · split at h
                    · rename_i j h1
                      obtain ⟨l, h2, rfl⟩ := map_some h
                      have ev : E.ev Γ (.new x j l) = fun s h => (E.evs Γ l s h).bind (newI x (callR Γ j)) := by funext s h; simp only [E.ev]
                      obtain ⟨a1, a2, a3⟩ := sa_map (Γ := Γ) (k := k) ihc h2
                      exact snd_plain (fun _ _ => rfl) fun X F W g => by
                        rw [ev]
                        exact se_new hcal g (g.gl _ hg.1) h1 p1 a2 (a1 X F W g)
                    obtain ⟨j, h1, h⟩ := bind_some h
                    obtain ⟨l, h2, rfl⟩ := map_some h
                    have ev : E.ev Γ (.call j l) = fun s h => (E.evs Γ l s h).bind (callR Γ j) := by funext s h; simp only [E.ev]
                    obtain ⟨a1, a2, a3⟩ := sa_map (Γ := Γ) (k := k) ihc h2
                    exact snd_plain (fun _ _ => rfl) fun X F W g => by
                      rw [ev]
                      exact se_callU hcal g (g.gl _ hg.1) h1 p1 a2 (a1 X F W g)
            · cases h
      | _ => cases es <;> cases kws <;> (simp only [compE] at h; cases h)
    | ListComp elt gs scope p =>
      cases gs with
      | nil => simp only [compE] at h; cases h
      | cons g0 gs =>
        cases gs with
        | cons _ _ => simp only [compE] at h; cases h
        | nil =>
          obtain ⟨tg, iter, ifs, az⟩ := g0
          by_cases haz : az = 0
          · subst haz
            have lp := lc_parts (k := k) (Γ := Γ) ih h
            exact snd_plain (fun _ _ => rfl) fun X F W g => lc_se lp g
          · simp only [compE] at h
            rw [if_neg (fun z => haz z.1)] at h
            cases h
    | Attribute o a pos =>
      cases o with
      | Name x p =>
        simp only [compE] at h
        split at h
        · rename_i ha
          subst ha
          obtain ⟨y, h1, rfl⟩ := map_some h
          have ev : E.ev Γ (.had c.exs y) = fun s h => (y.ev Γ s h).bind (hadG c.exs) := by funext s h; simp only [E.ev]
          exact snd_plain (fun _ _ => rfl) fun X F W g => by
            rw [ev]
            exact se_had g.exc g.K ((ihc _ y h1).se X F W g) rfl
        · split at h
          · rename_i ha
            obtain ⟨y, h1, rfl⟩ := map_some h
            have ev : E.ev Γ (.fld c.cl.cs a y) = fun s h => (y.ev Γ s h).bind (fldG c.cl.cs a) := by funext s h; simp only [E.ev]
            exact snd_plain (fun _ _ => rfl) fun X F W g => by
              rw [ev]
              exact se_fld g.K g.ins ha ((ihc _ y h1).se X F W g) rfl
          · cases h
      | _ => simp only [compE] at h; cases h
    | _ => simp only [compE] at h; cases h
end
end Gx

/-! G12: statements; a def by its text. -/
namespace Gx
open PySem L2
section
variable {X : Cx} {F : Fr} {W : WX} {Γ : Mir} {c : Cfg} {k n m : Nat}
structure GoodS (X : Cx) (F : Fr) (W : WX) (Γ : Mir) (c : Cfg) (k : Nat) : Prop where
  g : Good X F W Γ c k
  po : PassesOwn (model X.prog X.w) X.A X.env X.xe
  sc : X.env.scope = c.sc
  kd : X.env.scope.kind = .function
  st : X.stack = X.env :: X.outer
  fm : X.env.frame = some X.env.locals
theorem swaps_plain {e : Expr} {x : E} (h : compE m c e = some x) (hc : isComp e = false) {t : Option Expr} {l : Nat} {env : Env} : swapsWith e t l env = pure false := by
  cases e <;> first | rfl | (cases hc; done)
theorem sole_plain {e : Expr} {x : E} (h : compE m c e = some x) (hc : isComp e = false) {t : Expr} {l : Nat} {env : Env} : swapsWithSole [t] e l env = pure false := by
  cases e <;> first | rfl | (cases hc; done)
theorem ss_tset {tg e : Expr} {tp : Bool} {is : List Nat} {f : SD → Hs → R D} {pos : Pos} (hs : swapsWithSole [tg] e pos.line X.env = pure false) (hw : swappedStores [tg] e X.env = pure none) (h1 : (assignEach [tg] X.env).map (·.2) = [assign tg X.env])
    (hg : PG X tg (tgG F.K tp is)) (ht : TgOk F is (tgF tp is) (tgG F.K tp is)) (he : SE X F W e f) : SS X F W (.Assign [tg] e pos) (fun s h => (f s h).thenO s (tsetO tp is s)) := by
  refine PS.imp (ps_asg he hg hs hw h1) fun Dn σ H ⟨G, h, s, t, o⟩ => partS t o fun d v h2 G2 H2 T t2 x o2 => ?_
  unfold tsetO at o2
  cases q : tgF tp is d s with
  | none => rw [q] at o2; exact o2.elim
  | some s' =>
    rw [q] at o2
    exact ht G2 H2 h2 σ s v d s' t2 x q _ fun vs t' => o2 G2 _ H2 (Step.refl _ _) t'
theorem sb_map {N : Nat} {f : Stmt → Option S} {X : Cx} {F : Fr} {W : WX} (ih : ∀ st s, f st = some s → SS X F W st (s.ev Γ N)) : ∀ {sts : List Stmt} {l : List S}, mapO f sts = some l → SB X F W sts (S.evs Γ N l)
  | [], l, h => by
    injection h with h
    subst h
    have ev : S.evs Γ N [] = fun s h => .nx s h := by funext s h; simp only [S.evs]
    rw [ev]
    exact sb_nil
  | st :: sts, l, h => by
    obtain ⟨x, l', h1, h2, rfl⟩ := mapO_cons h
    have ev : S.evs Γ N (x :: l') = fun s h => (x.ev Γ N s h).seq (S.evs Γ N l') := by funext s h; simp only [S.evs]
    rw [ev]
    exact sb_cons (ih st x h1) (sb_map ih h2)
theorem cutB_ok {ct : Bool} {sts : List Stmt} {f : SD → Hs → O} (h : SB X F W sts f) : SB X F W sts (cutB ct f) := by
  cases ct with
  | false => exact h
  | true => exact sb_cut h
theorem GoodS.tr (g : GoodS X F W Γ c k) {W' : WX} {pn : List (Addr × Obj)} {xe : Value → Shared → Prop} (tk : Takes (X.tr pn xe) W') (po : PassesOwn (model X.prog X.w) X.A X.env xe) : GoodS (X.tr pn xe) F W' Γ c k :=
  ⟨⟨g.g.N, g.g.nd, g.g.K, g.g.calm, g.g.vis, g.g.fr, g.g.sto, g.g.gl, g.g.blt, g.g.room, g.g.u65, g.g.hot, g.g.fns, g.g.ins, g.g.cls, tk, g.g.exc, g.g.cst, g.g.kds⟩, po, g.sc, g.kd, g.st, g.fm⟩
theorem ExcT.fr {mg : Str → Option Value} {exs ask : List Str} (g : ExcT F mg exs ask) (a : Option Addr) : ExcT (F.with a) mg exs ask := ⟨g.ec, fun y h => ⟨(g.ask y h).own⟩, g.rs, g.sh⟩
theorem InsC.fr {fl : List Str} {nm : Str} (i : InsC F fl nm) (a : Option Addr) : InsC (F.with a) fl nm := ⟨i.ex⟩
theorem GoodS.suite (g : GoodS X F W Γ c k) (a : Addr) (pn : List (Addr × Obj)) : GoodS (X.suite a pn) (F.with (some a)) W0 Γ { c with calm := false } k :=
  ⟨⟨g.g.N, g.g.nd, g.g.K, fun h => (nomatch h), g.g.vis, g.g.fr, g.g.sto, g.g.gl, g.g.blt, fun h => (nomatch h), g.g.u65, fun _ => ⟨a, rfl, rfl⟩, fun h => (nomatch h), fun n hn => (g.g.ins n hn).fr _, fun h => (nomatch h), takes0, g.g.exc.fr _, fun x d h => let ⟨u, v, h1, h2, h3⟩ := g.g.cst x d h; ⟨u, v, h1, h2, fun G H => VR.fr (F := F) (F' := F.with (some a)) rfl rfl d (h3 G H)⟩, g.g.kds⟩, PassesOwn.never, g.sc, g.kd, g.st, g.fm⟩
theorem compS_ok {N : Nat} : ∀ (n : Nat) {c : Cfg} {X : Cx} {F : Fr} {W : WX} (g : GoodS X F W Γ c k) (st : Stmt) (s : S), compS m c n st = some s → SS X F W st (s.ev Γ N)
  | 0, _, _, _, _, _, _, _, h => by cases h
  | n + 1, c, X, F, W, g, st, s, h => by
    have ih := fun st s h => compS_ok (N := N) n g st s h
    have ge := g.g
    have E0 := fun e ir h => compE_ok (Γ := Γ) (k := k) m c e ir h
    unfold compS at h
    split at h
    · rename_i y py e pos
      split at h
      · rename_i hs
        obtain ⟨i, h1, h⟩ := bind_some h
        obtain ⟨x, h2, rfl⟩ := map_some h
        have hi : X.N[i]? = some y := by rw [ge.N]; exact ixOf_get h1
        have hN : X.N.Nodup := by rw [ge.N]; exact ge.nd
        obtain ⟨k1, k2⟩ := ge.sto y hs
        have ev : S.ev Γ N (.set i x) = fun s h => (x.ev Γ s h).thenO s (setO i s) := by funext s h; simp only [S.ev]
        rw [ev]
        by_cases hc : isComp e = true
        · cases e with
          | ListComp elt gs scope p =>
            by_cases hsw : (X.env.kindOf y == some NameKind.local && py.line == p.line && !(scope.names.any fun (n, k) => n == y && (k == .local || k == .cell))) = true
            · cases m with
              | zero => cases h2
              | succ m =>
              cases gs with
              | nil => simp only [compE] at h2; cases h2
              | cons g0 gs =>
                cases gs with
                | cons _ _ => simp only [compE] at h2; cases h2
                | nil =>
                  obtain ⟨tg, iter, ifs, az⟩ := g0
                  by_cases haz : az = 0
                  · subst haz
                    simp only [Bool.and_eq_true] at hsw
                    have hyl : X.env.scope.names.lookup y = some .local := eq_of_beq hsw.1.1
                    exact lc_set (lc_parts (fun c e ir h => compE_ok m c e ir h) h2) ge hi hyl (sw_true g.kd hyl hsw.1.2 (by simpa using hsw.2))
                  · simp only [compE] at h2
                    rw [if_neg (fun z => haz z.1)] at h2
                    cases h2
            · refine ss_set hN hi k1 ?_ k2 ((E0 _ x h2).se X F W ge)
              have hb : X.env.blockKind = .function := by unfold Env.blockKind; rw [g.kd]; rfl
              have hsw' := Bool.eq_false_iff.mpr hsw
              unfold swapsWith
              simp only [hb, Expr.pos]
              show (pure _ : Sem Bool) = pure false
              congr 1
          | SetComp _ _ _ _ => cases m <;> first | (cases h2; done) | (simp only [compE] at h2; cases h2)
          | DictComp _ _ _ _ _ => cases m <;> first | (cases h2; done) | (simp only [compE] at h2; cases h2)
          | _ => cases hc
        · exact ss_set hN hi k1 (swaps_plain h2 (Bool.eq_false_iff.mpr hc)) k2 ((E0 _ x h2).se X F W ge)
      · cases h
    · rename_i es kt pt e pos
      split at h
      · cases h
      · rename_i hh
        rw [Bool.or_eq_true, not_or] at hh
        have e1 := Bool.eq_false_iff.mpr hh.1
        have e2 := Bool.eq_false_iff.mpr hh.2
        obtain ⟨gt, h1, h⟩ := bind_some h
        obtain ⟨x, h2, rfl⟩ := map_some h
        have ev : S.ev Γ N (.tset gt.1 gt.2 x) = fun s h => (x.ev Γ s h).thenO s (tsetO gt.1 gt.2 s) := by funext s h; simp only [S.ev]
        rw [ev]
        obtain ⟨a1, a2⟩ := comp_tg (Γ := Γ) (k := k) h1
        refine ss_tset ?_ ?_ rfl (a1 X F W ge) (a2 F) ((E0 _ x h2).se X F W ge)
        · exact sole_plain h2 e2
        · cases e <;> first | rfl | (cases e1; done)
    · rename_i o i po e pos
      split at h
      · cases h
      · rename_i hh
        have e2 := Bool.eq_false_iff.mpr hh
        obtain ⟨x, h1, h⟩ := bind_some h
        obtain ⟨kk, h2, h⟩ := bind_some h
        obtain ⟨y, h3, rfl⟩ := map_some h
        have ev : S.ev Γ N (.store x kk y) = storeO (y.ev Γ) (x.ev Γ) (kk.ev Γ) := by funext s h; simp only [S.ev]
        rw [ev]
        refine PS.imp (ps_asg ((E0 _ y h3).se X F W ge) (pg_sub ((E0 _ x h1).se X F W ge) ((E0 _ kk h2).se X F W ge) (set_any (by have := ge.u65; omega)) (fun v => ?_)) (sole_plain h3 e2) rfl rfl) fun Dn σ H ⟨G, h, s, t, o⟩ => store_go t o
        have hns := noSl_of h2
        cases m with
        | zero => cases h2
        | succ m => cases i <;> first | rfl | (simp only [compE] at h2; cases h2)
    · rename_i o f po e pos
      split at h
      · cases h
      · rename_i hh
        have e2 := Bool.eq_false_iff.mpr hh
        split at h
        · rename_i hf
          obtain ⟨x, h1, h⟩ := bind_some h
          obtain ⟨y, h3, rfl⟩ := map_some h
          have ev : S.ev Γ N (.fst c.cl.cs x f y) = fstO c.cl.cs f (y.ev Γ) (x.ev Γ) := by funext s h; simp only [S.ev]
          rw [ev]
          exact ss_fst ge.K ge.ins hf ((E0 _ y h3).se X F W ge) ((E0 _ x h1).se X F W ge) (swaps_plain h3 e2)
        · cases h
    · rename_i y py op e pos
      split at h
      · rename_i hs
        rw [Bool.and_eq_true] at hs
        obtain ⟨i, h1, h⟩ := bind_some h
        obtain ⟨x, h2, h⟩ := bind_some h
        have hi : X.N[i]? = some y := by rw [ge.N]; exact ixOf_get h1
        have hN : X.N.Nodup := by rw [ge.N]; exact ge.nd
        obtain ⟨k1, k2⟩ := ge.sto y hs.2
        split at h
        · injection h with h
          subst h
          have ev : S.ev Γ N (.aug i .add x) = augO i gAdd (x.ev Γ) := by funext s h; simp only [S.ev, Op.g]
          rw [ev]
          refine PS.imp (ps_aug hN hi k1 ((E0 _ x h2).se X F W ge) ip_add k2) fun Dn σ H ⟨G, h, s, t, o⟩ => aug_go (f := fun i j => i + j) (fun _ a y z hz => ?_) t o
          cases y <;> first | (cases hz; done) | (injection hz with hz; exact ⟨_, rfl, hz.symm⟩)
        · injection h with h
          subst h
          have ev : S.ev Γ N (.aug i .sub x) = augO i gSub (x.ev Γ) := by funext s h; simp only [S.ev, Op.g]
          rw [ev]
          refine PS.imp (ps_aug hN hi k1 ((E0 _ x h2).se X F W ge) ip_sub k2) fun Dn σ H ⟨G, h, s, t, o⟩ => aug_go (f := fun i j => i - j) (fun _ a y z hz => ?_) t o
          cases y <;> first | (cases hz; done) | (injection hz with hz; exact ⟨_, rfl, hz.symm⟩)
        · cases h
      · cases h
    · injection h with h
      subst h
      have ev : S.ev Γ N .retN = fun s h => .rt .non h := by funext s h; simp only [S.ev]
      rw [ev]
      exact ss_retN
    · rename_i e pos
      obtain ⟨x, hv, rfl⟩ := map_some h
      have ev : S.ev Γ N (.ret x) = fun s h => (x.ev Γ s h).thenO s .rt := by funext s h; simp only [S.ev]
      rw [ev]
      exact ss_ret ((E0 _ x hv).se X F W ge)
    · rename_i t a b pos
      obtain ⟨x, h1, h⟩ := bind_some h
      obtain ⟨y, h2, h⟩ := bind_some h
      obtain ⟨z, h3, rfl⟩ := map_some h
      have ev : S.ev Γ N (.iff x y z) = fun s h => (x.ev Γ s h).thenO s (ifO s (S.evs Γ N y) (S.evs Γ N z)) := by funext s h; simp only [S.ev]
      rw [ev]
      exact ss_if ((E0 _ x h1).st X F W ge) (sb_map ih h2) (sb_map ih h3)
    · rename_i tg iter body pos
      split at h
      · rename_i kx hkx
        split at h
        rotate_left
        · cases h
        rename_i i hvar
        obtain ⟨gt, h2, h⟩ := bind_some h
        split at h
        rotate_left
        · cases h
        rename_i hz
        rw [Bool.and_eq_true] at hz
        obtain ⟨hz, hcal⟩ := hz
        obtain ⟨b, h3, rfl⟩ := map_some h
        have ev : S.ev Γ N (.dlp (c.cut pos) kx.1 i gt.1 gt.2 b) = fun s h => dlpO kx.1 i (turnO (tgF gt.1 gt.2) (cutB (c.cut pos) (S.evs Γ N b))) s h := by funext s h; simp only [S.ev]
        rw [ev]
        obtain ⟨a1, a2⟩ := comp_tg (Γ := Γ) (k := k) h2
        have sv : SE X F W kx.2 (fun s h => getS s i h) := by
          have := (E0 _ _ hvar).se X F W ge
          have e2 : E.ev Γ (.var i) = fun s h => getS s i h := by funext s h; simp only [E.ev]
          rw [e2] at this
          exact this
        obtain ⟨kd, xe⟩ := kx
        refine ss_dlp ?_
        unfold dlK at hkx
        split at hkx
        · split at hkx
          · injection hkx with hkx
            injection hkx with e1 e2
            subst e1 e2
            exact ss_for g.po (ge.calm hcal) (fun x => rfl) (si_keys sv) (a1 X F W ge) (a2 F) (cutB_ok (sb_map ih h3))
          · cases hkx
        · split at hkx
          · rename_i hit
            injection hkx with hkx
            injection hkx with e1 e2
            subst e1 e2
            obtain ⟨ha, hl⟩ := hit
            subst ha
            have hg : gt.1 = true := by simpa using hz
            unfold compG at h2
            split at h2
            · obtain ⟨i', _, rfl⟩ := map_some h2
              cases hg
            · exact ss_for g.po (ge.calm hcal) (fun x => rfl) (si_items sv rfl hl) (a1 X F W ge) (a2 F) (cutB_ok (sb_map ih h3))
            · cases h2
          · cases hkx
        · cases hkx
      · obtain ⟨ks, h1, h⟩ := bind_some h
        obtain ⟨gt, h2, h⟩ := bind_some h
        split at h
        rotate_left
        · cases h
        rename_i hz
        rw [Bool.and_eq_true] at hz
        obtain ⟨hz, hcal⟩ := hz
        obtain ⟨b, h3, rfl⟩ := map_some h
        have ev : S.ev Γ N (.loop (c.cut pos) ks.1 ks.2 gt.1 gt.2 b) = fun s h => ((E.evs Γ ks.2 s h).bind (itG ks.1)).thenO s fun z h => forC z.c (turnO (tgF gt.1 gt.2) (cutB (c.cut pos) (S.evs Γ N b))) z.ds s h := by funext s h; simp only [S.ev]
        rw [ev]
        obtain ⟨a1, a2⟩ := comp_tg (Γ := Γ) (k := k) h2
        obtain ⟨i1, i2⟩ := compI_ok E0 h1 ge tg (zip_tup hz h2)
        exact ss_for g.po (ge.calm hcal) i2 i1 (a1 X F W ge) (a2 F) (cutB_ok (sb_map ih h3))
    · rename_i t body pos
      obtain ⟨x, h1, h⟩ := bind_some h
      obtain ⟨b, h2, rfl⟩ := map_some h
      have ev : S.ev Γ N (.whl (c.cut pos) x b) = fun s h => whL (x.ev Γ) (cutB (c.cut pos) (S.evs Γ N b)) N s h := by funext s h; simp only [S.ev]
      rw [ev]
      exact ss_while N g.po ((E0 _ x h1).st X F W ge) (cutB_ok (sb_map ih h2))
    · rename_i f es kws cpos pos
      obtain ⟨x, h1, rfl⟩ := map_some h
      have ev : S.ev Γ N (.expr x) = fun s h => (x.ev Γ s h).thenO s fun _ h => .nx s h := by funext s h; simp only [S.ev]
      rw [ev]
      exact ss_expr rfl ((E0 _ x h1).se X F W ge)
    · injection h with h
      subst h
      have ev : S.ev Γ N .pass = fun s h => .nx s h := by funext s h; simp only [S.ev]
      rw [ev]; exact ss_pass
    · injection h with h
      subst h
      have ev : S.ev Γ N .brk = fun s h => .bk s h := by funext s h; simp only [S.ev]
      rw [ev]; exact ss_break
    · injection h with h
      subst h
      have ev : S.ev Γ N .cont = fun s h => .ct s h := by funext s h; simp only [S.ev]
      rw [ev]; exact ss_continue
    · rename_i x px e cp pos
      split at h
      · rename_i hh
        simp only [Bool.and_eq_true, decide_eq_true_eq] at hh
        obtain ⟨⟨⟨c1, c2⟩, c3⟩, c4⟩ := hh
        split at h
        · rename_i hx
          subst hx
          obtain ⟨y, h1, rfl⟩ := map_some h
          have ev : S.ev Γ N (.rsS y) = fun s h => (y.ev Γ s h).thenO s (rsVO s) := by funext s h; simp only [S.ev]
          rw [ev]
          exact ss_raiseS ge.exc c2 ge.K (ge.calm c1) (ge.room c1) ge.tk (ge.gl _ c3) (star_each (compE_star h1)) ((E0 _ y h1).se X F W ge)
        · rename_i hx
          split at h
          · injection h with h
            subst h
            have ev : S.ev Γ N (.rs x) = fun s h => .rs x none s h := by funext s h; simp only [S.ev]
            rw [ev]
            exact ss_raise ge.exc c2 hx ge.K (ge.calm c1) ge.tk (ge.gl _ c3) (plain_of c4).1
          · cases h
      · injection h with h
        subst h
        have ev : S.ev Γ N .no = fun s h => .stk := by funext s h; simp only [S.ev]
        rw [ev]; exact ss_never
    · injection h with h
      subst h
      have ev : S.ev Γ N .no = fun s h => .stk := by funext s h; simp only [S.ev]
      rw [ev]; exact ss_never
    · rename_i y np b0 suite pos' pos
      split at h
      · rename_i hh
        simp only [Bool.and_eq_true, decide_eq_true_eq] at hh
        obtain ⟨⟨⟨c1, c2⟩, c3⟩, c4⟩ := hh
        obtain ⟨b, h1, h⟩ := bind_some h
        obtain ⟨su, h2, rfl⟩ := map_some h
        have ev : S.ev Γ N (.tr c.exs y none b su) = trO c.exs y none (S.evs Γ N b) (S.evs Γ N su) := by funext s h; simp only [S.ev]
        rw [ev]
        exact ss_try0 ge.exc c1 c2 ge.K (ge.gl _ c3) (plain_of c4).1 g.st g.fm ge.tk (fun W' pn xe tk po => sb_map (fun st s h => compS_ok (N := N) n (g.tr tk po) st s h) h1) (fun a pn => sb_map (fun st s h => compS_ok (N := N) n (g.suite a pn) st s h) h2)
      · cases h
    · rename_i y np x b0 suite pos' pos
      split at h
      · rename_i hh
        simp only [Bool.and_eq_true, decide_eq_true_eq] at hh
        obtain ⟨⟨⟨⟨c1, c2⟩, c3⟩, c4⟩, c5⟩ := hh
        obtain ⟨i, h0, h⟩ := bind_some h
        obtain ⟨b, h1, h⟩ := bind_some h
        obtain ⟨su, h2, rfl⟩ := map_some h
        have ev : S.ev Γ N (.tr c.exs y (some i) b su) = trO c.exs y (some i) (S.evs Γ N b) (S.evs Γ N su) := by funext s h; simp only [S.ev]
        rw [ev]
        have hln : X.env.kindOf x = some .local := by
          show X.env.scope.names.lookup x = _
          rw [g.sc]
          exact eq_of_beq c5
        exact ss_try ge.exc c1 c2 ge.K (ge.gl _ c3) (plain_of c4).1 g.st g.fm (by rw [ge.N]; exact ge.nd) (by rw [ge.N]; exact ixOf_get h0) hln ge.tk (fun W' pn xe tk po => sb_map (fun st s h => compS_ok (N := N) n (g.tr tk po) st s h) h1) (fun a pn => sb_map (fun st s h => compS_ok (N := N) n (g.suite a pn) st s h) h2)
      · cases h
    · cases h
end
/-! ### defs -/
/- what is handed back: the store's new objects are gone, what they held goes along -/
mutual
def D.fz (k : Nat) (f : Nat → D) : D → D
  | .ref n => if n < k then .ref n else f n
  | .tup l => .tup (fzL k f l)
  | .vl l => .vl (fzL k f l)
  | .non => .non
  | .bl b => .bl b
  | .int i => .int i
  | .str x => .str x
  | .sl l => .sl l
  | .vd k l => .vd k l
  | .exc c p => .exc c p
def fzL (k : Nat) (f : Nat → D) : List D → List D
  | [] => []
  | d :: r => d.fz k f :: fzL k f r
end
def fzR : Nat → Hs → Nat → Nat → D
  | 0, _, _, n => .ref n
  | f + 1, h, k, n => match h[n]? with
    | some (.lst l) => .vl (fzL k (fzR f h k) l)
    | some (.dic ks l) => .vd ks (fzL k (fzR f h k) l)
    | _ => .ref n
def fzD (h : Hs) (k : Nat) (d : D) : D := d.fz k (fzR 3 h k)
open Classical in
/-- back from a def -/
noncomputable def backR (keep : Bool) (h0 : Hs) (d : D) (h : Hs) : R D := match keep with
  | true => .ok d h
  | false => if (fzD h h0.length d).bel h0.length = true ∧ ClB h0 h then .ok (fzD h h0.length d) (h.take h0.length) else .stk
section
variable {F : Fr} {G G' : Gh} {H H' : Hp} {h h' : Hs} {k : Nat}
mutual
theorem VR.fz (r : HR F G H h) (f : Nat → D) (hf : ∀ n v, k ≤ n → VR F G H (.ref n) v → (f n).bel k = true → VR F (G.cut k) H (f n) v) : ∀ (d : D) {v : V}, (d.fz k f).bel k = true → VR F G H d v → VR F (G.cut k) H (d.fz k f) v
  | .non, _, b, h => VR.cut r k _ b h
  | .bl _, _, b, h => VR.cut r k _ b h
  | .int _, _, b, h => VR.cut r k _ b h
  | .str _, _, b, h => VR.cut r k _ b h
  | .exc _ _, _, b, h => VR.cut r k _ b h
  | .sl l, _, b, h => VR.cut r k _ b h
  | .vd ks l, _, b, h => VR.cut r k _ b h
  | .tup l, _, b, h => by
    obtain ⟨p, xs, e, hs, hl⟩ := vr_tup.mp h
    exact vr_tup.mpr ⟨p, xs, e, hs, VRL.fz r f hf l (by simpa [D.fz, D.bel] using b) hl⟩
  | .vl l, _, b, h => by
    obtain ⟨p, xs, e, hs, hl⟩ := vr_vl.mp h
    exact vr_vl.mpr ⟨p, xs, e, ⟨hs.1, fun w => hs.2 w.1⟩, VRL.fz r f hf l (by simpa [D.fz, D.bel] using b) hl⟩
  | .ref n, _, b, h => by
    by_cases hn : n < k
    · have e : (D.ref n).fz k f = .ref n := by unfold D.fz; rw [if_pos hn]
      rw [e] at b ⊢
      exact VR.cut r k _ b h
    · have e : (D.ref n).fz k f = f n := by unfold D.fz; rw [if_neg hn]
      rw [e] at b ⊢
      exact hf n _ (by omega) h b
theorem VRL.fz (r : HR F G H h) (f : Nat → D) (hf : ∀ n v, k ≤ n → VR F G H (.ref n) v → (f n).bel k = true → VR F (G.cut k) H (f n) v) : ∀ (l : List D) {xs : List V}, belL k (fzL k f l) = true → VRL F G H l xs → VRL F (G.cut k) H (fzL k f l) xs
  | [], _, _, hh => vrl_nil.mpr (vrl_nil.mp hh)
  | d :: t, _, b, hh => by
    obtain ⟨v, vr, e, h1, h2⟩ := vrl_cons.mp hh
    have b' : (d.fz k f).bel k = true ∧ belL k (fzL k f t) = true := by simpa [fzL, belL] using b
    exact vrl_cons.mpr ⟨v, vr, e, VR.fz r f hf d b'.1 h1, VRL.fz r f hf t b'.2 h2⟩
end
theorem fzR_ok (r : HR F G H h) : ∀ (m n : Nat) (v : V), k ≤ n → VR F G H (.ref n) v → (fzR m h k n).bel k = true → VR F (G.cut k) H (fzR m h k n) v
  | 0, n, v, hn, x, b => by simp [fzR, D.bel] at b; omega
  | m + 1, n, v, hn, x, b => by
    unfold fzR at b ⊢
    split at b
    · rename_i l e
      obtain ⟨p, xs, rfl, hp, hu, hl⟩ := ref_lst r x e
      exact vr_vl.mpr ⟨p, xs, rfl, ⟨.inl hu, fun w => w.2 n hn hp⟩, VRL.fz r _ (fun n v h1 h2 h3 => fzR_ok r m n v h1 h2 h3) l (by simpa [D.bel] using b) hl⟩
    · rename_i ks l e
      obtain ⟨p, rfl, hp⟩ := vr_ref.mp x
      obtain ⟨p', hp', u, hu, qs, vs, rfl, hl, h1, h2⟩ := r.obj n _ e
      rw [hp] at hp'
      injection hp' with hp'
      subst hp'
      have b' : belL k ks = true ∧ belL k (fzL k (fzR m h k) l) = true := by simpa [D.bel] using b
      exact vr_vd.mpr ⟨p, qs, vs, rfl, ⟨hu, fun w => w.2 n hn hp⟩, hl, VRL.cut r k ks b'.1 h1, VRL.fz r _ (fun n v h1 h2 h3 => fzR_ok r m n v h1 h2 h3) l b'.2 h2⟩
    · simp [D.bel] at b; omega
/-- a value handed back -/
theorem back_ok {h0 : Hs} {keep : Bool} {d z : D} {v : V} (r0 : HR F G H h0) (T : Step G H G' H') (r : HR F G' H' h) (x : VR F G' H' d v) (e : backR keep h0 d h = .ok z h') : ∃ G2, Step G H G2 H' ∧ HR F G2 H' h' ∧ VR F G2 H' z v := by
  cases keep with
  | true =>
    injection e with e1 e2
    subst e1 e2
    exact ⟨G', T, r, x⟩
  | false =>
    unfold backR at e
    dsimp only at e
    split at e
    · rename_i hb
      obtain ⟨hb, hc⟩ := hb
      injection e with e1 e2
      subst e1 e2
      exact ⟨G'.cut h0.length, Step.cut r0 r (Nat.le_refl _) T, r.cut _ (hc.cl r0), VR.fz r _ (fun n v h1 h2 h3 => fzR_ok r 3 n v h1 h2 h3) d hb x⟩
    · cases e
end
open Classical in
noncomputable def runF (Γ : Mir) (keep : Bool) (n N np : Nat) (b : List S) (ds : List D) (h : Hs) : R D :=
  if ds.length = np then match S.evs Γ n b (ds.map some ++ List.replicate (N - np) none) h with
    | .rt d h' => backR keep h d h'
    | .nx _ h' => backR keep h .non h'
    | .rs c p _ h' => if ClB h h' then .rs c p (h'.take h.length) else .stk
    | _ => .stk
  else .stk
section
variable {P : Program} {w : World} {K : PySem.W.Frag} {mg : Str → Option Value} {base : Heap} {Γ : Mir} {F : Fr}
/-- the lower defs, by their names -/
abbrev Low (P : Program) (w : World) (F : Fr) (mg : Str → Option Value) (base : Heap) (Γ : Mir) (fid : List (Str × Nat)) (k : Nat) : Prop :=
  ∀ x j, fid.lookup x = some j → ∃ f fd ps, mg x = some (.ref f) ∧ PySem.W.keepIn F.K (.ref f) = true ∧ Binds F.K fd ps [] ∧ FnOk P w F.K mg base (L2N.CX P w) k f fd ps (spOf F (Γ j).1 (Γ j).2)
theorem Low.mono {fid : List (Str × Nat)} {j k : Nat} (h : Low P w F mg base Γ fid j) (l : j ≤ k) : Low P w F mg base Γ fid k := fun x i e => by
  obtain ⟨f, fd, ps, a, b, c, d⟩ := h x i e
  exact ⟨f, fd, ps, a, b, c, d.mono l⟩
theorem st_start {G : Gh} {H : Hp} {h : Hs} {N : Nat} {ds : List D} {vs : List V} (hr : HR F G H h) (r : VRL F G H ds vs) :
    St F G h (ds.map some ++ List.replicate (N - ds.length) none) (vs.map some ++ List.replicate (N - vs.length) none) H := by
  have l1 := r.length
  refine ⟨fun i d e => ?_, hr, by simp [l1]⟩
  rcases Nat.lt_or_ge i ds.length with hl | hl
  · rw [List.getElem?_append_left (by simpa using hl), List.getElem?_map] at e
    cases q : ds[i]? with
    | none => rw [q] at e; cases e
    | some d' =>
      rw [q] at e
      injection e with e
      injection e with e
      subst e
      obtain ⟨v, a, b⟩ := VRL.get r q
      refine ⟨v, ?_, b⟩
      rw [List.getElem?_append_left (by rw [List.length_map, l1]; exact hl), List.getElem?_map, a]
      rfl
  · rw [List.getElem?_append_right (by simpa using hl)] at e
    rw [List.getElem?_replicate] at e
    split at e
    · injection e with e; cases e
    · cases e
theorem fn_run {x qual : Str} {st : Stmt} {f : Addr} {fd : FuncData} {ps : List Str} {k n m : Nat} {keep : Bool} {c : Cfg} {b : List S} (Fn : Fun F.K x qual st f fd) (Sc : FnScope c.N ps (defScope st)) (hsc : c.sc = defScope st)
    (hc : mapO (compS m c m) (defBody st) = some b) (hblt : ∀ x ∈ c.blt, mg x = none) (hfs : Low P w F mg base Γ c.fid k)
    (hcst : ∀ x d, c.cst.lookup x = some d → ∃ u v, mg x = some u ∧ RelV v u ∧ ∀ G H, VR F G H d v) (hex : ExcT F mg c.exs c.ask) (hins : ∀ n ∈ c.cl.cs, InsC F c.cl.fl n) (hcls : ClsOk P w F mg base Γ c.cl k) (hkds : ∀ x t, c.kd.lookup x = some t → ∃ d, mg x = some (.ref d) ∧ KTab F.K w d t) (hcal : c.calm = true) : FnOk P w F.K mg base (L2N.CX P w) (k + 1) f fd ps (spOf F ps.length (runF Γ keep n c.N.length ps.length b)) := by
  refine L2.Fun_okN Fn Sc (fun vs H Q E h => ?_) fun cdv A outer s H vs Q E hr h => ?_
  · obtain ⟨G, hh, ds, l, _, r, _⟩ := h
    rw [r.length, l]
  · obtain ⟨G, hh, ds, l, r0, r, o⟩ := h
    have gs : GoodS (cxOf (L2N.CX P w) P w F.K mg base c.N qual (defScope st) f cdv A outer s H E) F (fun cls d _ H => E cls d H) Γ c k := by
      refine ⟨⟨rfl, Sc.nd, rfl, fun _ => rfl, fun y h => ?_, fun y h => ?_, fun y h => ⟨?_, .inl rfl⟩, fun y h => ?_, hblt, fun _ => hr, ?_, fun z => (by rw [hcal] at z; cases z), fun _ => hfs, hins, fun _ => hcls, L2N.takes_of rfl rfl rfl rfl, hex, hcst, hkds⟩, passes_of rfl, hsc.symm, Sc.kind, rfl, rfl⟩
      · rw [hsc] at h
        unfold visC at h
        show (defScope st).names.lookup y = _ ∨ (defScope st).names.lookup y = _ ∨ (defScope st).names.lookup y = _
        split at h
        · exact .inl ‹_›
        · exact .inr (.inl ‹_›)
        · exact .inr (.inr ‹_›)
        · cases h
      · rw [hsc] at h; exact h
      · rw [hsc] at h
        unfold stoC at h
        show (defScope st).names.lookup y = _ ∨ (defScope st).names.lookup y = _
        split at h
        · exact .inl ‹_›
        · exact .inr ‹_›
        · cases h
      · rw [hsc] at h
        unfold glC at h
        show (defScope st).names.lookup y = _
        split at h
        · assumption
        · cases h
      · have := hr.un
        show (A.deeper _).units + 65 < cLine
        omega
    refine ⟨liftS F (fun cls d _ H => E cls d H) (S.evs Γ n b), sb_map (fun st' s' e => compS_ok m gs st' s' e) hc, ?_⟩
    have lv := r.length
    refine ⟨G, hh, ds.map some ++ List.replicate (c.N.length - ds.length) none, st_start r0 r, ?_⟩
    unfold runF at o
    rw [if_pos l, ← l] at o
    revert o
    cases S.evs Γ n b (ds.map some ++ List.replicate (c.N.length - ds.length) none) hh with
    | nx s' h' =>
      intro o G' σ' H' T t
      dsimp only at o
      cases q : backR keep hh .non h' with
      | ok z h2 =>
        rw [q] at o
        obtain ⟨G2, a1, a2, a3⟩ := back_ok r0 T t.hr (vr_non.mpr rfl) q
        exact o .non G2 H' a1 a2 a3
      | rs c p h2 => unfold backR at q; split at q <;> first | cases q | (split at q <;> cases q)
      | stk => rw [q] at o; exact o.elim
    | bk s' h' => exact fun o => o.elim
    | ct s' h' => exact fun o => o.elim
    | rt d h' =>
      intro o v G' H' T r' x
      dsimp only at o
      cases q : backR keep hh d h' with
      | ok z h2 =>
        rw [q] at o
        obtain ⟨G2, a1, a2, a3⟩ := back_ok r0 T r' x q
        exact o v G2 H' a1 a2 a3
      | rs c p h2 => unfold backR at q; split at q <;> first | cases q | (split at q <;> cases q)
      | stk => rw [q] at o; exact o.elim
    | rs c p s' h' =>
      intro o
      dsimp only at o
      by_cases hc : ClB hh h'
      · rw [if_pos hc] at o
        exact fun G' σ' H' dct T t pp => o _ H' dct (Step.cut r0 t.hr (Nat.le_refl _) T) (t.hr.cut _ (hc.cl r0)) pp.cut
      · rw [if_neg hc] at o
        exact o.elim
    | stk => exact fun o => o.elim
end
mutual
def D.beq : D → D → Bool
  | .non, .non => true
  | .bl a, .bl b => a == b
  | .int a, .int b => a == b
  | .str a, .str b => a == b
  | .tup a, .tup b => D.beqL a b
  | _, _ => false
def D.beqL : List D → List D → Bool
  | [], [] => true
  | a :: r, b :: t => D.beq a b && D.beqL r t
  | _, _ => false
end
mutual
def E.beq : E → E → Bool
  | .var i, .var j => i == j
  | .int i, .int j => i == j
  | .bl a, .bl b => a == b
  | .str a, .str b => a == b
  | .non, .non => true
  | .cst a, .cst b => D.beq a b
  | .op o a b, .op o' a' b' => decide (o = o') && E.beq a a' && E.beq b b'
  | .neg a, .neg b => E.beq a b
  | .not a, .not b => E.beq a b
  | .and a b, .and a' b' => E.beq a a' && E.beq b b'
  | .or a b, .or a' b' => E.beq a a' && E.beq b b'
  | .ite c a b, .ite c' a' b' => E.beq c c' && E.beq a a' && E.beq b b'
  | .ch o p a b c, .ch o' p' a' b' c' => decide (o = o') && decide (p = p') && E.beq a a' && E.beq b b' && E.beq c c'
  | .tup a, .tup b => E.beqL a b
  | .lst m a, .lst n b => m == n && E.beqL a b
  | .ix a b, .ix a' b' => E.beq a a' && E.beq b b'
  | .sl m a b c, .sl m' a' b' c' => m == m' && E.beq a a' && E.beqL b b' && E.beqL c c'
  | .rev m a, .rev m' a' => m == m' && E.beq a a'
  | .lrng m k l, .lrng m' k' l' => m == m' && k == k' && E.beqL l l'
  | .xf x l, .xf x' l' => decide (x = x') && E.beqL l l'
  | .dsp q l, .dsp q' l' => decide (q = q') && E.beqL l l'
  | .dnw m, .dnw m' => m == m'
  | .dnt, .dnt => true
  | .kin g t a, .kin g' t' a' => g == g' && decide (t = t') && E.beq a a'
  | .kix t a, .kix t' a' => decide (t = t') && E.beq a a'
  | .fld cs f e, .fld cs' f' e' => decide (cs = cs') && decide (f = f') && E.beq e e'
  | .mcl ms m o l, .mcl ms' m' o' l' => decide (ms = ms') && decide (m = m') && E.beq o o' && E.beqL l l'
  | .new c j l, .new c' j' l' => decide (c = c') && j == j' && E.beqL l l'
  | .d1 a b, .d1 a' b' => E.beq a a' && E.beq b b'
  | .mth me o l, .mth me' o' l' => decide (me = me') && E.beq o o' && E.beqL l l'
  | .bi b l, .bi b' l' => decide (b = b') && E.beqL l l'
  | .isi T e, .isi T' e' => decide (T = T') && E.beq e e'
  | .own c a b, .own c' a' b' => c == c' && E.beq a a' && E.beq b b'
  | .isE cs y e, .isE cs' y' e' => decide (cs = cs') && decide (y = y') && E.beq e e'
  | .had cs e, .had cs' e' => decide (cs = cs') && E.beq e e'
  | .call j l, .call j' l' => j == j' && E.beqL l l'
  | .lc m k a tp is t e vs, .lc m' k' a' tp' is' t' e' vs' => m == m' && k == k' && E.beqL a a' && tp == tp' && is == is' && E.beqL t t' && E.beq e e' && vs == vs'
  | _, _ => false
def E.beqL : List E → List E → Bool
  | [], [] => true
  | a :: r, b :: t => E.beq a b && E.beqL r t
  | _, _ => false
end
mutual
def S.beq : S → S → Bool
  | .set i e, .set j e' => i == j && E.beq e e'
  | .tset tp is e, .tset tp' is' e' => tp == tp' && is == is' && E.beq e e'
  | .store i k e, .store i' k' e' => E.beq i i' && E.beq k k' && E.beq e e'
  | .fst cs o f e, .fst cs' o' f' e' => decide (cs = cs') && E.beq o o' && decide (f = f') && E.beq e e'
  | .aug i o e, .aug i' o' e' => i == i' && decide (o = o') && E.beq e e'
  | .ret e, .ret e' => E.beq e e'
  | .retN, .retN => true
  | .expr e, .expr e' => E.beq e e'
  | .iff c a b, .iff c' a' b' => E.beq c c' && S.beqL a a' && S.beqL b b'
  | .dlp ct k i tp is b, .dlp ct' k' i' tp' is' b' => ct == ct' && k == k' && i == i' && tp == tp' && is == is' && S.beqL b b'
  | .loop ct k s tp is b, .loop ct' k' s' tp' is' b' => ct == ct' && k == k' && E.beqL s s' && tp == tp' && is == is' && S.beqL b b'
  | .whl ct c b, .whl ct' c' b' => ct == ct' && E.beq c c' && S.beqL b b'
  | .pass, .pass => true
  | .brk, .brk => true
  | .cont, .cont => true
  | .no, .no => true
  | .rs x, .rs y => decide (x = y)
  | .rsS e, .rsS e' => E.beq e e'
  | .tr cs y i b s, .tr cs' y' i' b' s' => decide (cs = cs') && decide (y = y') && decide (i = i') && S.beqL b b' && S.beqL s s'
  | _, _ => false
def S.beqL : List S → List S → Bool
  | [], [] => true
  | a :: r, b :: t => S.beq a b && S.beqL r t
  | _, _ => false
end
mutual
theorem D.beq_eq : ∀ (a b : D), D.beq a b = true → a = b
  | .non, b, h => by cases b <;> simp_all [D.beq]
  | .bl a, b, h => by cases b <;> simp_all [D.beq]
  | .int a, b, h => by cases b <;> simp_all [D.beq]
  | .str a, b, h => by cases b <;> simp_all [D.beq]
  | .tup a, b, h => by
    cases b <;> simp [D.beq] at h
    rename_i l
    rw [D.beqL_eq a l h]
  | .vl l, b, h => by cases b <;> simp_all [D.beq]
  | .sl l, b, h => by cases b <;> simp_all [D.beq]
  | .vd k l, b, h => by cases b <;> simp_all [D.beq]
  | .ref n, b, h => by cases b <;> simp_all [D.beq]
  | .exc c p, b, h => by cases b <;> simp_all [D.beq]
theorem D.beqL_eq : ∀ (a b : List D), D.beqL a b = true → a = b
  | [], b, h => by cases b <;> simp_all [D.beqL]
  | a :: r, b, h => by
    cases b <;> simp [D.beqL] at h
    rename_i b t
    rw [D.beq_eq a b h.1, D.beqL_eq r t h.2]
end
mutual
theorem E.beq_eq : ∀ (a b : E), E.beq a b = true → a = b
  | .var i, b, h => by cases b <;> simp_all [E.beq]
  | .int i, b, h => by cases b <;> simp_all [E.beq]
  | .bl i, b, h => by cases b <;> simp_all [E.beq]
  | .str i, b, h => by cases b <;> simp_all [E.beq]
  | .non, b, h => by cases b <;> simp_all [E.beq]
  | .cst d, b, h => by
    cases b <;> simp [E.beq] at h
    rw [D.beq_eq _ _ h]
  | .op o x y, b, h => by
    cases b <;> simp [E.beq] at h
    rw [h.1.1, E.beq_eq _ _ h.1.2, E.beq_eq _ _ h.2]
  | .neg x, b, h => by
    cases b <;> simp [E.beq] at h
    rw [E.beq_eq _ _ h]
  | .not x, b, h => by
    cases b <;> simp [E.beq] at h
    rw [E.beq_eq _ _ h]
  | .and x y, b, h => by
    cases b <;> simp [E.beq] at h
    rw [E.beq_eq _ _ h.1, E.beq_eq _ _ h.2]
  | .or x y, b, h => by
    cases b <;> simp [E.beq] at h
    rw [E.beq_eq _ _ h.1, E.beq_eq _ _ h.2]
  | .ite x y z, b, h => by
    cases b <;> simp [E.beq] at h
    rw [E.beq_eq _ _ h.1.1, E.beq_eq _ _ h.1.2, E.beq_eq _ _ h.2]
  | .ch o p x y z, b, h => by
    cases b <;> simp [E.beq] at h
    rw [h.1.1.1.1, h.1.1.1.2, E.beq_eq _ _ h.1.1.2, E.beq_eq _ _ h.1.2, E.beq_eq _ _ h.2]
  | .tup l, b, h => by
    cases b <;> simp [E.beq] at h
    rw [E.beqL_eq _ _ h]
  | .dnw m, b, h => by
    cases b <;> simp [E.beq] at h
    rw [h]
  | .dnt, b, h => by
    cases b <;> simp [E.beq] at h
    rfl
  | .kin g t a, b, h => by
    cases b <;> simp [E.beq] at h
    rw [h.1.1, h.1.2, E.beq_eq _ _ h.2]
  | .kix t a, b, h => by
    cases b <;> simp [E.beq] at h
    rw [h.1, E.beq_eq _ _ h.2]
  | .fld cs f e, b, h => by
    cases b <;> simp [E.beq] at h
    rw [h.1.1, h.1.2, E.beq_eq _ _ h.2]
  | .mcl ms m o l, b, h => by
    cases b <;> simp [E.beq] at h
    rw [h.1.1.1, h.1.1.2, E.beq_eq _ _ h.1.2, E.beqL_eq _ _ h.2]
  | .new c j l, b, h => by
    cases b <;> simp [E.beq] at h
    rw [h.1.1, h.1.2, E.beqL_eq _ _ h.2]
  | .d1 x y, b, h => by
    cases b <;> simp [E.beq] at h
    rw [E.beq_eq _ _ h.1, E.beq_eq _ _ h.2]
  | .dsp q l, b, h => by
    cases b <;> simp [E.beq] at h
    rw [h.1, E.beqL_eq _ _ h.2]
  | .lst m l, b, h => by
    cases b <;> simp [E.beq] at h
    rw [h.1, E.beqL_eq _ _ h.2]
  | .rev m x, b, h => by
    cases b <;> simp [E.beq] at h
    rw [h.1, E.beq_eq _ _ h.2]
  | .lrng m k l, b, h => by
    cases b <;> simp [E.beq] at h
    rw [h.1.1, h.1.2, E.beqL_eq _ _ h.2]
  | .xf x l, b, h => by
    cases b <;> simp [E.beq] at h
    rw [h.1, E.beqL_eq _ _ h.2]
  | .mth me o l, b, h => by
    cases b <;> simp [E.beq] at h
    rw [h.1.1, E.beq_eq _ _ h.1.2, E.beqL_eq _ _ h.2]
  | .ix x y, b, h => by
    cases b <;> simp [E.beq] at h
    rw [E.beq_eq _ _ h.1, E.beq_eq _ _ h.2]
  | .sl m x y z, b, h => by
    cases b <;> simp [E.beq] at h
    rw [h.1.1.1, E.beq_eq _ _ h.1.1.2, E.beqL_eq _ _ h.1.2, E.beqL_eq _ _ h.2]
  | .bi o l, b, h => by
    cases b <;> simp [E.beq] at h
    rw [h.1, E.beqL_eq _ _ h.2]
  | .isi T e, b, h => by
    cases b <;> simp [E.beq] at h
    rw [h.1, E.beq_eq _ _ h.2]
  | .own k x y, b, h => by
    cases b <;> simp [E.beq] at h
    rw [h.1.1, E.beq_eq _ _ h.1.2, E.beq_eq _ _ h.2]
  | .isE cs y e, b, h => by
    cases b <;> simp [E.beq] at h
    rw [h.1.1, h.1.2, E.beq_eq _ _ h.2]
  | .had cs e, b, h => by
    cases b <;> simp [E.beq] at h
    rw [h.1, E.beq_eq _ _ h.2]
  | .call j l, b, h => by
    cases b <;> simp [E.beq] at h
    rw [h.1, E.beqL_eq _ _ h.2]
  | .lc m k a tp is t e vs, b, h => by
    cases b <;> simp [E.beq] at h
    obtain ⟨⟨⟨⟨⟨⟨⟨h0, h1⟩, h2⟩, h3⟩, h4⟩, h5⟩, h6⟩, h7⟩ := h
    rw [h0, h1, E.beqL_eq _ _ h2, h3, h4, E.beqL_eq _ _ h5, E.beq_eq _ _ h6, h7]
theorem E.beqL_eq : ∀ (a b : List E), E.beqL a b = true → a = b
  | [], b, h => by cases b <;> simp_all [E.beqL]
  | a :: r, b, h => by
    cases b <;> simp [E.beqL] at h
    rename_i b t
    rw [E.beq_eq a b h.1, E.beqL_eq r t h.2]
end
mutual
theorem S.beq_eq : ∀ (a b : S), S.beq a b = true → a = b
  | .set i e, b, h => by
    cases b <;> simp [S.beq] at h
    rw [h.1, E.beq_eq _ _ h.2]
  | .tset tp is e, b, h => by
    cases b <;> simp [S.beq] at h
    rw [h.1.1, h.1.2, E.beq_eq _ _ h.2]
  | .store i k e, b, h => by
    cases b <;> simp [S.beq] at h
    rw [E.beq_eq _ _ h.1.1, E.beq_eq _ _ h.1.2, E.beq_eq _ _ h.2]
  | .fst cs o f e, b, h => by
    cases b <;> simp [S.beq] at h
    rw [h.1.1.1, E.beq_eq _ _ h.1.1.2, h.1.2, E.beq_eq _ _ h.2]
  | .aug i o e, b, h => by
    cases b <;> simp [S.beq] at h
    rw [h.1.1, h.1.2, E.beq_eq _ _ h.2]
  | .ret e, b, h => by
    cases b <;> simp [S.beq] at h
    rw [E.beq_eq _ _ h]
  | .retN, b, h => by cases b <;> simp_all [S.beq]
  | .expr e, b, h => by
    cases b <;> simp [S.beq] at h
    rw [E.beq_eq _ _ h]
  | .iff c x y, b, h => by
    cases b <;> simp [S.beq] at h
    rw [E.beq_eq _ _ h.1.1, S.beqL_eq _ _ h.1.2, S.beqL_eq _ _ h.2]
  | .dlp ct k s tp is x, b, h => by
    cases b <;> simp [S.beq] at h
    obtain ⟨⟨⟨⟨⟨h0, h1⟩, h2⟩, h3⟩, h4⟩, h5⟩ := h
    rw [h0, h1, h2, h3, h4, S.beqL_eq _ _ h5]
  | .loop ct k s tp is x, b, h => by
    cases b <;> simp [S.beq] at h
    obtain ⟨⟨⟨⟨⟨h0, h1⟩, h2⟩, h3⟩, h4⟩, h5⟩ := h
    rw [h0, h1, E.beqL_eq _ _ h2, h3, h4, S.beqL_eq _ _ h5]
  | .whl ct c x, b, h => by
    cases b <;> simp [S.beq] at h
    rw [h.1.1, E.beq_eq _ _ h.1.2, S.beqL_eq _ _ h.2]
  | .pass, b, h => by cases b <;> simp_all [S.beq]
  | .brk, b, h => by cases b <;> simp_all [S.beq]
  | .cont, b, h => by cases b <;> simp_all [S.beq]
  | .no, b, h => by cases b <;> simp_all [S.beq]
  | .rs x, b, h => by
    cases b <;> simp [S.beq] at h
    rw [h]
  | .rsS e, b, h => by
    cases b <;> simp [S.beq] at h
    rw [E.beq_eq _ _ h]
  | .tr cs y i x z, b, h => by
    cases b <;> simp [S.beq] at h
    rw [h.1.1.1.1, h.1.1.1.2, h.1.1.2, S.beqL_eq _ _ h.1.2, S.beqL_eq _ _ h.2]
theorem S.beqL_eq : ∀ (a b : List S), S.beqL a b = true → a = b
  | [], b, h => by cases b <;> simp_all [S.beqL]
  | a :: r, b, h => by
    cases b <;> simp [S.beqL] at h
    rename_i b t
    rw [S.beq_eq a b h.1, S.beqL_eq r t h.2]
end
def isB : Option (List S) → List S → Bool
  | some a, b => S.beqL a b
  | none, _ => false
theorem comp_eq {o : Option (List S)} {b : List S} (h : isB o b = true) : o = some b := by
  cases o with
  | none => cases h
  | some a => rw [S.beqL_eq a b h]
/-! ### the joints -/
def mirA (l : List (Nat × Nat × (List D → Hs → R D))) : Mir := fun i => match l.lookup i with
  | some x => x
  | none => (0, fun _ _ => .stk)
section
variable {P : Program} {w : World} {K : PySem.W.Frag} {mg : Str → Option Value} {base : Heap} {Γ : Mir} {F : Fr}
theorem low_nil {k : Nat} : Low P w F mg base Γ [] k := fun x j h => by simp at h
theorem low_cons {k : Nat} {x : Str} {j : Nat} {fid : List (Str × Nat)} {f : Addr} {fd : FuncData} {ps : List Str} {np : Nat} {m : List D → Hs → R D} (h1 : mg x = some (.ref f)) (h2 : PySem.W.keepIn F.K (.ref f) = true) (h3 : Binds F.K fd ps []) (h4 : FnOk P w F.K mg base (L2N.CX P w) k f fd ps (spOf F np m))
    (e : Γ j = (np, m)) (r : Low P w F mg base Γ fid k) : Low P w F mg base Γ ((x, j) :: fid) k := fun y i h => by
  rw [List.lookup_cons] at h
  split at h
  · rename_i hy
    have hy := eq_of_beq hy
    subst hy
    injection h with h
    subst h
    exact ⟨f, fd, ps, h1, h2, h3, by rw [e]; exact h4⟩
  · exact r y i h
abbrev NiOk (P : Program) (w : World) (F : Fr) (mg : Str → Option Value) (base : Heap) (Γ : Mir) (l : List (Str × Nat)) (k : Nat) : Prop :=
  ∀ c j, l.lookup c = some j → ∃ C f fd ps k', k' + 1 ≤ k ∧ F.cls c = .ref C ∧ mg c = some (.ref C) ∧ Mk F.K C f ∧ Binds F.K fd ps [] ∧ FnOk P w F.K mg base (L2N.CX P w) k' f fd ps (spOf F (Γ j).1 (Γ j).2)
abbrev JsOk (P : Program) (w : World) (F : Fr) (mg : Str → Option Value) (base : Heap) (Γ : Mir) (m : Str) (js : List (Str × Nat)) (k : Nat) : Prop :=
  ∀ c j, js.lookup c = some j → ∃ C f fd ps, F.cls c = .ref C ∧ Cls F.K C ∧ Meth F.K C m f ∧ Binds F.K fd ps [] ∧ FnOk P w F.K mg base (L2N.CX P w) k f fd ps (spOf F (Γ j).1 (Γ j).2)
abbrev MtOk (P : Program) (w : World) (F : Fr) (mg : Str → Option Value) (base : Heap) (Γ : Mir) (l : List (Str × List (Str × Nat))) (k : Nat) : Prop :=
  ∀ m js, l.lookup m = some js → JsOk P w F mg base Γ m js k
theorem ni_nil {k : Nat} : NiOk P w F mg base Γ [] k := fun x j h => by simp at h
theorem ni_cons {k k' : Nat} {c : Str} {j : Nat} {l : List (Str × Nat)} {C f : Addr} {fd : FuncData} {ps : List Str} {np : Nat} {m : List D → Hs → R D} (h1 : F.cls c = .ref C) (h2 : mg c = some (.ref C)) (h3 : Mk F.K C f) (h4 : Binds F.K fd ps []) (h5 : FnOk P w F.K mg base (L2N.CX P w) k' f fd ps (spOf F np m)) (e : Γ j = (np, m)) (hk : k' + 1 ≤ k)
    (r : NiOk P w F mg base Γ l k) : NiOk P w F mg base Γ ((c, j) :: l) k := fun y i h => by
  rw [List.lookup_cons] at h
  split at h
  · rename_i hy
    have hy := eq_of_beq hy
    subst hy
    injection h with h
    subst h
    exact ⟨C, f, fd, ps, k', hk, h1, h2, h3, h4, by rw [e]; exact h5⟩
  · exact r y i h
theorem js_nil {k : Nat} {m : Str} : JsOk P w F mg base Γ m [] k := fun x j h => by simp at h
theorem js_cons {k : Nat} {m c : Str} {j : Nat} {l : List (Str × Nat)} {C f : Addr} {fd : FuncData} {ps : List Str} {np : Nat} {q : List D → Hs → R D} (h1 : F.cls c = .ref C) (h2 : Cls F.K C) (h3 : Meth F.K C m f) (h4 : Binds F.K fd ps []) (h5 : FnOk P w F.K mg base (L2N.CX P w) k f fd ps (spOf F np q)) (e : Γ j = (np, q))
    (r : JsOk P w F mg base Γ m l k) : JsOk P w F mg base Γ m ((c, j) :: l) k := fun y i h => by
  rw [List.lookup_cons] at h
  split at h
  · rename_i hy
    have hy := eq_of_beq hy
    subst hy
    injection h with h
    subst h
    exact ⟨C, f, fd, ps, h1, h2, h3, h4, by rw [e]; exact h5⟩
  · exact r y i h
theorem mt_nil {k : Nat} : MtOk P w F mg base Γ [] k := fun x j h => by simp at h
theorem mt_cons {k : Nat} {m : Str} {js : List (Str × Nat)} {l : List (Str × List (Str × Nat))} (h : JsOk P w F mg base Γ m js k) (r : MtOk P w F mg base Γ l k) : MtOk P w F mg base Γ ((m, js) :: l) k := fun y i h' => by
  rw [List.lookup_cons] at h'
  split at h'
  · rename_i hy
    have hy := eq_of_beq hy
    subst hy
    injection h' with h'
    subst h'
    exact h
  · exact r y i h'
theorem blt_nil : ∀ x ∈ ([] : List Str), mg x = none := fun x h => by cases h
theorem blt_cons {y : Str} {l : List Str} (h : mg y = none) (r : ∀ x ∈ l, mg x = none) : ∀ x ∈ y :: l, mg x = none := fun x hx => by
  rcases List.mem_cons.mp hx with e | e
  · rw [e]; exact h
  · exact r x e
abbrev KdsOk (w : World) (F : Fr) (mg : Str → Option Value) (l : List (Str × List (Str × Int))) : Prop := ∀ x t, l.lookup x = some t → ∃ d, mg x = some (.ref d) ∧ KTab F.K w d t
theorem kds_nil : KdsOk w F mg [] := fun x d h => by simp at h
theorem kds_cons {y : Str} {d : Addr} {t : List (Str × Int)} {l : List (Str × List (Str × Int))} (h : mg y = some (.ref d)) (T : KTab F.K w d t) (r : KdsOk w F mg l) : KdsOk w F mg ((y, t) :: l) := fun x u hx => by
  rw [List.lookup_cons] at hx
  split at hx
  · rename_i hy
    have hy := eq_of_beq hy
    subst hy
    injection hx with hx
    subst hx
    exact ⟨d, h, T⟩
  · exact r x u hx
theorem cst_str {y z : Str} {t : Tok} {l : List (Str × D)} (h : mg y = some (.str z t)) (r : ∀ x d, l.lookup x = some d → ∃ u v, mg x = some u ∧ RelV v u ∧ ∀ G H, VR F G H d v) : ∀ x d, ((y, D.str z) :: l).lookup x = some d → ∃ u v, mg x = some u ∧ RelV v u ∧ ∀ G H, VR F G H d v := fun x d hx => by
  rw [List.lookup_cons] at hx
  split at hx
  · rename_i hy
    have hy := eq_of_beq hy
    subst hy
    injection hx with hx
    subst hx
    exact ⟨_, .str z, h, ⟨t, rfl⟩, fun G H => vr_str.mpr rfl⟩
  · exact r x d hx
abbrev CstOk (F : Fr) (mg : Str → Option Value) (l : List (Str × D)) : Prop := ∀ x d, l.lookup x = some d → ∃ u v, mg x = some u ∧ RelV v u ∧ ∀ G H, VR F G H d v
theorem cst_nil : CstOk F mg [] := fun x d h => by simp at h
theorem cst_int {y : Str} {i : Int} {t : Tok} {l : List (Str × D)} (h : mg y = some (.int i t)) (r : CstOk F mg l) : CstOk F mg ((y, .int i) :: l) := fun x d hx => by
  rw [List.lookup_cons] at hx
  split at hx
  · rename_i hy
    have hy := eq_of_beq hy
    subst hy
    injection hx with hx
    subst hx
    exact ⟨_, .int i, h, ⟨t, rfl⟩, fun G H => vr_int.mpr rfl⟩
  · exact r x d hx
end
/-- the script, as it is given -/
def script (ns : List Int) : D := .sl (ns.map .int)
theorem law_sp {F : Fr} {m : List D → Hs → R D} {n : Nat} (hm : ∀ ns : List Int, ns.length ≤ n → ∃ h', m [script ns] [] = .ok (.bl true) h') {H : Hp} {a : Addr} {ns : List Int} (hl : ns.length ≤ n) (h0 : F.hot = none) (hS : SqL F.K H a (ns.map V.int)) :
    spOf F 1 m [.ref a] H (fun v _ => v = .bl true) fun _ _ _ => False := by
  refine ⟨⟨fun _ => none, fun _ => False⟩, [], [script ns], rfl, ⟨fun n o e => (nomatch e), fun n p e => (nomatch e), fun m n p e => (nomatch e), fun n p e => (nomatch e), fun p b => b.elim, fun a e => by rw [h0] at e; cases e⟩, ?_, ?_⟩
  · refine vrl_one.mpr (vr_sl.mpr ⟨a, ns.map V.int, rfl, ?_, vrl_of_ints⟩)
    rcases hS with h | h
    · exact .inl ⟨h, fun z => z⟩
    · exact .inr h
  · obtain ⟨h', e⟩ := hm ns hl
    rw [e]
    intro v G' H' T r x
    exact vr_bl.mp x
theorem law_walk {l : PySem.W.OpenLaw} {q : Program} {loose : List Str} {XP : (Str → Option Value) → Heap → Prop} {YP : World → Heap → Prop} {d : DefRec} {K : Params → PySem.W.Frag} {k : Nat} {x : Str} {F0 : PySem.W.Frag → Fr} {m : List D → Hs → R D} (hn : l.most = some 63) (hdf : d.params.defaults = []) (hr : Room k PySem.callerA)
    (hK : ∀ K, (F0 K).K = K) (hm : ∀ ns : List Int, ns.length ≤ 63 → ∃ h', m [script ns] [] = .ok (.bl true) h')
    (hh0 : ∀ K, (F0 K).hot = none) (hY : ∀ (w : World) (h : Heap), YP w h → (K w.params).In h)
    (F : ∀ (w : World) (mg : Str → Option Value) (fa : Addr) (h : Heap), (K w.params).In h → h.Ns mainGlobals mg → mg d.name = some (.ref fa) →
      ∃ fd : FuncData, (∀ (s : Shared) (u : Value), BindsTo s fd ⟨[u], []⟩ [(x, u)]) ∧ ∀ base : Heap, (K w.params).In base → base.Ns mainGlobals mg → FnOk l.prog w (K w.params) mg base (L2N.CX l.prog w) k fa fd [x] (spOf (F0 (K w.params)) 1 m)) :
    PySem.W.WalkO q loose XP YP l.row.toRowW d [] (fun f vs => PySem.call f vs) :=
  L2.walk_of (n := 63) (k := k) (x := x) (CX := fun w => L2N.CX l.prog w) (sp := fun w => spOf (F0 (K w.params)) 1 m) hn (by decide) hdf hr hY F (fun _ _ a ns hl _ hS => law_sp hm hl (hh0 _) (by rw [hK]; exact hS)) fun w H s e s' z => by
    obtain ⟨_, _, _, _, _, _, _, _, _, _, _, _, z⟩ := z
    exact z
end Gx

/-! G13: what a def computes: rewriting. -/
namespace Gx
open PySem L2
section
variable {Γ : Mir} {n : Nat} {s : SD} {h : Hs}
@[simp] theorem evs_nil : S.evs Γ n [] s h = .nx s h := by simp only [S.evs]
@[simp] theorem evs_cons {a : S} {r : List S} : S.evs Γ n (a :: r) s h = (a.ev Γ n s h).seq (S.evs Γ n r) := by simp only [S.evs]
@[simp] theorem s_set {i : Nat} {e : E} : S.ev Γ n (.set i e) s h = (e.ev Γ s h).thenO s (setO i s) := by simp only [S.ev]
@[simp] theorem s_tset {tp : Bool} {is : List Nat} {e : E} : S.ev Γ n (.tset tp is e) s h = (e.ev Γ s h).thenO s (tsetO tp is s) := by simp only [S.ev]
@[simp] theorem s_store {o k e : E} : S.ev Γ n (.store o k e) s h = storeO (e.ev Γ) (o.ev Γ) (k.ev Γ) s h := by simp only [S.ev]
@[simp] theorem s_aug {i : Nat} {o : Op} {e : E} : S.ev Γ n (.aug i o e) s h = augO i o.g (e.ev Γ) s h := by simp only [S.ev]
@[simp] theorem s_ret {e : E} : S.ev Γ n (.ret e) s h = (e.ev Γ s h).thenO s .rt := by simp only [S.ev]
@[simp] theorem s_retN : S.ev Γ n .retN s h = .rt .non h := by simp only [S.ev]
@[simp] theorem s_expr {e : E} : S.ev Γ n (.expr e) s h = (e.ev Γ s h).thenO s fun _ h => .nx s h := by simp only [S.ev]
@[simp] theorem s_iff {c : E} {a b : List S} : S.ev Γ n (.iff c a b) s h = (c.ev Γ s h).thenO s (ifO s (S.evs Γ n a) (S.evs Γ n b)) := by simp only [S.ev]
@[simp] theorem s_loop {ct : Bool} {k : Nat} {src : List E} {tp : Bool} {is : List Nat} {body : List S} : S.ev Γ n (.loop ct k src tp is body) s h = ((E.evs Γ src s h).bind (itG k)).thenO s fun z h => forC z.c (turnO (tgF tp is) (cutB ct (S.evs Γ n body))) z.ds s h := by simp only [S.ev]
@[simp] theorem s_whl {ct : Bool} {c : E} {body : List S} : S.ev Γ n (.whl ct c body) s h = whL (c.ev Γ) (cutB ct (S.evs Γ n body)) n s h := by simp only [S.ev]
@[simp] theorem s_pass : S.ev Γ n .pass s h = .nx s h := by simp only [S.ev]
@[simp] theorem s_brk : S.ev Γ n .brk s h = .bk s h := by simp only [S.ev]
@[simp] theorem s_cont : S.ev Γ n .cont s h = .ct s h := by simp only [S.ev]
@[simp] theorem s_no : S.ev Γ n .no s h = .stk := by simp only [S.ev]
@[simp] theorem e_var {i : Nat} : E.ev Γ (.var i) s h = getS s i h := by simp only [E.ev]
@[simp] theorem e_int {i : Int} : E.ev Γ (.int i) s h = .ok (.int i) h := by simp only [E.ev]
@[simp] theorem e_bl {i : Bool} : E.ev Γ (.bl i) s h = .ok (.bl i) h := by simp only [E.ev]
@[simp] theorem e_str {i : Str} : E.ev Γ (.str i) s h = .ok (.str i) h := by simp only [E.ev]
@[simp] theorem e_non : E.ev Γ .non s h = .ok .non h := by simp only [E.ev]
@[simp] theorem e_cst {d : D} : E.ev Γ (.cst d) s h = .ok d h := by simp only [E.ev]
@[simp] theorem e_op {o : Op} {a b : E} : E.ev Γ (.op o a b) s h = (a.ev Γ s h).bind fun x h1 => (b.ev Γ s h1).bind fun y h2 => ofO h2 (o.g h2 x y) := by simp only [E.ev, bin2]
@[simp] theorem e_neg {a : E} : E.ev Γ (.neg a) s h = (a.ev Γ s h).bind fun x h1 => ofO h1 (gNeg h1 x) := by simp only [E.ev, un1]
@[simp] theorem e_not {a : E} : E.ev Γ (.not a) s h = notR (a.ev Γ s h) := by simp only [E.ev]
@[simp] theorem e_and {a b : E} : E.ev Γ (.and a b) s h = andR (a.ev Γ s h) (b.ev Γ s) := by simp only [E.ev]
@[simp] theorem e_or {a b : E} : E.ev Γ (.or a b) s h = orR (a.ev Γ s h) (b.ev Γ s) := by simp only [E.ev]
@[simp] theorem e_ite {c a b : E} : E.ev Γ (.ite c a b) s h = iteR (c.ev Γ s h) (a.ev Γ s) (b.ev Γ s) := by simp only [E.ev]
theorem e_ch {o o' : Op} {p p' : Int → Int → Bool} {a b c : E} (h1 : o.p = some p) (h2 : o'.p = some p') : E.ev Γ (.ch o o' a b c) s h = chR p p' (a.ev Γ s h) (b.ev Γ s) (c.ev Γ s) := by simp only [E.ev, h1, h2]
@[simp] theorem e_tup {es : List E} : E.ev Γ (.tup es) s h = (E.evs Γ es s h).bind (DL gTup) := by simp only [E.ev]
@[simp] theorem e_dsp {qs : List Key} {es : List E} : E.ev Γ (.dsp qs es) s h = (E.evs Γ es s h).bind (dspO qs) := by simp only [E.ev]
@[simp] theorem e_dnw {m : Bool} : E.ev Γ (.dnw m) s h = dnwO m h := by simp only [E.ev]
@[simp] theorem e_dnt : E.ev Γ .dnt s h = .ok (.ref h.length) (h ++ [.dit [] []]) := by simp only [E.ev, dntO]
@[simp] theorem e_d1 {a b : E} : E.ev Γ (.d1 a b) s h = (a.ev Γ s h).bind fun x h1 => (b.ev Γ s h1).bind fun y h2 => d1O x y h2 := by simp only [E.ev]
@[simp] theorem s_dlp {ct tp : Bool} {kd i : Nat} {is : List Nat} {body : List S} : S.ev Γ n (.dlp ct kd i tp is body) s h = dlpO kd i (turnO (tgF tp is) (cutB ct (S.evs Γ n body))) s h := by simp only [S.ev]
@[simp] theorem dnwO_t : dnwO true h = .ok (.ref h.length) (h ++ [.dic [] []]) := by unfold dnwO; simp only
@[simp] theorem dnwO_f : dnwO false h = .ok (.vd [] []) h := by unfold dnwO; simp only
@[simp] theorem d1O_int {i : Int} {b : D} : d1O (.int i) b h = .ok (.ref h.length) (h ++ [.dic [.int i] [b]]) := by simp [d1O, kyD, kD]
@[simp] theorem e_lst {m : Bool} {es : List E} : E.ev Γ (.lst m es) s h = (E.evs Γ es s h).bind (mkL m) := by simp only [E.ev]
@[simp] theorem e_ix {a b : E} : E.ev Γ (.ix a b) s h = (a.ev Γ s h).bind fun x h1 => (b.ev Γ s h1).bind fun y h2 => ofO h2 (gIx h2 x y) := by simp only [E.ev, bin2]
@[simp] theorem e_sl {m : Bool} {a : E} {lo hi : List E} : E.ev Γ (.sl m a lo hi) s h = slR m (a.ev Γ s h) (E.evO Γ lo s) (E.evO Γ hi s) := by simp only [E.ev]
@[simp] theorem e_rev {m : Bool} {a : E} : E.ev Γ (.rev m a) s h = (a.ev Γ s h).bind (revG m) := by simp only [E.ev]
@[simp] theorem e_bi {b : Bi} {es : List E} : E.ev Γ (.bi b es) s h = (E.evs Γ es s h).bind b.g := by simp only [E.ev]
@[simp] theorem e_isi {T : String} {e : E} : E.ev Γ (.isi T e) s h = (e.ev Γ s h).bind (isiG T) := by simp only [E.ev]
@[simp] theorem e_lrng {m : Bool} {k : Nat} {es : List E} : E.ev Γ (.lrng m k es) s h = (E.evs Γ es s h).bind (lrG m k) := by simp only [E.ev]
@[simp] theorem e_xf {x : Xf} {es : List E} : E.ev Γ (.xf x es) s h = (E.evs Γ es s h).bind x.g := by simp only [E.ev]
@[simp] theorem e_call {j : Nat} {es : List E} : E.ev Γ (.call j es) s h = (E.evs Γ es s h).bind (callR Γ j) := by simp only [E.ev]
@[simp] theorem e_kin {neg : Bool} {t : List (Str × Int)} {a : E} : E.ev Γ (.kin neg t a) s h = (a.ev Γ s h).bind fun x h1 => ofO h1 (kinF neg t h1 x) := by simp only [E.ev, un1]
@[simp] theorem e_kix {t : List (Str × Int)} {a : E} : E.ev Γ (.kix t a) s h = (a.ev Γ s h).bind fun x h1 => ofO h1 (kixF t h1 x) := by simp only [E.ev, un1]
@[simp] theorem kinF_str {neg : Bool} {t : List (Str × Int)} {z : Str} : kinF neg t h (.str z) = some (.bl (xor neg (t.lookup z).isSome)) := by simp only [kinF]
@[simp] theorem kixF_str {t : List (Str × Int)} {z : Str} : kixF t h (.str z) = (t.lookup z).map .int := by simp only [kixF]
@[simp] theorem e_fld {cs : List Str} {f : Str} {e : E} : E.ev Γ (.fld cs f e) s h = (e.ev Γ s h).bind (fldG cs f) := by simp only [E.ev]
@[simp] theorem e_new {c : Str} {j : Nat} {es : List E} : E.ev Γ (.new c j es) s h = (E.evs Γ es s h).bind (newI c (callR Γ j)) := by simp only [E.ev]
@[simp] theorem e_mcl {ms : List (Str × Nat)} {m : Str} {o : E} {es : List E} : E.ev Γ (.mcl ms m o es) s h = mclR ms m (callR Γ) (o.ev Γ) (E.evs Γ es) s h := by simp only [E.ev]
@[simp] theorem s_fst {cs : List Str} {o : E} {f : Str} {e : E} : S.ev Γ n (.fst cs o f e) s h = fstO cs f (e.ev Γ) (o.ev Γ) s h := by simp only [S.ev]
@[simp] theorem e_mth {me : Me} {o : E} {es : List E} : E.ev Γ (.mth me o es) s h = mthR me.c me.g (o.ev Γ) (E.evs Γ es) s h := by simp only [E.ev]
@[simp] theorem e_lc {m : Bool} {k : Nat} {src : List E} {tp : Bool} {is : List Nat} {tst : List E} {elt : E} {vs : List Nat} : E.ev Γ (.lc m k src tp is tst elt vs) s h = ((E.evs Γ src s h).bind (itG k)).bind (lcO m (tgF tp is) (E.evT Γ tst) (E.ev Γ elt) vs s) := by simp only [E.ev]
@[simp] theorem es_nil : E.evs Γ [] s h = .ok [] h := by simp only [E.evs]
@[simp] theorem es_cons {e : E} {r : List E} : E.evs Γ (e :: r) s h = (e.ev Γ s h).bind fun d h1 => (E.evs Γ r s h1).bind fun ds h2 => .ok (d :: ds) h2 := by simp only [E.evs]
@[simp] theorem et_nil : E.evT Γ [] s h = .ok (.bl true) h := by simp only [E.evT]
@[simp] theorem et_cons {e : E} {r : List E} : E.evT Γ (e :: r) s h = e.ev Γ s h := by simp only [E.evT]
@[simp] theorem eo_nil : E.evO Γ [] s h = .ok none h := by simp only [E.evO]
@[simp] theorem eo_cons {e : E} {r : List E} : E.evO Γ (e :: r) s h = ixR (e.ev Γ s h) := by simp only [E.evO]
end
section
variable {α β : Type} {a : α} {f : α → Hs → R β} {s : SD} {h : Hs} {k : α → Hs → O} {c : Str} {p : Option Int} {g : SD → Hs → O} {d : D}
@[simp] theorem bind_ok : (R.ok a h).bind f = f a h := by generalize e : f a h = y; exact e
@[simp] theorem bind_stk : (R.stk).bind f = .stk := by cases hh : (R.stk).bind f <;> first | rfl | cases hh
@[simp] theorem bind_rs : (R.rs c p h).bind f = .rs c p h := by unfold R.bind; simp only
@[simp] theorem bind_ite {q : Prop} [Decidable q] {x y : R α} : (if q then x else y).bind f = if q then x.bind f else y.bind f := by split <;> rfl
@[simp] theorem thenO_ok : (R.ok a h).thenO s k = k a h := by generalize e : k a h = y; exact e
@[simp] theorem thenO_stk : (R.stk).thenO s k = .stk := by unfold R.thenO; simp only
@[simp] theorem thenO_rs : (R.rs c p h).thenO s k = .rs c p s h := by unfold R.thenO; simp only
@[simp] theorem thenO_ite {q : Prop} [Decidable q] {x y : R α} : (if q then x else y).thenO s k = if q then x.thenO s k else y.thenO s k := by split <;> rfl
@[simp] theorem seq_nx : (O.nx s h).seq g = g s h := by generalize e : g s h = y; exact e
@[simp] theorem seq_rt : (O.rt d h).seq g = .rt d h := by unfold O.seq; simp only
@[simp] theorem seq_bk : (O.bk s h).seq g = .bk s h := by unfold O.seq; simp only
@[simp] theorem seq_ct : (O.ct s h).seq g = .ct s h := by unfold O.seq; simp only
@[simp] theorem seq_rs : (O.rs c p s h).seq g = .rs c p s h := by unfold O.seq; simp only
@[simp] theorem seq_stk : (O.stk).seq g = .stk := by unfold O.seq; simp only
@[simp] theorem seq_ite {q : Prop} [Decidable q] {x y : O} : (if q then x else y).seq g = if q then x.seq g else y.seq g := by split <;> rfl
@[simp] theorem ofO_some : ofO h (some d) = .ok d h := by unfold ofO; simp only
@[simp] theorem ofO_ite {q : Prop} [Decidable q] {x y : Option D} : ofO h (if q then x else y) = if q then ofO h x else ofO h y := by split <;> rfl
theorem DL_def {g : Hs → List D → Option D} {ds : List D} : DL g ds h = ofO h (g h ds) := by unfold DL; simp only
@[simp] theorem getS_0 {r : SD} : getS (some d :: r) 0 h = .ok d h := by simp [getS]
@[simp] theorem getS_s {r : SD} {x : Option D} {i : Nat} : getS (x :: r) (i + 1) h = getS r i h := by simp [getS]
@[simp] theorem setO_of {i : Nat} (l : i < s.length) : setO i s d h = .nx (s.set i (some d)) h := by unfold setO; rw [if_pos l]
@[simp] theorem notR_bl {b : Bool} : notR (.ok (.bl b) h) = .ok (.bl (!b)) h := by unfold notR; rw [bind_ok]
@[simp] theorem andR_bl {b : Bool} {y : Hs → R D} : andR (.ok (.bl b) h) y = if b = true then y h else .ok (.bl false) h := by unfold andR; rw [bind_ok]; cases b <;> simp
@[simp] theorem orR_bl {b : Bool} {y : Hs → R D} : orR (.ok (.bl b) h) y = if b = true then .ok (.bl true) h else y h := by unfold orR; rw [bind_ok]; cases b <;> simp
@[simp] theorem iteR_bl {b : Bool} {x y : Hs → R D} : iteR (.ok (.bl b) h) x y = if b = true then x h else y h := by unfold iteR; rw [bind_ok]; cases b <;> simp
@[simp] theorem ifO_bl {b : Bool} {x y : SD → Hs → O} : ifO s x y (.bl b) h = if b = true then x s h else y s h := by unfold ifO; cases b <;> simp
@[simp] theorem notR_ite {q : Prop} [Decidable q] {x y : R D} : notR (if q then x else y) = if q then notR x else notR y := by split <;> rfl
@[simp] theorem andR_ite {q : Prop} [Decidable q] {x y : R D} {z : Hs → R D} : andR (if q then x else y) z = if q then andR x z else andR y z := by split <;> rfl
@[simp] theorem orR_ite {q : Prop} [Decidable q] {x y : R D} {z : Hs → R D} : orR (if q then x else y) z = if q then orR x z else orR y z := by split <;> rfl
@[simp] theorem iteR_ite {q : Prop} [Decidable q] {x y : R D} {z u : Hs → R D} : iteR (if q then x else y) z u = if q then iteR x z u else iteR y z u := by split <;> rfl
/-- a truth handed on: to a decided form -/
theorem ok_bl_ite {q : Prop} [Decidable q] {x y : Bool} : (if q then R.ok (D.bl x) h else R.ok (D.bl y) h) = R.ok (D.bl (if q then x else y)) h := by split <;> rfl
theorem tset_of {tp : Bool} {is : List Nat} {s' : SD} (e : tgF tp is d s = some s') : tsetO tp is s d h = .nx s' h := by unfold tsetO; rw [e]
@[simp] theorem tgF_one {i : Nat} (l : i < s.length) : tgF false [i] d s = some (s.set i (some d)) := by
  show setN i d s = _
  unfold setN
  rw [if_pos l]
@[simp] theorem tgF_two {i j : Nat} {x y : D} (hi : i < s.length) (hj : j < s.length) : tgF true [i, j] (.tup [x, y]) s = some ((s.set i (some x)).set j (some y)) := by
  show (setN i x s).bind (setMany [j] [y]) = _
  unfold setN
  rw [if_pos hi]
  show (setN j y _).bind (setMany [] []) = _
  unfold setN
  rw [if_pos (by simpa using hj)]
  rfl
@[simp] theorem tgF_three {i j k : Nat} {x y z : D} (hi : i < s.length) (hj : j < s.length) (hk : k < s.length) : tgF true [i, j, k] (.tup [x, y, z]) s = some (((s.set i (some x)).set j (some y)).set k (some z)) := by
  show (setN i x s).bind (setMany [j, k] [y, z]) = _
  unfold setN
  rw [if_pos hi]
  show (setN j y _).bind (setMany [k] [z]) = _
  unfold setN
  rw [if_pos (by simpa using hj)]
  show (setN k z _).bind (setMany [] []) = _
  unfold setN
  rw [if_pos (by simpa using hk)]
  rfl
theorem turnO_of {ft : D → SD → Option SD} {fb : SD → Hs → O} {s' : SD} (e : ft d s = some s') : turnO ft fb d s h = fb s' h := by unfold turnO; rw [e]
@[simp] theorem cutB_f {f : SD → Hs → O} : cutB false f s h = f s h := by unfold cutB; simp only
@[simp] theorem cutB_t {f : SD → Hs → O} : cutB true f s h = (f s h).cut h := by unfold cutB; simp only
@[simp] theorem clB_refl : ClB h h ↔ True := ⟨fun _ => trivial, fun _ n o _ e => .inl e⟩
@[simp] theorem clB_app {l : Hs} : ClB h (h ++ l) ↔ True := ⟨fun _ => trivial, fun _ n o hn e => .inl (by rw [List.getElem?_append_left hn] at e; exact e)⟩
theorem clB_set {h0 : Hs} {n : Nat} {o : HO'} (c : ClB h0 h) (b : o.bel h0.length = true) : ClB h0 (h.set n o) := fun m u hm e => by
  by_cases z : n = m
  · subst z
    by_cases hn : n < h.length
    · rw [List.getElem?_set_self hn] at e
      injection e with e
      subst e
      exact .inr b
    · rw [List.getElem?_eq_none (by rw [List.length_set]; omega)] at e; cases e
  · rw [List.getElem?_set_ne z] at e
    exact c m u hm e
theorem clB_more {h0 l : Hs} (c : ClB h0 h) (b : h0.length ≤ h.length) : ClB h0 (h ++ l) := fun m u hm e => by
  rw [List.getElem?_append_left (by omega)] at e
  exact c m u hm e
@[simp] theorem cut_nx {h0 : Hs} (c : ClB h0 h) : (O.nx s h).cut h0 = .nx (killS h0.length s) (h.take h0.length) := by unfold O.cut; dsimp only; rw [if_pos c]
@[simp] theorem cut_rt {h0 : Hs} : (O.rt d h).cut h0 = .rt d h := by unfold O.cut; simp only
@[simp] theorem cut_bk {h0 : Hs} (c : ClB h0 h) : (O.bk s h).cut h0 = .bk (killS h0.length s) (h.take h0.length) := by unfold O.cut; dsimp only; rw [if_pos c]
@[simp] theorem cut_ct {h0 : Hs} (c : ClB h0 h) : (O.ct s h).cut h0 = .ct (killS h0.length s) (h.take h0.length) := by unfold O.cut; dsimp only; rw [if_pos c]
@[simp] theorem cut_rs {h0 : Hs} {x : Str} {p : Option Int} (c : ClB h0 h) : (O.rs x p s h).cut h0 = .rs x p (killS h0.length s) (h.take h0.length) := by unfold O.cut; dsimp only; rw [if_pos c]
@[simp] theorem cut_ite {q : Prop} [Decidable q] {x y : O} {h0 : Hs} : (if q then x else y).cut h0 = if q then x.cut h0 else y.cut h0 := by split <;> rfl
open Classical in
/-- how a def ends -/
noncomputable def fin (keep : Bool) (k : Hs) : O → R D
  | .rt d h' => backR keep k d h'
  | .nx _ h' => backR keep k .non h'
  | .rs c p _ h' => if ClB k h' then .rs c p (h'.take k.length) else .stk
  | _ => .stk
@[simp] theorem fin_rt {keep : Bool} {k : Hs} : fin keep k (.rt d h) = backR keep k d h := by unfold fin; simp only
@[simp] theorem fin_nx {keep : Bool} {k : Hs} : fin keep k (.nx s h) = backR keep k .non h := by unfold fin; simp only
@[simp] theorem fin_rs {keep : Bool} {k : Hs} (e : ClB k h) : fin keep k (.rs c p s h) = .rs c p (h.take k.length) := by unfold fin; dsimp only; rw [if_pos e]
@[simp] theorem fin_ite {keep : Bool} {k : Hs} {q : Prop} [Decidable q] {x y : O} : fin keep k (if q then x else y) = if q then fin keep k x else fin keep k y := by split <;> rfl
theorem runF_eq {Γ : Mir} {keep : Bool} {n N np : Nat} {b : List S} {ds : List D} (e : ds.length = np) : runF Γ keep n N np b ds h = fin keep h (S.evs Γ n b (ds.map some ++ List.replicate (N - np) none) h) := by
  unfold runF fin
  rw [if_pos e]
  all_goals rfl
end
/-! ### no number of the store -/
mutual
/-- no number of the store in it -/
def D.nr : D → Bool
  | .ref _ => false
  | .tup l => nrL l
  | .vl l => nrL l
  | .sl l => nrL l
  | .vd k l => nrL k && nrL l
  | .non => true
  | .bl _ => true
  | .int _ => true
  | .str _ => true
  | .exc _ _ => true
def nrL : List D → Bool
  | [] => true
  | d :: r => d.nr && nrL r
end
theorem nrL_all : ∀ l : List D, nrL l = l.all D.nr
  | [] => rfl
  | d :: r => by rw [nrL, nrL_all r]; rfl
@[simp] theorem nr_int {i : Int} : (D.int i).nr = true := by simp only [D.nr]
@[simp] theorem nr_bl {i : Bool} : (D.bl i).nr = true := by simp only [D.nr]
@[simp] theorem nr_str {i : Str} : (D.str i).nr = true := by simp only [D.nr]
@[simp] theorem nr_non : D.nr .non = true := by simp only [D.nr]
@[simp] theorem nr_tup {l : List D} : (D.tup l).nr = l.all D.nr := by simp only [D.nr, nrL_all]
@[simp] theorem nr_vl {l : List D} : (D.vl l).nr = l.all D.nr := by simp only [D.nr, nrL_all]
@[simp] theorem nr_sl {l : List D} : (D.sl l).nr = l.all D.nr := by simp only [D.nr, nrL_all]
mutual
theorem D.bel_nr (n : Nat) : ∀ d : D, d.nr = true → d.bel n = true
  | .non, _ => rfl
  | .bl _, _ => rfl
  | .int _, _ => rfl
  | .str _, _ => rfl
  | .exc _ _, _ => rfl
  | .tup l, b => by simpa [D.bel] using belL_nr n l (by simpa [D.nr] using b)
  | .vl l, b => by simpa [D.bel] using belL_nr n l (by simpa [D.nr] using b)
  | .sl l, b => by simpa [D.bel] using belL_nr n l (by simpa [D.nr] using b)
  | .vd k l, b => by
    have b' : nrL k = true ∧ nrL l = true := by simpa [D.nr] using b
    simpa [D.bel] using ⟨belL_nr n k b'.1, belL_nr n l b'.2⟩
  | .ref _, b => by simp [D.nr] at b
theorem belL_nr (n : Nat) : ∀ l : List D, nrL l = true → belL n l = true
  | [], _ => rfl
  | d :: r, b => by
    have b' : d.nr = true ∧ nrL r = true := by simpa [nrL] using b
    simpa [belL] using ⟨D.bel_nr n d b'.1, belL_nr n r b'.2⟩
end
mutual
theorem D.fz_nr (k : Nat) (f : Nat → D) : ∀ d : D, d.nr = true → d.fz k f = d
  | .non, _ => rfl
  | .bl _, _ => rfl
  | .int _, _ => rfl
  | .str _, _ => rfl
  | .exc _ _, _ => rfl
  | .sl _, _ => rfl
  | .vd _ _, _ => rfl
  | .tup l, b => by unfold D.fz; rw [fzL_nr k f l (by simpa [D.nr] using b)]
  | .vl l, b => by unfold D.fz; rw [fzL_nr k f l (by simpa [D.nr] using b)]
  | .ref _, b => by simp [D.nr] at b
theorem fzL_nr (k : Nat) (f : Nat → D) : ∀ l : List D, nrL l = true → fzL k f l = l
  | [], _ => rfl
  | d :: r, b => by
    have b' : d.nr = true ∧ nrL r = true := by simpa [nrL] using b
    unfold fzL
    rw [D.fz_nr k f d b'.1, fzL_nr k f r b'.2]
end
mutual
theorem D.rv_nr (f : Nat → D) : ∀ d : D, d.nr = true → d.rv f = d
  | .non, _ => rfl
  | .bl _, _ => rfl
  | .int _, _ => rfl
  | .str _, _ => rfl
  | .exc _ _, _ => rfl
  | .vd _ _, _ => rfl
  | .tup l, b => by unfold D.rv; rw [rvL_nr f l (by simpa [D.nr] using b)]
  | .vl l, b => by unfold D.rv; rw [rvL_nr f l (by simpa [D.nr] using b)]
  | .sl l, b => by unfold D.rv; rw [rvL_nr f l (by simpa [D.nr] using b)]
  | .ref _, b => by simp [D.nr] at b
theorem rvL_nr (f : Nat → D) : ∀ l : List D, nrL l = true → rvL f l = l
  | [], _ => rfl
  | d :: r, b => by
    have b' : d.nr = true ∧ nrL r = true := by simpa [nrL] using b
    unfold rvL
    rw [D.rv_nr f d b'.1, rvL_nr f r b'.2]
end
theorem rsv_nr {h : Hs} {d : D} (e : d.nr = true) : rsv h d = d := D.rv_nr _ d e
/-- back from a def with what has no number -/
theorem back_nr {h k : Hs} {d : D} (e : d.nr = true) (c : ClB k h) : backR false k d h = .ok d (h.take k.length) := by
  unfold backR fzD
  dsimp only
  rw [D.fz_nr _ _ d e, if_pos ⟨D.bel_nr k.length d e, c⟩]
@[simp] theorem back_t {h k : Hs} {d : D} : backR true k d h = .ok d h := by unfold backR; simp only
/-- a new list handed back -/
theorem back_lst {h k : Hs} {n : Nat} {l : List D} (hk : k.length ≤ n) (e : h[n]? = some (.lst l)) (hl : l.all D.nr = true) (c : ClB k h) : backR false k (.ref n) h = .ok (.vl l) (h.take k.length) := by
  have h1 : fzD h k.length (.ref n) = .vl l := by
    unfold fzD D.fz
    rw [if_neg (by omega)]
    unfold fzR
    rw [e]
    dsimp only
    rw [fzL_nr _ _ l (by rw [nrL_all]; exact hl)]
  unfold backR
  dsimp only
  rw [h1, if_pos ⟨D.bel_nr k.length _ (by rw [nr_vl]; exact hl), c⟩]
@[simp] theorem take_app {h l : Hs} : (h ++ l).take h.length = h := by simp
@[simp] theorem take_all {h : Hs} : h.take h.length = h := by simp
@[simp] theorem killS_nil {k : Nat} : killS k [] = [] := by simp [killS]
@[simp] theorem killS_cons {k : Nat} {s : SD} {d : Option D} : killS k (d :: s) = kill k d :: killS k s := by simp [killS]
@[simp] theorem kill_none {k : Nat} : kill k none = none := by unfold kill; simp only
@[simp] theorem kill_nr {k : Nat} {d : D} (e : d.nr = true) : kill k (some d) = some d := by unfold kill; dsimp only; rw [if_pos (D.bel_nr k d e)]
@[simp] theorem kill_lt {k n : Nat} (e : n < k) : kill k (some (.ref n)) = some (.ref n) := by unfold kill; dsimp only; rw [if_pos (by simpa [D.bel] using e)]
@[simp] theorem kill_ge {k n : Nat} (e : k ≤ n) : kill k (some (.ref n)) = none := by unfold kill; dsimp only; rw [if_neg (by simp [D.bel]; omega)]
/-! ### the store -/
theorem get_app {h l : Hs} {k : Nat} : (h ++ l)[h.length + k]? = l[k]? := by rw [List.getElem?_append_right (by omega)]; congr 1; omega
@[simp] theorem get_app0 {h : Hs} {o : HO'} {l : Hs} : (h ++ o :: l)[h.length]? = some o := by simp
@[simp] theorem set_app0 {h : Hs} {o o' : HO'} {l : Hs} : (h ++ o :: l).set h.length o' = h ++ o' :: l := by simp
@[simp] theorem get_app1 {h : Hs} {o o1 : HO'} {l : Hs} : (h ++ o :: o1 :: l)[h.length + 1]? = some o1 := by rw [get_app]; rfl
@[simp] theorem set_app1 {h : Hs} {o o1 o' : HO'} {l : Hs} : (h ++ o :: o1 :: l).set (h.length + 1) o' = h ++ o :: o' :: l := by
  rw [List.set_append_right _ _ (by omega)]
  congr 1
  have : h.length + 1 - h.length = 1 := by omega
  rw [this]
  rfl
@[simp] theorem putH_of {n : Nat} {o : HO'} {h : Hs} : putH n o h = some (h.set n o) := by unfold putH; simp only
/-! ### values -/
section
variable {h : Hs}
@[simp] theorem gAdd_int {i j : Int} : gAdd h (.int i) (.int j) = some (.int (i + j)) := by unfold gAdd; simp only
@[simp] theorem gSub_int {i j : Int} : gSub h (.int i) (.int j) = some (.int (i - j)) := by unfold gSub; simp only
@[simp] theorem gNeg_int {i : Int} : gNeg h (.int i) = some (.int (-i)) := by unfold gNeg; simp only
@[simp] theorem gLt_int {i j : Int} : gLt h (.int i) (.int j) = some (.bl (decide (i < j))) := by unfold gLt; simp only
@[simp] theorem gLe_int {i j : Int} : gLe h (.int i) (.int j) = some (.bl (decide (i ≤ j))) := by unfold gLe; simp only
@[simp] theorem gGt_int {i j : Int} : gGt h (.int i) (.int j) = some (.bl (decide (j < i))) := by unfold gGt; simp only
@[simp] theorem gGe_int {i j : Int} : gGe h (.int i) (.int j) = some (.bl (decide (j ≤ i))) := by unfold gGe; simp only
theorem gMul_int {i j : Int} (hi : i.natAbs < 2 ^ 240) (hj : j.natAbs < 2 ^ 240) : gMul h (.int i) (.int j) = some (.int (i * j)) := by
  have : (2 : Nat) ^ 512 ≤ big := Nat.pow_le_pow_right (by decide) (by decide)
  unfold gMul
  dsimp only
  rw [if_pos ⟨by omega, by omega⟩]
theorem gMul_wide {i j : Int} (hi : i.natAbs < 2 ^ 4000) (hj : j.natAbs < 2 ^ 4000) : gMul h (.int i) (.int j) = some (.int (i * j)) := by
  have : (2 : Nat) ^ 4000 ≤ big := Nat.pow_le_pow_right (by decide) (by decide)
  unfold gMul
  dsimp only
  rw [if_pos ⟨Nat.lt_of_lt_of_le hi this, Nat.lt_of_lt_of_le hj this⟩]
@[simp] theorem gMul_tup {l : List D} {k : Int} (e : 0 < l.length ∧ 2 ≤ k ∧ k ≤ 1000 ∧ l.length ≤ 1000) : gMul h (.tup l) (.int k) = some (.tup (List.replicate k.toNat l).flatten) := by
  unfold gMul
  dsimp only
  rw [if_pos e]
@[simp] theorem gMod_int {i j : Int} (e : 0 < j) : gMod h (.int i) (.int j) = some (.int (i % j)) := by unfold gMod; dsimp only; rw [if_pos e]
theorem gFdiv_int {i j : Int} (e : 0 < j) (hj : j.natAbs < 2 ^ 240) : gFdiv h (.int i) (.int j) = some (.int (i / j)) := by
  have : (2 : Nat) ^ 512 ≤ big := Nat.pow_le_pow_right (by decide) (by decide)
  unfold gFdiv
  dsimp only
  rw [if_pos ⟨e, by omega⟩]
@[simp] theorem gPow_int {i j : Int} (e : 0 ≤ j) (h1 : j ≤ 1000000) (h2 : i.natAbs < 2 ^ 64) : gPow h (.int i) (.int j) = some (.int (i ^ j.toNat)) := by unfold gPow; dsimp only; rw [if_pos ⟨e, h1, h2⟩]
@[simp] theorem gAdd_tup {l m : List D} (e : l.length + m.length ≤ 16777216) : gAdd h (.tup l) (.tup m) = some (.tup (l ++ m)) := by unfold gAdd; dsimp only; rw [if_pos e]
@[simp] theorem gAdd_vl {l m : List D} (e : l.length + m.length ≤ 16777216) : gAdd h (.vl l) (.vl m) = some (.vl (l ++ m)) := by
  show (if l.length + m.length ≤ 16777216 then some (D.vl (l ++ m)) else none) = _
  rw [if_pos e]
theorem gMul_rep {z k : Int} (h0 : 0 ≤ k) (e : k ≤ 1000000) : gMul h (.vl [.int z]) (.int k) = some (.vl ((List.replicate k.toNat z).map .int)) := by
  show (if k < 2 ^ 63 ∧ -(2 ^ 63) ≤ k ∧ [D.int z].length * k.toNat ≤ 16777216 then some (D.vl (List.replicate k.toNat [D.int z]).flatten) else none) = _
  rw [if_pos ⟨by omega, by omega, by simp; omega⟩]
  congr 2
  induction k.toNat with
  | zero => rfl
  | succ n ih => simp [List.replicate_succ, ih]
theorem eqD_int {i j : Int} : eqD (.int i) (.int j) = decide (i = j) := by
  unfold eqD
  simp only [D.py, PyData.eqv]
  exact Bool.eq_iff_iff.mpr (by simp)
theorem eqD_bl {i j : Bool} : eqD (.bl i) (.bl j) = decide (i = j) := by cases i <;> cases j <;> rfl
@[simp] theorem gNe_int {i j : Int} : gNe h (.int i) (.int j) = some (.bl (decide (i ≠ j))) := by
  unfold gNe
  rw [show dicP h _ _ = none from rfl]
  simp only
  rw [if_pos ⟨rfl, rfl⟩, rsv_nr nr_int, rsv_nr nr_int, eqD_int]
  simp
@[simp] theorem gNe_bl {i j : Bool} : gNe h (.bl i) (.bl j) = some (.bl (decide (i ≠ j))) := by
  unfold gNe
  rw [show dicP h _ _ = none from rfl]
  simp only
  rw [if_pos ⟨rfl, rfl⟩, rsv_nr nr_bl, rsv_nr nr_bl, eqD_bl]
  simp
@[simp] theorem gEq_int {i j : Int} : gEq h (.int i) (.int j) = some (.bl (decide (i = j))) := by
  unfold gEq
  rw [show dicP h _ _ = none from rfl]
  simp only
  rw [if_pos ⟨rfl, rfl⟩, rsv_nr nr_int, rsv_nr nr_int, eqD_int]
@[simp] theorem gEq_bl {i j : Bool} : gEq h (.bl i) (.bl j) = some (.bl (decide (i = j))) := by
  unfold gEq
  rw [show dicP h _ _ = none from rfl]
  simp only
  rw [if_pos ⟨rfl, rfl⟩, rsv_nr nr_bl, rsv_nr nr_bl, eqD_bl]
@[simp] theorem gIs_bl {i j : Bool} : gIs h (.bl i) (.bl j) = some (.bl (decide (i = j))) := by unfold gIs gIs0; simp
@[simp] theorem gIsNot_bl {i j : Bool} : gIsNot h (.bl i) (.bl j) = some (.bl (decide (i ≠ j))) := by unfold gIsNot gIs0; simp
@[simp] theorem gLen_tup {l : List D} : gLen h [.tup l] = some (.int l.length) := by unfold gLen; simp only
@[simp] theorem gLen_vl {l : List D} : gLen h [.vl l] = some (.int l.length) := by simp [gLen, lstH, dicH, ditU, ditH]
@[simp] theorem gLen_sl {l : List D} : gLen h [.sl l] = some (.int l.length) := by simp [gLen, lstH, dicH, ditU, ditH]
theorem gLen_ref {n : Nat} {l : List D} (e : h[n]? = some (.lst l)) : gLen h [.ref n] = some (.int l.length) := by simp [gLen, lstH, dicH, ditU, ditH, e]
@[simp] theorem gTup_of {l : List D} (e : l.length ≤ 16777216) : gTup h l = some (.tup l) := by unfold gTup; rw [if_pos e]
@[simp] theorem mkL_f {l : List D} (e : l.length ≤ 16777216) : mkL false l h = .ok (.vl l) h := by unfold mkL; rw [if_pos e]; simp only [newL]
@[simp] theorem mkL_t {l : List D} (e : l.length ≤ 16777216) : mkL true l h = .ok (.ref h.length) (h ++ [.lst l]) := by unfold mkL; rw [if_pos e]; simp only [newL]
@[simp] theorem newL_f {l : List D} : newL false l h = .ok (.vl l) h := by simp only [newL]
@[simp] theorem newL_t {l : List D} : newL true l h = .ok (.ref h.length) (h ++ [.lst l]) := by simp only [newL]
@[simp] theorem gTupleF_vl {l : List D} : gTupleF h [.vl l] = some (.tup l) := by simp [gTupleF, seqH, lstH]
@[simp] theorem gTupleF_tup {l : List D} : gTupleF h [.tup l] = some (.tup l) := by simp [gTupleF, seqH]
theorem gTupleF_ref {n : Nat} {l : List D} (e : h[n]? = some (.lst l)) : gTupleF h [.ref n] = some (.tup l) := by simp [gTupleF, seqH, lstH, e]
@[simp] theorem gListF_vl {m : Bool} {l : List D} : gListF m [.vl l] h = newL m l h := by simp [gListF, seqH, lstH]
@[simp] theorem gListF_tup {m : Bool} {l : List D} : gListF m [.tup l] h = newL m l h := by simp [gListF, seqH]
@[simp] theorem gListF_sl {m : Bool} {l : List D} : gListF m [.sl l] h = newL m l h := by simp [gListF, seqH, lstH]
theorem gListF_ref {m : Bool} {n : Nat} {l : List D} (e : h[n]? = some (.lst l)) : gListF m [.ref n] h = newL m l h := by simp [gListF, seqH, lstH, e]
theorem blsOf_mapf {α : Type} {p : α → Bool} {l : List α} : blsOf (l.map fun a => D.bl (p a)) = some (l.map p) := by
  induction l with
  | nil => rfl
  | cons a r ih => simp [blsOf, ih]
theorem intsOf_mapf {α : Type} {p : α → Int} {l : List α} : intsOf (l.map fun a => D.int (p a)) = some (l.map p) := by
  induction l with
  | nil => rfl
  | cons a r ih => simp [intsOf, ih]
@[simp] theorem gAll_map {α : Type} {p : α → Bool} {l : List α} : gAll h [.vl (l.map fun a => .bl (p a))] = some (.bl (l.all p)) := by
  simp [gAll, lstH, blsOf_mapf, Function.comp_def]
@[simp] theorem gAny_map {α : Type} {p : α → Bool} {l : List α} : gAny h [.vl (l.map fun a => .bl (p a))] = some (.bl (l.any p)) := by
  simp [gAny, lstH, blsOf_mapf, Function.comp_def]
@[simp] theorem gSum_map {l : List Int} : gSum h [.vl (l.map .int)] = some (.int l.sum) := by simp [gSum, seqH, lstH, intsOf_map]
@[simp] theorem gSum_mapf {α : Type} {p : α → Int} {l : List α} : gSum h [.vl (l.map fun a => .int (p a))] = some (.int (l.map p).sum) := by simp [gSum, seqH, lstH, intsOf_mapf]
@[simp] theorem gSum_tup {l : List Int} : gSum h [.tup (l.map .int)] = some (.int l.sum) := by simp [gSum, seqH, intsOf_map]
@[simp] theorem gMax_two {i j : Int} : gMax h [.int i, .int j] = some (.int (if j > i then j else i)) := by unfold gMax; simp only
@[simp] theorem gMin_two {i j : Int} : gMin h [.int i, .int j] = some (.int (if j < i then j else i)) := by unfold gMin; simp only
@[simp] theorem gMax_vl {a : Int} {r : List Int} : gMax h [.vl ((a :: r).map .int)] = some (.int (maxL a r)) := by
  simp only [gMax, lstH, Option.bind, intsOf_map]
@[simp] theorem gSort_vl {m : Bool} {l : List Int} : gSort m [.vl (l.map .int)] h = newL m ((sortI l).map .int) h := by simp [gSort, lstH, intsOf_map]
theorem gSort_ref {m : Bool} {n : Nat} {l : List Int} (e : h[n]? = some (.lst (l.map .int))) : gSort m [.ref n] h = newL m ((sortI l).map .int) h := by simp [gSort, lstH, e, intsOf_map]
theorem atI_map {α : Type} {f : α → D} {l : List α} {k : Int} (h0 : 0 ≤ k) (h1 : k < l.length) : atI (l.map f) k = some (f (l[k.toNat]'(by omega))) := by
  have e : ixN (l.map f).length k = some k.toNat := by
    unfold ixN
    rw [if_pos h0, List.length_map, if_pos h1]
  unfold atI
  rw [e]
  have : k.toNat < l.length := by omega
  simp [this]
theorem gIx_tupm {α : Type} {f : α → D} {l : List α} {k : Int} (h0 : 0 ≤ k) (h1 : k < l.length) : gIx h (.tup (l.map f)) (.int k) = some (f (l[k.toNat]'(by omega))) := atI_map h0 h1
theorem gIx_vlm {α : Type} {f : α → D} {l : List α} {k : Int} (h0 : 0 ≤ k) (h1 : k < l.length) : gIx h (.vl (l.map f)) (.int k) = some (f (l[k.toNat]'(by omega))) := atI_map h0 h1
theorem gIx_slm {α : Type} {f : α → D} {l : List α} {k : Int} (h0 : 0 ≤ k) (h1 : k < l.length) : gIx h (.sl (l.map f)) (.int k) = some (f (l[k.toNat]'(by omega))) := atI_map h0 h1
theorem gIx_tup {l : List D} {k : Int} : gIx h (.tup l) (.int k) = atI l k := by unfold gIx; simp only
theorem gIx_vl {l : List D} {k : Int} : gIx h (.vl l) (.int k) = atI l k := by simp [gIx, lstH, dicH, ditU, ditH]
theorem gIx_ref {n : Nat} {l : List D} {k : Int} (e : h[n]? = some (.lst l)) : gIx h (.ref n) (.int k) = atI l k := by simp [gIx, lstH, dicH, ditU, ditH, e]
theorem cut_take {l : List D} {k : Nat} : cutD l none (some (k : Int)) = l.take k := by
  unfold cutD
  rw [HT.sIx_none, HT.sIx_nat, List.drop_zero, Nat.sub_zero]
  rcases Nat.le_total k l.length with h | h
  · rw [Nat.min_eq_left h]
  · rw [Nat.min_eq_right h, List.take_length, List.take_of_length_le h]
theorem cut_drop {l : List D} {k : Nat} : cutD l (some (k : Int)) none = l.drop k := by
  unfold cutD
  rw [HT.sIx_none, HT.sIx_nat]
  rcases Nat.le_total k l.length with h | h
  · rw [Nat.min_eq_left h, List.take_of_length_le (by simp)]
  · rw [Nat.min_eq_right h, List.drop_length, List.drop_of_length_le h]; simp
theorem slR_ok {m : Bool} {d : D} {lo hi : Option Int} {f g : Hs → R (Option Int)} {h1 h2 h3 : Hs} (e1 : f h1 = .ok lo h2) (e2 : g h2 = .ok hi h3) : slR m (.ok d h1) f g = slG m lo hi d h3 := by
  unfold slR
  rw [bind_ok, e1, bind_ok, e2, bind_ok]
@[simp] theorem slG_tup {m : Bool} {lo hi : Option Int} {l : List D} : slG m lo hi (.tup l) h = .ok (.tup (cutD l lo hi)) h := by unfold slG; simp only
@[simp] theorem slG_vl {m : Bool} {lo hi : Option Int} {l : List D} : slG m lo hi (.vl l) h = newL m (cutD l lo hi) h := by simp [slG, lstH]
@[simp] theorem slG_sl {m : Bool} {lo hi : Option Int} {l : List D} : slG m lo hi (.sl l) h = newL m (cutD l lo hi) h := by simp [slG, lstH]
theorem slG_ref {m : Bool} {n : Nat} {lo hi : Option Int} {l : List D} (e : h[n]? = some (.lst l)) : slG m lo hi (.ref n) h = newL m (cutD l lo hi) h := by simp [slG, lstH, e]
@[simp] theorem revG_vl {m : Bool} {l : List D} : revG m (.vl l) h = newL m l.reverse h := by simp [revG, lstH]
@[simp] theorem revG_tup {m : Bool} {l : List D} : revG m (.tup l) h = .ok (.tup l.reverse) h := by simp [revG]
theorem revG_ref {m : Bool} {n : Nat} {l : List D} (e : h[n]? = some (.lst l)) : revG m (.ref n) h = newL m l.reverse h := by simp [revG, lstH, e]
@[simp] theorem ixR_int {i : Int} : ixR (.ok (.int i) h) = .ok (some i) h := by unfold ixR; rw [bind_ok]
/-! methods -/
theorem mth_def {me : Me} {o : SD → Hs → R D} {es : SD → Hs → R (List D)} {s : SD} {d : D} {h1 : Hs} (e1 : o s h = .ok d h1) (hc : me.c h1 d = true) : mthR me.c me.g o es s h = (es s h1).bind fun ds h2 => me.g d ds h2 := by
  unfold mthR
  rw [e1, bind_ok, if_pos hc]
theorem isLst_ref {n : Nat} {l : List D} (e : h[n]? = some (.lst l)) : isLst h (.ref n) = true := by simp [isLst, lstH, e]
theorem lstM_of {g : Hs → List D → List D → Option (List D × D)} {n : Nat} {l ds l' : List D} {z : D} (e : h[n]? = some (.lst l)) (e2 : g h l ds = some (l', z)) : lstM g (.ref n) ds h = .ok z (h.set n (.lst l')) := by
  simp [lstM, e, e2]
theorem store_of {n : Nat} {k : Int} {l : List D} {v : D} (e : h[n]? = some (.lst l)) (h0 : 0 ≤ k) (h1 : k < l.length) : storeG (.ref n) (.int k) v h = some (h.set n (.lst (l.set k.toNat v))) := by
  have e4 : ixN l.length k = some k.toNat := by unfold ixN; rw [if_pos h0, if_pos h1]
  simp [storeG, e, e4]
theorem rng1 {j : Int} (h0 : -(2 ^ 62) ≤ j) (h1 : j < 2 ^ 62) : rngO1 [.int j] h = .ok (src0 ((List.range j.toNat).map fun (i : Nat) => .int i)) h := by
  unfold rngO1
  simp only [if_pos (And.intro h0 h1), rngD, Int.zero_add]
theorem rng2 {i j : Int} (h0 : -(2 ^ 62) ≤ i) (h1 : i < 2 ^ 62) (h2 : -(2 ^ 62) ≤ j) (h3 : j < 2 ^ 62) : rngO2 [.int i, .int j] h = .ok (src0 ((List.range (j - i).toNat).map fun (k : Nat) => .int (i + k))) h := by
  unfold rngO2
  simp only [if_pos (And.intro h0 (And.intro h1 (And.intro h2 h3))), rngD]
@[simp] theorem itG_0 {d : D} : itG 0 [d] h = srcOf d h := by simp only [itG]
@[simp] theorem itG_1 {ds : List D} : itG 1 ds h = rngO1 ds h := by cases ds <;> simp only [itG]
@[simp] theorem itG_2 {ds : List D} : itG 2 ds h = rngO2 ds h := by cases ds <;> simp only [itG]
@[simp] theorem itG_5 {ds : List D} : itG 5 ds h = rngO3 ds h := by cases ds <;> simp only [itG]
@[simp] theorem itG_3 {ds : List D} : itG 3 ds h = zipO ds h := by cases ds <;> simp only [itG]
@[simp] theorem itG_4 {ds : List D} : itG 4 ds h = enumO ds h := by cases ds <;> simp only [itG]
@[simp] theorem xg_ls : Xf.lenSet.g = lenSetO := by simp only [Xf.g]
@[simp] theorem xg_ss : Xf.srtSet.g = srtSetO := by simp only [Xf.g]
@[simp] theorem xg_tr {k : Nat} : (Xf.trng k).g = trG k := by simp only [Xf.g]
@[simp] theorem src_tup {l : List D} : srcOf (.tup l) h = .ok (src0 l) h := by simp [srcOf, src0]
@[simp] theorem src_vl {l : List D} : srcOf (.vl l) h = .ok (src0 l) h := by simp [srcOf, lstH, src0]; rfl
@[simp] theorem src_sl {l : List D} : srcOf (.sl l) h = .ok (src0 l) h := by simp [srcOf, lstH, src0]; rfl
theorem src_ref {n : Nat} {l : List D} (e : h[n]? = some (.lst l)) : srcOf (.ref n) h = .ok ⟨l, fun h' => h'[n]? = some (.lst l)⟩ h := by simp [srcOf, lstH, e]; rfl
@[simp] theorem zip_tup2 {l m : List D} : zipO [.tup l, .tup m] h = .ok (src0 ((l.zip m).map fun p => .tup [p.1, p.2])) h := by simp [zipO]
@[simp] theorem zip_vl {l m : List D} : zipO [.vl l, .vl m] h = .ok (src0 ((l.zip m).map fun p => .tup [p.1, p.2])) h := by simp [zipO, lstH, src0, stays]
@[simp] theorem src0_ds {l : List D} : (src0 l).ds = l := by simp only [src0]
@[simp] theorem src0_c {l : List D} : (src0 l).c = fun _ => True := by simp only [src0]
end
/-! ### loops -/
noncomputable def forL (f : D → SD → Hs → O) (ds : List D) (s : SD) (h : Hs) : O := forC (fun _ => True) f ds s h
@[simp] theorem forC_T {f : D → SD → Hs → O} {ds : List D} {s : SD} {h : Hs} : forC (fun _ => True) f ds s h = forL f ds s h := by unfold forL; generalize forC (fun _ => True) f ds s h = y; exact Eq.refl y
@[simp] theorem forL_nil {f : D → SD → Hs → O} {s : SD} {h : Hs} : forL f [] s h = .nx s h := by unfold forL forC; simp
theorem forL_nx {f : D → SD → Hs → O} {d : D} {r : List D} {s s' : SD} {h h' : Hs} (e : f d s h = .nx s' h') : forL f (d :: r) s h = forL f r s' h' := by unfold forL; rw [forC]; simp [e]
theorem forL_ct {f : D → SD → Hs → O} {d : D} {r : List D} {s s' : SD} {h h' : Hs} (e : f d s h = .ct s' h') : forL f (d :: r) s h = forL f r s' h' := by unfold forL; rw [forC]; simp [e]
theorem forL_bk {f : D → SD → Hs → O} {d : D} {r : List D} {s s' : SD} {h h' : Hs} (e : f d s h = .bk s' h') : forL f (d :: r) s h = .nx s' h' := by unfold forL; rw [forC]; simp [e]
theorem forL_rt {f : D → SD → Hs → O} {d z : D} {r : List D} {s : SD} {h h' : Hs} (e : f d s h = .rt z h') : forL f (d :: r) s h = .rt z h' := by unfold forL; rw [forC]; simp [e]
theorem forL_rs {f : D → SD → Hs → O} {d : D} {r : List D} {s s' : SD} {h h' : Hs} {c p} (e : f d s h = .rs c p s' h') : forL f (d :: r) s h = .rs c p s' h' := by unfold forL; rw [forC]; simp [e]
/-- a list that is walked and stays -/
theorem forC_of {c : Hs → Prop} {f : D → SD → Hs → O} (I : SD → Hs → Prop) (hI : ∀ s h, I s h → c h) : ∀ {ds : List D} {s : SD} {h : Hs}, I s h → (∀ d s h, d ∈ ds → I s h → ∀ s' h', f d s h = .nx s' h' ∨ f d s h = .ct s' h' → I s' h') → forC c f ds s h = forL f ds s h
  | [], s, h, i, _ => by rw [forC, forL_nil, if_pos (hI s h i)]
  | d :: r, s, h, i, k => by
    rw [forC, if_pos (hI s h i)]
    have k0 := k d s h List.mem_cons_self i
    cases e : f d s h with
    | nx s' h' => rw [forL_nx e]; exact forC_of I hI (k0 s' h' (.inl e)) fun d s h m => k d s h (List.mem_cons_of_mem _ m)
    | ct s' h' => rw [forL_ct e]; exact forC_of I hI (k0 s' h' (.inr e)) fun d s h m => k d s h (List.mem_cons_of_mem _ m)
    | bk s' h' => rw [forL_bk e]
    | rt z h' => rw [forL_rt e]
    | rs c p s' h' => rw [forL_rs e]
    | stk => unfold forL; rw [forC, e]; simp
/-- a state carried -/
theorem forL_fold {α β : Type} {f : α → D} {turn : D → SD → Hs → O} (st : β → SD) (hp : β → Hs) (step : β → α → β) (inv : β → Prop) : ∀ (l : List α) (b : β), inv b → (∀ b a, a ∈ l → inv b → turn (f a) (st b) (hp b) = .nx (st (step b a)) (hp (step b a)) ∧ inv (step b a)) →
    forL turn (l.map f) (st b) (hp b) = .nx (st (l.foldl step b)) (hp (l.foldl step b)) ∧ inv (l.foldl step b)
  | [], b, i, _ => ⟨forL_nil, i⟩
  | a :: r, b, i, k => by
    obtain ⟨h1, h2⟩ := k b a List.mem_cons_self i
    obtain ⟨h3, h4⟩ := forL_fold st hp step inv r (step b a) h2 fun b' a' m i' => k b' a' (List.mem_cons_of_mem _ m) i'
    exact ⟨by rw [List.map_cons, forL_nx h1]; exact h3, h4⟩
/-- an invariant of the items gone through -/
theorem forL_inv {turn : D → SD → Hs → O} (I : List D → SD → Hs → Prop) {ds : List D} {s : SD} {h : Hs} (h0 : I [] s h) (hs : ∀ pre d s h, pre ++ [d] <+: ds → I pre s h → ∃ s' h', (turn d s h = .nx s' h' ∨ turn d s h = .ct s' h') ∧ I (pre ++ [d]) s' h') :
    ∃ s' h', forL turn ds s h = .nx s' h' ∧ I ds s' h' := by
  have go : ∀ (r pre : List D) (s : SD) (h : Hs), pre ++ r = ds → I pre s h → ∃ s' h', forL turn r s h = .nx s' h' ∧ I ds s' h' := by
    intro r
    induction r with
    | nil => intro pre s h e i; rw [List.append_nil] at e; subst e; exact ⟨s, h, forL_nil, i⟩
    | cons d r ih =>
      intro pre s h e i
      obtain ⟨s', h', e1, i'⟩ := hs pre d s h ⟨r, by rw [List.append_assoc]; exact e⟩ i
      obtain ⟨s2, h2, e2, i2⟩ := ih (pre ++ [d]) s' h' (by rw [List.append_assoc]; exact e) i'
      refine ⟨s2, h2, ?_, i2⟩
      rcases e1 with e1 | e1
      · rw [forL_nx e1]; exact e2
      · rw [forL_ct e1]; exact e2
  exact go ds [] s h rfl h0
/-- the same, with a way out -/
theorem forL_out {turn : D → SD → Hs → O} (I : List D → SD → Hs → Prop) (T : D → Hs → Prop) {ds : List D} {s : SD} {h : Hs} (h0 : I [] s h)
    (hs : ∀ pre d s h, pre ++ [d] <+: ds → I pre s h → (∃ s' h', (turn d s h = .nx s' h' ∨ turn d s h = .ct s' h') ∧ I (pre ++ [d]) s' h') ∨ ∃ z h', turn d s h = .rt z h' ∧ T z h') :
    (∃ s' h', forL turn ds s h = .nx s' h' ∧ I ds s' h') ∨ ∃ z h', forL turn ds s h = .rt z h' ∧ T z h' := by
  have go : ∀ (r pre : List D) (s : SD) (h : Hs), pre ++ r = ds → I pre s h → (∃ s' h', forL turn r s h = .nx s' h' ∧ I ds s' h') ∨ ∃ z h', forL turn r s h = .rt z h' ∧ T z h' := by
    intro r
    induction r with
    | nil => intro pre s h e i; rw [List.append_nil] at e; subst e; exact .inl ⟨s, h, forL_nil, i⟩
    | cons d r ih =>
      intro pre s h e i
      rcases hs pre d s h ⟨r, by rw [List.append_assoc]; exact e⟩ i with ⟨s', h', e1, i'⟩ | ⟨z, h', e1, t⟩
      · rcases ih (pre ++ [d]) s' h' (by rw [List.append_assoc]; exact e) i' with ⟨s2, h2, e2, i2⟩ | ⟨z, h2, e2, t⟩
        · refine .inl ⟨s2, h2, ?_, i2⟩
          rcases e1 with e1 | e1
          · rw [forL_nx e1]; exact e2
          · rw [forL_ct e1]; exact e2
        · refine .inr ⟨z, h2, ?_, t⟩
          rcases e1 with e1 | e1
          · rw [forL_nx e1]; exact e2
          · rw [forL_ct e1]; exact e2
      · exact .inr ⟨z, h', forL_rt e1, t⟩
  exact go ds [] s h rfl h0
/-! ### comprehensions -/
/-- one turn -/
noncomputable def lcT (ft : D → SD → Option SD) (fb fe : SD → Hs → R D) (s : SD) (d : D) (h : Hs) : R (Option D) := match ft d s with
  | none => .stk
  | some s1 => (toB (fb s1 h)).bind fun b h1 => match b with
    | true => (fe s1 h1).bind fun y h2 => .ok (some y) h2
    | false => .ok none h1
theorem lcL_cons {c : Hs → Prop} {ft : D → SD → Option SD} {fb fe : SD → Hs → R D} {s : SD} {d : D} {r : List D} {h h1 : Hs} {y : Option D} (hc : c h) (e : lcT ft fb fe s d h = .ok y h1) :
    lcL c ft fb fe s (d :: r) h = (lcL c ft fb fe s r h1).bind fun ys h3 => .ok (y.toList ++ ys) h3 := by
  rw [lcL, if_pos hc]
  unfold lcT at e
  cases q : ft d s with
  | none => rw [q] at e; cases e
  | some s1 =>
    rw [q] at e
    dsimp only at e ⊢
    cases q2 : toB (fb s1 h) with
    | stk => rw [q2] at e; cases e
    | rs c p h => rw [q2] at e; cases e
    | ok b h2 =>
      rw [q2] at e
      dsimp only [R.bind, nr] at e ⊢
      cases b with
      | false =>
        injection e with e1 e2
        subst e1 e2
        dsimp only
        cases lcL c ft fb fe s r h2 <;> rfl
      | true =>
        dsimp only at e ⊢
        cases q3 : fe s1 h2 with
        | stk => rw [q3] at e; cases e
        | rs c p h => rw [q3] at e; cases e
        | ok z h3 =>
          rw [q3] at e
          injection e with e1 e2
          subst e1 e2
          rfl
/-- the items one by one, the store as it was -/
theorem lcL_map {α : Type} {c : Hs → Prop} {f : α → D} {ft : D → SD → Option SD} {fb fe : SD → Hs → R D} {s : SD} {h : Hs} (g : α → D) (hc : c h) : ∀ l : List α, (∀ a ∈ l, lcT ft fb fe s (f a) h = .ok (some (g a)) h) → lcL c ft fb fe s (l.map f) h = .ok (l.map g) h
  | [], _ => by rw [List.map_nil, lcL, if_pos hc]; rfl
  | a :: r, k => by
    rw [List.map_cons, lcL_cons hc (k a List.mem_cons_self), lcL_map g hc r fun a' m => k a' (List.mem_cons_of_mem _ m), bind_ok]
    rfl
theorem lcL_filter {α : Type} {c : Hs → Prop} {f : α → D} {ft : D → SD → Option SD} {fb fe : SD → Hs → R D} {s : SD} {h : Hs} (p : α → Bool) (g : α → D) (hc : c h) : ∀ l : List α, (∀ a ∈ l, lcT ft fb fe s (f a) h = .ok (if p a = true then some (g a) else none) h) →
    lcL c ft fb fe s (l.map f) h = .ok ((l.filter p).map g) h
  | [], _ => by rw [List.map_nil, lcL, if_pos hc]; rfl
  | a :: r, k => by
    rw [List.map_cons, lcL_cons hc (k a List.mem_cons_self), lcL_filter p g hc r fun a' m => k a' (List.mem_cons_of_mem _ m), bind_ok]
    by_cases q : p a = true <;> simp [q]
theorem lcO_map {α : Type} {m : Bool} {c : Hs → Prop} {f : α → D} {ft : D → SD → Option SD} {fb fe : SD → Hs → R D} {vs : List Nat} {s : SD} {h : Hs} (g : α → D) (l : List α) (hc : c h) (hl : l.length ≤ 16777216) (k : ∀ a ∈ l, lcT ft fb fe (wipeS s vs) (f a) h = .ok (some (g a)) h) :
    lcO m ft fb fe vs s ⟨l.map f, c⟩ h = newL m (l.map g) h := by
  unfold lcO
  rw [if_pos (by simpa using hl)]
  dsimp only
  rw [lcL_map g hc l k, bind_ok]
theorem lcO_filter {α : Type} {m : Bool} {c : Hs → Prop} {f : α → D} {ft : D → SD → Option SD} {fb fe : SD → Hs → R D} {vs : List Nat} {s : SD} {h : Hs} (p : α → Bool) (g : α → D) (l : List α) (hc : c h) (hl : l.length ≤ 16777216) (k : ∀ a ∈ l, lcT ft fb fe (wipeS s vs) (f a) h = .ok (if p a = true then some (g a) else none) h) :
    lcO m ft fb fe vs s ⟨l.map f, c⟩ h = newL m ((l.filter p).map g) h := by
  unfold lcO
  rw [if_pos (by simpa using hl)]
  dsimp only
  rw [lcL_filter p g hc l k, bind_ok]
/-- the store goes along as a state -/
theorem lcL_st {α β : Type} {f : α → D} {ft : D → SD → Option SD} {fb fe : SD → Hs → R D} {s : SD} (hp : β → Hs) (step : β → α → Option D × β) (inv : β → Prop) : ∀ (l : List α) (b : β), inv b → (∀ a ∈ l, ∀ b, inv b → lcT ft fb fe s (f a) (hp b) = .ok (step b a).1 (hp (step b a).2) ∧ inv (step b a).2) →
    lcL (fun _ => True) ft fb fe s (l.map f) (hp b) = .ok (l.foldl (fun (x : List D × β) a => (x.1 ++ (step x.2 a).1.toList, (step x.2 a).2)) ([], b)).1 (hp (l.foldl (fun (x : List D × β) a => (x.1 ++ (step x.2 a).1.toList, (step x.2 a).2)) ([], b)).2) ∧ inv (l.foldl (fun (x : List D × β) a => (x.1 ++ (step x.2 a).1.toList, (step x.2 a).2)) ([], b)).2
  | [], b, i, _ => ⟨by rw [List.map_nil, lcL, if_pos trivial]; rfl, i⟩
  | a :: r, b, i, k => by
    obtain ⟨k1, k2⟩ := k a List.mem_cons_self b i
    obtain ⟨h1, h2⟩ := lcL_st hp step inv r (step b a).2 k2 fun a' m => k a' (List.mem_cons_of_mem _ m)
    have e : ∀ (r : List α) (x : List D) (b : β), r.foldl (fun (x : List D × β) a => (x.1 ++ (step x.2 a).1.toList, (step x.2 a).2)) (x, b) = (x ++ (r.foldl (fun (x : List D × β) a => (x.1 ++ (step x.2 a).1.toList, (step x.2 a).2)) ([], b)).1, (r.foldl (fun (x : List D × β) a => (x.1 ++ (step x.2 a).1.toList, (step x.2 a).2)) ([], b)).2) := by
      intro r
      induction r with
      | nil => intro x b; simp
      | cons a r ih => intro x b; rw [List.foldl_cons, List.foldl_cons, ih, ih ([] ++ _)]; simp
    rw [List.foldl_cons, List.nil_append, e]
    refine ⟨?_, h2⟩
    rw [List.map_cons, lcL_cons trivial k1, h1, bind_ok]
theorem seq_assoc {o : O} {f g : SD → Hs → O} : (o.seq f).seq g = o.seq fun s h => (f s h).seq g := by cases o <;> rfl
theorem evs_append {Γ : Mir} {n : Nat} : ∀ {a b : List S} {s : SD} {h : Hs}, S.evs Γ n (a ++ b) s h = (S.evs Γ n a s h).seq (S.evs Γ n b)
  | [], b, s, h => by rw [evs_nil, seq_nx]; rfl
  | x :: a, b, s, h => by
    rw [List.cons_append, evs_cons, evs_cons, seq_assoc]
    congr 1
    funext s' h'
    exact evs_append
@[simp] theorem DL_d {g : Hs → List D → Option D} {ds : List D} {h : Hs} : DL g ds h = ofO h (g h ds) := DL_def
@[simp] theorem wipeS_nil {s : SD} : wipeS s [] = s := by simp only [wipeS]
@[simp] theorem wipeS_one {s : SD} {v : Nat} {vs : List Nat} : wipeS s (v :: vs) = (wipeS s vs).set v none := by simp only [wipeS]
@[simp] theorem toB_bl {b : Bool} {h : Hs} : toB (.ok (.bl b) h) = .ok b h := by simp only [toB]
@[simp] theorem og_add : Op.add.g = gAdd := by simp only [Op.g]
@[simp] theorem og_sub : Op.sub.g = gSub := by simp only [Op.g]
@[simp] theorem og_mul : Op.mul.g = gMul := by simp only [Op.g]
@[simp] theorem og_fdiv : Op.fdiv.g = gFdiv := by simp only [Op.g]
@[simp] theorem og_mod : Op.mod.g = gMod := by simp only [Op.g]
@[simp] theorem og_pow : Op.pow.g = gPow := by simp only [Op.g]
@[simp] theorem og_xor : Op.xor.g = gXor := by simp only [Op.g]
@[simp] theorem og_eq : Op.eq.g = gEq := by simp only [Op.g]
@[simp] theorem og_ne : Op.ne.g = gNe := by simp only [Op.g]
@[simp] theorem og_lt : Op.lt.g = gLt := by simp only [Op.g]
@[simp] theorem og_le : Op.le.g = gLe := by simp only [Op.g]
@[simp] theorem og_gt : Op.gt.g = gGt := by simp only [Op.g]
@[simp] theorem og_ge : Op.ge.g = gGe := by simp only [Op.g]
@[simp] theorem og_isIn : Op.isIn.g = gIn := by simp only [Op.g]
@[simp] theorem og_notIn : Op.notIn.g = gNotIn := by simp only [Op.g]
@[simp] theorem og_is : Op.is.g = gIs := by simp only [Op.g]
@[simp] theorem og_isNot : Op.isNot.g = gIsNot := by simp only [Op.g]
@[simp] theorem bg_len : Bi.len.g = DL gLen := by simp only [Bi.g]
@[simp] theorem bg_sum : Bi.sum.g = DL gSum := by simp only [Bi.g]
@[simp] theorem bg_all : Bi.all.g = DL gAll := by simp only [Bi.g]
@[simp] theorem bg_any : Bi.any.g = DL gAny := by simp only [Bi.g]
@[simp] theorem bg_tuple : Bi.tuple.g = DL gTupleF := by simp only [Bi.g]
@[simp] theorem bg_list {m : Bool} : (Bi.list m).g = gListF m := by simp only [Bi.g]
@[simp] theorem bg_max : Bi.max.g = DL gMax := by simp only [Bi.g]
@[simp] theorem bg_min : Bi.min.g = DL gMin := by simp only [Bi.g]
@[simp] theorem bg_int : Bi.int.g = DL gInt := by simp only [Bi.g]
@[simp] theorem bg_str : Bi.str.g = DL gStr := by simp only [Bi.g]
@[simp] theorem gInt_bl {b : Bool} : gInt h [.bl b] = some (.int (if b = true then 1 else 0)) := by unfold gInt; simp only
@[simp] theorem gInt_int {i : Int} : gInt h [.int i] = some (.int i) := by unfold gInt; simp only
@[simp] theorem bg_abs : Bi.abs.g = DL gAbs := by simp only [Bi.g]
@[simp] theorem bg_sorted {m : Bool} : (Bi.sorted m).g = gSort m := by simp only [Bi.g]
@[simp] theorem mg_count : Me.count.g = valM txCount := by simp only [Me.g]
@[simp] theorem mg_index : Me.index.g = valM txIndex := by simp only [Me.g]
@[simp] theorem mg_get : Me.get.g = getM := by simp only [Me.g]
@[simp] theorem mg_clr : Me.clr.g = clrA := by simp only [Me.g]
@[simp] theorem mg_append : Me.append.g = lstM txAppend := by simp only [Me.g]
@[simp] theorem mg_extend : Me.extend.g = lstM txExtend := by simp only [Me.g]
@[simp] theorem mg_pop : Me.pop.g = lstM txPop := by simp only [Me.g]
@[simp] theorem mg_popAt : Me.popAt.g = lstM txPopAt := by simp only [Me.g]
@[simp] theorem mg_insert : Me.insert.g = lstM txInsert := by simp only [Me.g]
@[simp] theorem txAppend_of {h : Hs} {l : List D} {d : D} (e : l.length < 16777216) : txAppend h l [d] = some (l ++ [d], .non) := by unfold txAppend; dsimp only; rw [if_pos e]
/-- x.append(e) of a local list -/
theorem app_of {o : SD → Hs → R D} {es : SD → Hs → R (List D)} {s : SD} {h h2 : Hs} {n : Nat} {l : List D} {d : D} (e1 : o s h = .ok (.ref n) h) (e2 : h[n]? = some (.lst l)) (e3 : es s h = .ok [d] h2) (e4 : h2[n]? = some (.lst l)) (e5 : l.length < 16777216) :
    mthR Me.append.c Me.append.g o es s h = .ok .non (h2.set n (.lst (l ++ [d]))) := by
  rw [mth_def (me := .append) e1 (show Me.append.c h (.ref n) = true from isLst_ref e2), e3, bind_ok, mg_append, lstM_of e4 (txAppend_of e5)]
theorem callR_at {Γ : Mir} {j np : Nat} {f : List D → Hs → R D} {ds : List D} {h : Hs} (e : Γ j = (np, f)) : callR Γ j ds h = if ds.length = np then f ds h else .stk := by unfold callR; rw [e]
theorem isi_of {T u : String} {b : Bool} {d : D} {h : Hs} (e : tyOf h d = some u) (e2 : kitB u T = some b) : isiG T d h = .ok (.bl b) h := by unfold isiG; rw [e]; dsimp only [Option.bind]; rw [e2]
@[simp] theorem slR_d {m : Bool} {d : D} {f g : Hs → R (Option Int)} {h : Hs} : slR m (.ok d h) f g = (f h).bind fun i h2 => (g h2).bind fun j h3 => slG m i j d h3 := by unfold slR; rw [bind_ok]
theorem cut_takeI {l : List D} {i : Int} (e : 0 ≤ i) : cutD l none (some i) = l.take i.toNat := by
  have := cut_take (l := l) (k := i.toNat)
  rwa [Int.toNat_of_nonneg e] at this
theorem cut_dropI {l : List D} {i : Int} (e : 0 ≤ i) : cutD l (some i) none = l.drop i.toNat := by
  have := cut_drop (l := l) (k := i.toNat)
  rwa [Int.toNat_of_nonneg e] at this
theorem cut_mid {l : List D} {i j : Int} (e : 0 ≤ i) (e2 : i ≤ j) : cutD l (some i) (some j) = (l.take j.toNat).drop i.toNat := by
  have h1 := HT.sIx_nat (n := l.length) (d := 0) (k := i.toNat)
  have h2 := HT.sIx_nat (n := l.length) (d := l.length) (k := j.toNat)
  rw [Int.toNat_of_nonneg e] at h1
  rw [Int.toNat_of_nonneg (by omega)] at h2
  unfold cutD
  rw [h1, h2, List.drop_take]
  refine List.ext_getElem? fun k => ?_
  simp only [List.getElem?_take, List.getElem?_drop]
  by_cases hk : i.toNat + k < l.length
  · rw [Nat.min_eq_left (by omega : i.toNat ≤ l.length)]
    by_cases hj : k < j.toNat - i.toNat
    · rw [if_pos (by omega), if_pos hj]
    · rw [if_neg (by omega), if_neg hj]
  · rw [List.getElem?_eq_none (by omega), List.getElem?_eq_none (l := l) (i := i.toNat + k) (by omega)]
    split <;> split <;> rfl
section
variable {h l : Hs} {m : Bool} {o o1 o2 o3 : HO'} {x : List D} {n : List Int}
@[simp] theorem gLen_a0 : gLen (h ++ .lst x :: l) [.ref h.length] = some (.int x.length) := gLen_ref (get_app0)
@[simp] theorem gTupleF_a0 : gTupleF (h ++ .lst x :: l) [.ref h.length] = some (.tup x) := gTupleF_ref (get_app0)
@[simp] theorem gListF_a0 : gListF m [.ref h.length] (h ++ .lst x :: l) = newL m x (h ++ .lst x :: l) := gListF_ref (get_app0)
@[simp] theorem slG_a0 {lo hi : Option Int} : slG m lo hi (.ref h.length) (h ++ .lst x :: l) = newL m (cutD x lo hi) (h ++ .lst x :: l) := slG_ref (get_app0)
@[simp] theorem revG_a0 : revG m (.ref h.length) (h ++ .lst x :: l) = newL m x.reverse (h ++ .lst x :: l) := revG_ref (get_app0)
@[simp] theorem gIx_a0 {k : Int} : gIx (h ++ .lst x :: l) (.ref h.length) (.int k) = atI x k := gIx_ref (get_app0)
@[simp] theorem src_a0 : srcOf (.ref h.length) (h ++ .lst x :: l) = .ok ⟨x, fun h' => h'[h.length]? = some (.lst x)⟩ (h ++ .lst x :: l) := src_ref (get_app0)
@[simp] theorem isLst_a0 : isLst (h ++ .lst x :: l) (.ref h.length) = true := isLst_ref (get_app0)
@[simp] theorem gSort_a0 : gSort m [.ref h.length] (h ++ .lst (n.map .int) :: l) = newL m ((sortI n).map .int) (h ++ .lst (n.map .int) :: l) := gSort_ref (get_app0)
theorem back_a0 (e : x.all D.nr = true) : backR false h (.ref h.length) (h ++ .lst x :: l) = .ok (.vl x) h := by
  rw [back_lst (by omega) (get_app0) e (by simp)]
  simp
@[simp] theorem gLen_a1 : gLen (h ++ o :: .lst x :: l) [.ref (h.length + 1)] = some (.int x.length) := gLen_ref (get_app1)
@[simp] theorem gTupleF_a1 : gTupleF (h ++ o :: .lst x :: l) [.ref (h.length + 1)] = some (.tup x) := gTupleF_ref (get_app1)
@[simp] theorem gListF_a1 : gListF m [.ref (h.length + 1)] (h ++ o :: .lst x :: l) = newL m x (h ++ o :: .lst x :: l) := gListF_ref (get_app1)
@[simp] theorem slG_a1 {lo hi : Option Int} : slG m lo hi (.ref (h.length + 1)) (h ++ o :: .lst x :: l) = newL m (cutD x lo hi) (h ++ o :: .lst x :: l) := slG_ref (get_app1)
@[simp] theorem revG_a1 : revG m (.ref (h.length + 1)) (h ++ o :: .lst x :: l) = newL m x.reverse (h ++ o :: .lst x :: l) := revG_ref (get_app1)
@[simp] theorem gIx_a1 {k : Int} : gIx (h ++ o :: .lst x :: l) (.ref (h.length + 1)) (.int k) = atI x k := gIx_ref (get_app1)
@[simp] theorem src_a1 : srcOf (.ref (h.length + 1)) (h ++ o :: .lst x :: l) = .ok ⟨x, fun h' => h'[h.length + 1]? = some (.lst x)⟩ (h ++ o :: .lst x :: l) := src_ref (get_app1)
@[simp] theorem isLst_a1 : isLst (h ++ o :: .lst x :: l) (.ref (h.length + 1)) = true := isLst_ref (get_app1)
@[simp] theorem gSort_a1 : gSort m [.ref (h.length + 1)] (h ++ o :: .lst (n.map .int) :: l) = newL m ((sortI n).map .int) (h ++ o :: .lst (n.map .int) :: l) := gSort_ref (get_app1)
theorem back_a1 (e : x.all D.nr = true) : backR false h (.ref (h.length + 1)) (h ++ o :: .lst x :: l) = .ok (.vl x) h := by
  rw [back_lst (by omega) (get_app1) e (by simp)]
  simp
@[simp] theorem get_app2 : (h ++ o :: o1 :: o3 :: l)[h.length + 2]? = some o3 := by rw [get_app]; rfl
@[simp] theorem set_app2 {o' : HO'} : (h ++ o :: o1 :: o3 :: l).set (h.length + 2) o' = h ++ o :: o1 :: o' :: l := by
  rw [List.set_append_right _ _ (by omega)]
  congr 1
  have : h.length + 2 - h.length = 2 := by omega
  rw [this]
  rfl
@[simp] theorem gLen_a2 : gLen (h ++ o :: o1 :: .lst x :: l) [.ref (h.length + 2)] = some (.int x.length) := gLen_ref (get_app2)
@[simp] theorem gTupleF_a2 : gTupleF (h ++ o :: o1 :: .lst x :: l) [.ref (h.length + 2)] = some (.tup x) := gTupleF_ref (get_app2)
@[simp] theorem gListF_a2 : gListF m [.ref (h.length + 2)] (h ++ o :: o1 :: .lst x :: l) = newL m x (h ++ o :: o1 :: .lst x :: l) := gListF_ref (get_app2)
@[simp] theorem slG_a2 {lo hi : Option Int} : slG m lo hi (.ref (h.length + 2)) (h ++ o :: o1 :: .lst x :: l) = newL m (cutD x lo hi) (h ++ o :: o1 :: .lst x :: l) := slG_ref (get_app2)
@[simp] theorem revG_a2 : revG m (.ref (h.length + 2)) (h ++ o :: o1 :: .lst x :: l) = newL m x.reverse (h ++ o :: o1 :: .lst x :: l) := revG_ref (get_app2)
@[simp] theorem gIx_a2 {k : Int} : gIx (h ++ o :: o1 :: .lst x :: l) (.ref (h.length + 2)) (.int k) = atI x k := gIx_ref (get_app2)
@[simp] theorem src_a2 : srcOf (.ref (h.length + 2)) (h ++ o :: o1 :: .lst x :: l) = .ok ⟨x, fun h' => h'[h.length + 2]? = some (.lst x)⟩ (h ++ o :: o1 :: .lst x :: l) := src_ref (get_app2)
@[simp] theorem isLst_a2 : isLst (h ++ o :: o1 :: .lst x :: l) (.ref (h.length + 2)) = true := isLst_ref (get_app2)
@[simp] theorem gSort_a2 : gSort m [.ref (h.length + 2)] (h ++ o :: o1 :: .lst (n.map .int) :: l) = newL m ((sortI n).map .int) (h ++ o :: o1 :: .lst (n.map .int) :: l) := gSort_ref (get_app2)
theorem back_a2 (e : x.all D.nr = true) : backR false h (.ref (h.length + 2)) (h ++ o :: o1 :: .lst x :: l) = .ok (.vl x) h := by
  rw [back_lst (by omega) (get_app2) e (by simp)]
  simp
@[simp] theorem get_app3 : (h ++ o :: o1 :: o2 :: o3 :: l)[h.length + 3]? = some o3 := by rw [get_app]; rfl
@[simp] theorem set_app3 {o' : HO'} : (h ++ o :: o1 :: o2 :: o3 :: l).set (h.length + 3) o' = h ++ o :: o1 :: o2 :: o' :: l := by
  rw [List.set_append_right _ _ (by omega)]
  congr 1
  have : h.length + 3 - h.length = 3 := by omega
  rw [this]
  rfl
@[simp] theorem gLen_a3 : gLen (h ++ o :: o1 :: o2 :: .lst x :: l) [.ref (h.length + 3)] = some (.int x.length) := gLen_ref (get_app3)
@[simp] theorem gTupleF_a3 : gTupleF (h ++ o :: o1 :: o2 :: .lst x :: l) [.ref (h.length + 3)] = some (.tup x) := gTupleF_ref (get_app3)
@[simp] theorem gListF_a3 : gListF m [.ref (h.length + 3)] (h ++ o :: o1 :: o2 :: .lst x :: l) = newL m x (h ++ o :: o1 :: o2 :: .lst x :: l) := gListF_ref (get_app3)
@[simp] theorem slG_a3 {lo hi : Option Int} : slG m lo hi (.ref (h.length + 3)) (h ++ o :: o1 :: o2 :: .lst x :: l) = newL m (cutD x lo hi) (h ++ o :: o1 :: o2 :: .lst x :: l) := slG_ref (get_app3)
@[simp] theorem revG_a3 : revG m (.ref (h.length + 3)) (h ++ o :: o1 :: o2 :: .lst x :: l) = newL m x.reverse (h ++ o :: o1 :: o2 :: .lst x :: l) := revG_ref (get_app3)
@[simp] theorem gIx_a3 {k : Int} : gIx (h ++ o :: o1 :: o2 :: .lst x :: l) (.ref (h.length + 3)) (.int k) = atI x k := gIx_ref (get_app3)
@[simp] theorem src_a3 : srcOf (.ref (h.length + 3)) (h ++ o :: o1 :: o2 :: .lst x :: l) = .ok ⟨x, fun h' => h'[h.length + 3]? = some (.lst x)⟩ (h ++ o :: o1 :: o2 :: .lst x :: l) := src_ref (get_app3)
@[simp] theorem isLst_a3 : isLst (h ++ o :: o1 :: o2 :: .lst x :: l) (.ref (h.length + 3)) = true := isLst_ref (get_app3)
@[simp] theorem gSort_a3 : gSort m [.ref (h.length + 3)] (h ++ o :: o1 :: o2 :: .lst (n.map .int) :: l) = newL m ((sortI n).map .int) (h ++ o :: o1 :: o2 :: .lst (n.map .int) :: l) := gSort_ref (get_app3)
theorem back_a3 (e : x.all D.nr = true) : backR false h (.ref (h.length + 3)) (h ++ o :: o1 :: o2 :: .lst x :: l) = .ok (.vl x) h := by
  rw [back_lst (by omega) (get_app3) e (by simp)]
  simp
end
section
variable {h l : Hs} {o o1 o2 o3 : HO'} {x : List D} {s : SD} {z v : D} {ds : List D}
@[simp] theorem mth_ev {c : Hs → D → Bool} {g : D → List D → Hs → R D} {fo : SD → Hs → R D} {fs : SD → Hs → R (List D)} : mthR c g fo fs s h = (fo s h).bind fun d h1 => if c h1 d = true then (fs s h1).bind fun ds h2 => g d ds h2 else .stk := by unfold mthR; generalize (R.bind _ _ : R D) = y; exact Eq.refl y
@[simp] theorem mc_append : Me.append.c = isLst := by simp only [Me.c]
@[simp] theorem mc_extend : Me.extend.c = isLst := by simp only [Me.c]
@[simp] theorem mc_popAt : Me.popAt.c = isLst := by simp only [Me.c]
@[simp] theorem mc_pop : Me.pop.c = isLst := by simp only [Me.c]
@[simp] theorem mc_insert : Me.insert.c = isLst := by simp only [Me.c]
@[simp] theorem mc_count : Me.count.c = isLst := by simp only [Me.c]
@[simp] theorem mc_index : Me.index.c = isLst := by simp only [Me.c]
@[simp] theorem mc_get : Me.get.c = isDic := by simp only [Me.c]
@[simp] theorem mc_clr : Me.clr.c = isClr := by simp only [Me.c]
def lstMr (h : Hs) (n : Nat) (o : Option (List D × D)) : R D := match o with
  | some (l', z) => match putH n (.lst l') h with
    | some h' => .ok z h'
    | none => .stk
  | none => .stk
theorem lstM_ref {g : Hs → List D → List D → Option (List D × D)} {n : Nat} (e : h[n]? = some (.lst x)) : lstM g (.ref n) ds h = lstMr h n (g h x ds) := by
  unfold lstM lstMr
  simp only [e]
  all_goals
    generalize g h x ds = o
    cases o with
    | none => simp only
    | some p =>
      obtain ⟨l', z⟩ := p
      dsimp only
      cases hh : putH n (.lst l') h <;> simp only [hh]
@[simp] theorem lstMr_some {n : Nat} : lstMr h n (some (x, z)) = .ok z (h.set n (.lst x)) := by unfold lstMr; simp only [putH_of]
def stoR (s : SD) (o : Option Hs) : O := match o with
  | some h => .nx s h
  | none => .stk
@[simp] theorem stoR_some : stoR s (some h) = .nx s h := by unfold stoR; simp only
@[simp] theorem storeO_ev {fe fo fi : SD → Hs → R D} : storeO fe fo fi s h = (fe s h).thenO s fun v h1 => (fo s h1).thenO s fun o h2 => (fi s h2).thenO s fun i h3 => stoR s (storeG o i v h3) := by unfold storeO stoR; generalize (R.thenO _ _ _ : O) = y; exact Eq.refl y
@[simp] theorem ixN_of {n : Nat} {k : Int} (h0 : 0 ≤ k) (h1 : k < n) : ixN n k = some k.toNat := by unfold ixN; rw [if_pos h0, if_pos h1]
theorem storeG_ref {n : Nat} {k : Int} (e : h[n]? = some (.lst x)) : storeG (.ref n) (.int k) v h = (ixN x.length k).bind fun j => putH n (.lst (x.set j v)) h := by simp [storeG, e]
theorem storeG_of {n : Nat} {k : Int} (e : h[n]? = some (.lst x)) (h0 : 0 ≤ k) (h1 : k < x.length) : storeG (.ref n) (.int k) v h = some (h.set n (.lst (x.set k.toNat v))) := by
  rw [storeG_ref e, ixN_of h0 h1]
  exact putH_of
theorem nr_set {j : Nat} (e : x.all D.nr = true) (e2 : v.nr = true) : (x.set j v).all D.nr = true := by
  rw [List.all_eq_true] at e ⊢
  intro d hd
  rcases List.mem_or_eq_of_mem_set hd with z | z
  · exact e d z
  · rw [z]; exact e2
@[simp] theorem txInsert_of {i : Int} {d : D} (e : x.length < 16777216) (h0 : 0 ≤ i) (h1 : i < 2 ^ 63) : txInsert h x [.int i, d] = some (x.take i.toNat ++ [d] ++ x.drop i.toNat, .non) := by unfold txInsert; simp only [if_pos (And.intro e (And.intro h0 h1))]
theorem txPop_of {y : D} : txPop h (x ++ [y]) [] = some (x, y) := by unfold txPop; simp
@[simp] theorem lstM_a0 {g : Hs → List D → List D → Option (List D × D)} : lstM g (.ref h.length) ds (h ++ .lst x :: l) = lstMr (h ++ .lst x :: l) h.length (g (h ++ .lst x :: l) x ds) := lstM_ref (get_app0)
@[simp] theorem storeG_a0 {k : Int} : storeG (.ref h.length) (.int k) v (h ++ .lst x :: l) = (ixN x.length k).bind fun j => putH h.length (.lst (x.set j v)) (h ++ .lst x :: l) := storeG_ref (get_app0)
@[simp] theorem lstM_a1 {g : Hs → List D → List D → Option (List D × D)} : lstM g (.ref (h.length + 1)) ds (h ++ o :: .lst x :: l) = lstMr (h ++ o :: .lst x :: l) (h.length + 1) (g (h ++ o :: .lst x :: l) x ds) := lstM_ref (get_app1)
@[simp] theorem storeG_a1 {k : Int} : storeG (.ref (h.length + 1)) (.int k) v (h ++ o :: .lst x :: l) = (ixN x.length k).bind fun j => putH (h.length + 1) (.lst (x.set j v)) (h ++ o :: .lst x :: l) := storeG_ref (get_app1)
@[simp] theorem lstM_a2 {g : Hs → List D → List D → Option (List D × D)} : lstM g (.ref (h.length + 2)) ds (h ++ o :: o1 :: .lst x :: l) = lstMr (h ++ o :: o1 :: .lst x :: l) (h.length + 2) (g (h ++ o :: o1 :: .lst x :: l) x ds) := lstM_ref (get_app2)
@[simp] theorem storeG_a2 {k : Int} : storeG (.ref (h.length + 2)) (.int k) v (h ++ o :: o1 :: .lst x :: l) = (ixN x.length k).bind fun j => putH (h.length + 2) (.lst (x.set j v)) (h ++ o :: o1 :: .lst x :: l) := storeG_ref (get_app2)
@[simp] theorem lstM_a3 {g : Hs → List D → List D → Option (List D × D)} : lstM g (.ref (h.length + 3)) ds (h ++ o :: o1 :: o2 :: .lst x :: l) = lstMr (h ++ o :: o1 :: o2 :: .lst x :: l) (h.length + 3) (g (h ++ o :: o1 :: o2 :: .lst x :: l) x ds) := lstM_ref (get_app3)
@[simp] theorem storeG_a3 {k : Int} : storeG (.ref (h.length + 3)) (.int k) v (h ++ o :: o1 :: o2 :: .lst x :: l) = (ixN x.length k).bind fun j => putH (h.length + 3) (.lst (x.set j v)) (h ++ o :: o1 :: o2 :: .lst x :: l) := storeG_ref (get_app3)
end
/-- of a source that needs no looking after -/
theorem lcM {α : Type} {m : Bool} {f : α → D} {ft : D → SD → Option SD} {fb fe : SD → Hs → R D} {vs : List Nat} {s : SD} {h : Hs} (g : α → D) (l : List α) (hl : l.length ≤ 16777216) (k : ∀ a ∈ l, lcT ft fb fe (wipeS s vs) (f a) h = .ok (some (g a)) h) :
    lcO m ft fb fe vs s (src0 (l.map f)) h = newL m (l.map g) h := lcO_map g l trivial hl k
theorem lcF {α : Type} {m : Bool} {f : α → D} {ft : D → SD → Option SD} {fb fe : SD → Hs → R D} {vs : List Nat} {s : SD} {h : Hs} (p : α → Bool) (g : α → D) (l : List α) (hl : l.length ≤ 16777216) (k : ∀ a ∈ l, lcT ft fb fe (wipeS s vs) (f a) h = .ok (if p a = true then some (g a) else none) h) :
    lcO m ft fb fe vs s (src0 (l.map f)) h = newL m ((l.filter p).map g) h := lcO_filter p g l trivial hl k
@[simp] theorem all_takeN {x : List D} {k : Nat} (e : x.all D.nr = true) : (x.take k).all D.nr = true := List.all_eq_true.mpr fun d hd => List.all_eq_true.mp e d (List.mem_of_mem_take hd)
@[simp] theorem all_dropN {x : List D} {k : Nat} (e : x.all D.nr = true) : (x.drop k).all D.nr = true := List.all_eq_true.mpr fun d hd => List.all_eq_true.mp e d (List.mem_of_mem_drop hd)
@[simp] theorem all_setN {x : List D} {k : Nat} {v : D} (e : x.all D.nr = true) (e2 : v.nr = true) : (x.set k v).all D.nr = true := nr_set e e2
/-! ### exceptions -/
section
variable {Γ : Mir} {n : Nat} {s : SD} {h : Hs}
@[simp] theorem s_rs {x : Str} : S.ev Γ n (.rs x) s h = .rs x none s h := by simp only [S.ev]
@[simp] theorem s_rsS {e : E} : S.ev Γ n (.rsS e) s h = (e.ev Γ s h).thenO s (rsVO s) := by simp only [S.ev]
@[simp] theorem rsVO_int {i : Int} : rsVO s (.int i) h = .rs "Short" (some i) s h := by unfold rsVO; simp only
def trM (cs : List Str) (y : Str) (i : Option Nat) (fs : SD → Hs → O) : O → O
  | .rs c p s1 h1 => if c ∈ cs then (if subX c y = true then endI i (fs (bindS i (.exc c p) s1) h1) else .rs c p s1 h1) else .stk
  | o => o
@[simp] theorem s_tr {cs : List Str} {y : Str} {i : Option Nat} {b t : List S} : S.ev Γ n (.tr cs y i b t) s h = trM cs y i (S.evs Γ n t) (S.evs Γ n b s h) := by
  simp only [S.ev]
  unfold trO trM
  cases S.evs Γ n b s h <;> simp only
variable {cs : List Str} {y c : Str} {i : Option Nat} {j : Nat} {fs : SD → Hs → O} {p : Option Int} {d : D}
@[simp] theorem trM_nx : trM cs y i fs (.nx s h) = .nx s h := by unfold trM; simp only
@[simp] theorem trM_rt : trM cs y i fs (.rt d h) = .rt d h := by unfold trM; simp only
@[simp] theorem trM_bk : trM cs y i fs (.bk s h) = .bk s h := by unfold trM; simp only
@[simp] theorem trM_ct : trM cs y i fs (.ct s h) = .ct s h := by unfold trM; simp only
@[simp] theorem trM_rs : trM cs y i fs (.rs c p s h) = if c ∈ cs then (if subX c y = true then endI i (fs (bindS i (.exc c p) s) h) else .rs c p s h) else .stk := by unfold trM; simp only
@[simp] theorem trM_ite {q : Prop} [Decidable q] {a b : O} : trM cs y i fs (if q then a else b) = if q then trM cs y i fs a else trM cs y i fs b := by split <;> rfl
@[simp] theorem endI_nx : endI i (.nx s h) = .nx (goneS i s) h := by unfold endI; simp only
@[simp] theorem endI_bk : endI i (.bk s h) = .bk (goneS i s) h := by unfold endI; simp only
@[simp] theorem endI_ct : endI i (.ct s h) = .ct (goneS i s) h := by unfold endI; simp only
@[simp] theorem endI_rt : endI i (.rt d h) = .rt d h := by unfold endI; simp only
@[simp] theorem endI_ite {q : Prop} [Decidable q] {a b : O} : endI i (if q then a else b) = if q then endI i a else endI i b := by split <;> rfl
@[simp] theorem bindS_some : bindS (some j) d s = s.set j (some d) := by unfold bindS; simp only
@[simp] theorem bindS_none : bindS none d s = s := by unfold bindS; simp only
@[simp] theorem goneS_some : goneS (some j) s = s.set j none := by unfold goneS; simp only
@[simp] theorem goneS_none : goneS none s = s := by unfold goneS; simp only
@[simp] theorem e_own {cat : Bool} {a b : E} : E.ev Γ (.own cat a b) s h = (a.ev Γ s h).bind fun x h1 => (b.ev Γ s h1).bind fun y h2 => ownO cat x y h2 := by simp only [E.ev]
@[simp] theorem e_isE {e : E} : E.ev Γ (.isE cs y e) s h = (e.ev Γ s h).bind (isEG cs y) := by simp only [E.ev]
@[simp] theorem e_had {e : E} : E.ev Γ (.had cs e) s h = (e.ev Γ s h).bind (hadG cs) := by simp only [E.ev]
@[simp] theorem isEG_exc (e : c ∈ cs) : isEG cs y (.exc c p) h = .ok (.bl (subX c y)) h := by unfold isEG; simp only [if_pos e]
@[simp] theorem hadG_exc {k : Int} (e : ("Short" : Str) ∈ cs) : hadG cs (.exc "Short" (some k)) h = .ok (.int k) h := by unfold hadG; dsimp only; rw [if_pos ⟨rfl, e⟩]
@[simp] theorem nr_exc {c : Str} {p : Option Int} : (D.exc c p).nr = true := by simp only [D.nr]
@[simp] theorem gIs_non_exc : gIs h (.exc c p) .non = some (.bl false) := by simp [gIs, gIs0]
@[simp] theorem gIs_non_non : gIs h .non .non = some (.bl true) := by simp [gIs, gIs0]
@[simp] theorem gIsNot_non_exc : gIsNot h (.exc c p) .non = some (.bl true) := by simp [gIsNot, gIs0]
@[simp] theorem gIsNot_non_non : gIsNot h .non .non = some (.bl false) := by simp [gIsNot, gIs0]
@[simp] theorem fstO_ev {cs : List Str} {f : Str} {fe fo : SD → Hs → R D} : fstO cs f fe fo s h = (fe s h).thenO s fun v h1 => (fo s h1).thenO s fun o h2 => stoR s (fstG cs f o v h2) := by
  unfold fstO stoR
  rfl
theorem fldG_at {cs : List Str} {f c : Str} {fs : List Str} {l : List D} {k : Nat} {v : D} (e : h[k]? = some (.ins c fs l)) (hc : c ∈ cs) (hv : (fs.zip l).lookup f = some v) : fldG cs f (.ref k) h = .ok v h := by
  unfold fldG
  simp only [e, hc, if_true, hv]
theorem fstG_at {cs : List Str} {f c : Str} {fs : List Str} {l : List D} {k : Nat} {v : D} (e : h[k]? = some (.ins c fs l)) (hc : c ∈ cs) (h1 : fs.length < 1000) (h2 : fs.length = l.length) : fstG cs f (.ref k) v h = some (h.set k (.ins c (putP f v fs l).1 (putP f v fs l).2)) := by
  unfold fstG
  simp only [e]
  rw [if_pos ⟨hc, h1, h2⟩]
theorem mclR_at {ms : List (Str × Nat)} {m c : Str} {q : Nat → List D → Hs → R D} {fo : SD → Hs → R D} {fa : SD → Hs → R (List D)} {fs : List Str} {l : List D} {k j : Nat} {h1 : Hs} (e0 : fo s h = .ok (.ref k) h1) (e : h1[k]? = some (.ins c fs l)) (hj : ms.lookup c = some j) (hm : m ∉ fs) : mclR ms m q fo fa s h = (fa s h1).bind fun ds h2 => q j (.ref k :: ds) h2 := by
  unfold mclR
  rw [e0, bind_ok]
  simp only [e, hj]
  rw [if_neg hm]
end
end Gx

/-! G14: data that stand for something: ==, !=, in, not in. -/
namespace Gx
open PySem L2
structure Enc {α : Type} [DecidableEq α] (f : α → D) (k : Nat) : Prop where
  lay : ∀ a, (f a).py.canLay0 = true
  dp : ∀ a, (f a).py.depth ≤ k
  nr : ∀ a, (f a).nr = true
  eq : ∀ a b, PyData.eqv (f a).py (f b).py = decide (a = b)
section
variable {α : Type} [DecidableEq α] {f : α → D} {k : Nat}
theorem enc_int : Enc D.int 0 where
  lay := fun a => by simp [D.py, PyData.canLay0]
  dp := fun a => by simp [D.py, PyData.depth]
  nr := fun a => by simp
  eq := fun a b => eqD_int
theorem enc_bl : Enc D.bl 0 where
  lay := fun a => by simp [D.py, PyData.canLay0]
  dp := fun a => by simp [D.py, PyData.depth]
  nr := fun a => by simp
  eq := fun a b => eqD_bl
theorem Enc.layAll (E : Enc f k) : ∀ l : List α, PyData.canLayAll0 ((l.map f).map D.py) = true
  | [] => by simp [PyData.canLayAll0]
  | a :: r => by simp only [List.map_cons, PyData.canLayAll0, E.lay a, E.layAll r, Bool.and_self]
theorem Enc.dpAll (E : Enc f k) : ∀ l : List α, PyData.depthAll ((l.map f).map D.py) ≤ k
  | [] => by simp [PyData.depthAll]
  | a :: r => by
    have h1 := E.dp a
    have h2 := E.dpAll r
    simp only [List.map_cons, PyData.depthAll]
    omega
theorem Enc.eqAll (E : Enc f k) : ∀ l m : List α, PyData.eqvAll ((l.map f).map D.py) ((m.map f).map D.py) = decide (l = m)
  | [], [] => by simp [PyData.eqvAll]
  | [], b :: m => by simp [PyData.eqvAll]
  | a :: l, [] => by simp [PyData.eqvAll]
  | a :: l, b :: m => by
    simp only [List.map_cons, PyData.eqvAll, E.eq a b, E.eqAll l m, List.cons.injEq]
    by_cases h1 : a = b <;> by_cases h2 : l = m <;> simp [h1, h2]
theorem Enc.tup (E : Enc f k) : Enc (fun l : List α => .tup (l.map f)) (k + 1) where
  lay := fun l => by simp only [D.py, pyL_map, PyData.canLay0]; exact E.layAll l
  dp := fun l => by simp only [D.py, pyL_map, PyData.depth]; have := E.dpAll l; omega
  nr := fun l => by simp [E.nr]
  eq := fun l m => by simp only [D.py, pyL_map, PyData.eqv]; exact E.eqAll l m
theorem Enc.vl (E : Enc f k) : Enc (fun l : List α => .vl (l.map f)) (k + 1) where
  lay := fun l => by simp only [D.py, pyL_map, PyData.canLay0]; exact E.layAll l
  dp := fun l => by simp only [D.py, pyL_map, PyData.depth]; have := E.dpAll l; omega
  nr := fun l => by simp [E.nr]
  eq := fun l m => by simp only [D.py, pyL_map, PyData.eqv]; exact E.eqAll l m
theorem Enc.shp (E : Enc f k) (hk : k ≤ 64) {x : D} {a : α} (hx : x.py = (f a).py) : shp x = true := by
  unfold Gx.shp SeqAt.shaped
  rw [hx, E.lay a]
  have := E.dp a
  simp
  omega
variable {h : Hs}
theorem dicP_lay {x y : D} (c : x.py.canLay0 = true) : dicP h x y = none ∨ ∃ n, x = .ref n := by
  cases x <;> first | exact .inl rfl | exact .inr ⟨_, rfl⟩ | (cases c; done)
theorem dicP_enc (E : Enc f k) {a : α} {y : D} : dicP h (f a) y = none := by
  rcases dicP_lay (h := h) (y := y) (E.lay a) with e | ⟨n, e⟩
  · exact e
  · have := E.nr a
    rw [e] at this
    simp [D.nr] at this
theorem gEq_enc (E : Enc f k) (hk : k ≤ 64) {a b : α} : gEq h (f a) (f b) = some (.bl (decide (a = b))) := by
  unfold gEq
  rw [dicP_enc E]
  simp only
  rw [rsv_nr (E.nr a), rsv_nr (E.nr b), if_pos ⟨E.shp hk rfl, E.shp hk rfl⟩]
  unfold eqD
  rw [E.eq]
theorem gNe_enc (E : Enc f k) (hk : k ≤ 64) {a b : α} : gNe h (f a) (f b) = some (.bl (decide (a ≠ b))) := by
  unfold gNe
  rw [dicP_enc E]
  simp only
  rw [rsv_nr (E.nr a), rsv_nr (E.nr b), if_pos ⟨E.shp hk rfl, E.shp hk rfl⟩]
  unfold eqD
  rw [E.eq]
  simp
theorem inD_enc (E : Enc f k) {a : α} {l : List α} : inD (f a) (l.map f) = decide (a ∈ l) := by
  unfold inD
  rw [List.any_map]
  have : ((fun z => eqD z (f a)) ∘ f) = fun b => decide (b = a) := funext fun b => E.eq b a
  rw [this]
  rw [Bool.eq_iff_iff, List.any_eq_true]
  constructor
  · rintro ⟨b, h1, h2⟩
    have h2 := of_decide_eq_true h2
    subst h2
    exact decide_eq_true h1
  · intro h
    exact ⟨a, of_decide_eq_true h, decide_eq_true rfl⟩
theorem gIn0_tup (E : Enc f k) (hk : k < 64) {a : α} {l : List α} : gIn0 h (f a) (.tup (l.map f)) = some (decide (a ∈ l)) := by
  unfold gIn0
  rw [rsv_nr (E.nr a), rsv_nr (E.tup.nr l)]
  dsimp only
  rw [if_pos ⟨E.shp (by omega) rfl, E.tup.shp (a := l) (by omega) rfl⟩, inD_enc E]
theorem gIn0_vl (E : Enc f k) (hk : k < 64) {a : α} {l : List α} : gIn0 h (f a) (.vl (l.map f)) = some (decide (a ∈ l)) := by
  unfold gIn0
  rw [rsv_nr (E.nr a), rsv_nr (E.vl.nr l)]
  dsimp only
  rw [if_pos ⟨E.shp (by omega) rfl, E.vl.shp (a := l) (by omega) rfl⟩, inD_enc E]
/-- of an object, as of the value that it holds -/
theorem rsv_ref {n : Nat} {l : List D} (e : h[n]? = some (.lst l)) (hl : l.all D.nr = true) : rsv h (.ref n) = .vl l := by
  unfold rsv D.rv rf
  rw [e]
  dsimp only
  rw [rvL_nr _ l (by rw [nrL_all]; exact hl)]
theorem gIn0_ref (E : Enc f k) (hk : k < 64) {a : α} {l : List α} {n : Nat} (e : h[n]? = some (.lst (l.map f))) : gIn0 h (f a) (.ref n) = some (decide (a ∈ l)) := by
  have e1 : (l.map f).all D.nr = true := by simp [E.nr]
  have := gIn0_vl (h := h) E hk (a := a) (l := l)
  unfold gIn0 at this ⊢
  rw [rsv_ref e e1]
  rw [rsv_nr (E.vl.nr l)] at this
  exact this
theorem gIn_of {b : D} (e : dicH h b = none) {a : D} (e2 : ditH h b = none := by first | rfl | (simp [ditH, *]; done)) : gIn h a b = (gIn0 h a b).map .bl := by unfold gIn; rw [e, e2]
theorem gNotIn_of {b : D} (e : dicH h b = none) {a : D} (e2 : ditH h b = none := by first | rfl | (simp [ditH, *]; done)) : gNotIn h a b = (gIn0 h a b).map fun k => .bl (!k) := by unfold gNotIn; rw [e, e2]
theorem dicH_ref {n : Nat} {l : List D} (e : h[n]? = some (.lst l)) : dicH h (.ref n) = none := by unfold dicH; simp [e]
theorem gIn_tup (E : Enc f k) (hk : k < 64) {a : α} {l : List α} : gIn h (f a) (.tup (l.map f)) = some (.bl (decide (a ∈ l))) := by rw [gIn_of rfl, gIn0_tup E hk]; rfl
theorem gIn_vl (E : Enc f k) (hk : k < 64) {a : α} {l : List α} : gIn h (f a) (.vl (l.map f)) = some (.bl (decide (a ∈ l))) := by rw [gIn_of rfl, gIn0_vl E hk]; rfl
theorem gIn_ref (E : Enc f k) (hk : k < 64) {a : α} {l : List α} {n : Nat} (e : h[n]? = some (.lst (l.map f))) : gIn h (f a) (.ref n) = some (.bl (decide (a ∈ l))) := by rw [gIn_of (dicH_ref e), gIn0_ref E hk e]; rfl
theorem gNotIn_tup (E : Enc f k) (hk : k < 64) {a : α} {l : List α} : gNotIn h (f a) (.tup (l.map f)) = some (.bl (decide (a ∉ l))) := by rw [gNotIn_of rfl, gIn0_tup E hk]; simp
theorem gNotIn_vl (E : Enc f k) (hk : k < 64) {a : α} {l : List α} : gNotIn h (f a) (.vl (l.map f)) = some (.bl (decide (a ∉ l))) := by rw [gNotIn_of rfl, gIn0_vl E hk]; simp
theorem gNotIn_ref (E : Enc f k) (hk : k < 64) {a : α} {l : List α} {n : Nat} (e : h[n]? = some (.lst (l.map f))) : gNotIn h (f a) (.ref n) = some (.bl (decide (a ∉ l))) := by rw [gNotIn_of (dicH_ref e), gIn0_ref E hk e]; simp
end
/-! ### of the joints -/
/-- of all of a list, one by one -/
def AllP {α : Type} (p : α → Prop) : List α → Prop
  | [] => True
  | a :: r => p a ∧ AllP p r
theorem mem_all {α : Type} {p : α → Prop} : ∀ {l : List α}, AllP p l → ∀ a ∈ l, p a
  | [], _, a, h => by cases h
  | b :: r, h, a, m => by
    rcases List.mem_cons.mp m with e | e
    · rw [e]; exact h.1
    · exact mem_all h.2 a e
theorem kit_own {K : PySem.W.Frag} {C D : Addr} {b s : Bool} (h1 : PySem.W.hasDictIn K D = true) (h2 : PySem.W.typeIn K (.ref D) = some (.type "type")) (h3 : PySem.W.subIn K (.ref C) (.ref D) = some b) (h4 : PySem.W.subIn K (.ref C) (.ref C) = some true) (e : b = s) : PySem.W.kitOne K (.ref C) (.ref D) = some s := by
  subst e
  unfold PySem.W.kitOne
  by_cases z : C = D
  · subst z
    rw [h3] at h4
    injection h4 with h4
    subst h4
    rw [if_pos (by simp)]
  · have : ((Value.ref C == Value.ref D) = true) = False := by simp [z]
    rw [if_neg (by simp [z])]
    unfold PySem.W.kitCls
    have h5 : (PySem.W.clsIn K D).isSome = true := by
      unfold PySem.W.hasDictIn at h1
      cases q : PySem.W.clsIn K D with
      | none => rw [q] at h1; cases h1
      | some x => rfl
    dsimp only
    rw [if_pos (by rw [h5, h2]; rfl)]
    exact h3
theorem kit_ve {K : PySem.W.Frag} {C : Addr} (h : PySem.W.subIn K (.ref C) (.type "ValueError") = some true) : PySem.W.kitOne K (.ref C) (.type "ValueError") = some true := by
  unfold PySem.W.kitOne
  rw [if_neg (by simp)]
  unfold PySem.W.kitCls
  dsimp only
  rw [if_pos (by decide +kernel)]
  exact h
theorem row_own {F : Fr} {x : Str} {C D : Addr} {b s : Bool} (e : F.cls x = .ref C) (h1 : PySem.W.hasDictIn F.K D = true) (h2 : PySem.W.typeIn F.K (.ref D) = some (.type "type")) (h3 : PySem.W.subIn F.K (.ref C) (.ref D) = some b) (h4 : PySem.W.subIn F.K (.ref C) (.ref C) = some true)
    (h5 : PySem.W.subIn F.K (.ref D) (.type "BaseException") = some true) (q : b = s) : PySem.W.kitOne F.K (F.cls x) (.ref D) = some s ∧ PySem.W.exmOne F.K (F.cls x) (.ref D) = some s := by
  rw [e]
  refine ⟨kit_own h1 h2 h3 h4 q, PySem.W.exm_ref h5 h1 h2 ?_⟩
  rw [h3, q]
theorem row_ve {F : Fr} {x : Str} {C : Addr} (e : F.cls x = .ref C) (h : PySem.W.subIn F.K (.ref C) (.type "ValueError") = some true) : PySem.W.kitOne F.K (F.cls x) (.type "ValueError") = some true := by rw [e]; exact kit_ve h
end Gx

namespace Gx
open PySem L2
end Gx
namespace Gx
open PySem L2
/-! tables of ints -/
def rowD (r : List Int) : D := .tup (r.map .int)
def tabD (t : List (List Int)) : D := .tup (t.map rowD)
theorem enc_row : Enc rowD 1 := enc_int.tup
theorem enc_tab : Enc tabD 2 := enc_row.tup
@[simp] theorem nr_rowD (r : List Int) : (rowD r).nr = true := enc_row.nr r
@[simp] theorem nr_tabD (t : List (List Int)) : (tabD t).nr = true := enc_tab.nr t
section
variable {h : Hs}
@[simp] theorem len_tabD (t : List (List Int)) : gLen h [tabD t] = some (.int t.length) := by simp [tabD]
@[simp] theorem len_rowD (t : List Int) : gLen h [rowD t] = some (.int t.length) := by simp [rowD]
@[simp] theorem sum_rowD (t : List Int) : gSum h [rowD t] = some (.int t.sum) := by simp [rowD]
def rowA (t : List (List Int)) (h : Int) : List Int := (t[h.toNat]?).getD []
def cellA (r : List Int) (k : Int) : Int := (r[k.toNat]?).getD 0
/-- each row has one number more than there are rows -/
def wfB (t : List (List Int)) : Bool := t.all fun r => r.length == t.length + 1
theorem ix_tab {t : List (List Int)} {i : Int} (h0 : 0 ≤ i) (h1 : i < t.length) : gIx h (tabD t) (.int i) = some (rowD (rowA t i)) := by
  have e : t[i.toNat]? = some (t[i.toNat]'(by omega)) := List.getElem?_eq_getElem (by omega)
  unfold tabD rowA
  rw [gIx_tupm h0 h1, e]
  rfl
theorem ix_row {r : List Int} {k : Int} (h0 : 0 ≤ k) (h1 : k < r.length) : gIx h (rowD r) (.int k) = some (.int (cellA r k)) := by
  have e : r[k.toNat]? = some (r[k.toNat]'(by omega)) := List.getElem?_eq_getElem (by omega)
  unfold rowD cellA
  rw [gIx_tupm h0 h1, e]
  rfl
theorem row_mem {t : List (List Int)} {h : Int} (h0 : 0 ≤ h) (h1 : h < t.length) : rowA t h ∈ t := by
  have e : t[h.toNat]? = some (t[h.toNat]'(by omega)) := List.getElem?_eq_getElem (by omega)
  unfold rowA
  rw [e]
  exact List.getElem_mem _
theorem wf_row {t : List (List Int)} (w : wfB t = true) {r : List Int} (h : r ∈ t) : r.length = t.length + 1 := by
  have := List.all_eq_true.mp w r h
  simpa using this
theorem wf_len {t : List (List Int)} (w : wfB t = true) {h : Int} (h0 : 0 ≤ h) (h1 : h < t.length) : ((rowA t h).length : Int) = t.length + 1 := by
  have := wf_row w (row_mem h0 h1)
  omega
theorem wf_of {t : List (List Int)} (h : ∀ r ∈ t, r.length = t.length + 1) : wfB t = true := List.all_eq_true.mpr fun r hr => by simp [h r hr]
theorem cut_row {r : List Int} {k : Nat} : cutD (r.map D.int) none (some (k : Int)) = (r.take k).map .int := by rw [cut_take, List.map_take]
@[simp] theorem sl_row {m : Bool} {r : List Int} {k : Nat} : slG m none (some (k : Int)) (rowD r) h = .ok (rowD (r.take k)) h := by
  unfold rowD
  rw [slG_tup, cut_row]
def lentByI (t : List (List Int)) (h : Int) : Int := ((rowA t h).take t.length).sum - cellA (rowA t h) h
def lentToI (t : List (List Int)) (h : Int) : Int := (t.map fun r => cellA r h).sum - cellA (rowA t h) h
def rightsI (t : List (List Int)) (h : Int) : Int := cellA (rowA t h) h + lentToI t h - lentByI t h - cellA (rowA t h) t.length
def pairD (p : List Int × List Int) : D := .tup [rowD p.1, rowD p.2]
def pairI (p : Int × Int) : D := .tup [.int p.1, .int p.2]
@[simp] theorem src_tabD {t : List (List Int)} : srcOf (tabD t) h = .ok (src0 (t.map rowD)) h := by unfold tabD; rw [src_tup]
@[simp] theorem src_rowD {t : List Int} : srcOf (rowD t) h = .ok (src0 (t.map .int)) h := by unfold rowD; rw [src_tup]
@[simp] theorem zip_tab {s t : List (List Int)} : zipO [tabD s, tabD t] h = .ok (src0 ((s.zip t).map pairD)) h := by
  unfold tabD
  rw [zip_tup2, List.zip_map, List.map_map]
  rfl
@[simp] theorem zip_row {s t : List Int} : zipO [rowD s, rowD t] h = .ok (src0 ((s.zip t).map pairI)) h := by
  unfold rowD
  rw [zip_tup2, List.zip_map, List.map_map]
  rfl
theorem rngN {n : Nat} (e : n ≤ 1000000) : rngO1 [.int (n : Int)] h = .ok (src0 ((List.range n).map fun (i : Nat) => .int i)) h := by
  have := rng1 (h := h) (j := (n : Int)) (by omega) (by omega)
  rwa [Int.toNat_natCast] at this
end
theorem forL_foldI {α β : Type} {f : α → D} {turn : D → SD → Hs → O} (st : β → SD) (hp : β → Hs) (step : β → α → β) (inv : Nat → β → Prop) (N : Nat) : ∀ (l : List α) (i : Nat) (b : β), i + l.length ≤ N → inv i b → (∀ i b a, a ∈ l → i < N → inv i b → turn (f a) (st b) (hp b) = .nx (st (step b a)) (hp (step b a)) ∧ inv (i + 1) (step b a)) →
    forL turn (l.map f) (st b) (hp b) = .nx (st (l.foldl step b)) (hp (l.foldl step b)) ∧ inv (i + l.length) (l.foldl step b)
  | [], i, b, _, h, _ => ⟨forL_nil, h⟩
  | a :: r, i, b, hl, hi, h => by
    rw [List.length_cons] at hl
    obtain ⟨h1, h2⟩ := h i b a List.mem_cons_self (by omega) hi
    obtain ⟨h3, h4⟩ := forL_foldI st hp step inv N r (i + 1) (step b a) (by omega) h2 fun i' b' a' m => h i' b' a' (List.mem_cons_of_mem _ m)
    refine ⟨?_, ?_⟩
    · rw [List.map_cons, forL_nx h1]
      exact h3
    · rw [List.length_cons, List.foldl_cons]
      have : i + (r.length + 1) = i + 1 + r.length := by omega
      rw [this]
      exact h4
/-- what is of interest is carried; the rest is something -/
theorem forL_st {α β γ : Type} {f : α → D} {turn : D → SD → Hs → O} (st : β → γ → SD) (hp : β → Hs) (step : β → α → β) (inv : β → Prop) : ∀ (l : List α) (b : β) (c : γ), inv b → (∀ b c a, a ∈ l → inv b → (∃ c', turn (f a) (st b c) (hp b) = .nx (st (step b a) c') (hp (step b a))) ∧ inv (step b a)) →
    (∃ c', forL turn (l.map f) (st b c) (hp b) = .nx (st (l.foldl step b) c') (hp (l.foldl step b))) ∧ inv (l.foldl step b)
  | [], b, c, i, _ => ⟨⟨c, forL_nil⟩, i⟩
  | a :: r, b, c, i, k => by
    obtain ⟨⟨c', h1⟩, h2⟩ := k b c a List.mem_cons_self i
    obtain ⟨⟨c2, h3⟩, h4⟩ := forL_st st hp step inv r (step b a) c' h2 fun b' c' a' m i' => k b' c' a' (List.mem_cons_of_mem _ m) i'
    exact ⟨⟨c2, by rw [List.map_cons, forL_nx h1]; exact h3⟩, h4⟩
theorem foldl_fst {α β γ : Type} {f : β → α → β} {g : β × γ → α → γ} : ∀ {l : List α} {b : β} {c : γ}, (l.foldl (fun (z : β × γ) a => (f z.1 a, g z a)) (b, c)).1 = l.foldl f b
  | [], b, c => rfl
  | a :: r, b, c => by rw [List.foldl_cons, List.foldl_cons]; exact foldl_fst (l := r)
/-- rows put to a list one by one -/
theorem forL_rows {α γ : Type} {f : α → D} {e : γ → D} {turn : D → SD → Hs → O} {h : Hs} (st : Option D → SD) (g : α → γ) (l : List α) (x : Option D) (N : Nat) (hl : l.length ≤ N) (k : ∀ (acc : List γ) x a, a ∈ l → acc.length < N → turn (f a) (st x) (h ++ [.lst (acc.map e)]) = .nx (st (some (f a))) (h ++ [.lst ((acc ++ [g a]).map e)])) :
    ∃ x', forL turn (l.map f) (st x) (h ++ [.lst []]) = .nx (st x') (h ++ [.lst ((l.map g).map e)]) := by
  have F := forL_foldI (f := f) (turn := turn) (fun (b : List γ × Option D) => st b.2) (fun b => h ++ [.lst (b.1.map e)]) (fun b a => (b.1 ++ [g a], some (f a))) (fun i b => b.1.length = i) N l 0 ([], x) (by omega) rfl fun i b a m hi hb => ⟨k b.1 b.2 a m (by omega), by simp [hb]⟩
  have e1 : ∀ (l : List α) (b : List γ × Option D), (l.foldl (fun b a => (b.1 ++ [g a], some (f a))) b).1 = b.1 ++ l.map g := by
    intro l
    induction l with
    | nil => simp
    | cons a r ih => intro b; rw [List.foldl_cons, ih]; simp
  have F1 := F.1
  have F2 := e1 l ([], x)
  simp only [List.nil_append] at F2
  simp only [F2] at F1
  exact ⟨_, F1⟩
theorem rowA_nat {t : List (List Int)} {i : Nat} (h : i < t.length) : rowA t i = t[i] := by
  unfold rowA
  rw [Int.toNat_natCast, List.getElem?_eq_getElem h]
  rfl
theorem cellA_nat {r : List Int} {i : Nat} (h : i < r.length) : cellA r i = r[i] := by
  unfold cellA
  rw [Int.toNat_natCast, List.getElem?_eq_getElem h]
  rfl
theorem rows_eq (t : List (List Int)) : t = (List.range t.length).map fun (i : Nat) => rowA t i := by
  refine List.ext_getElem (by simp) fun i h1 h2 => ?_
  simp [rowA_nat h1]
theorem sum_rows {t : List (List Int)} {f : List Int → Int} : (t.map f).sum = ((List.range t.length).map fun (i : Nat) => f (rowA t i)).sum := by
  have := congrArg (fun l : List (List Int) => (l.map f).sum) (rows_eq t)
  simpa [Function.comp_def] using this
theorem sum_congr {l : List Nat} {f g : Nat → Int} (h : ∀ i ∈ l, f i = g i) : (l.map f).sum = (l.map g).sum := by rw [List.map_congr_left h]
theorem sum_add {l : List Nat} {f g : Nat → Int} : (l.map fun i => f i + g i).sum = (l.map f).sum + (l.map g).sum := by
  induction l with
  | nil => rfl
  | cons a r ih => simp only [List.map_cons, List.sum_cons, ih]; omega
theorem foldl_sum {l : List Nat} {f : Nat → Int} : ∀ m : Int, l.foldl (fun m i => m + f i) m = m + (l.map f).sum := by
  induction l with
  | nil => intro m; simp
  | cons a r ih => intro m; rw [List.foldl_cons, ih, List.map_cons, List.sum_cons]; omega
theorem sum_nonneg {l : List Nat} {f : Nat → Int} (h : ∀ i ∈ l, 0 ≤ f i) : 0 ≤ (l.map f).sum := by
  induction l with
  | nil => simp
  | cons a r ih =>
    rw [List.map_cons, List.sum_cons]
    have := h a List.mem_cons_self
    have := ih fun i hi => h i (List.mem_cons_of_mem _ hi)
    omega
/-- rights look at the house's own row and column alone -/
theorem rights_same {t u : List (List Int)} {h : Int} (h0 : 0 ≤ h) (h1 : h < t.length) (l : t.length = u.length) (r : rowA t h = rowA u h) (c : ∀ i : Nat, i < t.length → cellA (rowA t i) h = cellA (rowA u i) h) : rightsI t h = rightsI u h := by
  have e : (t.map fun r => cellA r h).sum = (u.map fun r => cellA r h).sum := by
    rw [sum_rows, sum_rows, ← l]
    exact sum_congr fun i hi => c i (List.mem_range.mp hi)
  unfold rightsI lentToI lentByI
  rw [r, e, l]
theorem rowA_set {t : List (List Int)} {h i : Int} {r : List Int} (h0 : 0 ≤ h) (h1 : h < t.length) (i0 : 0 ≤ i) : rowA (t.set h.toNat r) i = if i = h then r else rowA t i := by
  unfold rowA
  rw [List.getElem?_set]
  by_cases e : h.toNat = i.toNat
  · have : i = h := by omega
    subst this
    have : i.toNat < t.length := by omega
    simp [this]
  · have : i ≠ h := fun z => e (by rw [z])
    simp [e, this]
theorem cellA_set {r : List Int} {h k x : Int} (h0 : 0 ≤ h) (h1 : h < r.length) (k0 : 0 ≤ k) : cellA (r.set h.toNat x) k = if k = h then x else cellA r k := by
  unfold cellA
  rw [List.getElem?_set]
  by_cases e : h.toNat = k.toNat
  · have : k = h := by omega
    subst this
    have : k.toNat < r.length := by omega
    simp [this]
  · have : k ≠ h := fun z => e (by rw [z])
    simp [e, this]
theorem wf_set {t : List (List Int)} {i : Nat} {r : List Int} (w : wfB t = true) (hr : r.length = t.length + 1) : wfB (t.set i r) = true := by
  unfold wfB
  refine List.all_eq_true.mpr fun x hx => ?_
  rw [List.length_set]
  rcases List.mem_or_eq_of_mem_set hx with z | z
  · simp [wf_row w z]
  · subst z; simp [hr]
def lrI (t : List (List Int)) (h : Int) (i : Nat) : Int := cellA (rowA t i) h - if (i : Int) = h then 0 else cellA (rowA t h) i
theorem sum_take {r : List Int} {n : Nat} (h : n ≤ r.length) : (r.take n).sum = ((List.range n).map fun (i : Nat) => cellA r i).sum := by
  have : r.take n = (List.range n).map fun (i : Nat) => cellA r i := by
    refine List.ext_getElem (by simp; omega) fun i h1 h2 => ?_
    have : i < r.length := by simp at h1; omega
    simp [cellA_nat this]
  rw [this]
theorem sum_one {n h : Nat} {f : Nat → Int} (hh : h < n) : ((List.range n).map fun (i : Nat) => if i = h then 0 else f i).sum = ((List.range n).map f).sum - f h := by
  have e : ((List.range n).map fun (i : Nat) => if i = h then f i else 0).sum = f h := by
    induction n with
    | zero => omega
    | succ n ih =>
      rw [List.range_succ, List.map_append, List.sum_append]
      by_cases q : h = n
      · subst q
        have z : ((List.range h).map fun (i : Nat) => if i = h then f i else 0).sum = ((List.range h).map fun _ => (0 : Int)).sum := sum_congr fun i hi => by
          have := List.mem_range.mp hi
          rw [if_neg (by omega)]
        have z2 : ∀ l : List Nat, (l.map fun _ => (0 : Int)).sum = 0 := fun l => by
          induction l with
          | nil => rfl
          | cons a r ih => rw [List.map_cons, List.sum_cons, ih]; rfl
        rw [z, z2]
        simp
      · rw [ih (by omega)]
        simp
        omega
  have := sum_add (l := List.range n) (f := fun i => if i = h then 0 else f i) (g := fun i => if i = h then f i else 0)
  rw [e] at this
  have e2 : (fun (i : Nat) => (if i = h then (0 : Int) else f i) + if i = h then f i else 0) = f := by
    funext i
    split <;> omega
  rw [e2] at this
  omega
theorem lr_sum {t : List (List Int)} {h : Int} (w : wfB t = true) (h0 : 0 ≤ h) (h1 : h < t.length) : ((List.range t.length).map (lrI t h)).sum - cellA (rowA t h) t.length = rightsI t h := by
  have hl := wf_len w h0 h1
  have e1 : ((List.range t.length).map (lrI t h)).sum = ((List.range t.length).map fun (i : Nat) => cellA (rowA t i) h).sum + ((List.range t.length).map fun (i : Nat) => if i = h.toNat then 0 else - cellA (rowA t h) i).sum := by
    rw [← sum_add]
    refine sum_congr fun i _ => ?_
    unfold lrI
    by_cases e : (i : Int) = h
    · rw [if_pos e, if_pos (by omega)]; omega
    · rw [if_neg e, if_neg (by omega)]; omega
  have e2 : ((List.range t.length).map fun (i : Nat) => - cellA (rowA t h) i).sum = - ((List.range t.length).map fun (i : Nat) => cellA (rowA t h) i).sum := by
    induction (List.range t.length) with
    | nil => rfl
    | cons a r ih => simp only [List.map_cons, List.sum_cons, ih]; omega
  have hh : (h.toNat : Int) = h := by omega
  rw [e1, sum_one (f := fun i => - cellA (rowA t h) i) (by omega), e2]
  unfold rightsI lentToI lentByI
  rw [sum_rows, sum_take (by omega)]
  simp only [hh]
  omega
/-- one turn of a loop; used in place of turnO's own unfolding, which the kernel would check by unfolding all -/
def turnM (fb : SD → Hs → O) (h : Hs) : Option SD → O
  | some s => fb s h
  | none => .stk
theorem turnE {ft : D → SD → Option SD} {fb : SD → Hs → O} {d : D} {s : SD} {h : Hs} : turnO ft fb d s h = turnM fb h (ft d s) := by
  unfold turnO turnM
  cases ft d s <;> rfl
@[simp] theorem turnM_some {fb : SD → Hs → O} {s : SD} {h : Hs} : turnM fb h (some s) = fb s h := by generalize e : fb s h = y; exact e
/-- a state carried, the turns counted; the rest is something -/
theorem forL_sti {α β γ : Type} {f : α → D} {turn : D → SD → Hs → O} (st : β → γ → SD) (hp : β → Hs) (step : β → α → β) (inv : Nat → β → Prop) (N : Nat) : ∀ (l : List α) (i : Nat) (b : β) (c : γ), i + l.length ≤ N → inv i b → (∀ i b c a, a ∈ l → i < N → inv i b → (∃ c', turn (f a) (st b c) (hp b) = .nx (st (step b a) c') (hp (step b a))) ∧ inv (i + 1) (step b a)) →
    (∃ c', forL turn (l.map f) (st b c) (hp b) = .nx (st (l.foldl step b) c') (hp (l.foldl step b))) ∧ inv (i + l.length) (l.foldl step b)
  | [], i, b, c, _, j, _ => ⟨⟨c, forL_nil⟩, j⟩
  | a :: r, i, b, c, hl, j, k => by
    rw [List.length_cons] at hl
    obtain ⟨⟨c', h1⟩, h2⟩ := k i b c a List.mem_cons_self (by omega) j
    obtain ⟨⟨c2, h3⟩, h4⟩ := forL_sti st hp step inv N r (i + 1) (step b a) c' (by omega) h2 fun i' b' c' a' m => k i' b' c' a' (List.mem_cons_of_mem _ m)
    refine ⟨⟨c2, by rw [List.map_cons, forL_nx h1]; exact h3⟩, ?_⟩
    rw [List.length_cons, List.foldl_cons]
    have : i + (r.length + 1) = i + 1 + r.length := by omega
    rw [this]
    exact h4
/-- the items put to a list one by one -/
theorem foldl_app {α β : Type} {g : α → β} : ∀ {l : List α} {b : List β}, l.foldl (fun b a => b ++ [g a]) b = b ++ l.map g
  | [], b => by simp
  | a :: r, b => by rw [List.foldl_cons, foldl_app (l := r)]; simp
@[simp] theorem kill_intO {k : Nat} {c : Option Int} : kill k (c.map D.int) = c.map D.int := by cases c <;> simp
@[simp] theorem kill_blO {k : Nat} {c : Option Bool} : kill k (c.map D.bl) = c.map D.bl := by cases c <;> simp
theorem clB_pre {h a b l : Hs} (e : a.length = b.length) (c : ∀ o ∈ b, o.bel (h.length + a.length) = true) : ClB (h ++ a) (h ++ (b ++ l)) := fun n o hn q => by
  rw [List.length_append] at hn ⊢
  by_cases z : n < h.length
  · rw [List.getElem?_append_left z] at q ⊢
    exact .inl q
  · rw [List.getElem?_append_right (by omega), List.getElem?_append_left (by omega)] at q
    exact .inr (c o (List.mem_of_getElem? q))
/-- what a turn leaves behind is cut off -/
theorem cut_at {h a b l : Hs} {s : SD} (e : a.length = b.length) (c : ∀ o ∈ b, o.bel (h.length + a.length) = true) : (O.nx s (h ++ (b ++ l))).cut (h ++ a) = .nx (killS (h.length + a.length) s) (h ++ b) := by
  rw [cut_nx (clB_pre e c), List.length_append, ← List.append_assoc]
  congr 1
  rw [List.take_append_of_le_length (by rw [List.length_append]; omega), List.take_of_length_le (by rw [List.length_append]; omega)]
@[simp] theorem bel_lst {n : Nat} {l : List D} (e : l.all D.nr = true) : (HO'.lst l).bel n = true := by
  unfold HO'.bel
  exact belL_nr n l (by rw [nrL_all]; exact e)
@[simp] theorem nr_script {ns : List Int} : (script ns).nr = true := by simp [script]
theorem whL_step {c : SD → Hs → R D} {f : SD → Hs → O} {n : Nat} {s s' : SD} {h h' : Hs} (e1 : c s h = .ok (.bl true) h) (e2 : f s h = .nx s' h') : whL c f (n + 1) s h = whL c f n s' h' := by
  rw [whL, e1]
  simp only [toB_bl, thenO_ok, e2]
theorem whL_end {c : SD → Hs → R D} {f : SD → Hs → O} {n : Nat} {s : SD} {h : Hs} (e1 : c s h = .ok (.bl false) h) : whL c f (n + 1) s h = .nx s h := by
  rw [whL, e1]
  simp only [toB_bl, thenO_ok]
theorem turn_go {ft : D → SD → Option SD} {fb : SD → Hs → O} {d : D} {s s' : SD} {h : Hs} {r : O} (e : ft d s = some s') (e2 : fb s' h = r) : turnO ft fb d s h = r := by rw [turnO_of e, e2]
/-- a suite in two parts -/
theorem evs_two {Γ : Mir} {n : Nat} {l a b : List S} {s s' : SD} {h h' : Hs} {r : O} (el : l = a ++ b) (e : S.evs Γ n a s h = .nx s' h') (e2 : S.evs Γ n b s' h' = r) : S.evs Γ n l s h = r := by rw [el, evs_append, e, seq_nx, e2]
end Gx

namespace Gx
open PySem L2
/-! the table of the greatest number at each place -/
theorem maxL_mem : ∀ (r : List Int) (a : Int), maxL a r ∈ a :: r
  | [], a => by simp [maxL]
  | x :: r, a => by
    have h := maxL_mem r (if x > a then x else a)
    have e : maxL a (x :: r) = maxL (if x > a then x else a) r := rfl
    rw [e]
    rcases List.mem_cons.mp h with h | h
    · rw [h]; split <;> simp
    · simp [h]
theorem maxL_le : ∀ (r : List Int) (a x : Int), x ∈ a :: r → x ≤ maxL a r
  | [], a, x, h => by simp at h; simp [maxL, h]
  | y :: r, a, x, h => by
    have e : maxL a (y :: r) = maxL (if y > a then y else a) r := rfl
    rw [e]
    have h0 := maxL_le r (if y > a then y else a) _ List.mem_cons_self
    rcases List.mem_cons.mp h with h | h
    · refine Int.le_trans ?_ h0
      rw [h]; split <;> omega
    · rcases List.mem_cons.mp h with h | h
      · refine Int.le_trans ?_ h0
        rw [h]; split <;> omega
      · exact maxL_le r _ x (List.mem_cons_of_mem _ h)
def cel (t : List (List Int)) (i j : Nat) : Int := cellA (rowA t i) j
structure Tab (n : Nat) (t : List (List Int)) : Prop where
  wf : wfB t = true
  len : t.length = n
theorem Tab.row {n : Nat} {t : List (List Int)} (T : Tab n t) {i : Nat} (h : i < n) : (rowA t i).length = n + 1 := by
  have := wf_len T.wf (h := (i : Int)) (by omega) (by rw [T.len]; omega)
  rw [T.len] at this
  omega
theorem Tab.ext {n : Nat} {s t : List (List Int)} (S : Tab n s) (T : Tab n t) (h : ∀ i j : Nat, i < n → j < n + 1 → cel s i j = cel t i j) : s = t := by
  refine List.ext_getElem (by rw [S.len, T.len]) fun i h1 h2 => ?_
  have r1 := S.row (i := i) (by rw [← S.len]; exact h1)
  have r2 := T.row (i := i) (by rw [← S.len]; exact h1)
  rw [rowA_nat h1] at r1
  rw [rowA_nat h2] at r2
  refine List.ext_getElem (by rw [r1, r2]) fun j h3 h4 => ?_
  have := h i j (by rw [← S.len]; exact h1) (by omega)
  unfold cel at this
  rw [rowA_nat h1, rowA_nat h2, cellA_nat h3, cellA_nat h4] at this
  exact this
structure Sup (n : Nat) (T : List (List Int)) (ts : List (List (List Int))) : Prop where
  tab : Tab n T
  at' : ∀ i j : Nat, i < n → j < n + 1 → ∃ t ∈ ts, cel T i j = cel t i j
  le : ∀ i j : Nat, i < n → j < n + 1 → ∀ t ∈ ts, cel t i j ≤ cel T i j
theorem Sup.one {n : Nat} {t : List (List Int)} (T : Tab n t) : Sup n t [t] := ⟨T, fun i j _ _ => ⟨t, by simp, rfl⟩, fun i j _ _ u hu => by simp at hu; rw [hu]; exact Int.le_refl _⟩
def Dom (n : Nat) (ss ts : List (List (List Int))) : Prop := ∀ s ∈ ss, ∃ t ∈ ts, ∀ i j : Nat, i < n → j < n + 1 → cel s i j ≤ cel t i j
theorem dom_sub {n : Nat} {ss ts : List (List (List Int))} (h : ∀ s ∈ ss, s ∈ ts) : Dom n ss ts := fun s hs => ⟨s, h s hs, fun _ _ _ _ => Int.le_refl _⟩
theorem dom_cons {n : Nat} {s : List (List Int)} {ss ts : List (List (List Int))} (h : ∃ t ∈ ts, ∀ i j : Nat, i < n → j < n + 1 → cel s i j ≤ cel t i j) (k : Dom n ss ts) : Dom n (s :: ss) ts := fun u hu => by
  rcases List.mem_cons.mp hu with z | z
  · rw [z]; exact h
  · exact k u z
theorem dom_app {n : Nat} {ss us ts : List (List (List Int))} (h : Dom n ss ts) (k : Dom n us ts) : Dom n (ss ++ us) ts := fun u hu => by
  rcases List.mem_append.mp hu with z | z
  · exact h u z
  · exact k u z
theorem Sup.mono {n : Nat} {S T : List (List Int)} {ss ts : List (List (List Int))} (a : Sup n S ss) (b : Sup n T ts) (h : Dom n ss ts) (i j : Nat) (hi : i < n) (hj : j < n + 1) : cel S i j ≤ cel T i j := by
  obtain ⟨s, hs, e⟩ := a.at' i j hi hj
  obtain ⟨t, ht, l⟩ := h s hs
  have := l i j hi hj
  have := b.le i j hi hj t ht
  omega
theorem Sup.uniq {n : Nat} {S T : List (List Int)} {ss ts : List (List (List Int))} (a : Sup n S ss) (b : Sup n T ts) (h : Dom n ss ts) (k : Dom n ts ss) : S = T := a.tab.ext b.tab fun i j hi hj => by
  have := a.mono b h i j hi hj
  have := b.mono a k i j hi hj
  omega
end Gx

namespace Gx
open PySem L2
/-! a store that has grown; tables as lists of lists -/
theorem forL_rel {α β : Type} {f : α → D} {turn : D → SD → Hs → O} (I : β → SD → Hs → Prop) (step : β → α → β) : ∀ (l : List α) (b : β) (s : SD) (h : Hs), I b s h → (∀ b s h a, a ∈ l → I b s h → ∃ s' h', (turn (f a) s h = .nx s' h' ∨ turn (f a) s h = .ct s' h') ∧ I (step b a) s' h') →
    ∃ s' h', forL turn (l.map f) s h = .nx s' h' ∧ I (l.foldl step b) s' h'
  | [], b, s, h, i, _ => ⟨s, h, forL_nil, i⟩
  | a :: r, b, s, h, i, k => by
    obtain ⟨s1, h1, e1, i1⟩ := k b s h a List.mem_cons_self i
    obtain ⟨s2, h2, e2, i2⟩ := forL_rel I step r (step b a) s1 h1 i1 fun b' s' h' a' m => k b' s' h' a' (List.mem_cons_of_mem _ m)
    refine ⟨s2, h2, ?_, i2⟩
    rw [List.map_cons]
    rcases e1 with e1 | e1
    · rw [forL_nx e1]; exact e2
    · rw [forL_ct e1]; exact e2
theorem forL_relI {α β : Type} {f : α → D} {turn : D → SD → Hs → O} (I : Nat → β → SD → Hs → Prop) (step : β → α → β) (l : List α) (b : β) (s : SD) (h : Hs) (i0 : I 0 b s h) (k : ∀ i b s h a, l[i]? = some a → I i b s h → ∃ s' h', (turn (f a) s h = .nx s' h' ∨ turn (f a) s h = .ct s' h') ∧ I (i + 1) (step b a) s' h') :
    ∃ s' h', forL turn (l.map f) s h = .nx s' h' ∧ I l.length (l.foldl step b) s' h' := by
  have go : ∀ (r : List α) (i : Nat) (b : β) (s : SD) (h : Hs), (∀ j, r[j]? = l[i + j]?) → i + r.length = l.length → I i b s h → ∃ s' h', forL turn (r.map f) s h = .nx s' h' ∧ I l.length (r.foldl step b) s' h' := by
    intro r
    induction r with
    | nil =>
      intro i b s h _ e i1
      simp at e
      subst e
      exact ⟨s, h, forL_nil, i1⟩
    | cons a r ih =>
      intro i b s h e el i1
      have e0 := e 0
      simp at e0
      obtain ⟨s1, h1, q1, i2⟩ := k i b s h a e0.symm i1
      obtain ⟨s2, h2, q2, i3⟩ := ih (i + 1) (step b a) s1 h1 (fun j => by
        have := e (j + 1)
        rw [List.getElem?_cons_succ] at this
        rw [this]
        congr 1
        omega) (by rw [List.length_cons] at el; omega) i2
      refine ⟨s2, h2, ?_, i3⟩
      rw [List.map_cons]
      rcases q1 with q1 | q1
      · rw [forL_nx q1]; exact q2
      · rw [forL_ct q1]; exact q2
  exact go l 0 b s h (fun j => by rw [Nat.zero_add]) (by omega) i0
/-- h has grown out of h0 -/
def Ext (h0 h : Hs) : Prop := ∃ l, h = h0 ++ l
theorem Ext.refl (h : Hs) : Ext h h := ⟨[], by simp⟩
theorem Ext.app {h0 h : Hs} (e : Ext h0 h) (l : Hs) : Ext h0 (h ++ l) := by
  obtain ⟨m, rfl⟩ := e
  exact ⟨m ++ l, by simp⟩
theorem Ext.set {h0 h : Hs} (e : Ext h0 h) {n : Nat} (hn : h0.length ≤ n) (o : HO') : Ext h0 (h.set n o) := by
  obtain ⟨m, rfl⟩ := e
  exact ⟨m.set (n - h0.length) o, by rw [List.set_append_right _ _ hn]⟩
theorem Ext.trans {a b c : Hs} (e : Ext a b) (f : Ext b c) : Ext a c := by
  obtain ⟨m, rfl⟩ := e
  exact ⟨m ++ f.choose, by rw [← List.append_assoc]; exact f.choose_spec⟩
theorem Ext.len {h0 h : Hs} (e : Ext h0 h) : h0.length ≤ h.length := by
  obtain ⟨m, rfl⟩ := e
  simp
theorem Ext.cl {h0 h : Hs} (e : Ext h0 h) : ClB h0 h := by
  obtain ⟨m, rfl⟩ := e
  exact clB_app.mpr trivial
theorem Ext.take {h0 h : Hs} (e : Ext h0 h) : h.take h0.length = h0 := by
  obtain ⟨m, rfl⟩ := e
  simp
theorem Ext.get {h0 h : Hs} (e : Ext h0 h) {n : Nat} {o : HO'} (q : h0[n]? = some o) : h[n]? = some o := by
  obtain ⟨m, rfl⟩ := e
  have := (List.getElem?_eq_some_iff.mp q).1
  rw [List.getElem?_append_left this]
  exact q
theorem back_ext {h0 h : Hs} {d : D} (e : Ext h0 h) (n : d.nr = true) : backR false h0 d h = .ok d h0 := by rw [back_nr n e.cl, e.take]
theorem back_extL {h0 h : Hs} {n : Nat} {l : List D} (e : Ext h0 h) (hk : h0.length ≤ n) (q : h[n]? = some (.lst l)) (hl : l.all D.nr = true) : backR false h0 (.ref n) h = .ok (.vl l) h0 := by rw [back_lst hk q hl e.cl, e.take]
/-- a table: object n is the list of the rows, which are the objects ms -/
structure Rows (h : Hs) (n : Nat) (ms : List Nat) (rs : List (List Int)) : Prop where
  len : ms.length = rs.length
  out : h[n]? = some (.lst (ms.map .ref))
  row : ∀ (k m : Nat) (r : List Int), ms[k]? = some m → rs[k]? = some r → h[m]? = some (.lst (r.map .int))
  nd : ms.Nodup
  ne : n ∉ ms
  lt : ∀ m ∈ ms, m < h.length
section
variable {h : Hs} {n : Nat} {ms : List Nat} {rs : List (List Int)}
theorem lt_of_get {n : Nat} {o : HO'} (e : h[n]? = some o) : n < h.length := (List.getElem?_eq_some_iff.mp e).1
theorem Rows.ext {h' : Hs} (T : Rows h n ms rs) (e : Ext h h') : Rows h' n ms rs :=
  ⟨T.len, e.get T.out, fun k m r h1 h2 => e.get (T.row k m r h1 h2), T.nd, T.ne, fun m hm => Nat.lt_of_lt_of_le (T.lt m hm) e.len⟩
/-- a place of another object is written -/
theorem Rows.other (T : Rows h n ms rs) {m : Nat} (o : HO') (h1 : m ≠ n) (h2 : m ∉ ms) : Rows (h.set m o) n ms rs :=
  ⟨T.len, by rw [List.getElem?_set_ne h1]; exact T.out, fun k m' r e1 e2 => by
    rw [List.getElem?_set_ne (fun z => h2 (by rw [z]; exact List.mem_of_getElem? e1))]
    exact T.row k m' r e1 e2, T.nd, T.ne, fun m hm => by rw [List.length_set]; exact T.lt m hm⟩
theorem Rows.at' (T : Rows h n ms rs) {k : Nat} (hk : k < rs.length) : ∃ m, ms[k]? = some m ∧ h[m]? = some (.lst (rs[k].map .int)) := by
  have h1 : k < ms.length := by rw [T.len]; exact hk
  exact ⟨ms[k], List.getElem?_eq_getElem h1, T.row k _ _ (List.getElem?_eq_getElem h1) (List.getElem?_eq_getElem hk)⟩
/-- rows[i], as an object -/
theorem Rows.ix (T : Rows h n ms rs) {i : Int} (h0 : 0 ≤ i) (h1 : i < rs.length) : ∃ m, ms[i.toNat]? = some m ∧ gIx h (.ref n) (.int i) = some (.ref m) ∧ h[m]? = some (.lst ((rs[i.toNat]'(by omega)).map .int)) := by
  obtain ⟨m, e1, e2⟩ := T.at' (k := i.toNat) (by omega)
  refine ⟨m, e1, ?_, e2⟩
  rw [gIx_ref T.out, atI_map h0 (by rw [T.len]; exact h1)]
  obtain ⟨h2, h3⟩ := List.getElem?_eq_some_iff.mp e1
  rw [h3]
/-- a row's object is written -/
theorem Rows.setRow (T : Rows h n ms rs) {k m : Nat} (e : ms[k]? = some m) (r : List Int) : Rows (h.set m (.lst (r.map .int))) n ms (rs.set k r) := by
  have hk := (List.getElem?_eq_some_iff.mp e).1
  have hm := List.mem_of_getElem? e
  have nm : m ≠ n := fun z => T.ne (z ▸ hm)
  refine ⟨by rw [List.length_set]; exact T.len, by rw [List.getElem?_set_ne nm]; exact T.out, fun k' m' r' e1 e2 => ?_, T.nd, T.ne, fun m hm => by rw [List.length_set]; exact T.lt m hm⟩
  by_cases z : k = k'
  · subst z
    rw [e] at e1
    injection e1 with e1
    subst e1
    rw [List.getElem?_set_self (by rw [← T.len]; exact hk)] at e2
    injection e2 with e2
    subst e2
    rw [List.getElem?_set_self (T.lt m hm)]
  · have nm' : m ≠ m' := fun w => by
      subst w
      have h1 := (List.getElem?_eq_some_iff.mp e1).1
      have h2 := (List.getElem?_eq_some_iff.mp e).2
      have h3 := (List.getElem?_eq_some_iff.mp e1).2
      rcases Nat.lt_trichotomy k k' with w | w | w
      · exact List.pairwise_iff_getElem.mp T.nd k k' hk h1 w (h2.trans h3.symm)
      · exact z w
      · exact List.pairwise_iff_getElem.mp T.nd k' k h1 hk w (h3.trans h2.symm)
    rw [List.getElem?_set_ne z] at e2
    rw [List.getElem?_set_ne nm']
    exact T.row k' m' r' e1 e2
/-- a new row is put to it -/
theorem Rows.push (T : Rows h n ms rs) (r : List Int) : Rows ((h ++ [HO'.lst (r.map .int)]).set n (.lst ((ms ++ [h.length]).map .ref))) n (ms ++ [h.length]) (rs ++ [r]) := by
  have hn := lt_of_get T.out
  refine ⟨by simp [T.len], by rw [List.getElem?_set_self (by simp; omega)], fun k m r' e1 e2 => ?_, ?_, ?_, fun m hm => ?_⟩
  · by_cases hk : k < ms.length
    · rw [List.getElem?_append_left hk] at e1
      rw [List.getElem?_append_left (by rw [← T.len]; exact hk)] at e2
      have hm := List.mem_of_getElem? e1
      rw [List.getElem?_set_ne (fun z => T.ne (by rw [z]; exact hm)), List.getElem?_append_left (T.lt m hm)]
      exact T.row k m r' e1 e2
    · by_cases hk2 : k = ms.length
      · subst hk2
        rw [List.getElem?_append_right (Nat.le_refl _), Nat.sub_self] at e1
        rw [List.getElem?_append_right (by rw [T.len]; exact Nat.le_refl _)] at e2
        injection e1 with e1
        have : ms.length - rs.length = 0 := by rw [T.len]; omega
        rw [this] at e2
        injection e2 with e2
        subst e1 e2
        rw [List.getElem?_set_ne (by omega), List.getElem?_append_right (Nat.le_refl _), Nat.sub_self]
        rfl
      · rw [List.getElem?_eq_none (by simp; omega)] at e1; cases e1
  · rw [List.nodup_append]
    refine ⟨T.nd, by simp, fun a ha b hb => ?_⟩
    rw [List.mem_singleton] at hb
    have := T.lt a ha
    omega
  · rw [List.mem_append, List.mem_singleton]
    rintro (z | z)
    · exact T.ne z
    · omega
  · rw [List.length_set, List.length_append]
    rcases List.mem_append.mp hm with z | z
    · have := T.lt m z; omega
    · rw [List.mem_singleton] at z; simp; omega
theorem Rows.nil (e : h[n]? = some (.lst [])) : Rows h n [] [] := ⟨rfl, e, fun k m r e1 _ => by simp at e1, by simp, by simp, by simp⟩
/-- tuple([tuple(row) for row in rows]) -/
theorem Rows.tups (T : Rows h n ms rs) (hl : rs.length ≤ 16777216) {ft : D → SD → Option SD} {fb fe : SD → Hs → R D} {vs : List Nat} {s : SD} (k : ∀ m r, m ∈ ms → h[m]? = some (.lst (r.map D.int)) → lcT ft fb fe (wipeS s vs) (.ref m) h = .ok (some (rowD r)) h) :
    lcO false ft fb fe vs s ⟨ms.map .ref, fun h' => h'[n]? = some (.lst (ms.map .ref))⟩ h = .ok (.vl (rs.map rowD)) h := by
  have e : lcO false ft fb fe vs s ⟨ms.map .ref, fun h' => h'[n]? = some (.lst (ms.map .ref))⟩ h = newL false (ms.map fun m => match (h[m]? : Option HO') with
    | some (.lst l) => .tup l
    | _ => .non) h := by
    refine lcO_map _ ms T.out (by rw [T.len]; exact hl) fun m hm => ?_
    obtain ⟨i, hi, e⟩ := List.getElem_of_mem hm
    have q := T.row i m (rs[i]'(by rw [← T.len]; exact hi)) (by rw [List.getElem?_eq_getElem hi, e]) (List.getElem?_eq_getElem _)
    rw [k m _ hm q, q]
    rfl
  rw [e, newL_f]
  congr 2
  refine List.ext_getElem (by simp [T.len]) fun i h1 h2 => ?_
  simp only [List.getElem_map]
  simp only [List.length_map] at h1 h2
  rw [T.row i ms[i] rs[i] (List.getElem?_eq_getElem h1) (List.getElem?_eq_getElem h2)]
  rfl
end
end Gx

namespace Gx
open PySem L2
/-! deeds -/
inductive Deed where
  | make (i k : Int) | lend (i j k : Int) | use (i k : Int)
def deedD : Deed → D
  | .make i k => .tup [.str "make", .int i, .int k]
  | .lend i j k => .tup [.str "lend", .int i, .int j, .int k]
  | .use i k => .tup [.str "use", .int i, .int k]
def Deed.house : Deed → Int
  | .make i _ => i
  | .lend i _ _ => i
  | .use i _ => i
def Deed.k : Deed → Int
  | .make _ k => k
  | .lend _ _ k => k
  | .use _ k => k
def Deed.place (n : Nat) : Deed → Int
  | .make i _ => i
  | .lend _ j _ => j
  | .use _ _ => n
def Deed.free : Deed → Bool
  | .make _ _ => true
  | _ => false
/-- a deed of n houses, whether it may be done or not -/
def Deed.ok (n : Nat) : Deed → Prop
  | .make i k => 0 ≤ i ∧ i < n ∧ 1 ≤ k
  | .lend i j k => 0 ≤ i ∧ i < n ∧ 0 ≤ j ∧ j < n ∧ i ≠ j ∧ 1 ≤ k
  | .use i k => 0 ≤ i ∧ i < n ∧ 1 ≤ k
@[simp] theorem nr_deed {d : Deed} : (deedD d).nr = true := by cases d <;> simp [deedD]
section
variable {h : Hs} {a b c d : D}
theorem gEq_str {x y : Str} (hx : shp (.str x) = true) (hy : shp (.str y) = true) : gEq h (.str x) (.str y) = some (.bl (decide (x = y))) := by
  unfold gEq
  rw [show dicP h _ _ = none from rfl]
  simp only
  rw [rsv_nr nr_str, rsv_nr nr_str, if_pos ⟨hx, hy⟩]
  unfold eqD
  simp only [D.py, PyData.eqv]
  exact congrArg (fun b => some (D.bl b)) (Bool.eq_iff_iff.mpr (by simp))
theorem gNe_str {x y : Str} (hx : shp (.str x) = true) (hy : shp (.str y) = true) : gNe h (.str x) (.str y) = some (.bl (!decide (x = y))) := by
  unfold gNe
  rw [show dicP h _ _ = none from rfl]
  simp only
  rw [rsv_nr nr_str, rsv_nr nr_str, if_pos ⟨hx, hy⟩]
  unfold eqD
  simp only [D.py, PyData.eqv]
  exact congrArg (fun b => some (D.bl (!b))) (Bool.eq_iff_iff.mpr (by simp))
@[simp] theorem shp_make : shp (.str "make") = true := by decide +kernel
@[simp] theorem shp_lend : shp (.str "lend") = true := by decide +kernel
@[simp] theorem shp_use : shp (.str "use") = true := by decide +kernel
@[simp] theorem str_ml : (("make" : Str) = "lend") = False := by simp only [eq_iff_iff, iff_false]; decide
@[simp] theorem str_mu : (("make" : Str) = "use") = False := by simp only [eq_iff_iff, iff_false]; decide
@[simp] theorem str_lm : (("lend" : Str) = "make") = False := by simp only [eq_iff_iff, iff_false]; decide
@[simp] theorem str_lu : (("lend" : Str) = "use") = False := by simp only [eq_iff_iff, iff_false]; decide
@[simp] theorem str_um : (("use" : Str) = "make") = False := by simp only [eq_iff_iff, iff_false]; decide
@[simp] theorem str_ul : (("use" : Str) = "lend") = False := by simp only [eq_iff_iff, iff_false]; decide
theorem at_3_0 : atI [a, b, c] 0 = some a := rfl
theorem at_3_1 : atI [a, b, c] 1 = some b := rfl
theorem at_3_2 : atI [a, b, c] 2 = some c := rfl
theorem at_3_n : atI [a, b, c] (-1) = some c := rfl
theorem at_4_0 : atI [a, b, c, d] 0 = some a := rfl
theorem at_4_1 : atI [a, b, c, d] 1 = some b := rfl
theorem at_4_2 : atI [a, b, c, d] 2 = some c := rfl
theorem at_4_3 : atI [a, b, c, d] 3 = some d := rfl
theorem at_4_n : atI [a, b, c, d] (-1) = some d := rfl
@[simp] theorem cut_3 : cutD [a, b, c] (some 1) (some (-1)) = [b] := rfl
@[simp] theorem cut_4 : cutD [a, b, c, d] (some 1) (some (-1)) = [b, c] := rfl
@[simp] theorem ix30 : gIx h (.tup [a, b, c]) (.int 0) = some a := by rw [gIx_tup, at_3_0]
@[simp] theorem ix31 : gIx h (.tup [a, b, c]) (.int 1) = some b := by rw [gIx_tup, at_3_1]
@[simp] theorem ix32 : gIx h (.tup [a, b, c]) (.int 2) = some c := by rw [gIx_tup, at_3_2]
@[simp] theorem ix3n : gIx h (.tup [a, b, c]) (.int (-1)) = some c := by rw [gIx_tup, at_3_n]
@[simp] theorem ix40 : gIx h (.tup [a, b, c, d]) (.int 0) = some a := by rw [gIx_tup, at_4_0]
@[simp] theorem ix41 : gIx h (.tup [a, b, c, d]) (.int 1) = some b := by rw [gIx_tup, at_4_1]
@[simp] theorem ix42 : gIx h (.tup [a, b, c, d]) (.int 2) = some c := by rw [gIx_tup, at_4_2]
@[simp] theorem ix43 : gIx h (.tup [a, b, c, d]) (.int 3) = some d := by rw [gIx_tup, at_4_3]
@[simp] theorem ix4n : gIx h (.tup [a, b, c, d]) (.int (-1)) = some d := by rw [gIx_tup, at_4_n]
@[simp] theorem sl3 {m : Bool} : slG m (some 1) (some (-1)) (.tup [a, b, c]) h = .ok (.tup [b]) h := by rw [slG_tup, cut_3]
@[simp] theorem sl4 {m : Bool} : slG m (some 1) (some (-1)) (.tup [a, b, c, d]) h = .ok (.tup [b, c]) h := by rw [slG_tup, cut_4]
end
/-- a number of a row raised -/
def raisedI (t : List (List Int)) (i p k : Int) : List (List Int) := t.set i.toNat ((rowA t i).set p.toNat (cellA (rowA t i) p + k))
theorem raised_tab {n : Nat} {t : List (List Int)} {i p k : Int} (T : Tab n t) (h0 : 0 ≤ i) (h1 : i < n) : Tab n (raisedI t i p k) := by
  have l := T.len
  have r := T.row (i := i.toNat) (by omega)
  rw [Int.toNat_of_nonneg h0] at r
  exact ⟨wf_set T.wf (by rw [List.length_set, r, l]), by unfold raisedI; rw [List.length_set]; exact l⟩
theorem raised_cel {n : Nat} {t : List (List Int)} {x p k : Int} {i j : Nat} (T : Tab n t) (h0 : 0 ≤ x) (h1 : x < n) (p0 : 0 ≤ p) (p1 : p < n + 1) (hi : i < n) (hj : j < n + 1) : cel (raisedI t x p k) i j = cel t i j + if (i : Int) = x ∧ (j : Int) = p then k else 0 := by
  have l := T.len
  unfold cel raisedI
  rw [rowA_set h0 (by omega) (by omega)]
  by_cases e : (i : Int) = x
  · rw [if_pos e]
    have r := T.row (i := i) hi
    rw [e] at r
    rw [cellA_set p0 (by omega) (by omega)]
    by_cases e2 : (j : Int) = p
    · rw [if_pos e2, if_pos ⟨e, e2⟩, ← e, ← e2]
    · rw [if_neg e2, if_neg (fun z => e2 z.2), e]
      omega
  · rw [if_neg e, if_neg (fun z => e z.1)]
    omega
end Gx

namespace Gx
open PySem L2
/-! a list, as a value or as an object -/
def LstAt (h : Hs) (x : D) (l : List D) : Prop := x = .vl l ∨ ∃ n, x = .ref n ∧ h[n]? = some (.lst l)
section
variable {h : Hs} {x : D} {l : List D}
theorem LstAt.vl {l : List D} : LstAt h (.vl l) l := .inl rfl
theorem LstAt.ref {n : Nat} (e : h[n]? = some (.lst l)) : LstAt h (.ref n) l := .inr ⟨n, rfl, e⟩
theorem LstAt.lst (a : LstAt h x l) : lstH h x = some l := by
  rcases a with rfl | ⟨n, rfl, e⟩
  · simp [lstH]
  · simp [lstH, e]
theorem LstAt.len (a : LstAt h x l) : gLen h [x] = some (.int l.length) := by
  rcases a with rfl | ⟨n, rfl, e⟩
  · simp
  · exact gLen_ref e
theorem LstAt.ix (a : LstAt h x l) {k : Int} : gIx h x (.int k) = atI l k := by
  rcases a with rfl | ⟨n, rfl, e⟩
  · exact gIx_vl
  · exact gIx_ref e
theorem LstAt.src (a : LstAt h x l) : ∃ c : Hs → Prop, c h ∧ srcOf x h = .ok ⟨l, c⟩ h := by
  rcases a with rfl | ⟨n, rfl, e⟩
  · exact ⟨fun _ => True, trivial, by rw [src_vl]; rfl⟩
  · exact ⟨_, e, src_ref e⟩
theorem LstAt.list (a : LstAt h x l) {m : Bool} : gListF m [x] h = newL m l h := by
  rcases a with rfl | ⟨n, rfl, e⟩
  · simp
  · exact gListF_ref e
theorem LstAt.sl (a : LstAt h x l) {m : Bool} {lo hi : Option Int} : slG m lo hi x h = newL m (cutD l lo hi) h := by
  rcases a with rfl | ⟨n, rfl, e⟩
  · simp
  · exact slG_ref e
end
/-- a loop in which the store stays -/
theorem forC_h {c : Hs → Prop} {f : D → SD → Hs → O} {h : Hs} (hc : c h) : ∀ {ds : List D} {s : SD}, (∀ d s, d ∈ ds → ∀ s' h', f d s h = .nx s' h' ∨ f d s h = .ct s' h' → h' = h) → forC c f ds s h = forL f ds s h := fun {ds s} k =>
  forC_of (fun _ h' => h' = h) (fun _ h' e => by rw [e]; exact hc) rfl fun d s h1 m e s' h' q => by
    subst e
    exact k d s m s' h' q
/-- a state carried, the store stays; the walked list is looked after -/
theorem forC_st {α β γ : Type} {f : α → D} {turn : D → SD → Hs → O} {h : Hs} {cc : Hs → Prop} (hc : cc h) (st : β → γ → SD) (step : β → α → β) (inv : β → Prop) : ∀ (l : List α) (b : β) (c : γ), inv b → (∀ b c a, a ∈ l → inv b → (∃ c', turn (f a) (st b c) h = .nx (st (step b a) c') h) ∧ inv (step b a)) →
    (∃ c', forC cc turn (l.map f) (st b c) h = .nx (st (l.foldl step b) c') h) ∧ inv (l.foldl step b)
  | [], b, c, i, _ => ⟨⟨c, by rw [List.map_nil, forC, if_pos hc]; rfl⟩, i⟩
  | a :: r, b, c, i, k => by
    obtain ⟨⟨c', h1⟩, h2⟩ := k b c a List.mem_cons_self i
    obtain ⟨⟨c2, h3⟩, h4⟩ := forC_st hc st step inv r (step b a) c' h2 fun b' c' a' m i' => k b' c' a' (List.mem_cons_of_mem _ m) i'
    refine ⟨⟨c2, ?_⟩, h4⟩
    rw [List.map_cons, forC, if_pos hc, h1]
    exact h3
/-- a loop that asks each, and leaves at the first no -/
theorem forC_all {α γ : Type} {f : α → D} {turn : D → SD → Hs → O} {h : Hs} {cc : Hs → Prop} {z : D} (hc : cc h) (st : γ → SD) (p : α → Bool) : ∀ (l : List α) (c : γ), (∀ c a, a ∈ l → (p a = true → ∃ c', turn (f a) (st c) h = .nx (st c') h) ∧ (p a = false → turn (f a) (st c) h = .rt z h)) →
    (l.all p = true → ∃ c', forC cc turn (l.map f) (st c) h = .nx (st c') h) ∧ (l.all p = false → forC cc turn (l.map f) (st c) h = .rt z h)
  | [], c, _ => ⟨fun _ => ⟨c, by rw [List.map_nil, forC, if_pos hc]⟩, fun e => by simp at e⟩
  | a :: r, c, k => by
    obtain ⟨k1, k2⟩ := k c a List.mem_cons_self
    by_cases q : p a = true
    · obtain ⟨c1, h1⟩ := k1 q
      obtain ⟨h2, h3⟩ := forC_all hc st p r c1 fun c' a' m => k c' a' (List.mem_cons_of_mem _ m)
      rw [List.all_cons, q, Bool.true_and]
      refine ⟨fun e => ?_, fun e => ?_⟩
      · obtain ⟨c2, h4⟩ := h2 e
        exact ⟨c2, by rw [List.map_cons, forC, if_pos hc, h1]; exact h4⟩
      · rw [List.map_cons, forC, if_pos hc, h1]
        exact h3 e
    · have q := Bool.eq_false_iff.mpr q
      rw [List.all_cons, q, Bool.false_and]
      refine ⟨fun e => (nomatch e), fun _ => ?_⟩
      rw [List.map_cons, forC, if_pos hc, k2 q]
def tabA (ts : List (List (List Int))) (k : Nat) : List (List Int) := (ts[k]?).getD []
theorem tabA_get {h : Hs} {x : D} {ts : List (List (List Int))} (a : LstAt h x (ts.map tabD)) {k : Nat} (hk : k < ts.length) : gIx h x (.int k) = some (tabD (tabA ts k)) := by
  rw [a.ix, atI_map (by omega) (by omega)]
  unfold tabA
  rw [List.getElem?_eq_getElem hk]
  rfl
theorem tabA_mem {ts : List (List (List Int))} {k : Nat} (hk : k < ts.length) : tabA ts k ∈ ts := by
  unfold tabA
  rw [List.getElem?_eq_getElem hk]
  exact List.getElem_mem _
theorem forL_all {α γ : Type} {f : α → D} {turn : D → SD → Hs → O} {h : Hs} {z : D} (st : γ → SD) (p : α → Bool) (l : List α) (c : γ) (k : ∀ c a, a ∈ l → (p a = true → ∃ c', turn (f a) (st c) h = .nx (st c') h) ∧ (p a = false → turn (f a) (st c) h = .rt z h)) :
    (l.all p = true → ∃ c', forL turn (l.map f) (st c) h = .nx (st c') h) ∧ (l.all p = false → forL turn (l.map f) (st c) h = .rt z h) := by
  unfold forL
  exact forC_all trivial st p l c k
theorem back_ref {h k : Hs} {n : Nat} (hn : n < k.length) (c : ClB k h) : backR false k (.ref n) h = .ok (.ref n) (h.take k.length) := by
  have h1 : fzD h k.length (.ref n) = .ref n := by
    unfold fzD D.fz
    rw [if_pos hn]
  unfold backR
  dsimp only
  rw [h1, if_pos ⟨by unfold D.bel; exact decide_eq_true hn, c⟩]
theorem Ext.setOld {h0 h : Hs} (e : Ext h0 h) {m : Nat} (hm : m < h0.length) (o : HO') : (h.set m o).take h0.length = h0.set m o := by
  obtain ⟨l, rfl⟩ := e
  rw [List.set_append_left _ _ hm, List.take_append_of_le_length (by simp), List.take_of_length_le (by simp)]
theorem Ext.clOld {h0 h : Hs} (e : Ext h0 h) {m : Nat} {o : HO'} (b : o.bel h0.length = true) : ClB h0 (h.set m o) := clB_set e.cl b
/-- an older list written, newer things left behind -/
theorem back_old {h0 h : Hs} (e : Ext h0 h) {m : Nat} (hm : m < h0.length) {l : List D} (hl : l.all D.nr = true) : backR false h0 (.ref m) (h.set m (.lst l)) = .ok (.ref m) (h0.set m (.lst l)) := by
  rw [back_ref hm (e.clOld (bel_lst hl)), e.setOld hm]
theorem LstAt.rsv {h : Hs} {x : D} {l : List D} (a : LstAt h x l) (e : l.all D.nr = true) : Gx.rsv h x = .vl l := by
  rcases a with rfl | ⟨n, rfl, q⟩
  · exact rsv_nr (by simpa using e)
  · exact rsv_ref q e
theorem LstAt.dicP {h : Hs} {x y : D} {l : List D} (a : LstAt h x l) : Gx.dicP h x y = none := by
  rcases a with rfl | ⟨n, rfl, q⟩
  · rfl
  · simp [Gx.dicP, dicU, q]
theorem gNe_lst {α : Type} [DecidableEq α] {f : α → D} {k : Nat} (E : Enc f k) (hk : k < 64) {h : Hs} {x y : D} {l m : List α} (a : LstAt h x (l.map f)) (b : LstAt h y (m.map f)) : gNe h x y = some (.bl (decide (l ≠ m))) := by
  have h1 := a.rsv (by simp [E.nr])
  have h2 := b.rsv (by simp [E.nr])
  have := gNe_enc (h := h) E.vl (by omega) (a := l) (b := m)
  unfold gNe at this ⊢
  rw [dicP_enc E.vl] at this
  rw [a.dicP]
  simp only at this ⊢
  rw [rsv_nr (E.vl.nr l), rsv_nr (E.vl.nr m)] at this
  rw [h1, h2]
  exact this
theorem gEq_lst {α : Type} [DecidableEq α] {f : α → D} {k : Nat} (E : Enc f k) (hk : k < 64) {h : Hs} {x y : D} {l m : List α} (a : LstAt h x (l.map f)) (b : LstAt h y (m.map f)) : gEq h x y = some (.bl (decide (l = m))) := by
  have h1 := a.rsv (by simp [E.nr])
  have h2 := b.rsv (by simp [E.nr])
  have := gEq_enc (h := h) E.vl (by omega) (a := l) (b := m)
  unfold gEq at this ⊢
  rw [dicP_enc E.vl] at this
  rw [a.dicP]
  simp only at this ⊢
  rw [rsv_nr (E.vl.nr l), rsv_nr (E.vl.nr m)] at this
  rw [h1, h2]
  exact this
theorem LstAt.isLst {h : Hs} {x : D} {l : List D} (a : LstAt h x l) : Gx.isLst h x = true := by
  unfold Gx.isLst
  rw [a.lst]
  rfl
theorem isi_bool {b : Bool} {h : Hs} : isiG "bool" (.bl b) h = .ok (.bl true) h := isi_of rfl (by decide +kernel)
end Gx

namespace Gx
open PySem L2
/-! lists of lists that a comprehension makes; a store in which some objects were written -/
theorem ext_iff {h0 h : Hs} : Ext h0 h ↔ h0.length ≤ h.length ∧ ∀ k, k < h0.length → h[k]? = h0[k]? := by
  constructor
  · rintro ⟨l, rfl⟩
    exact ⟨by simp, fun k hk => List.getElem?_append_left hk⟩
  · rintro ⟨h1, h2⟩
    refine ⟨h.drop h0.length, ?_⟩
    have : h.take h0.length = h0 := by
      refine List.ext_getElem? fun k => ?_
      by_cases hk : k < h0.length
      · rw [List.getElem?_take_of_lt hk, h2 k hk]
      · rw [List.getElem?_eq_none (by simp; omega), List.getElem?_eq_none (by omega)]
    conv => lhs; rw [← List.take_append_drop h0.length h, this]
/-- only the objects ms were written -/
structure Upd (h h' : Hs) (ms : List Nat) : Prop where
  len : h'.length = h.length
  out : ∀ k, k ∉ ms → h'[k]? = h[k]?
theorem Upd.refl {h : Hs} {ms : List Nat} : Upd h h ms := ⟨rfl, fun _ _ => rfl⟩
theorem Upd.trans {h h' h2 : Hs} {ms : List Nat} (a : Upd h h' ms) (b : Upd h' h2 ms) : Upd h h2 ms := ⟨b.len.trans a.len, fun k hk => (b.out k hk).trans (a.out k hk)⟩
theorem Upd.set {h : Hs} {ms : List Nat} {m : Nat} (o : HO') (hm : m ∈ ms) : Upd h (h.set m o) ms := ⟨List.length_set, fun k hk => List.getElem?_set_ne fun z => hk (by rw [← z]; exact hm)⟩
theorem Upd.ext {h0 h h' : Hs} {ms : List Nat} (u : Upd h h' ms) (e : Ext h0 h) (hm : ∀ m ∈ ms, h0.length ≤ m) : Ext h0 h' := by
  rw [ext_iff] at e ⊢
  refine ⟨by rw [u.len]; exact e.1, fun k hk => ?_⟩
  rw [u.out k fun z => by have := hm k z; omega]
  exact e.2 k hk
theorem Upd.get {h h' : Hs} {ms : List Nat} (u : Upd h h' ms) {k : Nat} (hk : k ∉ ms) {o : HO'} (e : h[k]? = some o) : h'[k]? = some o := by rw [u.out k hk, e]
/-- written, but closed -/
theorem Rows.cl {h h' : Hs} {n : Nat} {ms : List Nat} {rs : List (List Int)} (R : Rows h' n ms rs) (u : Upd h h' ms) : ClB h h' := fun k o hk e => by
  by_cases z : k ∈ ms
  · obtain ⟨i, hi, q⟩ := List.getElem_of_mem z
    have := R.row i k (rs[i]'(by rw [← R.len]; exact hi)) (by rw [List.getElem?_eq_getElem hi, q]) (List.getElem?_eq_getElem _)
    rw [this] at e
    injection e with e
    exact .inr (by rw [← e]; simp)
  · rw [u.out k z] at e
    exact .inl e
section
variable {α : Type} {f : α → D} {g : α → List Int} {ft : D → SD → Option SD} {fb fe : SD → Hs → R D}
theorem lcL_rows {c : Hs → Prop} {s : SD} : ∀ (l : List α) (h : Hs), (∀ h', Ext h h' → c h') → (∀ a ∈ l, ∀ h', Ext h h' → lcT ft fb fe s (f a) h' = .ok (some (.ref h'.length)) (h' ++ [.lst ((g a).map .int)])) →
    lcL c ft fb fe s (l.map f) h = .ok ((List.range l.length).map fun i => .ref (h.length + i)) (h ++ l.map fun a => .lst ((g a).map .int))
  | [], h, hc, _ => by
    rw [List.map_nil, lcL, if_pos (hc h (Ext.refl h))]
    simp
  | a :: r, h, hc, k => by
    have x := (Ext.refl h).app [HO'.lst ((g a).map .int)]
    rw [List.map_cons, lcL_cons (hc h (Ext.refl h)) (k a List.mem_cons_self h (Ext.refl h)), lcL_rows r (h ++ [HO'.lst ((g a).map .int)]) (fun h' e => hc h' (x.trans e)) fun a' m h' e => k a' (List.mem_cons_of_mem _ m) h' (x.trans e), bind_ok]
    congr 1
    · rw [List.length_cons, List.range_succ_eq_map]
      simp [Function.comp_def]
      intro i _
      omega
    · simp
theorem rows_new {h : Hs} {rs : List (List Int)} : Rows (h ++ rs.map (fun r => HO'.lst (r.map D.int)) ++ [.lst ((List.range rs.length).map fun i => .ref (h.length + i))]) (h.length + rs.length) ((List.range rs.length).map fun i => h.length + i) rs where
  len := by simp
  out := by
    rw [List.getElem?_append_right (by simp)]
    simp [Function.comp_def]
  row := fun k m r e1 e2 => by
    obtain ⟨h1, e1⟩ := List.getElem?_eq_some_iff.mp e1
    obtain ⟨h2, e2⟩ := List.getElem?_eq_some_iff.mp e2
    simp at e1
    subst e1
    rw [List.append_assoc, List.getElem?_append_right (by omega), List.getElem?_append_left (by simp; omega)]
    simp [List.getElem?_eq_getElem h2, e2]
  nd := by
    rw [List.nodup_iff_pairwise_ne, List.pairwise_map]
    refine List.Pairwise.imp (fun {a b} q z => q ?_) (List.nodup_iff_pairwise_ne.mp List.nodup_range)
    omega
  ne := by simp
  lt := fun m hm => by
    obtain ⟨i, hi, rfl⟩ := List.mem_map.mp hm
    have := List.mem_range.mp hi
    simp
    omega
/-- a list of new lists -/
theorem lc_rows {c : Hs → Prop} {s : SD} {vs : List Nat} (g : α → List Int) (l : List α) (h : Hs) (hl : l.length ≤ 16777216) (hc : ∀ h', Ext h h' → c h') (k : ∀ a ∈ l, ∀ h', Ext h h' → lcT ft fb fe (wipeS s vs) (f a) h' = .ok (some (.ref h'.length)) (h' ++ [.lst ((g a).map .int)])) :
    ∃ h' n ms, lcO true ft fb fe vs s ⟨l.map f, c⟩ h = .ok (.ref n) h' ∧ Ext h h' ∧ Rows h' n ms (l.map g) ∧ (∀ m ∈ ms, h.length ≤ m) ∧ h.length ≤ n := by
  refine ⟨_, _, _, ?_, ?_, rows_new (h := h) (rs := l.map g), ?_, ?_⟩
  · unfold lcO
    rw [if_pos (by simpa using hl)]
    dsimp only
    rw [lcL_rows (g := g) l h hc k, bind_ok, newL_t]
    simp [Function.comp_def]
  · exact ⟨_, List.append_assoc _ _ _⟩
  · intro m hm
    obtain ⟨i, hi, rfl⟩ := List.mem_map.mp hm
    omega
  · omega
theorem lc_rows0 {s : SD} {vs : List Nat} (g : α → List Int) (l : List α) (h : Hs) (hl : l.length ≤ 16777216) (k : ∀ a ∈ l, ∀ h', Ext h h' → lcT ft fb fe (wipeS s vs) (f a) h' = .ok (some (.ref h'.length)) (h' ++ [.lst ((g a).map .int)])) :
    ∃ h' n ms, lcO true ft fb fe vs s (src0 (l.map f)) h = .ok (.ref n) h' ∧ Ext h h' ∧ Rows h' n ms (l.map g) ∧ (∀ m ∈ ms, h.length ≤ m) ∧ h.length ≤ n := lc_rows g l h hl (fun _ _ => trivial) k
theorem lcL_rowsX {c : Hs → Prop} {s : SD} : ∀ (l : List α) (h : Hs), (∀ h', Ext h h' → c h') → (∀ a ∈ l, ∀ h', Ext h h' → ∃ h2 m, lcT ft fb fe s (f a) h' = .ok (some (.ref m)) h2 ∧ Ext h' h2 ∧ h'.length ≤ m ∧ h2[m]? = some (.lst ((g a).map .int))) →
    ∃ (ms : List Nat) (h' : Hs), lcL c ft fb fe s (l.map f) h = .ok (ms.map .ref) h' ∧ Ext h h' ∧ ms.length = l.length ∧ (∀ (i m : Nat) (r : List Int), ms[i]? = some m → (l.map g)[i]? = some r → h'[m]? = some (.lst (r.map .int))) ∧ ms.Nodup ∧ ∀ m ∈ ms, h.length ≤ m ∧ m < h'.length
  | [], h, hc, _ => ⟨[], h, by
    rw [List.map_nil, lcL, if_pos (hc h (Ext.refl h))]
    simp, Ext.refl h, rfl, fun i m r e => by simp at e, by simp, by simp⟩
  | a :: r, h, hc, k => by
    obtain ⟨h2, m, e1, x1, g1, g2⟩ := k a List.mem_cons_self h (Ext.refl h)
    obtain ⟨ms, h', e2, x2, l2, r2, d2, b2⟩ := lcL_rowsX r h2 (fun h' e => hc h' (x1.trans e)) fun a' m h' e => k a' (List.mem_cons_of_mem _ m) h' (x1.trans e)
    have lm := (List.getElem?_eq_some_iff.mp g2).1
    refine ⟨m :: ms, h', ?_, x1.trans x2, by simp [l2], fun i m' r' f1 f2 => ?_, ?_, fun m' hm' => ?_⟩
    · rw [List.map_cons, lcL_cons (hc h (Ext.refl h)) e1, e2, bind_ok]
      rfl
    · cases i with
      | zero =>
        simp at f1 f2
        subst f1 f2
        exact x2.get g2
      | succ i => exact r2 i m' r' (by simpa using f1) (by simpa using f2)
    · rw [List.nodup_cons]
      exact ⟨fun z => by have := (b2 m z).1; omega, d2⟩
    · have := x1.len
      have := x2.len
      rcases List.mem_cons.mp hm' with z | z
      · omega
      · have := b2 m' z
        omega
/-- a list of new lists, each by whatever is laid -/
theorem lc_rowsX {c : Hs → Prop} {s : SD} {vs : List Nat} (g : α → List Int) (l : List α) (h : Hs) (hl : l.length ≤ 16777216) (hc : ∀ h', Ext h h' → c h') (k : ∀ a ∈ l, ∀ h', Ext h h' → ∃ h2 m, lcT ft fb fe (wipeS s vs) (f a) h' = .ok (some (.ref m)) h2 ∧ Ext h' h2 ∧ h'.length ≤ m ∧ h2[m]? = some (.lst ((g a).map .int))) :
    ∃ h' n ms, lcO true ft fb fe vs s ⟨l.map f, c⟩ h = .ok (.ref n) h' ∧ Ext h h' ∧ Rows h' n ms (l.map g) ∧ (∀ m ∈ ms, h.length ≤ m) ∧ h.length ≤ n := by
  obtain ⟨ms, h', e, x, l2, r2, d2, b2⟩ := lcL_rowsX (g := g) l h hc k
  have x2 := x.app [HO'.lst (ms.map D.ref)]
  refine ⟨_, _, ms, ?_, x2, ⟨by simp [l2], ?_, fun i m r e1 e2 => (Ext.app (Ext.refl h') _).get (r2 i m r e1 e2), d2, fun z => by have := (b2 _ z).2; omega, fun m hm => by have := (b2 m hm).2; simp; omega⟩, fun m hm => (b2 m hm).1, x.len⟩
  · unfold lcO
    rw [if_pos (by simpa using hl)]
    dsimp only
    rw [e, bind_ok, newL_t]
  · simp
end
/-- a table, as a value or as a list of lists -/
structure TbAt (h : Hs) (x : D) (n : Nat) (t : List (List Int)) : Prop where
  tab : Tab n t
  len : gLen h [x] = some (.int n)
  ix : ∀ i : Nat, i < n → ∃ y, gIx h x (.int i) = some y ∧ ∀ j : Nat, j < n + 1 → gIx h y (.int j) = some (.int (cel t i j))
theorem Tab.at' {n : Nat} {t : List (List Int)} (T : Tab n t) {h : Hs} : TbAt h (tabD t) n t := ⟨T, by rw [len_tabD, T.len], fun i hi => by
  have l := T.len
  have r := T.row hi
  exact ⟨_, ix_tab (by omega) (by omega), fun j hj => ix_row (by omega) (by omega)⟩⟩
theorem Rows.tb {h : Hs} {n k : Nat} {ms : List Nat} {rs : List (List Int)} (R : Rows h k ms rs) (T : Tab n rs) : TbAt h (.ref k) n rs := ⟨T, by
  rw [gLen_ref R.out, List.length_map, R.len, T.len], fun i hi => by
  have l := T.len
  have r := T.row hi
  obtain ⟨m, e1, e2, e3⟩ := R.ix (i := (i : Int)) (by omega) (by omega)
  refine ⟨_, e2, fun j hj => ?_⟩
  rw [rowA_nat (by omega)] at r
  simp only [Int.toNat_natCast] at e3
  rw [gIx_ref e3, atI_map (by omega) (by omega)]
  unfold cel
  rw [rowA_nat (by omega), cellA_nat (by omega)]
  simp⟩
theorem eraseIdx_mapD {α β : Type} {f : α → β} : ∀ (l : List α) (i : Nat), (l.map f).eraseIdx i = (l.eraseIdx i).map f
  | [], _ => by simp
  | a :: r, 0 => by simp
  | a :: r, i + 1 => by simp [eraseIdx_mapD r i]
/-- a number of a table put in -/
def setI (t : List (List Int)) (i p : Nat) (v : Int) : List (List Int) := t.set i ((rowA t i).set p v)
theorem set_tab {n : Nat} {t : List (List Int)} {i p : Nat} {v : Int} (T : Tab n t) (hi : i < n) : Tab n (setI t i p v) := by
  have r := T.row hi
  have l := T.len
  exact ⟨wf_set T.wf (by rw [List.length_set, r, l]), by unfold setI; rw [List.length_set]; exact l⟩
theorem set_cel {n : Nat} {t : List (List Int)} {i p a b : Nat} {v : Int} (T : Tab n t) (hi : i < n) (hp : p < n + 1) (ha : a < n) (hb : b < n + 1) : cel (setI t i p v) a b = if a = i ∧ b = p then v else cel t a b := by
  have l := T.len
  have r := T.row hi
  unfold cel setI
  have := rowA_set (t := t) (h := (i : Int)) (i := (a : Int)) (r := (rowA t i).set p v) (by omega) (by omega) (by omega)
  rw [Int.toNat_natCast] at this
  rw [this]
  by_cases e : a = i
  · subst e
    rw [if_pos rfl]
    have := cellA_set (r := rowA t a) (h := (p : Int)) (k := (b : Int)) (x := v) (by omega) (by omega) (by omega)
    rw [Int.toNat_natCast] at this
    rw [this]
    by_cases e2 : b = p
    · rw [if_pos (by omega), if_pos ⟨rfl, e2⟩]
    · rw [if_neg (by omega), if_neg (fun z => e2 z.2)]
  · rw [if_neg (by omega), if_neg (fun z => e z.1)]
/-- a number of a list of lists, read and written -/
theorem Rows.cell {h : Hs} {n k : Nat} {ms : List Nat} {t : List (List Int)} (R : Rows h k ms t) (T : Tab n t) {i p : Nat} (hi : i < n) (hp : p < n + 1) :
    ∃ m, m ∈ ms ∧ gIx h (.ref k) (.int i) = some (.ref m) ∧ gIx h (.ref m) (.int p) = some (.int (cel t i p)) ∧ ∀ v : Int, ∃ h', storeG (.ref m) (.int p) (.int v) h = some h' ∧ Rows h' k ms (setI t i p v) ∧ Upd h h' ms := by
  obtain ⟨m, e1, e2, e3⟩ := R.ix (i := (i : Int)) (by omega) (by rw [T.len]; omega)
  simp only [Int.toNat_natCast] at e1 e3
  have rl := T.row hi
  have ra : rowA t i = t[i]'(by rw [T.len]; exact hi) := rowA_nat (by rw [T.len]; exact hi)
  rw [← ra] at e3
  refine ⟨m, List.mem_of_getElem? e1, e2, ?_, fun v => ⟨h.set m (.lst (((rowA t i).set p v).map .int)), ?_, R.setRow e1 _, Upd.set _ (List.mem_of_getElem? e1)⟩⟩
  · rw [gIx_ref e3, atI_map (by omega) (by omega)]
    unfold cel
    rw [cellA_nat (by omega)]
    simp
  · rw [storeG_of e3 (by omega) (by simp; omega), List.map_set]
    simp
/-- a table from a value, as new lists -/
theorem tab_rows {m : Bool} {n : Nat} {t : List (List Int)} (T : Tab n t) : t.length = n := T.len
@[simp] theorem getS_at {s : SD} {w : Nat} {d : D} {h : Hs} (e : s[w]? = some (some d)) : getS s w h = .ok d h := by unfold getS; rw [e]
/-- [list(row) for row in table] -/
theorem list_rows {Γ : Mir} {t : List (List Int)} {s : SD} {v : Nat} {h : Hs} (hl : t.length ≤ 1000) (hv : v < s.length) :
    ∃ h' k ms, lcO true (tgF false [v]) (E.evT Γ []) (E.ev Γ (.bi (.list true) [.var v])) [v] s (src0 (t.map rowD)) h = .ok (.ref k) h' ∧ Ext h h' ∧ Rows h' k ms t ∧ (∀ m ∈ ms, h.length ≤ m) ∧ h.length ≤ k := by
  have F := lc_rows0 (f := rowD) (ft := tgF false [v]) (fb := E.evT Γ []) (fe := E.ev Γ (.bi (.list true) [.var v])) (s := s) (vs := [v]) (fun r => r) t h (by omega) fun a _ h' _ => by
    have g : getS (((wipeS s [v]).set v (some (rowD a)))) v h' = .ok (rowD a) h' := getS_at (by simp [hv])
    simp at g
    simp [lcT, hv, g, rowD]
  rw [List.map_id'] at F
  exact F
theorem cut_ext {h h' : Hs} {s : SD} (e : Ext h h') : (O.nx s h').cut h = .nx (killS h.length s) h := by rw [cut_nx e.cl, e.take]
/-- [list(row) for row in rows], rows an object -/
theorem list_rowsR {Γ : Mir} {t : List (List Int)} {s : SD} {v k : Nat} {ms : List Nat} {h : Hs} (R : Rows h k ms t) (hl : t.length ≤ 1000) (hv : v < s.length) :
    ∃ h' k' ms', lcO true (tgF false [v]) (E.evT Γ []) (E.ev Γ (.bi (.list true) [.var v])) [v] s ⟨ms.map .ref, fun h' => h'[k]? = some (.lst (ms.map .ref))⟩ h = .ok (.ref k') h' ∧ Ext h h' ∧ Rows h' k' ms' t ∧ (∀ m ∈ ms', h.length ≤ m) ∧ h.length ≤ k' := by
  let g : Nat → List Int := fun i => t[i]?.getD []
  have em : ms.map D.ref = (List.range ms.length).map fun i => D.ref (ms[i]?.getD 0) := by
    refine List.ext_getElem (by simp) fun i h1 h2 => ?_
    simp at h1
    simp [List.getElem?_eq_getElem h1]
  have F := lc_rows (f := fun i => D.ref (ms[i]?.getD 0)) (c := fun h' => h'[k]? = some (.lst (ms.map .ref))) (ft := tgF false [v]) (fb := E.evT Γ []) (fe := E.ev Γ (.bi (.list true) [.var v])) (s := s) (vs := [v]) g (List.range ms.length) h (by simp [R.len]; omega) (fun h' e => e.get R.out) fun i hi h' e => by
    have hi := List.mem_range.mp hi
    have ht : i < t.length := by rw [← R.len]; exact hi
    have q := e.get (R.row i ms[i] t[i] (List.getElem?_eq_getElem hi) (List.getElem?_eq_getElem ht))
    have gt : g i = t[i] := by simp [g, List.getElem?_eq_getElem ht]
    rw [gt]
    have g' : getS (((wipeS s [v]).set v (some (.ref ms[i])))) v h' = .ok (.ref ms[i]) h' := getS_at (by simp [hv])
    simp at g'
    simp [lcT, hv, g', List.getElem?_eq_getElem hi, gListF_ref q]
  rw [← em] at F
  have eg : (List.range ms.length).map g = t := by
    refine List.ext_getElem (by simp [R.len]) fun i h1 h2 => ?_
    simp [g, List.getElem?_eq_getElem h2]
  rw [eg] at F
  exact F
theorem Rows.upd {h h' : Hs} {k : Nat} {ms ns : List Nat} {rs : List (List Int)} (R : Rows h k ms rs) (u : Upd h h' ns) (hk : k ∉ ns) (hm : ∀ m ∈ ms, m ∉ ns) : Rows h' k ms rs :=
  ⟨R.len, u.get hk R.out, fun i m r e1 e2 => u.get (hm m (List.mem_of_getElem? e1)) (R.row i m r e1 e2), R.nd, R.ne, fun m hm' => by rw [u.len]; exact R.lt m hm'⟩
end Gx

namespace Gx
open PySem L2
/-! whom rights may come to -/
theorem enc_nat : Enc (fun i : Nat => D.int i) 0 where
  lay := fun a => enc_int.lay a
  dp := fun a => enc_int.dp a
  nr := fun a => by simp
  eq := fun a b => by rw [enc_int.eq]; exact decide_eq_decide.mpr (by omega)
theorem pigeon : ∀ (n : Nat) (l : List Nat), l.Nodup → (∀ x ∈ l, x < n) → l.length ≤ n
  | 0, l, _, h => by
    cases l with
    | nil => simp
    | cons a r => have := h a List.mem_cons_self; omega
  | n + 1, l, d, h => by
    by_cases q : n ∈ l
    · have e := List.length_erase_of_mem q
      have := pigeon n (l.erase n) (d.erase n) fun x hx => by
        have h1 := h x (List.mem_of_mem_erase hx)
        have h2 := (d.mem_erase_iff.mp hx).1
        omega
      omega
    · have := pigeon n l d fun x hx => by
        have h1 := h x hx
        have h2 : x ≠ n := fun z => q (z ▸ hx)
        omega
      omega
inductive Reach (n : Nat) (t : List (List Int)) : Nat → Prop
  | mk {i : Nat} : i < n → 0 < cel t i i → Reach n t i
  | to {i j : Nat} : Reach n t i → j < n → 0 < cel t i j → Reach n t j
theorem Reach.lt {n : Nat} {t : List (List Int)} {x : Nat} (r : Reach n t x) : x < n := by cases r <;> assumption
def bfsStep (t : List (List Int)) (i : Nat) (f : List Nat) (j : Nat) : List Nat := if 0 < cel t i j ∧ j ∉ f then f ++ [j] else f
def bfsIn (n : Nat) (t : List (List Int)) (i : Nat) (f : List Nat) : List Nat := (List.range n).foldl (bfsStep t i) f
def bfs (n : Nat) (t : List (List Int)) : Nat → Nat → List Nat → List Nat
  | 0, _, f => f
  | k + 1, a, f => if a < f.length then bfs n t k (a + 1) (bfsIn n t ((f[a]?).getD 0) f) else f
def makers (n : Nat) (t : List (List Int)) : List Nat := (List.range n).filter fun i => decide (0 < cel t i i)
def rootsI (n : Nat) (t : List (List Int)) : List Nat := bfs n t 11 0 (makers n t)
structure Part (n : Nat) (t : List (List Int)) (f : List Nat) : Prop where
  nd : f.Nodup
  lt : ∀ x ∈ f, x < n
  mkr : ∀ i, i < n → 0 < cel t i i → i ∈ f
  just : ∀ k x : Nat, f[k]? = some x → 0 < cel t x x ∨ ∃ m y : Nat, m < k ∧ f[m]? = some y ∧ 0 < cel t y x
section
variable {n : Nat} {t : List (List Int)}
theorem Part.len {f : List Nat} (p : Part n t f) : f.length ≤ n := pigeon n f p.nd p.lt
theorem Part.push {f : List Nat} {i j a : Nat} (p : Part n t f) (e : f[a]? = some i) (h : 0 < cel t i j) (hj : j < n) (hn : j ∉ f) : Part n t (f ++ [j]) where
  nd := by
    rw [List.nodup_append]
    exact ⟨p.nd, by simp, fun x hx y hy => by
      rw [List.mem_singleton] at hy
      exact fun z => hn (by rw [← hy, ← z]; exact hx)⟩
  lt := fun x hx => by
    rcases List.mem_append.mp hx with z | z
    · exact p.lt x z
    · rw [List.mem_singleton.mp z]; exact hj
  mkr := fun x hx c => List.mem_append_left _ (p.mkr x hx c)
  just := fun k x q => by
    have ha := (List.getElem?_eq_some_iff.mp e).1
    by_cases hk : k < f.length
    · rw [List.getElem?_append_left hk] at q
      rcases p.just k x q with z | ⟨m, y, h1, h2, h3⟩
      · exact .inl z
      · exact .inr ⟨m, y, h1, by rw [List.getElem?_append_left (by omega)]; exact h2, h3⟩
    · have hk2 := (List.getElem?_eq_some_iff.mp q).1
      rw [List.length_append, List.length_singleton] at hk2
      have : k = f.length := by omega
      subst this
      rw [List.getElem?_append_right (Nat.le_refl _), Nat.sub_self] at q
      injection q with q
      subst q
      exact .inr ⟨a, i, ha, by rw [List.getElem?_append_left ha]; exact e, h⟩
theorem bfsIn_spec {i a : Nat} : ∀ (l : List Nat) (f : List Nat), (∀ j ∈ l, j < n) → Part n t f → f[a]? = some i → ∃ g, l.foldl (bfsStep t i) f = f ++ g ∧ Part n t (f ++ g) ∧ ∀ j ∈ l, 0 < cel t i j → j ∈ f ++ g
  | [], f, _, p, _ => ⟨[], by simp, by simpa using p, fun j hj => (nomatch hj)⟩
  | j :: r, f, hl, p, e => by
    rw [List.foldl_cons]
    have ha := (List.getElem?_eq_some_iff.mp e).1
    by_cases q : 0 < cel t i j ∧ j ∉ f
    · have p2 := p.push e q.1 (hl j List.mem_cons_self) q.2
      obtain ⟨g, h1, h2, h3⟩ := bfsIn_spec r (f ++ [j]) (fun x hx => hl x (List.mem_cons_of_mem _ hx)) p2 (by rw [List.getElem?_append_left ha]; exact e)
      refine ⟨j :: g, ?_, by simpa using h2, fun x hx c => ?_⟩
      · have e0 : bfsStep t i f j = f ++ [j] := by unfold bfsStep; rw [if_pos q]
        rw [e0, h1]
        simp
      · rcases List.mem_cons.mp hx with z | z
        · simp [z]
        · simpa using h3 x z c
    · obtain ⟨g, h1, h2, h3⟩ := bfsIn_spec r f (fun x hx => hl x (List.mem_cons_of_mem _ hx)) p e
      refine ⟨g, ?_, h2, fun x hx c => ?_⟩
      · have e0 : bfsStep t i f j = f := by unfold bfsStep; rw [if_neg q]
        rw [e0, h1]
      · rcases List.mem_cons.mp hx with z | z
        · subst z
          have : x ∈ f := Classical.byContradiction fun w => q ⟨c, w⟩
          exact List.mem_append_left _ this
        · exact h3 x z c
theorem bfs_spec : ∀ (k a : Nat) (f : List Nat), Part n t f → (∀ m x : Nat, m < a → f[m]? = some x → ∀ j, j < n → 0 < cel t x j → j ∈ f) → n + 1 ≤ a + k → a ≤ f.length →
    Part n t (bfs n t k a f) ∧ ∀ x ∈ bfs n t k a f, ∀ j, j < n → 0 < cel t x j → j ∈ bfs n t k a f
  | 0, a, f, p, _, h1, h2 => by have := p.len; omega
  | k + 1, a, f, p, c, h1, h2 => by
    unfold bfs
    by_cases q : a < f.length
    · rw [if_pos q]
      have e : f[a]? = some f[a] := List.getElem?_eq_getElem q
      obtain ⟨g, g1, g2, g3⟩ := bfsIn_spec (n := n) (t := t) (a := a) (i := f[a]) (List.range n) f (fun j hj => List.mem_range.mp hj) p e
      have eb : bfsIn n t ((f[a]?).getD 0) f = f ++ g := by
        rw [e]
        exact g1
      rw [eb]
      refine bfs_spec k (a + 1) (f ++ g) g2 (fun m x hm ex j hj cj => ?_) (by omega) (by simp; omega)
      by_cases z : m = a
      · subst z
        rw [List.getElem?_append_left q, e] at ex
        injection ex with ex
        exact g3 j (List.mem_range.mpr hj) (by rw [ex]; exact cj)
      · rw [List.getElem?_append_left (by omega)] at ex
        exact List.mem_append_left _ (c m x (by omega) ex j hj cj)
    · rw [if_neg q]
      refine ⟨p, fun x hx j hj cj => ?_⟩
      obtain ⟨m, hm, e⟩ := List.getElem_of_mem hx
      exact c m x (by omega) (by rw [List.getElem?_eq_getElem hm, e]) j hj cj
theorem makers_part : Part n t (makers n t) where
  nd := List.Pairwise.filter _ List.nodup_range
  lt := fun x hx => List.mem_range.mp (List.mem_filter.mp hx).1
  mkr := fun i hi c => List.mem_filter.mpr ⟨List.mem_range.mpr hi, decide_eq_true c⟩
  just := fun k x e => .inl (of_decide_eq_true (List.mem_filter.mp (List.mem_of_getElem? e)).2)
theorem roots_part (n8 : n ≤ 8) : Part n t (rootsI n t) ∧ ∀ x ∈ rootsI n t, ∀ j, j < n → 0 < cel t x j → j ∈ rootsI n t := bfs_spec 11 0 _ makers_part (fun m x hm => by omega) (by omega) (by omega)
theorem Part.reach {f : List Nat} (p : Part n t f) : ∀ (k x : Nat), f[k]? = some x → Reach n t x
  | k, x, e => by
    have hx := p.lt x (List.mem_of_getElem? e)
    rcases p.just k x e with z | ⟨m, y, h1, h2, h3⟩
    · exact .mk hx z
    · exact .to (p.reach m y h2) hx h3
theorem roots_iff (n8 : n ≤ 8) {x : Nat} : x ∈ rootsI n t ↔ Reach n t x := by
  obtain ⟨p, c⟩ := roots_part (t := t) n8
  constructor
  · intro h
    obtain ⟨k, hk, e⟩ := List.getElem_of_mem h
    exact p.reach k x (by rw [List.getElem?_eq_getElem hk, e])
  · intro h
    induction h with
    | mk h1 h2 => exact p.mkr _ h1 h2
    | to _ h1 h2 ih => exact c _ ih _ h1 h2
/-! tables that come about -/
def NNt (n : Nat) (t : List (List Int)) : Prop := ∀ i j : Nat, i < n → j < n + 1 → 0 ≤ cel t i j
def busyB (n : Nat) (t : List (List Int)) (k : Nat) : Bool := decide (0 < lentByI t k) || decide (0 < cel t k n)
def othersI (n : Nat) (t : List (List Int)) : List Nat := (List.range n).filter fun k => decide (k ∉ rootsI n t)
def reachB (n : Nat) (t : List (List Int)) : Bool := !(othersI n t).any (busyB n t)
def comesB (n : Nat) (t : List (List Int)) : Bool := ((List.range n).all fun k => decide (0 ≤ rightsI t k)) && reachB n t
def natsD (l : List Nat) : D := .vl (l.map fun i : Nat => D.int i)
def comesD (n : Nat) (t : List (List Int)) : D := match (List.range n).find? fun k : Nat => decide (rightsI t k < 0) with
  | some k => .tup [.str "short", .int k]
  | none => if reachB n t = true then .tup [.str "comes", natsD (rootsI n t)] else .tup [.str "rootless", natsD (othersI n t)]
@[simp] theorem nr_nats {l : List Nat} : (natsD l).nr = true := by simp [natsD]
@[simp] theorem nr_comes : (comesD n t).nr = true := by
  unfold comesD
  split
  · simp
  · split <;> simp
theorem shp_comes : shp (.str "comes") = true := by decide +kernel
theorem shp_short : shp (.str "short") = true := by decide +kernel
theorem shp_rootless : shp (.str "rootless") = true := by decide +kernel
theorem str_sc : decide (("short" : Str) = "comes") = false := by decide +kernel
theorem str_rc : decide (("rootless" : Str) = "comes") = false := by decide +kernel
theorem str_cc : decide (("comes" : Str) = "comes") = true := by decide +kernel
theorem comes_none {n : Nat} {t : List (List Int)} (h : (List.range n).find? (fun k : Nat => decide (rightsI t k < 0)) = none) : comesB n t = reachB n t := by
  unfold comesB
  have : ((List.range n).all fun (k : Nat) => decide (0 ≤ rightsI t k)) = true := List.all_eq_true.mpr fun k hk => decide_eq_true (by
    have := List.find?_eq_none.mp h k hk
    simp at this
    exact this)
  rw [this, Bool.true_and]
theorem comes_some {n : Nat} {t : List (List Int)} {k : Nat} (h : (List.range n).find? (fun k : Nat => decide (rightsI t k < 0)) = some k) : comesB n t = false ∧ k < n ∧ rightsI t k < 0 := by
  have h1 := List.find?_some h
  have h2 := List.mem_range.mp (List.mem_of_find?_eq_some h)
  have h1 := of_decide_eq_true h1
  refine ⟨?_, h2, h1⟩
  unfold comesB
  have : ((List.range n).all fun (k : Nat) => decide (0 ≤ rightsI t k)) = false := Bool.eq_false_iff.mpr fun z => by
    have := of_decide_eq_true (List.all_eq_true.mp z k (List.mem_range.mpr h2))
    omega
  rw [this, Bool.false_and]
theorem comes_ix0 {h : Hs} : ∃ w, gIx h (comesD n t) (.int 0) = some (.str w) ∧ gNe h (.str w) (.str "comes") = some (.bl (!comesB n t)) := by
  unfold comesD
  cases q : (List.range n).find? fun k : Nat => decide (rightsI t k < 0) with
  | some k => exact ⟨"short", by rw [gIx_tup]; rfl, by rw [gNe_str shp_short shp_comes, (comes_some q).1, str_sc]⟩
  | none =>
    rw [comes_none q]
    dsimp only
    by_cases z : reachB n t = true
    · rw [if_pos z, z]
      exact ⟨"comes", by rw [gIx_tup]; rfl, by rw [gNe_str shp_comes shp_comes, str_cc]⟩
    · rw [if_neg z, Bool.eq_false_iff.mpr z]
      exact ⟨"rootless", by rw [gIx_tup]; rfl, by rw [gNe_str shp_rootless shp_comes, str_rc]⟩
end
/-! rounds from the makers -/
def KT (kn : List Bool) (x : Nat) : Prop := kn[x]? = some true
instance {kn : List Bool} {x : Nat} : Decidable (KT kn x) := by unfold KT; infer_instance
def knStep (t : List (List Int)) (i : Nat) (kn : List Bool) (j : Nat) : List Bool := if KT kn i ∧ i ≠ j ∧ 0 < cel t i j then kn.set j true else kn
def knIn (n : Nat) (t : List (List Int)) (kn : List Bool) (i : Nat) : List Bool := (List.range n).foldl (knStep t i) kn
def knRound (n : Nat) (t : List (List Int)) (kn : List Bool) (_ : Nat) : List Bool := (List.range n).foldl (knIn n t) kn
def known0 (n : Nat) (t : List (List Int)) : List Bool := (List.range n).map fun k => decide (0 < cel t k k)
def knownR (n : Nat) (t : List (List Int)) (r : Nat) : List Bool := (List.range r).foldl (knRound n t) (known0 n t)
section
variable {n : Nat} {t : List (List Int)} {kn : List Bool}
/-- what a step may do -/
structure KnOk (n : Nat) (t : List (List Int)) (a b : List Bool) : Prop where
  len : b.length = a.length
  mono : ∀ x, KT a x → KT b x
  sound : (∀ x, KT a x → Reach n t x) → ∀ x, KT b x → Reach n t x
theorem KnOk.refl {a : List Bool} : KnOk n t a a := ⟨rfl, fun _ h => h, fun h => h⟩
theorem KnOk.trans {a b c : List Bool} (p : KnOk n t a b) (q : KnOk n t b c) : KnOk n t a c := ⟨q.len.trans p.len, fun x h => q.mono x (p.mono x h), fun h => q.sound (p.sound h)⟩
theorem knStep_ok {i j : Nat} (hj : j < n) : KnOk n t kn (knStep t i kn j) := by
  unfold knStep
  split
  · rename_i q
    refine ⟨by simp, fun x h => ?_, fun h x hx => ?_⟩
    · unfold KT at h ⊢
      by_cases z : j = x
      · subst z
        rw [List.getElem?_set_self (List.getElem?_eq_some_iff.mp h).1]
      · rw [List.getElem?_set_ne z]
        exact h
    · unfold KT at hx
      by_cases z : j = x
      · subst z
        exact .to (h i q.1) hj q.2.2
      · rw [List.getElem?_set_ne z] at hx
        exact h x hx
  · exact KnOk.refl
theorem knStep_get {i j : Nat} (h : KT kn i) (c : 0 < cel t i j) (hj : j < kn.length) : KT (knStep t i kn j) j := by
  unfold knStep
  by_cases z : i = j
  · subst z
    rw [if_neg (fun q => q.2.1 rfl)]
    exact h
  · rw [if_pos ⟨h, z, c⟩]
    unfold KT
    rw [List.getElem?_set_self hj]
theorem knFold_ok {β : Type} {f : List Bool → β → List Bool} : ∀ (l : List β) (kn : List Bool), (∀ kn a, a ∈ l → KnOk n t kn (f kn a)) → KnOk n t kn (l.foldl f kn)
  | [], kn, _ => KnOk.refl
  | a :: r, kn, h => (h kn a List.mem_cons_self).trans (knFold_ok r _ fun kn' a' m => h kn' a' (List.mem_cons_of_mem _ m))
theorem knIn_ok {i : Nat} : KnOk n t kn (knIn n t kn i) := knFold_ok _ _ fun _ _ h => knStep_ok (List.mem_range.mp h)
theorem knRound_ok {k : Nat} : KnOk n t kn (knRound n t kn k) := knFold_ok _ _ fun _ _ _ => knIn_ok
theorem knFold_get {β : Type} {f : List Bool → β → List Bool} {x : Nat} {a : β} : ∀ (l : List β) (kn : List Bool), (∀ kn a, a ∈ l → KnOk n t kn (f kn a)) → a ∈ l → (∀ kn', KnOk n t kn kn' → KT (f kn' a) x) → KT (l.foldl f kn) x
  | [], kn, _, m, _ => (nomatch m)
  | b :: r, kn, h, m, k => by
    rw [List.foldl_cons]
    by_cases q : a ∈ r
    · exact knFold_get r _ (fun kn' a' m' => h kn' a' (List.mem_cons_of_mem _ m')) q fun kn' o => k kn' ((h kn b List.mem_cons_self).trans o)
    · have e : a = b := by
        rcases List.mem_cons.mp m with z | z
        · exact z
        · exact (q z).elim
      subst e
      exact (knFold_ok r _ fun kn' a' m' => h kn' a' (List.mem_cons_of_mem _ m')).mono x (k kn KnOk.refl)
theorem knIn_get {i j : Nat} (h : KT kn i) (c : 0 < cel t i j) (hj : j < n) (l : kn.length = n) : KT (knIn n t kn i) j :=
  knFold_get (a := j) _ _ (fun _ _ m => knStep_ok (List.mem_range.mp m)) (List.mem_range.mpr hj) fun kn' o => knStep_get (o.mono i h) c (by rw [o.len, l]; exact hj)
theorem knRound_get {i j k : Nat} (h : KT kn i) (c : 0 < cel t i j) (hi : i < n) (hj : j < n) (l : kn.length = n) : KT (knRound n t kn k) j :=
  knFold_get (a := i) _ _ (fun _ _ _ => knIn_ok) (List.mem_range.mpr hi) fun kn' o => knIn_get (o.mono i h) c hj (by rw [o.len, l])
theorem known0_len : (known0 n t).length = n := by simp [known0]
theorem known0_iff {x : Nat} : KT (known0 n t) x ↔ x < n ∧ 0 < cel t x x := by
  unfold KT known0
  rw [List.getElem?_map]
  by_cases q : x < n
  · rw [List.getElem?_range q]
    simp [q]
  · rw [List.getElem?_eq_none (by simp; omega)]
    simp
    omega
theorem knownR_ok {r : Nat} : KnOk n t (known0 n t) (knownR n t r) := knFold_ok _ _ fun _ _ _ => knRound_ok
theorem knownR_get (n8 : n ≤ 8) : ∀ (r k x : Nat), k ≤ r → (rootsI n t)[k]? = some x → KT (knownR n t r) x
  | r, k, x, hk, e => by
    have p := (roots_part (t := t) n8).1
    have hx := p.lt x (List.mem_of_getElem? e)
    rcases p.just k x e with z | ⟨m, y, h1, h2, h3⟩
    · exact knownR_ok.mono x (known0_iff.mpr ⟨hx, z⟩)
    · cases r with
      | zero => omega
      | succ r =>
        have ih := knownR_get n8 r m y (by omega) h2
        have hy := p.lt y (List.mem_of_getElem? h2)
        have e2 : knownR n t (r + 1) = knRound n t (knownR n t r) r := by
          unfold knownR
          rw [List.range_succ, List.foldl_append]
          rfl
        rw [e2]
        exact knRound_get ih h3 hy hx (by rw [knownR_ok.len, known0_len])
/-- after as many rounds as houses -/
theorem known_iff (n8 : n ≤ 8) {x : Nat} : KT (knownR n t n) x ↔ Reach n t x := by
  constructor
  · exact knownR_ok.sound (fun y hy => .mk (known0_iff.mp hy).1 (known0_iff.mp hy).2) x
  · intro h
    obtain ⟨k, hk, e⟩ := List.getElem_of_mem ((roots_iff n8).mpr h)
    have := (roots_part (t := t) n8).1.len
    exact knownR_get n8 n k x (by omega) (by rw [List.getElem?_eq_getElem hk, e])
theorem known_eq (n8 : n ≤ 8) : knownR n t n = (List.range n).map fun k => decide (k ∈ rootsI n t) := by
  have l : (knownR n t n).length = n := by rw [knownR_ok.len, known0_len]
  refine List.ext_getElem (by simp [l]) fun x h1 h2 => ?_
  have q := known_iff (t := t) (x := x) n8
  rw [← roots_iff n8] at q
  unfold KT at q
  rw [List.getElem?_eq_getElem h1] at q
  simp only [List.getElem_map, List.getElem_range]
  simp only [Option.some.injEq] at q
  by_cases z : x ∈ rootsI n t
  · rw [decide_eq_true z]; exact q.mpr z
  · rw [decide_eq_false z]
    cases w : (knownR n t n)[x] with
    | false => rfl
    | true => exact (z (q.mp w)).elim
/-- the rounds, as they stand in the laws -/
theorem known_loop {Γ : Mir} {N : Nat} {h : Hs} (T : Tab n t) (n8 : n ≤ 8) (z : SD) (x3 x4 x5 : Option D) : ∃ y3 y4 y5, forL (turnO (tgF false [3]) (cutB false (S.evs Γ N [.loop false 1 [.var 1] false [4] [.loop false 1 [.var 1] false [5] [.iff (.and (.ix (.var 2) (.var 4)) (.and (.op .ne (.var 4) (.var 5)) (.op .gt (.ix (.ix (.var 0) (.var 4)) (.var 5)) (.int 0)))) [.store (.var 2) (.var 5) (.bl true)] []]]]))) ((List.range n).map fun (i : Nat) => D.int i) (some (tabD t) :: some (.int n) :: some (.ref h.length) :: x3 :: x4 :: x5 :: z) (h ++ [.lst ((known0 n t).map .bl)]) =
    .nx (some (tabD t) :: some (.int n) :: some (.ref h.length) :: y3 :: y4 :: y5 :: z) (h ++ [.lst (((List.range n).map fun k => decide (k ∈ rootsI n t)).map .bl)]) := by
  have l := T.len
  have F := forL_sti (f := fun (i : Nat) => D.int i) (turn := turnO (tgF false [3]) (cutB false (S.evs Γ N [.loop false 1 [.var 1] false [4] [.loop false 1 [.var 1] false [5] [.iff (.and (.ix (.var 2) (.var 4)) (.and (.op .ne (.var 4) (.var 5)) (.op .gt (.ix (.ix (.var 0) (.var 4)) (.var 5)) (.int 0)))) [.store (.var 2) (.var 5) (.bl true)] []]]])))
    (fun (_ : List Bool) (c : Option D × Option D × Option D) => some (tabD t) :: some (.int n) :: some (.ref h.length) :: c.1 :: c.2.1 :: c.2.2 :: z) (fun b => h ++ [.lst (b.map .bl)]) (knRound n t) (fun _ b => b.length = n) n (List.range n) 0 (known0 n t) (x3, x4, x5) (by simp) known0_len ?_
  · obtain ⟨⟨c, F⟩, -⟩ := F
    have e : (List.range n).foldl (knRound n t) (known0 n t) = knownR n t n := rfl
    rw [e, known_eq n8] at F
    exact ⟨_, _, _, F⟩
  · intro r kn c k hk _ hb
    have G := forL_sti (f := fun (i : Nat) => D.int i) (turn := turnO (tgF false [4]) (cutB false (S.evs Γ N [.loop false 1 [.var 1] false [5] [.iff (.and (.ix (.var 2) (.var 4)) (.and (.op .ne (.var 4) (.var 5)) (.op .gt (.ix (.ix (.var 0) (.var 4)) (.var 5)) (.int 0)))) [.store (.var 2) (.var 5) (.bl true)] []]])))
      (fun (_ : List Bool) (c : Option D × Option D) => some (tabD t) :: some (.int n) :: some (.ref h.length) :: some (.int k) :: c.1 :: c.2 :: z) (fun b => h ++ [.lst (b.map .bl)]) (knIn n t) (fun _ b => b.length = n) n (List.range n) 0 kn (c.2.1, c.2.2) (by simp) hb ?_
    · obtain ⟨⟨c2, G⟩, -⟩ := G
      refine ⟨⟨(some (.int k), c2), ?_⟩, by show (knRound n t kn k).length = n; rw [knRound_ok.len, hb]⟩
      rw [turnE, tgF_one (by simp), turnM_some]
      simp (disch := first | (simp; done) | (simp; omega) | omega) [rngN]
      have e : knRound n t kn k = (List.range n).foldl (knIn n t) kn := rfl
      rw [e]
      dsimp only at G
      rw [G]
      simp
    · intro q kn c i hi _ hb
      have hi := List.mem_range.mp hi
      have J := forL_sti (f := fun (i : Nat) => D.int i) (turn := turnO (tgF false [5]) (cutB false (S.evs Γ N [.iff (.and (.ix (.var 2) (.var 4)) (.and (.op .ne (.var 4) (.var 5)) (.op .gt (.ix (.ix (.var 0) (.var 4)) (.var 5)) (.int 0)))) [.store (.var 2) (.var 5) (.bl true)] []])))
        (fun (_ : List Bool) (c : Option D) => some (tabD t) :: some (.int n) :: some (.ref h.length) :: some (.int k) :: some (.int i) :: c :: z) (fun b => h ++ [.lst (b.map .bl)]) (knStep t i) (fun _ b => b.length = n) n (List.range n) 0 kn c.2 (by simp) hb ?_
      · obtain ⟨⟨c2, J⟩, -⟩ := J
        refine ⟨⟨(some (.int i), c2), ?_⟩, by show (knIn n t kn i).length = n; rw [knIn_ok.len, hb]⟩
        rw [turnE, tgF_one (by simp), turnM_some]
        simp (disch := first | (simp; done) | (simp; omega) | omega) [rngN]
        have e : knIn n t kn i = (List.range n).foldl (knStep t i) kn := rfl
        rw [e]
        rw [J]
        simp
      · intro q kn c j hj _ hb
        have hj := List.mem_range.mp hj
        have r := T.row hi
        have ai : atI (kn.map D.bl) (i : Int) = some (.bl (kn[i]'(by omega))) := by
          rw [atI_map (by omega) (by omega)]
          simp
        refine ⟨⟨some (.int j), ?_⟩, by rw [(knStep_ok hj).len, hb]⟩
        rw [turnE, tgF_one (by simp), turnM_some]
        simp (disch := first | (simp; done) | (simp; omega) | omega) [ai, ix_tab, ix_row]
        have ek : KT kn i ↔ kn[i]'(by omega) = true := by
          unfold KT
          rw [List.getElem?_eq_getElem (by omega)]
          simp
        unfold knStep
        simp only [ek]
        by_cases q1 : kn[i]'(by omega) = true
        · by_cases q2 : i = j
          · simp [q1, q2]
          · have q2' : ¬ ((i : Int) = j) := by omega
            by_cases q3 : 0 < cel t i j
            · have q3' := q3
              unfold cel at q3'
              simp (disch := first | (simp; done) | (simp; omega) | omega) [q1, q2, q2', q3, q3']
            · have q3' := q3
              unfold cel at q3'
              simp [q1, q2, q2', q3, q3']
        · simp [q1]
end
end Gx

namespace Gx
open PySem L2
/-! rights by cells; tables grown by deeds -/
theorem cel_A {t : List (List Int)} {i j : Nat} : cel t i j = cellA (rowA t i) j := rfl
theorem sum_if {n p : Nat} {k : Int} (hp : p < n) : ((List.range n).map fun (i : Nat) => if i = p then k else 0).sum = k := by
  have := sum_one (n := n) (h := p) (f := fun _ => k) hp
  have e : ((List.range n).map fun (i : Nat) => (if i = p then k else 0) + if i = p then 0 else k).sum = ((List.range n).map fun _ => k).sum := by
    refine sum_congr fun i _ => ?_
    split <;> omega
  rw [sum_add] at e
  omega
theorem sum_zero {n : Nat} : ((List.range n).map fun (_ : Nat) => (0 : Int)).sum = 0 := by
  induction n with
  | zero => rfl
  | succ n ih => rw [List.range_succ, List.map_append, List.sum_append, ih]; rfl
/-- rights, by cells -/
theorem rights_cel {n : Nat} {t : List (List Int)} {x : Nat} (T : Tab n t) (hx : x < n) : rightsI t x = ((List.range n).map fun (i : Nat) => cel t i x).sum - ((List.range n).map fun (j : Nat) => cel t x j).sum + cel t x x - cel t x n := by
  have l := T.len
  have r := T.row hx
  unfold rightsI lentToI lentByI
  rw [sum_rows, sum_take (by omega), l]
  simp only [cel_A]
  omega
theorem rights_raised {n : Nat} {t : List (List Int)} {i p k : Int} {x : Nat} (T : Tab n t) (h0 : 0 ≤ i) (h1 : i < n) (p0 : 0 ≤ p) (p1 : p < n + 1) (hx : x < n) :
    rightsI (raisedI t i p k) x = rightsI t x + (if p = x ∧ p < n then k else 0) - (if i = x ∧ p < n then k else 0) + (if i = x ∧ p = x then k else 0) - (if i = x ∧ p = n then k else 0) := by
  have R := raised_tab (p := p) (k := k) T h0 h1
  rw [rights_cel R hx, rights_cel T hx]
  have c := fun (a b : Nat) (ha : a < n) (hb : b < n + 1) => raised_cel (i := a) (j := b) (k := k) T h0 h1 p0 p1 ha hb
  have e1 : ((List.range n).map fun (a : Nat) => cel (raisedI t i p k) a x).sum = ((List.range n).map fun (a : Nat) => cel t a x).sum + if p = x ∧ p < n then k else 0 := by
    have : ((List.range n).map fun (a : Nat) => cel (raisedI t i p k) a x).sum = ((List.range n).map fun (a : Nat) => cel t a x + if a = i.toNat then (if p = x then k else 0) else 0).sum := sum_congr fun a ha => by
      have ha := List.mem_range.mp ha
      rw [c a x ha (by omega)]
      by_cases z : (a : Int) = i
      · have : a = i.toNat := by omega
        rw [if_pos this]
        by_cases z2 : (x : Int) = p
        · rw [if_pos ⟨z, z2⟩, if_pos z2.symm]
        · rw [if_neg (fun w => z2 w.2), if_neg (fun w => z2 w.symm)]
      · have : a ≠ i.toNat := by omega
        rw [if_neg this, if_neg (fun w => z w.1)]
    rw [this, sum_add, sum_if (by omega)]
    by_cases z2 : p = (x : Int)
    · rw [if_pos z2, if_pos ⟨z2, by omega⟩]
    · rw [if_neg z2, if_neg (fun w => z2 w.1)]
  have e2 : ((List.range n).map fun (b : Nat) => cel (raisedI t i p k) x b).sum = ((List.range n).map fun (b : Nat) => cel t x b).sum + if i = x ∧ p < n then k else 0 := by
    have : ((List.range n).map fun (b : Nat) => cel (raisedI t i p k) x b).sum = ((List.range n).map fun (b : Nat) => cel t x b + if b = p.toNat then (if i = x then k else 0) else 0).sum := sum_congr fun b hb => by
      have hb := List.mem_range.mp hb
      rw [c x b hx (by omega)]
      by_cases z : (b : Int) = p
      · have : b = p.toNat := by omega
        rw [if_pos this]
        by_cases z2 : (x : Int) = i
        · rw [if_pos ⟨z2, z⟩, if_pos z2.symm]
        · rw [if_neg (fun w => z2 w.1), if_neg (fun w => z2 w.symm)]
      · have : b ≠ p.toNat := by omega
        rw [if_neg this, if_neg (fun w => z w.2)]
    rw [this, sum_add]
    by_cases z : p < n
    · rw [sum_if (by omega)]
      by_cases z2 : i = (x : Int)
      · rw [if_pos z2, if_pos ⟨z2, z⟩]
      · rw [if_neg z2, if_neg (fun w => z2 w.1)]
    · have : ((List.range n).map fun (b : Nat) => if b = p.toNat then (if i = x then k else 0) else 0).sum = ((List.range n).map fun (_ : Nat) => (0 : Int)).sum := sum_congr fun b hb => by
        have hb := List.mem_range.mp hb
        rw [if_neg (by omega)]
      rw [this, sum_zero, if_neg (fun w => z w.2)]
  rw [e1, e2, c x x hx (by omega), c x n hx (by omega)]
  have e3 : (if (x : Int) = i ∧ (x : Int) = p then k else 0) = if i = x ∧ p = x then k else 0 := by
    by_cases z : i = (x : Int) ∧ p = (x : Int)
    · rw [if_pos z, if_pos ⟨z.1.symm, z.2.symm⟩]
    · rw [if_neg z, if_neg (fun w => z ⟨w.1.symm, w.2.symm⟩)]
  have e4 : (if (x : Int) = i ∧ (n : Int) = p then k else 0) = if i = x ∧ p = n then k else 0 := by
    by_cases z : i = (x : Int) ∧ p = (n : Int)
    · rw [if_pos z, if_pos ⟨z.1.symm, z.2.symm⟩]
    · rw [if_neg z, if_neg (fun w => z ⟨w.1.symm, w.2.symm⟩)]
  rw [e3, e4]
  omega
/-- a table that comes about -/
structure Comes (n : Nat) (t : List (List Int)) : Prop where
  tab : Tab n t
  nn : NNt n t
  rg : ∀ k : Nat, k < n → 0 ≤ rightsI t k
  re : ∀ k j : Nat, k < n → j < n + 1 → j ≠ k → 0 < cel t k j → Reach n t k
theorem sum_posi {l : List Nat} {f : Nat → Int} (h : 0 < (l.map f).sum) : ∃ i ∈ l, 0 < f i := by
  induction l with
  | nil => simp at h
  | cons a r ih =>
    rw [List.map_cons, List.sum_cons] at h
    by_cases q : 0 < f a
    · exact ⟨a, List.mem_cons_self, q⟩
    · obtain ⟨i, h1, h2⟩ := ih (by omega)
      exact ⟨i, List.mem_cons_of_mem _ h1, h2⟩
/-- who has a right was come to -/
theorem Comes.has {n : Nat} {t : List (List Int)} (C : Comes n t) {k : Nat} (hk : k < n) (h : 0 < rightsI t k) : Reach n t k := by
  have q := lr_sum (h := (k : Int)) C.tab.wf (by omega) (by rw [C.tab.len]; omega)
  have u := C.nn k n hk (by omega)
  unfold cel at u
  rw [C.tab.len] at q
  obtain ⟨i, hi, c⟩ := sum_posi (l := List.range n) (f := lrI t k) (by omega)
  have hi := List.mem_range.mp hi
  unfold lrI at c
  by_cases z : i = k
  · subst z
    refine .mk hi ?_
    unfold cel
    simp at c
    exact c
  · have b := C.nn k i hk (by omega)
    unfold cel at b
    rw [if_neg (by omega)] at c
    have c2 : 0 < cel t i k := by unfold cel; omega
    exact .to (C.re i k hi (by omega) (fun w => z w.symm) c2) hk c2
theorem Reach.mono {n : Nat} {t u : List (List Int)} (h : ∀ i j : Nat, i < n → j < n → 0 < cel t i j → 0 < cel u i j) {x : Nat} (r : Reach n t x) : Reach n u x := by
  induction r with
  | mk h1 h2 => exact .mk h1 (h _ _ h1 h1 h2)
  | to r h1 h2 ih => exact .to ih h1 (h _ _ r.lt h1 h2)
theorem Comes.raise {n : Nat} {t : List (List Int)} {i p : Nat} {s : Int} (C : Comes n t) (hi : i < n) (hp : p < n + 1) (s1 : 1 ≤ s) (hs : p = i ∨ s ≤ rightsI t i) : Comes n (raisedI t i p s) := by
  have T := C.tab
  have R := raised_tab (p := (p : Int)) (k := s) T (i := (i : Int)) (by omega) (by omega)
  have c := fun (a b : Nat) (ha : a < n) (hb : b < n + 1) => raised_cel (i := a) (j := b) (k := s) T (x := (i : Int)) (p := (p : Int)) (by omega) (by omega) (by omega) (by omega) ha hb
  have le : ∀ a b : Nat, a < n → b < n + 1 → cel t a b ≤ cel (raisedI t i p s) a b := fun a b ha hb => by
    rw [c a b ha hb]
    split <;> omega
  have mo : ∀ {x}, Reach n t x → Reach n (raisedI t i p s) x := fun {x} r => r.mono fun a b ha hb q => by
    have := le a b ha (by omega)
    omega
  have ri : p = i ∨ Reach n t i := by
    rcases hs with z | z
    · exact .inl z
    · exact .inr (C.has hi (by omega))
  refine ⟨R, fun a b ha hb => ?_, fun k hk => ?_, fun k j hk hj jk q => ?_⟩
  · have := le a b ha hb
    have := C.nn a b ha hb
    omega
  · have h1 := rights_raised (k := s) T (i := (i : Int)) (p := (p : Int)) (x := k) (by omega) (by omega) (by omega) (by omega) hk
    have h2 := C.rg k hk
    rw [h1]
    by_cases z : i = k
    · subst z
      rcases hs with w | w
      · subst w
        simp [hi]
        omega
      · by_cases pi : p = i
        · subst pi
          simp [hi]
          omega
        · have pi' : ¬ ((p : Int) = i) := by omega
          by_cases pn : p = n
          · subst pn
            simp [pi]
            omega
          · have : p < n := by omega
            simp [pi, pn, this]
            omega
    · have z' : ¬ ((i : Int) = k) := by omega
      simp [z]
      split <;> omega
  · by_cases old : 0 < cel t k j
    · exact mo (C.re k j hk hj jk old)
    · have e := c k j hk hj
      have nn := C.nn k j hk hj
      by_cases z : (k : Int) = i ∧ (j : Int) = p
      · have k1 : k = i := by omega
        have j1 : j = p := by omega
        subst k1 j1
        rcases ri with w | w
        · exact (jk w).elim
        · exact mo w
      · rw [if_neg z] at e
        omega
inductive Grown (n : Nat) (P : Nat → Prop) (t : List (List Int)) : List (List Int) → Prop
  | refl : Grown n P t t
  | step {u : List (List Int)} {i p : Nat} {s : Int} : Grown n P t u → i < n → P i → p < n + 1 → 1 ≤ s → (p = i ∨ s ≤ rightsI u i) → Grown n P t (raisedI u i p s)
theorem Grown.comes {n : Nat} {P : Nat → Prop} {t u : List (List Int)} (g : Grown n P t u) (C : Comes n t) : Comes n u := by
  induction g with
  | refl => exact C
  | step _ h1 _ h2 h3 h4 ih => exact ih.raise h1 h2 h3 h4
theorem Grown.tab {n : Nat} {P : Nat → Prop} {t u : List (List Int)} (g : Grown n P t u) (T : Tab n t) : Tab n u := by
  induction g with
  | refl => exact T
  | step _ h1 _ h2 h3 h4 ih => exact raised_tab ih (by omega) (by omega)
theorem Grown.le {n : Nat} {P : Nat → Prop} {t u : List (List Int)} (g : Grown n P t u) (T : Tab n t) {a b : Nat} (ha : a < n) (hb : b < n + 1) : cel t a b ≤ cel u a b := by
  induction g with
  | refl => exact Int.le_refl _
  | step g h1 _ h2 h3 h4 ih =>
    rename_i u i p s _
    have := raised_cel (i := a) (j := b) (k := s) (g.tab T) (x := (i : Int)) (p := (p : Int)) (by omega) (by omega) (by omega) (by omega) ha hb
    rw [this]
    split <;> omega
theorem Grown.row {n : Nat} {P : Nat → Prop} {t u : List (List Int)} (g : Grown n P t u) (T : Tab n t) {a : Nat} (ha : a < n) (hp : ¬ P a) : rowA u a = rowA t a := by
  induction g with
  | refl => rfl
  | step g h1 h2 h3 h4 h5 ih =>
    rename_i u i p s
    have U := g.tab T
    unfold raisedI
    rw [rowA_set (by omega) (by rw [U.len]; omega) (by omega), if_neg (fun z : (a : Int) = i => hp ((show i = a by omega) ▸ h2)), ih]
theorem Comes.b {n : Nat} {t : List (List Int)} (C : Comes n t) (n8 : n ≤ 8) : comesB n t = true := by
  unfold comesB reachB
  rw [Bool.and_eq_true, List.all_eq_true, Bool.not_eq_true', List.any_eq_false]
  refine ⟨fun k hk => decide_eq_true (C.rg k (List.mem_range.mp hk)), fun k hk => ?_⟩
  obtain ⟨h1, h2⟩ := List.mem_filter.mp hk
  have h1 := List.mem_range.mp h1
  have h2 := of_decide_eq_true h2
  intro q
  refine h2 ((roots_iff n8).mpr ?_)
  unfold busyB at q
  rw [Bool.or_eq_true, decide_eq_true_eq, decide_eq_true_eq] at q
  rcases q with q | q
  · unfold lentByI at q
    have r := C.tab.row h1
    rw [C.tab.len, sum_take (by omega)] at q
    have e : cellA (rowA t k) k = cel t k k := rfl
    have := sum_one (n := n) (h := k) (f := fun i => cellA (rowA t k) i) h1
    rw [← this] at q
    obtain ⟨i, hi, c⟩ := sum_posi q
    have hi := List.mem_range.mp hi
    by_cases z : i = k
    · rw [if_pos z] at c; omega
    · rw [if_neg z] at c
      exact C.re k i h1 (by omega) z c
  · exact C.re k n h1 (by omega) (by omega) q
/-- the table of none -/
def zeroI (n : Nat) : List (List Int) := (List.range n).map fun _ => List.replicate (n + 1) 0
theorem zero_tab {n : Nat} : Tab n (zeroI n) := ⟨wf_of fun r hr => by
  obtain ⟨i, hi, rfl⟩ := List.mem_map.mp hr
  simp [zeroI], by simp [zeroI]⟩
theorem zero_cel {n i j : Nat} (hi : i < n) (hj : j < n + 1) : cel (zeroI n) i j = 0 := by
  unfold cel
  have e : rowA (zeroI n) i = List.replicate (n + 1) 0 := by
    rw [rowA_nat (by simp [zeroI]; exact hi)]
    simp [zeroI]
  rw [e, cellA_nat (by simp; omega)]
  simp
theorem zero_comes {n : Nat} : Comes n (zeroI n) where
  tab := zero_tab
  nn := fun i j hi hj => by rw [zero_cel hi hj]; exact Int.le_refl _
  rg := fun k hk => by
    rw [rights_cel zero_tab hk]
    have e1 : ((List.range n).map fun (i : Nat) => cel (zeroI n) i k).sum = 0 := by
      rw [sum_congr (g := fun _ => 0) fun i hi => zero_cel (List.mem_range.mp hi) (by omega), sum_zero]
    have e2 : ((List.range n).map fun (j : Nat) => cel (zeroI n) k j).sum = 0 := by
      rw [sum_congr (g := fun _ => 0) fun j hj => zero_cel hk (by have := List.mem_range.mp hj; omega), sum_zero]
    rw [e1, e2, zero_cel hk (by omega), zero_cel hk (by omega)]
    decide
  re := fun k j hk hj _ q => by
    rw [zero_cel hk hj] at q
    omega
/-- [[0] * (n + 1) for house in range(n)] -/
theorem zero_rows {Γ : Mir} {n : Nat} {s : SD} {v w : Nat} {h : Hs} (n8 : n ≤ 1000) (hv : v < s.length) (hw : s[w]? = some (some (.int n))) (vw : v ≠ w) :
    ∃ h' k ms, lcO true (tgF false [v]) (E.evT Γ []) (E.ev Γ (.own false (.lst true [.int 0]) (.op .add (.var w) (.int 1)))) [v] s (src0 ((List.range n).map fun (i : Nat) => D.int i)) h = .ok (.ref k) h' ∧ Ext h h' ∧ Rows h' k ms (zeroI n) ∧ (∀ m ∈ ms, h.length ≤ m) ∧ h.length ≤ k := by
  refine lc_rowsX (f := fun (i : Nat) => D.int i) (fun _ => List.replicate (n + 1) 0) (List.range n) h (by simp; omega) (fun _ _ => trivial) fun a _ h' _ => ?_
  have g : ∀ h2, getS (((wipeS s [v]).set v (some (.int a)))) w h2 = .ok (.int n) h2 := fun h2 => getS_at (by
    simp only [wipeS_one, wipeS_nil]
    rw [List.getElem?_set_ne vw, List.getElem?_set_ne vw, hw])
  simp at g
  have er : (List.replicate (n + 1) [D.int 0]).flatten = (List.replicate (n + 1) (0 : Int)).map .int := by
    induction n + 1 with
    | zero => rfl
    | succ m ih => simp [List.replicate_succ, ih]
  refine ⟨h' ++ [.lst [.int 0], .lst ((List.replicate (n + 1) (0 : Int)).map .int)], h'.length + 1, ?_, ⟨_, rfl⟩, by omega, by simp⟩
  have e1 : ((n : Int) + 1).toNat = n + 1 := by omega
  simp [lcT, hv, g, ownO, lstW, lstH, e1, er]
  omega
theorem sum_filter {l : List Nat} {p : Nat → Bool} {f : Nat → Int} : ((l.filter p).map f).sum = (l.map fun j => if p j = true then f j else 0).sum := by
  induction l with
  | nil => rfl
  | cons a r ih =>
    by_cases q : p a = true
    · simp [q, ih]
    · simp [q, ih]
theorem at2_0 {a b : D} : atI [a, b] 0 = some a := rfl
theorem at2_1 {a b : D} : atI [a, b] 1 = some b := rfl
/-- the stock, cell by cell (stockI's own shape stands in stock.lean) -/
theorem foldl_id {α β : Type} {b : β} : ∀ {l : List α}, l.foldl (fun b _ => b) b = b
  | [] => rfl
  | a :: r => by rw [List.foldl_cons]; exact foldl_id (l := r)
def stockI (t : List (List Int)) : Int := ((List.range t.length).map fun (i : Nat) => cellA (rowA t i) i - cellA (rowA t i) t.length).sum
theorem sum_swap {f : Nat → Nat → Int} {m : Nat} : ∀ n : Nat, ((List.range n).map fun i => ((List.range m).map fun j => f i j).sum).sum = ((List.range m).map fun j => ((List.range n).map fun i => f i j).sum).sum
  | 0 => by
    have : ∀ l : List Nat, (l.map fun _ => (0 : Int)).sum = 0 := fun l => by
      induction l with
      | nil => rfl
      | cons a r ih => rw [List.map_cons, List.sum_cons, ih]; rfl
    simp [this]
  | n + 1 => by
    rw [List.range_succ, List.map_append, List.sum_append, sum_swap n]
    have : (fun j => ((List.range n ++ [n]).map fun i => f i j).sum) = fun j => ((List.range n).map fun i => f i j).sum + f n j := by
      funext j
      simp
    rw [this, sum_add]
    simp
theorem sum_sub {l : List Nat} {f g : Nat → Int} : (l.map fun i => f i - g i).sum = (l.map f).sum - (l.map g).sum := by
  induction l with
  | nil => rfl
  | cons a r ih => simp only [List.map_cons, List.sum_cons, ih]; omega
theorem rights_sum {t : List (List Int)} (w : wfB t = true) : ((List.range t.length).map fun (i : Nat) => rightsI t i).sum = stockI t := by
  have e : ∀ i ∈ List.range t.length, rightsI t (i : Nat) = (cellA (rowA t i) i - cellA (rowA t i) t.length) + (((List.range t.length).map fun (j : Nat) => cellA (rowA t j) i).sum - ((List.range t.length).map fun (j : Nat) => cellA (rowA t i) j).sum) := fun i hi => by
    have hi := List.mem_range.mp hi
    have r1 := wf_len w (h := (i : Int)) (by omega) (by omega)
    unfold rightsI lentToI lentByI
    rw [sum_rows, sum_take (by omega)]
    omega
  rw [sum_congr e, sum_add, sum_sub (f := fun i => ((List.range t.length).map fun (j : Nat) => cellA (rowA t j) i).sum), sum_swap (f := fun i j => cellA (rowA t j) i)]
  unfold stockI
  omega
end Gx

namespace Gx
open PySem L2
/-! one table within another; pools; worlds -/
def rowWithin (p : List Int × List Int) : Bool := (p.1.zip p.2).all fun q => decide (q.1 ≤ q.2)
def tabWithin (s t : List (List Int)) : Bool := (s.zip t).all rowWithin
theorem tabWithin_iff {n : Nat} {s t : List (List Int)} (S : Tab n s) (T : Tab n t) : tabWithin s t = true ↔ ∀ i j : Nat, i < n → j < n + 1 → cel s i j ≤ cel t i j := by
  constructor
  · intro h i j hi hj
    have i1 : i < s.length := by rw [S.len]; exact hi
    have i2 : i < t.length := by rw [T.len]; exact hi
    have r1 := S.row hi
    have r2 := T.row hi
    unfold cel
    rw [rowA_nat i1] at r1 ⊢
    rw [rowA_nat i2] at r2 ⊢
    have h1 := List.all_eq_true.mp h (s[i], t[i]) (List.mem_iff_getElem.mpr ⟨i, by simp; omega, by simp⟩)
    have h2 := List.all_eq_true.mp h1 (s[i][j]'(by omega), t[i][j]'(by omega)) (List.mem_iff_getElem.mpr ⟨j, by simp; omega, by simp⟩)
    rw [cellA_nat (by omega), cellA_nat (by omega)]
    exact of_decide_eq_true h2
  · intro h
    refine List.all_eq_true.mpr fun p hp => List.all_eq_true.mpr fun q hq => ?_
    obtain ⟨i, hi, e⟩ := List.getElem_of_mem hp
    obtain ⟨j, hj, e2⟩ := List.getElem_of_mem hq
    have hi' : i < n := by have := S.len; simp at hi; omega
    have i1 : i < s.length := by rw [S.len]; exact hi'
    have i2 : i < t.length := by rw [T.len]; exact hi'
    have e1 : p = (s[i], t[i]) := by rw [← e]; simp
    subst e1
    have r1 := S.row hi'
    have r2 := T.row hi'
    rw [rowA_nat i1] at r1
    rw [rowA_nat i2] at r2
    have hj' : j < n + 1 := by simp at hj; omega
    have e3 : q = (s[i][j]'(by omega), t[i][j]'(by omega)) := by rw [← e2]; simp
    subst e3
    have := h i j hi' hj'
    unfold cel at this
    rw [rowA_nat i1, rowA_nat i2, cellA_nat (by omega), cellA_nat (by omega)] at this
    exact decide_eq_true this
theorem tabWithin_self {n : Nat} {s : List (List Int)} (S : Tab n s) : tabWithin s s = true := (tabWithin_iff S S).mpr fun _ _ _ _ => Int.le_refl _
theorem tabWithin_both {n : Nat} {s t : List (List Int)} (S : Tab n s) (T : Tab n t) : (tabWithin s t && tabWithin t s) = decide (s = t) := by
  rw [Bool.eq_iff_iff, Bool.and_eq_true, decide_eq_true_eq, tabWithin_iff S T, tabWithin_iff T S]
  constructor
  · rintro ⟨h1, h2⟩
    exact S.ext T fun i j hi hj => Int.le_antisymm (h1 i j hi hj) (h2 i j hi hj)
  · rintro rfl
    exact ⟨fun _ _ _ _ => Int.le_refl _, fun _ _ _ _ => Int.le_refl _⟩
def PoolOk (n : Nat) (p : List Nat) : Prop := p ≠ [] ∧ p.Pairwise (· < ·) ∧ ∀ x ∈ p, x < n
def poolD (p : List Nat) : D := .tup (p.map fun (i : Nat) => .int i)
def worldB (n : Nat) (t : List (List Int)) (p : List Nat) (w : List (List Int)) : Bool := decide (w.length = n) && (tabWithin t w && (comesB n w && p.all fun k => decide (rowA w k = rowA t k)))
theorem pool_filter {n : Nat} {p : List Nat} (P : PoolOk n p) : (List.range n).filter (fun i => decide (i ∈ p)) = p := by
  refine (List.Perm.eq_of_pairwise (le := (· < ·)) ?_ ?_ ?_ ?_)
  · intro a b _ _ h1 h2
    omega
  · exact (List.pairwise_lt_range (n := n)).filter _
  · exact P.2.1
  · refine (List.perm_ext_iff_of_nodup ?_ ?_).mpr fun x => ?_
    · exact (List.nodup_range (n := n)).filter _
    · exact P.2.1.imp fun q => by omega
    · rw [List.mem_filter, List.mem_range]
      constructor
      · exact fun z => of_decide_eq_true z.2
      · exact fun z => ⟨P.2.2 x z, decide_eq_true z⟩
theorem range_pool {n : Nat} (n1 : 1 ≤ n) : PoolOk n (List.range n) := ⟨by intro z; have := congrArg List.length z; simp at this; omega, List.pairwise_lt_range, fun x hx => List.mem_range.mp hx⟩
theorem rest_pool {n : Nat} {p : List Nat} (h : (List.range n).filter (fun i => decide (i ∉ p)) ≠ []) : PoolOk n ((List.range n).filter fun i => decide (i ∉ p)) := ⟨h, (List.pairwise_lt_range (n := n)).filter _, fun x hx => List.mem_range.mp (List.mem_filter.mp hx).1⟩
/-- the rights of a pool and of the others -/
theorem rest_sum {n : Nat} {t : List (List Int)} {p : List Nat} (T : Tab n t) (P : PoolOk n p) : (p.map fun (k : Nat) => rightsI t k).sum + (((List.range n).filter fun i => decide (i ∉ p)).map fun (k : Nat) => rightsI t k).sum = stockI t := by
  have e := rights_sum T.wf
  rw [T.len] at e
  rw [← e]
  conv => lhs; lhs; rw [← pool_filter P]
  rw [sum_filter (f := fun (k : Nat) => rightsI t k), sum_filter (f := fun (k : Nat) => rightsI t k), ← sum_add]
  refine sum_congr fun i _ => ?_
  by_cases q : i ∈ p <;> simp [q]
end Gx

namespace Gx
open PySem L2
/-! loops that leave with an outcome; enumerate; lists that stay -/
theorem LstAt.ext {h h' : Hs} {x : D} {l : List D} (a : LstAt h x l) (e : Ext h h') : LstAt h' x l := by
  rcases a with rfl | ⟨n, rfl, q⟩
  · exact .inl rfl
  · exact .inr ⟨n, rfl, e.get q⟩
def O.out : O → Bool
  | .rt _ _ => true
  | .rs _ _ _ _ => true
  | .stk => true
  | _ => false
@[simp] theorem out_rt {d : D} {h : Hs} : O.out (.rt d h) = true := by unfold O.out; simp only
@[simp] theorem out_rs {c : Str} {p : Option Int} {s : SD} {h : Hs} : O.out (.rs c p s h) = true := by unfold O.out; simp only
theorem forL_leave {turn : D → SD → Hs → O} {d : D} {r : List D} {s : SD} {h : Hs} {o : O} (e : turn d s h = o) (q : o.out = true) : forL turn (d :: r) s h = o := by
  unfold forL
  rw [forC, if_pos trivial, e]
  cases o <;> first | (cases q; done) | rfl
/-- a state carried up to the first a that p lets not by; there the loop is left -/
theorem forL_till {α β γ : Type} {f : α → D} {turn : D → SD → Hs → O} (st : β → γ → SD) (hp : β → Hs) (step : β → α → β) (inv : Nat → β → Prop) (p : α → Bool) (bad : O → Prop) (N : Nat) : ∀ (l : List α) (i : Nat) (b : β) (c : γ), i + l.length ≤ N → inv i b →
    (∀ i b c a, a ∈ l → i < N → inv i b → (p a = true → (∃ c', turn (f a) (st b c) (hp b) = .nx (st (step b a) c') (hp (step b a))) ∧ inv (i + 1) (step b a)) ∧ (p a = false → ∃ o, turn (f a) (st b c) (hp b) = o ∧ o.out = true ∧ bad o)) →
    (l.all p = true → (∃ c', forL turn (l.map f) (st b c) (hp b) = .nx (st (l.foldl step b) c') (hp (l.foldl step b))) ∧ inv (i + l.length) (l.foldl step b)) ∧ (l.all p = false → ∃ o, forL turn (l.map f) (st b c) (hp b) = o ∧ bad o)
  | [], i, b, c, _, j, _ => ⟨fun _ => ⟨⟨c, forL_nil⟩, j⟩, fun e => by simp at e⟩
  | a :: r, i, b, c, hl, j, k => by
    rw [List.length_cons] at hl
    obtain ⟨k1, k2⟩ := k i b c a List.mem_cons_self (by omega) j
    by_cases q : p a = true
    · obtain ⟨⟨c', h1⟩, h2⟩ := k1 q
      obtain ⟨h3, h4⟩ := forL_till st hp step inv p bad N r (i + 1) (step b a) c' (by omega) h2 fun i' b' c' a' m => k i' b' c' a' (List.mem_cons_of_mem _ m)
      rw [List.all_cons, q, Bool.true_and]
      refine ⟨fun e => ?_, fun e => ?_⟩
      · obtain ⟨⟨c2, h5⟩, h6⟩ := h3 e
        refine ⟨⟨c2, by rw [List.map_cons, forL_nx h1]; exact h5⟩, ?_⟩
        rw [List.length_cons, List.foldl_cons]
        have : i + (r.length + 1) = i + 1 + r.length := by omega
        rw [this]
        exact h6
      · obtain ⟨o, h5, h6⟩ := h4 e
        exact ⟨o, by rw [List.map_cons, forL_nx h1]; exact h5, h6⟩
    · have q := Bool.eq_false_iff.mpr q
      obtain ⟨o, h1, h2, h3⟩ := k2 q
      rw [List.all_cons, q, Bool.false_and]
      exact ⟨fun e => (nomatch e), fun _ => ⟨o, by rw [List.map_cons]; exact forL_leave h1 h2, h3⟩⟩
theorem enum_vl {l : List D} {h : Hs} : enumO [.vl l] h = .ok (src0 (l.zipIdx.map fun p => .tup [.int (p.2 : Nat), p.1])) h := by
  simp [enumO, lstH, src0]
  funext h'
  simp [stays]
theorem enum_map {n : Nat} {g : Nat → D} {h : Hs} : enumO [.vl ((List.range n).map g)] h = .ok (src0 ((List.range n).map fun (i : Nat) => .tup [.int i, g i])) h := by
  rw [enum_vl]
  congr 2
  refine List.ext_getElem (by simp) fun i h1 h2 => ?_
  simp
theorem cut_old {h0 h : Hs} {m : Nat} {l : List D} {s : SD} (e : Ext h0 h) (hm : m < h0.length) (hl : l.all D.nr = true) : (O.nx s (h.set m (.lst l))).cut h0 = .nx (killS h0.length s) (h0.set m (.lst l)) := by rw [cut_nx (e.clOld (bel_lst hl)), e.setOld hm]
theorem LstAt.isi {h : Hs} {x : D} {l : List D} (a : LstAt h x l) : isiG "list" x h = .ok (.bl true) h := by
  refine isi_of (u := "list") ?_ (by decide +kernel)
  rcases a with rfl | ⟨n, rfl, q⟩
  · rfl
  · unfold tyOf; simp only [q]
theorem isi_tup {l : List D} {h : Hs} : isiG "tuple" (.tup l) h = .ok (.bl true) h := isi_of (u := "tuple") rfl (by decide +kernel)
end Gx

namespace Gx
open PySem L2
/-! lists of houses -/
/-- a loop over 0 .. N - 1 that asks each, and leaves at the first no; the earlier ones are known to have passed -/
theorem forL_allI {γ : Type} {turn : D → SD → Hs → O} {h : Hs} {z : D} (st : γ → SD) (p : Nat → Bool) (N : Nat) (c : γ) (H : ∀ c k, k < N → (∀ j, j < k → p j = true) → (p k = true → ∃ c', turn (.int k) (st c) h = .nx (st c') h) ∧ (p k = false → turn (.int k) (st c) h = .rt z h)) :
    ((List.range N).all p = true → ∃ c', forL turn ((List.range N).map fun (i : Nat) => D.int i) (st c) h = .nx (st c') h) ∧ ((List.range N).all p = false → forL turn ((List.range N).map fun (i : Nat) => D.int i) (st c) h = .rt z h) := by
  have go : ∀ (m k : Nat) (c : γ), k + m = N → (∀ j, j < k → p j = true) → ((List.range' k m).all p = true → ∃ c', forL turn ((List.range' k m).map fun (i : Nat) => D.int i) (st c) h = .nx (st c') h) ∧ ((List.range' k m).all p = false → forL turn ((List.range' k m).map fun (i : Nat) => D.int i) (st c) h = .rt z h) := by
    intro m
    induction m with
    | zero => exact fun k c _ _ => ⟨fun _ => ⟨c, forL_nil⟩, fun e => by simp at e⟩
    | succ m ih =>
      intro k c e pr
      obtain ⟨k1, k2⟩ := H c k (by omega) pr
      rw [List.range'_succ, List.map_cons, List.all_cons]
      by_cases q : p k = true
      · obtain ⟨c1, h1⟩ := k1 q
        rw [q, Bool.true_and, forL_nx h1]
        exact ih (k + 1) c1 (by omega) fun j hj => by
          by_cases w : j = k
          · rw [w]; exact q
          · exact pr j (by omega)
      · have q := Bool.eq_false_iff.mpr q
        rw [q, Bool.false_and]
        exact ⟨fun e => (nomatch e), fun _ => forL_leave (k2 q) (by simp)⟩
  have := go N 0 c (by omega) (fun j hj => by omega)
  rwa [← List.range_eq_range'] at this
@[simp] theorem e_lelt {Γ : Mir} {a b c : E} {s : SD} {h : Hs} : E.ev Γ (.ch .le .lt a b c) s h = chR (fun i j => decide (i ≤ j)) (fun i j => decide (i < j)) (a.ev Γ s h) (b.ev Γ s) (c.ev Γ s) := e_ch rfl rfl
theorem dd_le : ∀ (l ks : List Int), (l.foldl PyProof.Rows.step_dedup ks).length ≤ ks.length + l.length
  | [], ks => by simp
  | a :: r, ks => by
    rw [List.foldl_cons]
    have := dd_le r (PyProof.Rows.step_dedup ks a)
    have h2 : (PyProof.Rows.step_dedup ks a).length ≤ ks.length + 1 := by
      unfold PyProof.Rows.step_dedup
      split <;> simp
    simp
    omega
theorem dd_iff : ∀ (l ks : List Int), (l.foldl PyProof.Rows.step_dedup ks).length = ks.length + l.length ↔ l.Nodup ∧ ∀ x ∈ l, x ∉ ks
  | [], ks => by simp
  | a :: r, ks => by
    rw [List.foldl_cons]
    by_cases q : a ∈ ks
    · have e : PyProof.Rows.step_dedup ks a = ks := by
        unfold PyProof.Rows.step_dedup
        rw [if_pos (by simpa using q)]
      rw [e]
      have := dd_le r ks
      constructor
      · intro h
        simp at h
        omega
      · rintro ⟨_, h⟩
        exact (h a List.mem_cons_self q).elim
    · have e : PyProof.Rows.step_dedup ks a = ks ++ [a] := by
        unfold PyProof.Rows.step_dedup
        rw [if_neg (by simpa using q)]
      rw [e]
      have ih := dd_iff r (ks ++ [a])
      have l1 : (ks ++ [a]).length + r.length = ks.length + (a :: r).length := by simp; omega
      rw [← l1, ih, List.nodup_cons]
      constructor
      · rintro ⟨h1, h2⟩
        refine ⟨⟨fun z => h2 a z (by simp), h1⟩, fun x hx => ?_⟩
        rcases List.mem_cons.mp hx with z | z
        · rw [z]; exact q
        · exact fun w => h2 x z (List.mem_append_left _ w)
      · rintro ⟨⟨h1, h2⟩, h3⟩
        refine ⟨h2, fun x hx w => ?_⟩
        rcases List.mem_append.mp w with z | z
        · exact h3 x (List.mem_cons_of_mem _ hx) z
        · rw [List.mem_singleton.mp z] at hx; exact h1 hx
theorem setLen_iff {ns : List Int} : setLen ns = ns.length ↔ ns.Nodup := by
  have e : (List.range ns.length).map (fun i => ns.getD i 0) = ns := by
    refine List.ext_getElem (by simp) fun i h1 h2 => ?_
    simp [List.getElem?_eq_getElem h2]
  unfold setLen PyProof.Rows.firstMet
  rw [e]
  have := dd_iff ns []
  simpa using this
theorem lenSet_at {h : Hs} {x : D} {hs : List Int} (a : LstAt h x (hs.map .int)) (hl : hs.length < 4000) : lenSetO [x] h = .ok (.int (setLen hs)) h := by
  unfold lenSetO
  simp only [a.lst, intsOf_map, if_pos hl]
theorem gIn_lst {α : Type} [DecidableEq α] {f : α → D} {k : Nat} (E : Enc f k) (hk : k < 64) {h : Hs} {x : D} {l : List α} (a : LstAt h x (l.map f)) (y : α) : gIn h (f y) x = some (.bl (decide (y ∈ l))) := by
  rcases a with rfl | ⟨n, rfl, e⟩
  · exact gIn_vl E hk
  · exact gIn_ref E hk e
theorem gNotIn_lst {α : Type} [DecidableEq α] {f : α → D} {k : Nat} (E : Enc f k) (hk : k < 64) {h : Hs} {x : D} {l : List α} (a : LstAt h x (l.map f)) (y : α) : gNotIn h (f y) x = some (.bl (decide (y ∉ l))) := by
  rcases a with rfl | ⟨n, rfl, e⟩
  · exact gNotIn_vl E hk
  · exact gNotIn_ref E hk e
def inB (n : Nat) (x : Int) : Bool := decide (0 ≤ x) && decide (x < n)
def celI (t : List (List Int)) (i j : Int) : Int := cellA (rowA t i) j
theorem inB_iff {n : Nat} {x : Int} : inB n x = true ↔ 0 ≤ x ∧ x < n := by unfold inB; rw [Bool.and_eq_true, decide_eq_true_eq, decide_eq_true_eq]
theorem cel_ix {n : Nat} {t : List (List Int)} {h : Hs} {i j : Int} (T : Tab n t) (i0 : 0 ≤ i) (i1 : i < n) (j0 : 0 ≤ j) (j1 : j < (n : Int) + 1) : gIx h (rowD (rowA t i)) (.int j) = some (.int (celI t i j)) := by
  have r := T.row (i := i.toNat) (by omega)
  rw [Int.toNat_of_nonneg i0] at r
  exact ix_row j0 (by omega)
def areB (n : Nat) (hs : List Int) : Bool := decide hs.Nodup && hs.all (inB n)
def hsA (hs : List Int) (k : Nat) : Int := (hs[k]?).getD 0
def rootAt (t : List (List Int)) (hs : List Int) (k : Nat) : Bool := !(decide (celI t (hsA hs k) (hsA hs k) = 0)) || (hs.take k).any fun o => decide (0 < celI t o (hsA hs k))
def coverB (n : Nat) (t : List (List Int)) (hs : List Int) : Bool := (List.range n).all fun (i : Nat) => decide ((i : Int) ∈ hs) || !busyB n t i
def rootB (n : Nat) (t : List (List Int)) (hs : List Int) : Bool := areB n hs && ((List.range hs.length).all (rootAt t hs) && coverB n t hs)
def lawRootAt (n : Nat) (t : List (List Int)) (hs : List Int) (k : Nat) : Bool := (inB n (hsA hs k) && decide (hsA hs k ∉ hs.take k)) && rootAt t hs k
def lawRootB (n : Nat) (t : List (List Int)) (hs : List Int) : Bool := (List.range hs.length).all (lawRootAt n t hs) && coverB n t hs
theorem hsA_get {hs : List Int} {k : Nat} (hk : k < hs.length) : hsA hs k = hs[k] := by
  unfold hsA
  rw [List.getElem?_eq_getElem hk]
  rfl
theorem hsA_mem {hs : List Int} {k : Nat} (hk : k < hs.length) : hsA hs k ∈ hs := by
  rw [hsA_get hk]
  exact List.getElem_mem _
theorem nodup_take {hs : List Int} : hs.Nodup ↔ ∀ k, k < hs.length → hsA hs k ∉ hs.take k := by
  constructor
  · intro d k hk z
    obtain ⟨i, hi, e⟩ := List.getElem_of_mem z
    rw [List.length_take] at hi
    rw [List.getElem_take, hsA_get hk] at e
    exact List.pairwise_iff_getElem.mp d i k (by omega) hk (by omega) e
  · intro h
    refine List.pairwise_iff_getElem.mpr fun i j hi hj ij e => h j hj ?_
    rw [hsA_get hj, ← e]
    exact List.mem_iff_getElem.mpr ⟨i, by rw [List.length_take]; omega, by rw [List.getElem_take]⟩
theorem all_hs {hs : List Int} {p : Int → Bool} : hs.all p = (List.range hs.length).all fun k => p (hsA hs k) := by
  rw [Bool.eq_iff_iff, List.all_eq_true, List.all_eq_true]
  constructor
  · intro h k hk
    exact h _ (hsA_mem (List.mem_range.mp hk))
  · intro h x hx
    obtain ⟨k, hk, e⟩ := List.getElem_of_mem hx
    have := h k (List.mem_range.mpr hk)
    rwa [hsA_get hk, e] at this
theorem lawRoot_eq {n : Nat} {t : List (List Int)} {hs : List Int} : lawRootB n t hs = rootB n t hs := by
  have e : (List.range hs.length).all (lawRootAt n t hs) = (areB n hs && (List.range hs.length).all (rootAt t hs)) := by
    rw [Bool.eq_iff_iff, Bool.and_eq_true, List.all_eq_true, List.all_eq_true]
    unfold areB
    rw [Bool.and_eq_true, decide_eq_true_eq, nodup_take, all_hs, List.all_eq_true]
    constructor
    · intro h
      refine ⟨⟨fun k hk => ?_, fun k hk => ?_⟩, fun k hk => ?_⟩
      · have := h k (List.mem_range.mpr hk)
        unfold lawRootAt at this
        rw [Bool.and_eq_true, Bool.and_eq_true, decide_eq_true_eq] at this
        exact this.1.2
      · have := h k hk
        unfold lawRootAt at this
        rw [Bool.and_eq_true, Bool.and_eq_true] at this
        exact this.1.1
      · have := h k hk
        unfold lawRootAt at this
        rw [Bool.and_eq_true] at this
        exact this.2
    · rintro ⟨⟨h1, h2⟩, h3⟩ k hk
      unfold lawRootAt
      rw [Bool.and_eq_true, Bool.and_eq_true, decide_eq_true_eq]
      exact ⟨⟨h2 k hk, h1 k (List.mem_range.mp hk)⟩, h3 k hk⟩
  unfold lawRootB rootB
  rw [e, Bool.and_assoc]
theorem atI_int {l : List Int} {k : Nat} (hk : k < l.length) : atI (l.map D.int) (k : Int) = some (.int (hsA l k)) := by
  rw [atI_map (by omega) (by omega), hsA_get hk]
  simp
/-- the k-th of eight numbers above nought -/
theorem ix_eight {l : List Int} {h : Hs} {i : Nat} (ll : l.length = 8) (hi : i < 8) : gIx h (.vl (l.map .int)) (.int i) = some (.int (hsA l i)) := by rw [gIx_vl, atI_int (by omega)]
def posL (l : List Int) : Bool := l.all fun x => decide (0 < x) && decide (x.natAbs < 2 ^ 240)
theorem posL_at {l : List Int} {i : Nat} (h : posL l = true) (hi : i < l.length) : 0 < hsA l i ∧ (hsA l i).natAbs < 2 ^ 240 := by
  have := List.all_eq_true.mp h _ (hsA_mem hi)
  rwa [Bool.and_eq_true, decide_eq_true_eq, decide_eq_true_eq] at this
/-- houses drawn by the figures of a number -/
def someI (n : Nat) (l : List Int) (d : Int) : List Nat := (List.range n).filter fun i => decide (d / hsA l i % 2 = 1)
/-! rounds over the houses, as the laws go them -/
def rdStep (t : List (List Int)) (f : List Nat) (j : Nat) : List Nat := if j ∉ f ∧ (f.any fun i => decide (0 < cel t i j)) = true then f ++ [j] else f
def rdRound (n : Nat) (t : List (List Int)) (f : List Nat) : List Nat := (List.range n).foldl (rdStep t) f
def rounds (n : Nat) (t : List (List Int)) (r : Nat) : List Nat := (List.range r).foldl (fun f _ => rdRound n t f) (makers n t)
section
variable {n : Nat} {t : List (List Int)}
theorem rd_spec : ∀ (l : List Nat) (f : List Nat), (∀ j ∈ l, j < n) → Part n t f → ∃ g, l.foldl (rdStep t) f = f ++ g ∧ Part n t (f ++ g) ∧ ∀ j ∈ l, (∃ y ∈ f, 0 < cel t y j) → j ∈ f ++ g
  | [], f, _, p => ⟨[], by simp, by simpa using p, fun j hj => (nomatch hj)⟩
  | j :: r, f, hl, p => by
    rw [List.foldl_cons]
    by_cases q : j ∉ f ∧ (f.any fun i => decide (0 < cel t i j)) = true
    · obtain ⟨y, hy, c⟩ := List.any_eq_true.mp q.2
      obtain ⟨a, ha, e⟩ := List.getElem_of_mem hy
      have p2 := p.push (a := a) (i := y) (j := j) (by rw [List.getElem?_eq_getElem ha, e]) (of_decide_eq_true c) (hl j List.mem_cons_self) q.1
      obtain ⟨g, h1, h2, h3⟩ := rd_spec r (f ++ [j]) (fun x hx => hl x (List.mem_cons_of_mem _ hx)) p2
      refine ⟨j :: g, ?_, by simpa using h2, fun x hx c => ?_⟩
      · have e0 : rdStep t f j = f ++ [j] := by unfold rdStep; rw [if_pos q]
        rw [e0, h1]
        simp
      · rcases List.mem_cons.mp hx with z | z
        · simp [z]
        · obtain ⟨y, hy, c⟩ := c
          simpa using h3 x z ⟨y, List.mem_append_left _ hy, c⟩
    · have e0 : rdStep t f j = f := by unfold rdStep; rw [if_neg q]
      obtain ⟨g, h1, h2, h3⟩ := rd_spec r f (fun x hx => hl x (List.mem_cons_of_mem _ hx)) p
      refine ⟨g, by rw [e0, h1], h2, fun x hx c => ?_⟩
      rcases List.mem_cons.mp hx with z | z
      · subst z
        obtain ⟨y, hy, c⟩ := c
        by_cases w : x ∈ f
        · exact List.mem_append_left _ w
        · exact (q ⟨w, List.any_eq_true.mpr ⟨y, hy, decide_eq_true c⟩⟩).elim
      · exact h3 x z c
theorem rounds_succ {r : Nat} : rounds n t (r + 1) = rdRound n t (rounds n t r) := by
  unfold rounds
  rw [List.range_succ, List.foldl_append]
  rfl
theorem rounds_part : ∀ r, Part n t (rounds n t r)
  | 0 => makers_part
  | r + 1 => by
    obtain ⟨g, h1, h2, _⟩ := rd_spec (List.range n) (rounds n t r) (fun j hj => List.mem_range.mp hj) (rounds_part r)
    rw [rounds_succ]
    unfold rdRound
    rw [h1]
    exact h2
theorem rounds_get (n8 : n ≤ 8) : ∀ (r k x : Nat), k ≤ r → (rootsI n t)[k]? = some x → x ∈ rounds n t r
  | 0, k, x, hk, e => by
    have p := (roots_part (t := t) n8).1
    rcases p.just k x e with z | ⟨m, y, h1, _, _⟩
    · exact (rounds_part 0).mkr x (p.lt x (List.mem_of_getElem? e)) z
    · omega
  | r + 1, k, x, hk, e => by
    have p := (roots_part (t := t) n8).1
    have hx := p.lt x (List.mem_of_getElem? e)
    obtain ⟨g, h1, h2, h3⟩ := rd_spec (List.range n) (rounds n t r) (fun j hj => List.mem_range.mp hj) (rounds_part (t := t) r)
    rw [rounds_succ]
    unfold rdRound
    rw [h1]
    rcases p.just k x e with z | ⟨m, y, q1, q2, q3⟩
    · exact h2.mkr x hx z
    · exact h3 x (List.mem_range.mpr hx) ⟨y, rounds_get n8 r m y (by omega) q2, q3⟩
theorem rounds_iff (n8 : n ≤ 8) {x : Nat} : x ∈ rounds n t n ↔ Reach n t x := by
  constructor
  · intro h
    obtain ⟨k, hk, e⟩ := List.getElem_of_mem h
    exact (rounds_part n).reach k x (by rw [List.getElem?_eq_getElem hk, e])
  · intro h
    obtain ⟨k, hk, e⟩ := List.getElem_of_mem ((roots_iff n8).mpr h)
    have := (roots_part (t := t) n8).1.len
    exact rounds_get n8 n k x (by omega) (by rw [List.getElem?_eq_getElem hk, e])
/-- such a list is let by just where all that lent or used are there -/
theorem part_root {f : List Nat} (p : Part n t f) (nn : NNt n t) : rootB n t (f.map fun (i : Nat) => (i : Int)) = (List.range n).all fun i => decide (i ∈ f) || !busyB n t i := by
  have e1 : areB n (f.map fun (i : Nat) => (i : Int)) = true := by
    unfold areB
    rw [Bool.and_eq_true, decide_eq_true_eq, List.all_eq_true]
    refine ⟨List.Pairwise.map _ (fun a b h z => h (by omega)) p.nd, fun x hx => ?_⟩
    obtain ⟨i, hi, rfl⟩ := List.mem_map.mp hx
    exact inB_iff.mpr ⟨by omega, by have := p.lt i hi; omega⟩
  have e2 : (List.range (f.map fun (i : Nat) => (i : Int)).length).all (rootAt t (f.map fun (i : Nat) => (i : Int))) = true := by
    refine List.all_eq_true.mpr fun k hk => ?_
    have hk := List.mem_range.mp hk
    have hk2 : k < f.length := by simpa using hk
    have eh : hsA (f.map fun (i : Nat) => (i : Int)) k = ((f[k] : Nat) : Int) := by
      rw [hsA_get hk]
      simp
    unfold rootAt
    rw [eh]
    have j := p.just k f[k] (List.getElem?_eq_getElem hk2)
    rcases j with z | ⟨m, y, h1, h2, h3⟩
    · unfold cel at z
      unfold celI
      rw [decide_eq_false (by omega)]
      rfl
    · rw [Bool.or_eq_true]
      right
      refine List.any_eq_true.mpr ⟨(y : Int), ?_, decide_eq_true h3⟩
      obtain ⟨hm, e⟩ := List.getElem?_eq_some_iff.mp h2
      exact List.mem_iff_getElem.mpr ⟨m, by rw [List.length_take]; simp; omega, by rw [List.getElem_take]; simp [e]⟩
  unfold rootB
  rw [e1, e2, Bool.true_and, Bool.true_and]
  unfold coverB
  congr 1
  funext i
  congr 1
  refine decide_eq_decide.mpr ⟨fun z => ?_, fun z => List.mem_map.mpr ⟨i, z, rfl⟩⟩
  obtain ⟨j, hj, e⟩ := List.mem_map.mp z
  have : j = i := by omega
  rw [← this]
  exact hj
/-- lent or used some, looked at place by place -/
theorem busy_any (T : Tab n t) (nn : NNt n t) {k : Nat} (hk : k < n) : ((List.range (n + 1)).filter fun j => decide (j ≠ k)).any (fun j => decide (0 < cel t k j)) = busyB n t k := by
  have r := T.row hk
  have e : lentByI t k = ((List.range n).map fun (i : Nat) => if i = k then 0 else cel t k i).sum := by
    unfold lentByI
    rw [T.len, sum_take (by omega)]
    have := sum_one (n := n) (h := k) (f := fun i => cellA (rowA t k) i) hk
    unfold cel
    rw [this]
  rw [Bool.eq_iff_iff, List.any_eq_true]
  unfold busyB
  rw [Bool.or_eq_true, decide_eq_true_eq, decide_eq_true_eq, e]
  constructor
  · rintro ⟨j, hj, c⟩
    obtain ⟨h1, h2⟩ := List.mem_filter.mp hj
    have h1 := List.mem_range.mp h1
    have h2 := of_decide_eq_true h2
    have c := of_decide_eq_true c
    by_cases z : j = n
    · rw [z] at c
      exact .inr c
    · left
      have q := sum_nonneg (l := (List.range n)) (f := fun (i : Nat) => if i = k then 0 else if i = j then 0 else cel t k i) fun i hi => by
        have hi := List.mem_range.mp hi
        split
        · omega
        · split
          · omega
          · exact nn k i hk (by omega)
      have s := sum_one (n := n) (h := j) (f := fun (i : Nat) => if i = k then 0 else cel t k i) (by omega)
      have : ((List.range n).map fun (i : Nat) => if i = j then 0 else if i = k then 0 else cel t k i).sum = ((List.range n).map fun (i : Nat) => if i = k then 0 else if i = j then 0 else cel t k i).sum := sum_congr fun i _ => by
        by_cases a : i = j
        · simp [a]
        · simp [a]
      rw [if_neg h2] at s
      omega
  · rintro (z | z)
    · obtain ⟨i, hi, c⟩ := sum_posi z
      have hi := List.mem_range.mp hi
      by_cases w : i = k
      · rw [if_pos w] at c; omega
      · rw [if_neg w] at c
        exact ⟨i, List.mem_filter.mpr ⟨List.mem_range.mpr (by omega), decide_eq_true w⟩, decide_eq_true c⟩
    · exact ⟨n, List.mem_filter.mpr ⟨List.mem_range.mpr (by omega), decide_eq_true (by omega)⟩, decide_eq_true z⟩
end
end Gx

namespace Gx
open PySem L2
/-! rising lists of houses to which no right came -/
theorem LstAt.sort {h : Hs} {x : D} {hs : List Int} {m : Bool} (a : LstAt h x (hs.map .int)) : gSort m [x] h = newL m ((sortI hs).map .int) h := by
  rcases a with rfl | ⟨n, rfl, e⟩
  · exact gSort_vl
  · exact gSort_ref e
theorem sortI_iff {hs : List Int} : sortI hs = hs ↔ hs.Pairwise (· ≤ ·) := by
  constructor
  · intro h
    have := sortI_le hs
    rwa [h] at this
  · intro h
    exact sort_uniq (sortI_perm hs) (sortI_le hs) h
def noneAt (n : Nat) (t : List (List Int)) (hs : List Int) (x : Int) : Bool := !(((List.range n).filter fun (o : Nat) => decide ((o : Int) = x) || !decide ((o : Int) ∈ hs)).any fun (o : Nat) => decide (0 < celI t o x))
def busyI (n : Nat) (t : List (List Int)) (x : Int) : Bool := busyB n t x.toNat
def rootlessB (n : Nat) (t : List (List Int)) (hs : List Int) : Bool := (areB n hs && decide (sortI hs = hs)) && (hs.all (noneAt n t hs) && hs.any (busyI n t))
def riseAt (n : Nat) (hs : List Int) (k : Nat) : Bool := inB n (hsA hs k) && (decide (k = 0) || decide (hsA hs (k - 1) < hsA hs k))
def lawNoneIn (n : Nat) (t : List (List Int)) (hs : List Int) (x : Int) (o : Nat) : Bool := decide ((o : Int) ∈ hs) || !decide (0 < celI t o x)
def lawNoneAt (n : Nat) (t : List (List Int)) (hs : List Int) (x : Int) : Bool := !decide (0 < celI t x x) && (List.range n).all (lawNoneIn n t hs x)
def lawRootlessB (n : Nat) (t : List (List Int)) (hs : List Int) : Bool := (List.range hs.length).all (riseAt n hs) && (hs.all (lawNoneAt n t hs) && hs.any (busyI n t))
theorem rise_lt {n : Nat} {hs : List Int} (h : ∀ k, k < hs.length → riseAt n hs k = true) : ∀ j i, i < j → j < hs.length → hsA hs i < hsA hs j
  | 0, i, h1, _ => by omega
  | j + 1, i, h1, h2 => by
    have q := h (j + 1) h2
    unfold riseAt at q
    rw [Bool.and_eq_true, Bool.or_eq_true, decide_eq_true_eq, decide_eq_true_eq] at q
    have q2 : hsA hs j < hsA hs (j + 1) := by
      rcases q.2 with z | z
      · omega
      · simpa using z
    by_cases e : i = j
    · rw [e]; exact q2
    · have := rise_lt h j i (by omega) (by omega)
      omega
theorem rise_eq {n : Nat} {hs : List Int} : (List.range hs.length).all (riseAt n hs) = (areB n hs && decide (sortI hs = hs)) := by
  rw [Bool.eq_iff_iff, Bool.and_eq_true, List.all_eq_true, decide_eq_true_eq, sortI_iff]
  unfold areB
  rw [Bool.and_eq_true, decide_eq_true_eq, all_hs, List.all_eq_true]
  constructor
  · intro h
    have h' : ∀ k, k < hs.length → riseAt n hs k = true := fun k hk => h k (List.mem_range.mpr hk)
    have lt : hs.Pairwise (· < ·) := List.pairwise_iff_getElem.mpr fun i j hi hj ij => by
      have := rise_lt h' j i ij hj
      rwa [hsA_get hi, hsA_get hj] at this
    refine ⟨⟨lt.imp fun q => by omega, fun k hk => ?_⟩, lt.imp fun q => by omega⟩
    have q := h k hk
    unfold riseAt at q
    rw [Bool.and_eq_true] at q
    exact q.1
  · rintro ⟨⟨h1, h2⟩, h3⟩ k hk
    have hk2 := List.mem_range.mp hk
    unfold riseAt
    rw [Bool.and_eq_true, Bool.or_eq_true, decide_eq_true_eq, decide_eq_true_eq]
    refine ⟨h2 k hk, ?_⟩
    by_cases z : k = 0
    · exact .inl z
    · right
      have a := List.pairwise_iff_getElem.mp h3 (k - 1) k (by omega) hk2 (by omega)
      have b := List.pairwise_iff_getElem.mp h1 (k - 1) k (by omega) hk2 (by omega)
      rw [hsA_get (by omega), hsA_get hk2]
      omega
theorem none_eq {n : Nat} {t : List (List Int)} {hs : List Int} {x : Int} (hx : x ∈ hs) (x0 : 0 ≤ x) (x1 : x < n) : lawNoneAt n t hs x = noneAt n t hs x := by
  unfold lawNoneAt noneAt lawNoneIn
  rw [Bool.eq_iff_iff, Bool.and_eq_true, Bool.not_eq_true', decide_eq_false_iff_not, List.all_eq_true, Bool.not_eq_true', List.any_eq_false]
  constructor
  · rintro ⟨h1, h2⟩ o ho c
    obtain ⟨q1, q2⟩ := List.mem_filter.mp ho
    have c := of_decide_eq_true c
    rw [Bool.or_eq_true, decide_eq_true_eq, Bool.not_eq_true', decide_eq_false_iff_not] at q2
    rcases q2 with z | z
    · rw [z] at c; exact h1 c
    · have := h2 o q1
      rw [Bool.or_eq_true, decide_eq_true_eq, Bool.not_eq_true', decide_eq_false_iff_not] at this
      rcases this with w | w
      · exact z w
      · exact w c
  · intro h
    refine ⟨fun c => ?_, fun o ho => ?_⟩
    · refine h x.toNat (List.mem_filter.mpr ⟨List.mem_range.mpr (by omega), ?_⟩) ?_
      · rw [Bool.or_eq_true, decide_eq_true_eq]
        left
        omega
      · have e : ((x.toNat : Nat) : Int) = x := by omega
        rw [e]
        exact decide_eq_true c
    · rw [Bool.or_eq_true, decide_eq_true_eq, Bool.not_eq_true', decide_eq_false_iff_not]
      by_cases z : (o : Int) ∈ hs
      · exact .inl z
      · right
        intro c
        refine h o (List.mem_filter.mpr ⟨ho, ?_⟩) (decide_eq_true c)
        rw [Bool.or_eq_true, Bool.not_eq_true', decide_eq_false_iff_not]
        exact .inr z
theorem lawRootless_eq {n : Nat} {t : List (List Int)} {hs : List Int} : lawRootlessB n t hs = rootlessB n t hs := by
  unfold lawRootlessB rootlessB
  rw [rise_eq]
  by_cases q : areB n hs = true
  · have e : hs.all (lawNoneAt n t hs) = hs.all (noneAt n t hs) := by
      rw [Bool.eq_iff_iff, List.all_eq_true, List.all_eq_true]
      have i : ∀ x ∈ hs, 0 ≤ x ∧ x < n := fun x hx => by
        unfold areB at q
        rw [Bool.and_eq_true, List.all_eq_true] at q
        exact inB_iff.mp (q.2 x hx)
      constructor
      · intro h x hx
        rw [← none_eq hx (i x hx).1 (i x hx).2]
        exact h x hx
      · intro h x hx
        rw [none_eq hx (i x hx).1 (i x hx).2]
        exact h x hx
    rw [e]
  · rw [Bool.eq_false_iff.mpr q]
    rfl
theorem andR_rs {c : Str} {p : Option Int} {h : Hs} {y : Hs → R D} : andR (.rs c p h) y = .rs c p h := rfl
theorem atI_last {l : List D} (h0 : 0 < l.length) : atI l (-1) = some (l[l.length - 1]) := by
  have e : ixN l.length (-1) = some (l.length - 1) := by
    unfold ixN
    rw [if_neg (by omega)]
    split
    · congr 1
      omega
    · omega
  unfold atI
  rw [e]
  exact List.getElem?_eq_getElem (by omega)
theorem any_12 {h : Hs} : gAny h [.vl [.bl false, .bl false, .bl false, .bl false, .bl false, .bl false, .bl false, .bl false, .bl false, .bl false, .bl false, .bl false]] = some (.bl false) := rfl
theorem isLst_vl {l : List D} {h : Hs} : isLst h (.vl l) = true := by simp [isLst, lstH]
theorem cnt_tf {h : Hs} : valM txCount (.vl [.bl true, .bl false]) [.bl true] h = .ok (.int 1) h := rfl
theorem cnt_ft {h : Hs} : valM txCount (.vl [.bl false, .bl true]) [.bl true] h = .ok (.int 1) h := rfl
theorem idx_tf {h : Hs} : valM txIndex (.vl [.bl true, .bl false]) [.bl true] h = .ok (.int 0) h := rfl
theorem idx_ft {h : Hs} : valM txIndex (.vl [.bl false, .bl true]) [.bl true] h = .ok (.int 1) h := rfl
/-! pools of any numbers -/
def isPoolB (n : Nat) (ps : List Int) : Bool := decide (ps ≠ []) && (List.range ps.length).all (riseAt n ps)
def risesB (n : Nat) : Int → List Int → Bool
  | _, [] => true
  | m, x :: r => (decide (m < x) && decide (x < n)) && risesB n x r
theorem rises_iff {n : Nat} : ∀ (ps : List Int) (m : Int), risesB n m ps = true ↔ ps.Pairwise (· < ·) ∧ ∀ x ∈ ps, m < x ∧ x < n
  | [], m => by simp [risesB]
  | x :: r, m => by
    unfold risesB
    rw [Bool.and_eq_true, Bool.and_eq_true, decide_eq_true_eq, decide_eq_true_eq, rises_iff r x, List.pairwise_cons]
    constructor
    · rintro ⟨⟨h1, h2⟩, h3, h4⟩
      refine ⟨⟨fun y hy => (h4 y hy).1, h3⟩, fun y hy => ?_⟩
      rcases List.mem_cons.mp hy with z | z
      · rw [z]; exact ⟨h1, h2⟩
      · have := h4 y z; exact ⟨by omega, this.2⟩
    · rintro ⟨⟨h1, h2⟩, h3⟩
      exact ⟨h3 x List.mem_cons_self, h2, fun y hy => ⟨h1 y hy, (h3 y (List.mem_cons_of_mem _ hy)).2⟩⟩
theorem rise_iff {n : Nat} {ps : List Int} : (List.range ps.length).all (riseAt n ps) = true ↔ ps.Pairwise (· < ·) ∧ ∀ x ∈ ps, 0 ≤ x ∧ x < n := by
  constructor
  · intro h
    have h' : ∀ k, k < ps.length → riseAt n ps k = true := fun k hk => List.all_eq_true.mp h k (List.mem_range.mpr hk)
    refine ⟨List.pairwise_iff_getElem.mpr fun i j hi hj ij => ?_, fun x hx => ?_⟩
    · have := rise_lt h' j i ij hj
      rwa [hsA_get hi, hsA_get hj] at this
    · obtain ⟨k, hk, e⟩ := List.getElem_of_mem hx
      have := h' k hk
      unfold riseAt at this
      rw [Bool.and_eq_true, hsA_get hk, e] at this
      exact inB_iff.mp this.1
  · rintro ⟨h1, h2⟩
    refine List.all_eq_true.mpr fun k hk => ?_
    have hk := List.mem_range.mp hk
    unfold riseAt
    rw [Bool.and_eq_true, Bool.or_eq_true, decide_eq_true_eq, decide_eq_true_eq]
    refine ⟨inB_iff.mpr (h2 _ (hsA_mem hk)), ?_⟩
    by_cases z : k = 0
    · exact .inl z
    · right
      rw [hsA_get (by omega), hsA_get hk]
      exact List.pairwise_iff_getElem.mp h1 (k - 1) k (by omega) hk (by omega)
theorem rises_rise {n : Nat} {ps : List Int} : risesB n (-1) ps = (List.range ps.length).all (riseAt n ps) := by
  rw [Bool.eq_iff_iff, rises_iff, rise_iff]
  constructor
  · rintro ⟨h1, h2⟩
    exact ⟨h1, fun x hx => by have := h2 x hx; omega⟩
  · rintro ⟨h1, h2⟩
    exact ⟨h1, fun x hx => by have := h2 x hx; omega⟩
theorem pool_of {n : Nat} {ps : List Int} (h : isPoolB n ps = true) : ∃ p : List Nat, PoolOk n p ∧ ps = p.map fun (i : Nat) => (i : Int) := by
  unfold isPoolB at h
  rw [Bool.and_eq_true, decide_eq_true_eq, rise_iff] at h
  obtain ⟨h0, h1, h2⟩ := h
  have e : ps = (ps.map Int.toNat).map fun (i : Nat) => (i : Int) := by
    rw [List.map_map]
    refine List.ext_getElem (by simp) fun i a b => ?_
    have := (h2 _ (List.getElem_mem a)).1
    simp
    omega
  refine ⟨ps.map Int.toNat, ⟨fun z => h0 (by simpa using z), ?_, fun x hx => ?_⟩, e⟩
  · rw [e] at h1
    rw [List.pairwise_map] at h1
    exact h1.imp fun q => by omega
  · obtain ⟨y, hy, rfl⟩ := List.mem_map.mp hx
    have := h2 y hy
    omega
end Gx

namespace Gx
open PySem L2
/-! a word and whole numbers -/
inductive Wd where
  | make | lend | use | give | big | bare
  deriving DecidableEq
def Wd.str : Wd → Str
  | .make => "make" | .lend => "lend" | .use => "use" | .give => "give" | .big => "Make" | .bare => ""
def anyD (w : Wd) (ps : List Int) : D := .tup (.str w.str :: ps.map .int)
/-- the deed that it is, for one right or more -/
def deedOf : Wd → List Int → Option Deed
  | .make, [i, k] => if 1 ≤ k then some (.make i k) else none
  | .use, [i, k] => if 1 ≤ k then some (.use i k) else none
  | .lend, [i, j, k] => if 1 ≤ k then some (.lend i j k) else none
  | _, _ => none
instance (n : Nat) (d : Deed) : Decidable (d.ok n) := by unfold Deed.ok; cases d <;> exact inferInstance
theorem deedOf_some {w : Wd} {ps : List Int} {d : Deed} (e : deedOf w ps = some d) : anyD w ps = deedD d ∧ 1 ≤ d.k := by
  unfold deedOf at e
  split at e
  · split at e
    · rename_i q; cases e; exact ⟨rfl, q⟩
    · cases e
  · split at e
    · rename_i q; cases e; exact ⟨rfl, q⟩
    · cases e
  · split at e
    · rename_i q; cases e; exact ⟨rfl, q⟩
    · cases e
  · cases e
theorem shp_wd (w : Wd) : shp (.str w.str) = true := by cases w <;> decide +kernel
section
variable {h : Hs} {w : Wd}
theorem wd_lend : gEq h (.str w.str) (.str "lend") = some (.bl (decide (w = .lend))) := by
  rw [gEq_str (shp_wd w) shp_lend]
  cases w <;> rfl
theorem wd_make : gEq h (.str w.str) (.str "make") = some (.bl (decide (w = .make))) := by
  rw [gEq_str (shp_wd w) shp_make]
  cases w <;> rfl
theorem wd_use : gEq h (.str w.str) (.str "use") = some (.bl (decide (w = .use))) := by
  rw [gEq_str (shp_wd w) shp_use]
  cases w <;> rfl
theorem wd_nmake : gNe h (.str w.str) (.str "make") = some (.bl (!decide (w = .make))) := by
  rw [gNe_str (shp_wd w) shp_make]
  cases w <;> rfl
end
section
variable {a b c d e : D}
theorem at_1_n : atI [a] (-1) = some a := rfl
theorem at_2_n : atI [a, b] (-1) = some b := rfl
theorem at_5_n : atI [a, b, c, d, e] (-1) = some e := rfl
theorem at_c0 {l : List D} : atI (a :: l) 0 = some a := by simp [atI, ixN]
end
/-! looked up in lists of truths -/
theorem any_11 {h : Hs} : gAny h [.vl [.bl false, .bl false, .bl false, .bl false, .bl false, .bl false, .bl false, .bl false, .bl false, .bl false, .bl false]] = some (.bl false) := rfl
theorem cnt_tff {h : Hs} : valM txCount (.vl [.bl true, .bl false, .bl false]) [.bl true] h = .ok (.int 1) h := rfl
theorem cnt_ftf {h : Hs} : valM txCount (.vl [.bl false, .bl true, .bl false]) [.bl true] h = .ok (.int 1) h := rfl
theorem cnt_fft {h : Hs} : valM txCount (.vl [.bl false, .bl false, .bl true]) [.bl true] h = .ok (.int 1) h := rfl
theorem idx_tff {h : Hs} : valM txIndex (.vl [.bl true, .bl false, .bl false]) [.bl true] h = .ok (.int 0) h := rfl
theorem idx_ftf {h : Hs} : valM txIndex (.vl [.bl false, .bl true, .bl false]) [.bl true] h = .ok (.int 1) h := rfl
theorem idx_fft {h : Hs} : valM txIndex (.vl [.bl false, .bl false, .bl true]) [.bl true] h = .ok (.int 2) h := rfl
@[simp] theorem kD_inl {i : Int} : kD (.inl i) = .int i := by unfold kD; rfl
@[simp] theorem kD_inr {x : Str} : kD (.inr x) = .str x := by unfold kD; rfl
@[simp] theorem dspO_ok {qs : List Key} {l : List D} {h : Hs} : dspO qs l h = .ok (.vd (qs.map kD) l) h := by unfold dspO; rfl
theorem isDic_vd {k l : List D} {h : Hs} : isDic h (.vd k l) = true := by simp [isDic, dicU]
theorem gAdd_lst {h : Hs} {x y : D} {l m : List D} (a : LstAt h x l) (b : LstAt h y m) (e : l.length + m.length ≤ 16777216) : gAdd h x y = some (.vl (l ++ m)) := by
  have h1 := a.lst
  have h2 := b.lst
  rcases a with rfl | ⟨n, rfl, _⟩ <;> rcases b with rfl | ⟨k, rfl, _⟩ <;> (unfold gAdd; simp only [h1, h2]; rw [if_pos e])
theorem ixN_last {m : Nat} : ixN (m + 1) (-1) = some m := by
  unfold ixN
  simp
  omega
end Gx

namespace Gx
open PySem L2
/-! enumerate over an object; the deeds of a stand -/
theorem enum_refm {n m : Nat} {g : Nat → D} {h : Hs} (e : h[m]? = some (.lst ((List.range n).map g))) : ∃ c : Hs → Prop, c h ∧ enumO [.ref m] h = .ok ⟨(List.range n).map fun (i : Nat) => .tup [.int i, g i], c⟩ h := by
  refine ⟨stays (.ref m) ((List.range n).map g), e, ?_⟩
  have e1 : lstH h (.ref m) = some ((List.range n).map g) := by simp [lstH, e]
  unfold enumO
  dsimp only
  rw [e1]
  have e2 : (((List.range n).map g).zipIdx.map fun p => D.tup [.int (p.2 : Nat), p.1]) = (List.range n).map fun (i : Nat) => .tup [.int i, g i] := by
    refine List.ext_getElem (by simp) fun i h1 h2 => ?_
    simp
  dsimp only
  rw [e2]
  all_goals rfl
theorem comes_yes {n : Nat} {t : List (List Int)} (c : comesB n t = true) : comesD n t = .tup [.str "comes", natsD (rootsI n t)] := by
  unfold comesD
  cases q : (List.range n).find? fun k : Nat => decide (rightsI t k < 0) with
  | some k => rw [(comes_some q).1] at c; cases c
  | none =>
    rw [comes_none q] at c
    dsimp only
    rw [if_pos c]
theorem ix20 {h : Hs} {a b : D} : gIx h (.tup [a, b]) (.int 0) = some a := by rw [gIx_tup]; rfl
theorem ix21 {h : Hs} {a b : D} : gIx h (.tup [a, b]) (.int 1) = some b := by rw [gIx_tup]; rfl
end Gx

namespace Gx
open PySem L2
/-! tapes; dicts by whole numbers; what a comprehension keeps -/
theorem lcL_sub {α : Type} {f g : α → D} {ft : D → SD → Option SD} {fb fe : SD → Hs → R D} {s : SD} (I : Nat → Hs → Prop) (Q : α → Prop) (N : Nat) : ∀ (l : List α) (i : Nat) (h : Hs), i + l.length ≤ N → I i h → (∀ a ∈ l, ∀ i h, i < N → I i h → ∃ y h', lcT ft fb fe s (f a) h = .ok y h' ∧ I (i + 1) h' ∧ (y = none ∨ (y = some (g a) ∧ Q a))) →
    ∃ (l' : List α) (h' : Hs), lcL (fun _ => True) ft fb fe s (l.map f) h = .ok (l'.map g) h' ∧ I (i + l.length) h' ∧ l'.Sublist l ∧ ∀ a ∈ l', Q a
  | [], i, h, _, j, _ => ⟨[], h, by rw [List.map_nil, lcL, if_pos trivial]; rfl, j, List.Sublist.refl _, fun a m => by cases m⟩
  | a :: r, i, h, hN, j, k => by
    rw [List.length_cons] at hN
    obtain ⟨y, h1, e, j1, q⟩ := k a List.mem_cons_self i h (by omega) j
    obtain ⟨l', h2, e2, j2, sb, qa⟩ := lcL_sub I Q N r (i + 1) h1 (by omega) j1 fun a' m => k a' (List.mem_cons_of_mem _ m)
    have hl : i + (a :: r).length = i + 1 + r.length := by rw [List.length_cons]; omega
    rcases q with rfl | ⟨rfl, qq⟩
    · refine ⟨l', h2, ?_, by rw [hl]; exact j2, sb.cons a, qa⟩
      rw [List.map_cons, lcL_cons trivial e, e2]
      simp
    · refine ⟨a :: l', h2, ?_, by rw [hl]; exact j2, sb.cons₂ a, fun b m => ?_⟩
      · rw [List.map_cons, lcL_cons trivial e, e2]
        simp
      · rcases List.mem_cons.mp m with z | z
        · rw [z]; exact qq
        · exact qa b z
theorem lcO_sub {α : Type} {m : Bool} {f g : α → D} {ft : D → SD → Option SD} {fb fe : SD → Hs → R D} {vs : List Nat} {s : SD} (I : Nat → Hs → Prop) (Q : α → Prop) (l : List α) (h : Hs) (hl : l.length ≤ 16777216) (i0 : I 0 h) (k : ∀ a ∈ l, ∀ i h, i < l.length → I i h → ∃ y h', lcT ft fb fe (wipeS s vs) (f a) h = .ok y h' ∧ I (i + 1) h' ∧ (y = none ∨ (y = some (g a) ∧ Q a))) :
    ∃ (l' : List α) (h' : Hs), lcO m ft fb fe vs s (src0 (l.map f)) h = newL m (l'.map g) h' ∧ I l.length h' ∧ l'.Sublist l ∧ ∀ a ∈ l', Q a := by
  obtain ⟨l', h', e, j, sb, qa⟩ := lcL_sub I Q l.length l 0 h (by omega) i0 k
  refine ⟨l', h', ?_, by rw [Nat.zero_add] at j; exact j, sb, qa⟩
  unfold lcO
  simp only [src0_ds, src0_c]
  rw [if_pos (by rw [List.length_map]; exact hl), e, bind_ok]
/-- a tape: the script, the place, what is left of the cell -/
structure TapeAt (h : Hs) (t : Nat) (ns : List Int) (p : Int) : Prop where
  ex : ∃ a r : Int, h[t]? = some (.lst [script ns, .int a, .int r]) ∧ 0 ≤ a ∧ a ≤ p ∧ 0 ≤ r
section
variable {h h' : Hs} {t : Nat} {ns : List Int} {p p' : Int}
theorem TapeAt.mono (T : TapeAt h t ns p) (q : p ≤ p') : TapeAt h t ns p' := by
  obtain ⟨a, r, e, a0, a1, r0⟩ := T.ex
  exact ⟨a, r, e, a0, by omega, r0⟩
theorem TapeAt.ext (T : TapeAt h t ns p) (e : Ext h h') : TapeAt h' t ns p := by
  obtain ⟨a, r, q, z⟩ := T.ex
  exact ⟨a, r, e.get q, z⟩
theorem TapeAt.lt (T : TapeAt h t ns p) : t < h.length := by
  obtain ⟨a, r, q, z⟩ := T.ex
  exact lt_of_get q
theorem TapeAt.same (T : TapeAt h t ns p) (e : h'[t]? = h[t]?) : TapeAt h' t ns p := by
  obtain ⟨a, r, q, z⟩ := T.ex
  exact ⟨a, r, by rw [e]; exact q, z⟩
end
/-! ### dicts: keys, and a value for each -/
def natD (i : Nat) : D := .int i
def dkO (k : List Nat) (g : Nat → D) : HO' := .dic (k.map natD) (k.map g)
def fkO (k : List Nat) (g : Nat → D) : HO' := .fdc (k.map natD) (k.map g)
def vkD (k : List Nat) (g : Nat → D) : D := .vd (k.map natD) (k.map g)
def putk (k : List Nat) (q : Nat) : List Nat := if q ∈ k then k else k ++ [q]
def putg (g : Nat → D) (q : Nat) (v : D) : Nat → D := fun x => if x = q then v else g x
theorem kyD_nat {i : Nat} : kyD (natD i) = some (.inl (i : Int)) := rfl
theorem dFind_kg {g : Nat → D} {q : Nat} : ∀ {k : List Nat}, dFind (k.map natD) (k.map g) (.inl (q : Int)) = if q ∈ k then some (g q) else none
  | [] => by simp [dFind]
  | a :: k => by
    have ih := dFind_kg (g := g) (q := q) (k := k)
    unfold dFind at ih ⊢
    rw [List.map_cons, List.map_cons, List.zip_cons_cons, List.find?_cons]
    by_cases z : a = q
    · subst z
      simp [kyD_nat]
    · have z1 : ¬ ((a : Int) = q) := by omega
      have z2 : ¬ q = a := fun w => z w.symm
      simp [kyD_nat, z1, z2]
      simpa using ih
theorem dPut_kg {k : List Nat} {g : Nat → D} {q : Nat} {v : D} : dPut (k.map natD) (k.map g) (.inl (q : Int)) v = ((putk k q).map natD, (putk k q).map (putg g q v)) := by
  unfold dPut
  have e : ((k.map natD).any fun a => decide (kyD a = some (.inl (q : Int)))) = decide (q ∈ k) := by
    rw [List.any_map, Bool.eq_iff_iff, List.any_eq_true, decide_eq_true_eq]
    constructor
    · rintro ⟨a, ha, h1⟩
      have h1 := of_decide_eq_true h1
      rw [kyD_nat] at h1
      injection h1 with h1
      injection h1 with h1
      have : a = q := by omega
      rw [← this]; exact ha
    · intro hq
      exact ⟨q, hq, by simp [kyD_nat]⟩
  rw [e]
  unfold putk
  by_cases z : q ∈ k
  · simp only [z, decide_true, if_true]
    congr 1
    clear e z
    induction k with
    | nil => rfl
    | cons a k ih =>
      simp only [List.map_cons, List.zip_cons_cons, ih]
      congr 1
      unfold putg
      by_cases w : a = q
      · subst w; simp [kyD_nat]
      · have w1 : ¬ ((a : Int) = q) := by omega
        simp [kyD_nat, w, w1]
  · simp only [z, decide_false, if_false]
    simp only [Bool.false_eq_true, if_false, List.map_append, List.map_cons, List.map_nil]
    have e1 : k.map (putg g q v) = k.map g := List.map_congr_left fun x hx => by
      unfold putg
      rw [if_neg (fun w => z (by rw [← w]; exact hx))]
    rw [e1]
    simp [putg, kD, natD]
section
variable {h : Hs} {n : Nat} {k : List Nat} {g : Nat → D} {q : Nat} {v : D}
theorem dicH_dk (e : h[n]? = some (dkO k g)) : dicH h (.ref n) = some (k.map natD, k.map g) := by unfold dicH; simp only [e, dkO]
theorem dicU_dk (e : h[n]? = some (dkO k g)) : dicU h (.ref n) = some (k.map natD, k.map g) := by unfold dicU; simp only [e, dkO]
theorem dicH_fk (e : h[n]? = some (fkO k g)) : dicH h (.ref n) = some (k.map natD, k.map g) := by unfold dicH; simp only [e, fkO]
theorem dicH_vk : dicH h (vkD k g) = some (k.map natD, k.map g) := rfl
theorem gIx_dic {x : D} (e : dicH h x = some (k.map natD, k.map g)) (hq : q ∈ k) : gIx h x (.int (q : Int)) = some (g q) := by
  have e2 : (kyD (.int (q : Int))).bind (fun z => dFind (k.map natD) (k.map g) z) = some (g q) := by
    show dFind (k.map natD) (k.map g) (.inl (q : Int)) = _
    rw [dFind_kg, if_pos hq]
  unfold gIx
  cases x with
  | vd a b => simp only [e]; exact e2
  | ref m => simp only [e]; exact e2
  | _ => simp [dicH] at e
theorem gIn_dic {x : D} (e : dicH h x = some (k.map natD, k.map g)) : gIn h (.int (q : Int)) x = some (.bl (decide (q ∈ k))) := by
  unfold gIn
  rw [e]
  show some (D.bl (dFind (k.map natD) (k.map g) (.inl (q : Int))).isSome) = _
  rw [dFind_kg]
  by_cases z : q ∈ k <;> simp [z]
theorem gNotIn_dic {x : D} (e : dicH h x = some (k.map natD, k.map g)) : gNotIn h (.int (q : Int)) x = some (.bl (!decide (q ∈ k))) := by
  unfold gNotIn
  rw [e]
  show some (D.bl (!(dFind (k.map natD) (k.map g) (.inl (q : Int))).isSome)) = _
  rw [dFind_kg]
  by_cases z : q ∈ k <;> simp [z]
theorem gLen_dic {x : D} (e : dicH h x = some (k.map natD, k.map g)) : gLen h [x] = some (.int k.length) := by
  unfold gLen
  cases x with
  | vd a b => simp [e]
  | ref m => simp [e]
  | _ => simp [dicH] at e
theorem get_dic {x : D} (e : dicU h x = some (k.map natD, k.map g)) : getM x [.int (q : Int)] h = .ok (if q ∈ k then g q else .non) h := by
  unfold getM
  rw [e]
  show R.ok ((dFind (k.map natD) (k.map g) (.inl (q : Int))).getD .non) h = _
  rw [dFind_kg]
  by_cases z : q ∈ k <;> simp [z]
theorem isDic_dic {x : D} (e : dicU h x = some (k.map natD, k.map g)) : isDic h x = true := by unfold isDic; rw [e]; rfl
theorem dicU_vk : dicU h (vkD k g) = some (k.map natD, k.map g) := rfl
theorem storeG_dic (e : h[n]? = some (dkO k g)) (hk : k.length < 16777216) : storeG (.ref n) (.int (q : Int)) v h = some (h.set n (dkO (putk k q) (putg g q v))) := by
  unfold storeG
  simp only [e, dkO]
  have e1 : kyD (.int (q : Int)) = some (.inl (q : Int)) := rfl
  rw [e1]
  dsimp only [Option.bind]
  rw [if_pos (by rw [List.length_map]; exact hk), dPut_kg]
  rfl
theorem isi_dict (e : h[n]? = some (dkO k g)) : isiG "dict" (.ref n) h = .ok (.bl true) h := isi_of (u := "dict") (by unfold tyOf; simp only [e, dkO]) (by decide +kernel)
end
theorem isi_int_int {i : Int} {h : Hs} : isiG "int" (.int i) h = .ok (.bl true) h := isi_of rfl (by decide +kernel)
theorem isi_bool_int {i : Int} {h : Hs} : isiG "bool" (.int i) h = .ok (.bl false) h := isi_of rfl (by decide +kernel)
/-- the lock on a dict that stays -/
theorem dlp_nx {kd i n : Nat} {f : D → SD → Hs → O} {s s' : SD} {h : Hs} {k l : List D} (hs : s[i]? = some (some (.ref n))) (e : h[n]? = some (.dic k l)) (F : forL f (dlpI kd k l) s (h.set n (.fdc k l)) = .nx s' (h.set n (.fdc k l))) : dlpO kd i f s h = .nx s' h := by
  have hn := lt_of_get e
  unfold dlpO
  rw [hs]
  dsimp only
  rw [e]
  dsimp only
  rw [forC_T, F]
  unfold unlO unlH
  dsimp only
  rw [List.getElem?_set_self hn]
  dsimp only
  rw [List.set_set]
  congr 1
  exact (List.set_getElem_self hn ▸ by
    obtain ⟨_, e2⟩ := List.getElem?_eq_some_iff.mp e
    rw [← e2]
    simp)
/-! ### roads -/
def roadD (p : Nat × Nat) : D := .tup [.int p.1, .int p.2]
def roundD (r : List (Nat × Nat)) : D := .tup (r.map roadD)
structure RoundOk (n : Nat) (r : List (Nat × Nat)) : Prop where
  ok : ∀ p ∈ r, p.1 < n ∧ p.2 < n ∧ p.1 ≠ p.2
  up : r.Pairwise fun p q => p.1 < q.1 ∨ (p.1 = q.1 ∧ p.2 < q.2)
  len : r.length ≤ 1000
structure RoadsOk (n : Nat) (rs : List (List (Nat × Nat))) : Prop where
  ok : ∀ r ∈ rs, RoundOk n r
  len : rs.length ≤ 40
theorem enc_nat' : Enc natD 0 where
  lay := fun a => by simp [natD, D.py, PyData.canLay0]
  dp := fun a => by simp [natD, D.py, PyData.depth]
  nr := fun a => by simp [natD]
  eq := fun a b => by
    have := eqD_int (i := (a : Int)) (j := (b : Int))
    have e : PyData.eqv (natD a).py (natD b).py = decide ((a : Int) = b) := this
    rw [e]
    by_cases z : a = b
    · simp [z]
    · have : ¬ ((a : Int) = b) := by omega
      simp [z, this]
@[simp] theorem nr_roadD {p : Nat × Nat} : (roadD p).nr = true := by simp [roadD]
@[simp] theorem nr_roundD {r : List (Nat × Nat)} : (roundD r).nr = true := by simp [roundD]
theorem road_inj : ∀ a b : Nat × Nat, PyData.eqv (roadD a).py (roadD b).py = decide (a = b) := fun a b => by
  have := enc_nat'.tup.eq [a.1, a.2] [b.1, b.2]
  have e : PyData.eqv (roadD a).py (roadD b).py = decide ([a.1, a.2] = [b.1, b.2]) := this
  rw [e]
  by_cases z : a = b
  · simp [z]
  · have : ¬ (a.1 = b.1 ∧ a.2 = b.2) := fun w => z (Prod.ext w.1 w.2)
    simp [z]
    intro h1 h2
    exact this ⟨h1, h2⟩
theorem enc_road : Enc roadD 1 where
  lay := fun a => enc_nat'.tup.lay [a.1, a.2]
  dp := fun a => enc_nat'.tup.dp [a.1, a.2]
  nr := fun a => nr_roadD
  eq := road_inj
theorem enc_round : Enc roundD 2 := enc_road.tup
theorem src_roundD {r : List (Nat × Nat)} {h : Hs} : srcOf (roundD r) h = .ok (src0 (r.map roadD)) h := by unfold roundD; rw [src_tup]
/-- a loop that may be left by break -/
theorem forL_brk {α : Type} {f : α → D} {turn : D → SD → Hs → O} (I : Nat → SD → Hs → Prop) (J : SD → Hs → Prop) (N : Nat) (fin : ∀ i s h, I i s h → J s h) : ∀ (l : List α) (i : Nat) (s : SD) (h : Hs), i + l.length ≤ N → I i s h → (∀ i s h a, a ∈ l → i < N → I i s h → (∃ s' h', turn (f a) s h = .nx s' h' ∧ I (i + 1) s' h') ∨ (∃ s' h', turn (f a) s h = .bk s' h' ∧ J s' h')) →
    ∃ s' h', forL turn (l.map f) s h = .nx s' h' ∧ J s' h'
  | [], i, s, h, _, j, _ => ⟨s, h, forL_nil, fin i s h j⟩
  | a :: r, i, s, h, hN, j, k => by
    rw [List.length_cons] at hN
    rcases k i s h a List.mem_cons_self (by omega) j with ⟨s1, h1, e, j1⟩ | ⟨s1, h1, e, j1⟩
    · obtain ⟨s2, h2, e2, j2⟩ := forL_brk I J N fin r (i + 1) s1 h1 (by omega) j1 fun i s h a m => k i s h a (List.mem_cons_of_mem _ m)
      exact ⟨s2, h2, by rw [List.map_cons, forL_nx e]; exact e2, j2⟩
    · exact ⟨s1, h1, by rw [List.map_cons, forL_bk e], j1⟩
/-- what a tape's changes leave closed -/
theorem TapeAt.cl {h h' : Hs} {t : Nat} {ns : List Int} {p : Int} (T : TapeAt h' t ns p) (o : ∀ k, k < h.length → k ≠ t → h'[k]? = h[k]?) : ClB h h' := fun k o' hk eo => by
  by_cases z : k = t
  · subst z
    obtain ⟨a, r, e6, _⟩ := T.ex
    rw [e6] at eo
    injection eo with eo
    subst eo
    exact .inr (bel_lst (by simp))
  · rw [o k hk z] at eo
    exact .inl eo
theorem TapeAt.at1 {h : Hs} {t : Nat} {ns : List Int} {p : Int} (T : TapeAt h t ns p) : ∃ a : Int, gIx h (.ref t) (.int 1) = some (.int a) := by
  obtain ⟨a, r, e, _⟩ := T.ex
  exact ⟨a, by rw [gIx_ref e]; rfl⟩
end Gx

namespace Gx
open PySem L2
/-! tuples sorted; ways in time -/
theorem gSort_tups {h : Hs} {x : D} {m : Bool} {L : List (List Int)} (a : LstAt h x (L.map tupD)) (ok : okT L) : gSort m [x] h = newL m ((sortT L).map tupD) h := by
  have e : lstH h x = some (L.map tupD) := a.lst
  unfold gSort
  dsimp only
  rw [e]
  cases L with
  | nil =>
    have e2 : sortT [] = [] := List.Perm.eq_nil (sortT_perm [])
    show newL m ((sortI []).map .int) h = _
    have e3 : sortI [] = [] := List.Perm.eq_nil (sortI_perm [])
    rw [e2, e3]
    rfl
  | cons b r =>
    have e2 : ((some ((b :: r).map tupD)).bind intsOf) = none := rfl
    have e3 : ((some ((b :: r).map tupD)).bind tupsOf) = some (b :: r) := tupsOf_map
    rw [e2]
    dsimp only
    rw [e3]
    dsimp only
    rw [if_pos ok]
theorem round_len {n : Nat} {r : List (Nat × Nat)} (R : RoundOk n r) : r.length ≤ n * n := by
  have lt : ∀ x ∈ r.map (fun p => p.1 * n + p.2), x < n * n := fun x hx => by
    obtain ⟨p, hp, rfl⟩ := List.mem_map.mp hx
    obtain ⟨h1, h2, _⟩ := R.ok p hp
    have : (p.1 + 1) * n ≤ n * n := Nat.mul_le_mul_right n h1
    rw [Nat.add_mul] at this
    omega
  have nd : (r.map (fun p => p.1 * n + p.2)).Nodup := by
    unfold List.Nodup
    rw [List.pairwise_map]
    refine R.up.imp_of_mem fun {p q} hp hq h => ?_
    obtain ⟨_, h2, _⟩ := R.ok p hp
    rcases h with h | ⟨h, h'⟩
    · have : (p.1 + 1) * n ≤ q.1 * n := Nat.mul_le_mul_right n h
      rw [Nat.add_mul] at this
      omega
    · rw [h]
      omega
  have := pigeon (n * n) _ nd lt
  rwa [List.length_map] at this
theorem code_two {a b : Nat × Nat} (h : leT [(a.1 : Int), a.2] [(b.1 : Int), b.2] = true) : a.1 < b.1 ∨ (a.1 = b.1 ∧ a.2 ≤ b.2) := by
  rcases leT_iff.mp h with z | z
  · injection z with z1 z
    injection z with z2 z
    omega
  · unfold ltL at z
    split at z
    · unfold ltL at z
      split at z
      · cases z
      · have := of_decide_eq_true z
        omega
    · have := of_decide_eq_true z
      omega
/-- a round, its roads turned about and put in order -/
theorem sort_round {n : Nat} {r : List (Nat × Nat)} (R : RoundOk n r) (n7 : n ≤ 7) : ∃ s, RoundOk n s ∧ (∀ i j, (i, j) ∈ s ↔ (j, i) ∈ r) ∧ ∀ h : Hs, gSort false [.vl (r.map fun p => roadD (p.2, p.1))] h = .ok (.vl (s.map roadD)) h := by
  let f : Nat × Nat → List Int := fun p => [(p.1 : Int), p.2]
  have fr : ∀ p, tupD (f p) = roadD p := fun p => rfl
  let sw := r.map fun p => (p.2, p.1)
  have lr := round_len R
  have nn : n * n ≤ 7 * 7 := Nat.mul_le_mul n7 n7
  have swo : ∀ p ∈ sw, p.1 < n ∧ p.2 < n ∧ p.1 ≠ p.2 := fun p hp => by
    obtain ⟨q, hq, rfl⟩ := List.mem_map.mp hp
    obtain ⟨h1, h2, h3⟩ := R.ok q hq
    exact ⟨h2, h1, fun z => h3 z.symm⟩
  have ok : okT (sw.map f) := ⟨by simp [sw]; omega, fun a ha => by
    obtain ⟨p, hp, rfl⟩ := List.mem_map.mp ha
    simp [f]⟩
  have pm := sortT_perm (sw.map f)
  obtain ⟨s, es⟩ : ∃ s : List (Nat × Nat), sortT (sw.map f) = s.map f := by
    have : ∀ a ∈ sortT (sw.map f), ∃ p, a = f p := fun a ha => by
      obtain ⟨p, _, e⟩ := List.mem_map.mp (pm.mem_iff.mp ha)
      exact ⟨p, e.symm⟩
    generalize sortT (sw.map f) = l at this
    induction l with
    | nil => exact ⟨[], rfl⟩
    | cons a t ih =>
      obtain ⟨p, rfl⟩ := this a List.mem_cons_self
      obtain ⟨s, rfl⟩ := ih fun b hb => this b (List.mem_cons_of_mem _ hb)
      exact ⟨p :: s, rfl⟩
  have finj : ∀ p q, f p = f q → p = q := fun p q h => by
    simp [f] at h
    exact Prod.ext (by omega) (by omega)
  have ps : s.Perm sw := by
    rw [es] at pm
    have h1 := pm.map fun l : List Int => ((l.getD 0 0).toNat, (l.getD 1 0).toNat)
    simp only [List.map_map] at h1
    have e1 : ∀ C : List (Nat × Nat), C.map ((fun l : List Int => ((l.getD 0 0).toNat, (l.getD 1 0).toNat)) ∘ f) = C := fun C => (List.map_congr_left fun p _ => by simp [f]).trans (List.map_id C)
    rw [e1, e1] at h1
    exact h1
  have so : ∀ p ∈ s, p.1 < n ∧ p.2 < n ∧ p.1 ≠ p.2 := fun p hp => swo p (ps.mem_iff.mp hp)
  have nd : s.Nodup := by
    rw [ps.nodup_iff]
    show (r.map _).Nodup
    unfold List.Nodup
    rw [List.pairwise_map]
    refine R.up.imp fun {p q} h e => ?_
    injection e with e1 e2
    omega
  refine ⟨s, ⟨so, ?_, by rw [ps.length_eq]; simp [sw]; omega⟩, fun i j => ?_, fun h => ?_⟩
  · have le := sortT_le (sw.map f)
    rw [es, List.pairwise_map] at le
    have both := List.pairwise_and_iff.mpr ⟨le, nd⟩
    refine both.imp_of_mem fun {p q} hp hq h => ?_
    obtain ⟨p1, p2, _⟩ := so p hp
    obtain ⟨q1, q2, _⟩ := so q hq
    have c := code_two (a := p) (b := q) h.1
    rcases c with c | ⟨c1, c2⟩
    · exact .inl c
    · refine .inr ⟨c1, ?_⟩
      rcases Nat.lt_or_ge p.2 q.2 with z | z
      · exact z
      · exact (h.2 (Prod.ext c1 (by omega))).elim
  · rw [ps.mem_iff]
    show (i, j) ∈ r.map _ ↔ _
    rw [List.mem_map]
    constructor
    · rintro ⟨p, hp, e⟩
      injection e with e1 e2
      have : p = (j, i) := Prod.ext e2 e1
      rw [← this]; exact hp
    · intro h
      exact ⟨(j, i), h, rfl⟩
  · have e1 : r.map (fun p => roadD (p.2, p.1)) = (sw.map f).map tupD := by
      simp only [sw, List.map_map]
      rfl
    rw [gSort_tups (.inl (by rw [e1])) ok, newL_f, es, List.map_map]
    rfl
end Gx

namespace Gx
open PySem L2
/-! rows of lendings come to an end: the plain law -/
/-- the sum of f below n -/
def sm : Nat → (Nat → Int) → Int
  | 0, _ => 0
  | n + 1, f => sm n f + f n
theorem sm_le {f g : Nat → Int} : ∀ {n : Nat}, (∀ i, i < n → f i ≤ g i) → sm n f ≤ sm n g
  | 0, _ => Int.le_refl _
  | n + 1, h => by
    have := sm_le (n := n) fun i hi => h i (by omega)
    have := h n (by omega)
    unfold sm
    omega
theorem sm_sub {f g : Nat → Int} : ∀ {n : Nat}, sm n (fun i => f i - g i) = sm n f - sm n g
  | 0 => rfl
  | n + 1 => by
    have := sm_sub (f := f) (g := g) (n := n)
    show sm n (fun i => f i - g i) + (f n - g n) = sm n f + f n - (sm n g + g n)
    omega
theorem sm_add {f g : Nat → Int} : ∀ {n : Nat}, sm n (fun i => f i + g i) = sm n f + sm n g
  | 0 => rfl
  | n + 1 => by
    have := sm_add (f := f) (g := g) (n := n)
    show sm n (fun i => f i + g i) + (f n + g n) = sm n f + f n + (sm n g + g n)
    omega
theorem sm_nn {f : Nat → Int} : ∀ {n : Nat}, (∀ i, i < n → 0 ≤ f i) → 0 ≤ sm n f
  | 0, _ => Int.le_refl _
  | n + 1, h => by
    have := sm_nn (n := n) fun i hi => h i (by omega)
    have := h n (by omega)
    unfold sm
    omega
/-- terms that are none below nought, with a sum of nought at most -/
theorem sm_zero {f : Nat → Int} : ∀ {n : Nat}, (∀ i, i < n → 0 ≤ f i) → sm n f ≤ 0 → ∀ i, i < n → f i = 0
  | 0, _, _, i, hi => by omega
  | n + 1, h, e, i, hi => by
    have h1 := sm_nn (n := n) fun i hi => h i (by omega)
    have h2 := h n (by omega)
    unfold sm at e
    by_cases z : i = n
    · rw [z]; omega
    · exact sm_zero (n := n) (fun i hi => h i (by omega)) (by omega) i (by omega)
theorem sm_congr {f g : Nat → Int} : ∀ {n : Nat}, (∀ i, i < n → f i = g i) → sm n f = sm n g
  | 0, _ => rfl
  | n + 1, h => by
    have := sm_congr (n := n) fun i hi => h i (by omega)
    have := h n (by omega)
    unfold sm
    omega
theorem sm_const0 : ∀ {n : Nat}, sm n (fun _ => 0) = 0
  | 0 => rfl
  | n + 1 => by
    show sm n (fun _ => 0) + 0 = 0
    rw [sm_const0, Int.add_zero]
theorem sm_swap {a : Nat → Nat → Int} {m : Nat} : ∀ {n : Nat}, sm n (fun i => sm m fun j => a i j) = sm m fun j => sm n fun i => a i j
  | 0 => by
    show 0 = sm m fun _ => 0
    rw [sm_const0]
  | n + 1 => by
    have ih := sm_swap (a := a) (m := m) (n := n)
    show sm n (fun i => sm m fun j => a i j) + sm m (fun j => a n j) = sm m fun j => sm n (fun i => a i j) + a n j
    rw [ih, ← sm_add]
/-- a term is at most the sum of terms that are none below nought -/
theorem sm_term {f : Nat → Int} : ∀ {n : Nat}, (∀ i, i < n → 0 ≤ f i) → ∀ i, i < n → f i ≤ sm n f
  | 0, _, i, hi => by omega
  | n + 1, h, i, hi => by
    have h1 := sm_nn (n := n) fun i hi => h i (by omega)
    have h2 := h n (by omega)
    unfold sm
    by_cases z : i = n
    · rw [z]; omega
    · have := sm_term (n := n) (fun i hi => h i (by omega)) i (by omega)
      omega
/-- the one term that is not nought -/
theorem sm_pos {f : Nat → Int} : ∀ {n : Nat}, 0 < sm n f → ∃ i, i < n ∧ 0 < f i
  | 0, h => by
    unfold sm at h
    omega
  | n + 1, h => by
    unfold sm at h
    by_cases z : 0 < f n
    · exact ⟨n, by omega, z⟩
    · obtain ⟨i, hi, q⟩ := sm_pos (f := f) (n := n) (by omega)
      exact ⟨i, by omega, q⟩
/-- of houses of some kind one has the least rank -/
theorem least_rank {p : Nat → Prop} (rank : Nat → Nat) : ∀ (m h : Nat), rank h ≤ m → p h → ∃ g, p g ∧ ∀ k, p k → rank g ≤ rank k
  | 0, h, e, q => ⟨h, q, fun k _ => by omega⟩
  | m + 1, h, e, q => by
    by_cases z : ∃ k, p k ∧ rank k ≤ m
    · obtain ⟨k, h1, h2⟩ := z
      exact least_rank rank m k h2 h1
    · exact ⟨h, q, fun k hk => by
        by_cases y : rank h ≤ rank k
        · exact y
        · exact (z ⟨k, hk, by omega⟩).elim⟩
/-- where something is still to be lent, a house that has to lend holds something -/
theorem lend_on {n : Nat} {left : Nat → Nat → Int} {held fin : Nat → Int} {rank : Nat → Nat} (l0 : ∀ i j, i < n → j < n → 0 ≤ left i j) (f0 : ∀ i, i < n → 0 ≤ fin i) (hh : ∀ i, i < n → held i = fin i + sm n (fun j => left i j) - sm n fun j => left j i)
    (on : ∀ h, h < n → 0 < sm n (fun j => left h j) → 0 < fin h ∨ ∃ l, l < n ∧ 0 < left h l ∧ rank l < rank h) {h : Nat} (hn : h < n) (hp : 0 < sm n fun j => left h j) : ∃ g, g < n ∧ 0 < sm n (fun j => left g j) ∧ 0 < held g := by
  apply Classical.byContradiction
  intro no
  have low : ∀ g, g < n → 0 < sm n (fun j => left g j) → held g ≤ 0 := fun g hg hs => by
    by_cases z : 0 < held g
    · exact (no ⟨g, hg, hs, z⟩).elim
    · omega
  have o0 : ∀ i, i < n → 0 ≤ sm n fun j => left i j := fun i hi => sm_nn fun j hj => l0 i j hi hj
  have i0 : ∀ i, i < n → 0 ≤ sm n fun j => left j i := fun i hi => sm_nn fun j hj => l0 j i hj hi
  have zero : ∀ i, i < n → (if 0 < sm n (fun j => left i j) then fin i else sm n fun j => left j i) = 0 := by
    refine sm_zero (f := fun i => if 0 < sm n (fun j => left i j) then fin i else sm n fun j => left j i) (fun i hi => ?_) ?_
    · split
      · exact f0 i hi
      · exact i0 i hi
    · have le := sm_le (n := n) (f := fun i => if 0 < sm n (fun j => left i j) then fin i else sm n fun j => left j i) (g := fun i => sm n (fun j => left j i) - sm n fun j => left i j) fun i hi => by
        split
        · rename_i z
          have h1 := low i hi z
          rw [hh i hi] at h1
          omega
        · have := o0 i hi
          omega
      rw [sm_sub] at le
      have sw := sm_swap (a := left) (n := n) (m := n)
      omega
  obtain ⟨g, ⟨gn, gp⟩, gl⟩ := least_rank (p := fun g => g < n ∧ 0 < sm n fun j => left g j) rank (rank h) h (Nat.le_refl _) ⟨hn, hp⟩
  have fg := zero g gn
  rw [if_pos gp] at fg
  rcases on g gn gp with z | ⟨l, ln, lp, lr⟩
  · omega
  · have il : 0 < sm n fun j => left j l := by
      have := sm_term (f := fun j => left j l) (n := n) (fun j hj => l0 j l hj ln) g gn
      omega
    have ll : 0 < sm n fun j => left l j := by
      by_cases z : 0 < sm n fun j => left l j
      · exact z
      · have := zero l ln
        rw [if_neg z] at this
        omega
    have := gl l ⟨ln, ll⟩
    omega
open Classical in
/-- houses out of a set that holds all with something at the end, and all that lend into it: nobody there makes anything, nothing comes from the set -/
theorem out_of {n : Nat} {a : Nat → Nat → Int} {mk fin : Nat → Int} {K : Nat → Prop} (a0 : ∀ i j, i < n → j < n → 0 ≤ a i j) (m0 : ∀ i, i < n → 0 ≤ mk i) (hf : ∀ i, i < n → fin i = mk i + sm n (fun j => a j i) - sm n fun j => a i j) (f0 : ∀ i, i < n → 0 ≤ fin i)
    (k1 : ∀ i, i < n → 0 < fin i → K i) (k2 : ∀ i j, i < n → j < n → K j → 0 < a i j → K i) {h : Nat} (hn : h < n) (nk : ¬ K h) : mk h = 0 ∧ ∀ i, i < n → K i → a i h = 0 := by
  let c : Nat → Nat → Int := fun i j => if K i ∨ K j then 0 else a i j
  let u : Nat → Int := fun h => if K h then 0 else mk h + sm n fun j => if K j then a j h else 0
  have p0 : ∀ h, h < n → 0 ≤ sm n fun j => if K j then a j h else 0 := fun h hn => sm_nn fun j hj => by
    split
    · exact a0 j h hj hn
    · exact Int.le_refl _
  have u0 : ∀ h, h < n → 0 ≤ u h := fun h hn => by
    show 0 ≤ if K h then (0 : Int) else _
    split
    · exact Int.le_refl _
    · have := m0 h hn
      have := p0 h hn
      omega
  have ue : ∀ h, h < n → u h = sm n (fun j => c h j) - sm n fun j => c j h := fun h hn => by
    by_cases z : K h
    · have e1 : sm n (fun j => c h j) = sm n fun _ => 0 := sm_congr fun j _ => if_pos (.inl z)
      have e2 : sm n (fun j => c j h) = sm n fun _ => 0 := sm_congr fun j _ => if_pos (.inr z)
      rw [e1, e2, sm_const0]
      exact if_pos z
    · have e0 : u h = mk h + sm n fun j => if K j then a j h else 0 := if_neg z
      have fz : fin h = 0 := by
        have := f0 h hn
        by_cases y : 0 < fin h
        · exact (z (k1 h hn y)).elim
        · omega
      have e1 : sm n (fun j => c h j) = sm n fun j => a h j := sm_congr fun j hj => by
        show (if K h ∨ K j then (0 : Int) else a h j) = a h j
        by_cases y : K j
        · have := a0 h j hn hj
          rw [if_pos (.inr y)]
          by_cases q : 0 < a h j
          · exact (z (k2 h j hn hj y q)).elim
          · omega
        · rw [if_neg (fun w => w.elim z y)]
      have e2 : sm n (fun j => a j h) = sm n (fun j => if K j then a j h else 0) + sm n fun j => c j h := by
        rw [← sm_add]
        refine sm_congr fun j hj => ?_
        show a j h = (if K j then a j h else 0) + (if K j ∨ K h then (0 : Int) else a j h)
        by_cases y : K j
        · rw [if_pos y, if_pos (.inl y), Int.add_zero]
        · rw [if_neg y, if_neg (fun w => w.elim y z), Int.zero_add]
      have e3 := hf h hn
      omega
  have us : sm n u ≤ 0 := by
    have e1 : sm n u = sm n fun h => sm n (fun j => c h j) - sm n fun j => c j h := sm_congr ue
    rw [e1, sm_sub, sm_swap (a := c)]
    omega
  have uz := sm_zero u0 us h hn
  have e0 : u h = mk h + sm n fun j => if K j then a j h else 0 := if_neg nk
  have h1 := m0 h hn
  have h2 := p0 h hn
  refine ⟨by omega, fun i hi ki => ?_⟩
  have := sm_term (f := fun j => if K j then a j h else 0) (n := n) (fun j hj => by
    split
    · exact a0 j h hj hn
    · exact Int.le_refl _) i hi
  rw [if_pos ki] at this
  have := a0 i h hi hn
  omega
/-- one term changed -/
theorem sm_upd {f : Nat → Int} {j : Nat} {v : Int} : ∀ {n : Nat}, j < n → sm n (fun k => if k = j then v else f k) = sm n f - f j + v
  | 0, h => by omega
  | n + 1, h => by
    show sm n (fun k => if k = j then v else f k) + (if n = j then v else f n) = sm n f + f n - f j + v
    by_cases z : n = j
    · subst z
      rw [if_pos rfl]
      have : sm n (fun k => if k = n then v else f k) = sm n f := sm_congr fun i hi => if_neg (by omega)
      omega
    · rw [if_neg z]
      have := sm_upd (f := f) (v := v) (n := n) (j := j) (by omega)
      omega
/-- one right lent from i to j -/
def lendL (left : Nat → Nat → Int) (i j : Nat) : Nat → Nat → Int := fun x y => if x = i then (if y = j then left i j - 1 else left i y) else left x y
def lendH (held : Nat → Int) (i j : Nat) : Nat → Int := fun x => if x = j then held j + 1 else if x = i then held i - 1 else held x
section
variable {n i j : Nat} {left : Nat → Nat → Int} {held fin : Nat → Int}
theorem lend_row (hj : j < n) : ∀ x, sm n (fun y => lendL left i j x y) = if x = i then sm n (fun y => left i y) - 1 else sm n fun y => left x y := fun x => by
  by_cases z : x = i
  · rw [if_pos z]
    have e : sm n (fun y => lendL left i j x y) = sm n fun y => if y = j then left i j - 1 else left i y := sm_congr fun y _ => by
      show (if x = i then _ else _) = _
      rw [if_pos z]
    rw [e, sm_upd (f := fun y => left i y) hj]
    omega
  · rw [if_neg z]
    exact sm_congr fun y _ => if_neg z
theorem lend_col (hi : i < n) : ∀ y, sm n (fun x => lendL left i j x y) = if y = j then sm n (fun x => left x j) - 1 else sm n fun x => left x y := fun y => by
  by_cases z : y = j
  · rw [if_pos z]
    have e : sm n (fun x => lendL left i j x y) = sm n fun x => if x = i then left i j - 1 else left x j := sm_congr fun x _ => by
      show (if x = i then (if y = j then _ else _) else _) = _
      rw [if_pos z, z]
    rw [e, sm_upd (f := fun x => left x j) hi]
    omega
  · rw [if_neg z]
    refine sm_congr fun x _ => ?_
    show (if x = i then (if y = j then _ else left i y) else left x y) = left x y
    by_cases q : x = i
    · rw [if_pos q, if_neg z, q]
    · rw [if_neg q]
/-- what each house holds is what it has at the end and lends, less what it is lent -/
theorem lend_held (hi : i < n) (hj : j < n) (ne : i ≠ j) (hh : ∀ x, x < n → held x = fin x + sm n (fun y => left x y) - sm n fun y => left y x) : ∀ x, x < n → lendH held i j x = fin x + sm n (fun y => lendL left i j x y) - sm n fun y => lendL left i j y x := fun x hx => by
  have h1 := hh x hx
  have h2 := hh i hi
  have h3 := hh j hj
  rw [lend_row hj, lend_col hi]
  unfold lendH
  by_cases z : x = j
  · rw [if_pos z, if_pos z, if_neg (by omega), z]
    omega
  · rw [if_neg z, if_neg z]
    by_cases q : x = i
    · rw [if_pos q, if_pos q, q]
      omega
    · rw [if_neg q, if_neg q]
      exact h1
/-- one less is left -/
theorem lend_sum (hi : i < n) (hj : j < n) : sm n (fun x => sm n fun y => lendL left i j x y) = sm n (fun x => sm n fun y => left x y) - 1 := by
  have e : sm n (fun x => sm n fun y => lendL left i j x y) = sm n fun x => if x = i then sm n (fun y => left i y) - 1 else sm n fun y => left x y := sm_congr fun x _ => lend_row hj x
  rw [e, sm_upd (f := fun x => sm n fun y => left x y) hi]
  omega
end
/-- how far the lendings have come: m of many are told -/
structure LendP (n : Nat) (t0 : Nat → Nat → Int) (ow : Nat → Option Nat) (fin : Nat → Int) (many : Int) (left : Nat → Nat → Int) (held : Nat → Int) (m : Nat) : Prop where
  l0 : ∀ i j, i < n → j < n → 0 ≤ left i j
  le : ∀ i j, i < n → j < n → left i j ≤ t0 i j
  dg : ∀ i, i < n → left i i = 0
  h0 : ∀ i, i < n → 0 ≤ held i
  hh : ∀ x, x < n → held x = fin x + sm n (fun y => left x y) - sm n fun y => left y x
  last : ∀ i l, i < n → ow i = some l → left i l = t0 i l ∨ ∀ j, j < n → j ≠ l → left i j = 0
  cnt : (m : Int) + sm n (fun x => sm n fun y => left x y) = many
section
variable {n m i j : Nat} {t0 left : Nat → Nat → Int} {ow : Nat → Option Nat} {held fin : Nat → Int} {many : Int}
theorem LendP.step (P : LendP n t0 ow fin many left held m) (hi : i < n) (hj : j < n) (lp : 0 < left i j) (hp : 0 < held i) (nx : ow i = some j → ∀ k, k < n → k ≠ j → ¬ 0 < left i k) : LendP n t0 ow fin many (lendL left i j) (lendH held i j) (m + 1) := by
  have ne : i ≠ j := fun e => by
    have := P.dg i hi
    rw [← e] at lp
    omega
  have eL : ∀ x y, lendL left i j x y = if x = i then (if y = j then left i j - 1 else left i y) else left x y := fun _ _ => rfl
  refine ⟨fun x y hx hy => ?_, fun x y hx hy => ?_, fun x hx => ?_, fun x hx => ?_, lend_held hi hj ne P.hh, fun x l hx e => ?_, ?_⟩
  · have := P.l0 x y hx hy
    have := P.l0 i y hi hy
    rw [eL]
    split
    · split <;> omega
    · omega
  · have := P.le x y hx hy
    rw [eL]
    split
    · rename_i q
      rw [q] at this ⊢
      split
      · rename_i r
        rw [r] at this ⊢
        omega
      · exact this
    · exact this
  · have := P.dg x hx
    rw [eL]
    split
    · rename_i q
      rw [q] at this ⊢
      rw [if_neg ne]
      exact this
    · exact this
  · have := P.h0 x hx
    have := P.h0 j hj
    unfold lendH
    split
    · omega
    · split <;> omega
  · rw [eL]
    by_cases q : x = i
    · rw [if_pos q]
      rw [q] at e
      by_cases r : l = j
      · right
        intro k hk nk
        rw [eL, if_pos q, if_neg (by omega)]
        have h1 := nx (by rw [e, r]) k hk (by omega)
        have h2 := P.l0 i k hi hk
        omega
      · rw [if_neg r, q]
        left
        rcases P.last i l hi e with h | h
        · exact h
        · have := h j hj (by omega)
          omega
    · rw [if_neg q]
      rcases P.last x l hx e with h | h
      · exact .inl h
      · right
        intro k hk nk
        rw [eL, if_neg q]
        exact h k hk nk
  · have := P.cnt
    rw [lend_sum hi hj]
    omega
/-- while something is left, a house that has to lend holds something -/
theorem LendP.go {rank : Nat → Nat} (P : LendP n t0 ow fin many left held m) (f0 : ∀ i, i < n → 0 ≤ fin i) (on : ∀ h, h < n → 0 < sm n (fun j => t0 h j) → 0 < fin h ∨ ∃ l, ow h = some l ∧ l < n ∧ 0 < t0 h l ∧ rank l < rank h) (lt : (m : Int) < many) : ∃ g, g < n ∧ 0 < sm n (fun j => left g j) ∧ 0 < held g := by
  have c := P.cnt
  obtain ⟨x, hx, px⟩ := sm_pos (f := fun x => sm n fun y => left x y) (n := n) (by omega)
  refine lend_on (rank := rank) P.l0 f0 P.hh (fun h hh hs => ?_) hx px
  have hb : 0 < sm n fun j => t0 h j := by
    have := sm_le (n := n) (f := fun j => left h j) (g := fun j => t0 h j) fun j hj => P.le h j hh hj
    omega
  rcases on h hh hb with z | ⟨l, e, hl, tl, rl⟩
  · exact .inl z
  · refine .inr ⟨l, hl, ?_, rl⟩
    rcases P.last h l hh e with q | q
    · rw [q]; exact tl
    · obtain ⟨k, hk, pk⟩ := sm_pos hs
      by_cases y : k = l
      · rw [← y]; exact pk
      · have := q k hk y
        omega
end
/-! of a table -/
theorem sum_map_sm {g : List Int → Int} : ∀ t : List (List Int), (t.map g).sum = sm t.length fun i => g ((t[i]?).getD [])
  | [] => rfl
  | a :: r => by
    have ih := sum_map_sm (g := g) r
    have e : ∀ n, sm (n + 1) (fun i => g (((a :: r)[i]?).getD [])) = g a + sm n fun i => g ((r[i]?).getD []) := fun n => by
      induction n with
      | zero => show (0 : Int) + g a = g a + 0; omega
      | succ n ihn =>
        have e1 : sm (n + 1 + 1) (fun i => g (((a :: r)[i]?).getD [])) = sm (n + 1) (fun i => g (((a :: r)[i]?).getD [])) + g ((r[n]?).getD []) := rfl
        have e2 : sm (n + 1) (fun i => g ((r[i]?).getD [])) = sm n (fun i => g ((r[i]?).getD [])) + g ((r[n]?).getD []) := rfl
        omega
    rw [List.map_cons, List.sum_cons, ih, List.length_cons, e]
theorem sum_take_sm {l : List Int} : ∀ {n : Nat}, n ≤ l.length → (l.take n).sum = sm n fun i => cellA l i
  | 0, _ => by simp [sm]
  | n + 1, h => by
    have ih := sum_take_sm (l := l) (n := n) (by omega)
    have e : l.take (n + 1) = l.take n ++ [l[n]] := by simp
    rw [e, List.sum_append, ih]
    show sm n (fun i => cellA l i) + ([l[n]] : List Int).sum = sm n (fun i => cellA l i) + cellA l n
    rw [cellA_nat (by omega)]
    simp
theorem rights_sm {n : Nat} {t : List (List Int)} (T : Tab n t) {h : Nat} (hn : h < n) : rightsI t h + cel t h n = cel t h h + (sm n (fun x => cel t x h) - cel t h h) - (sm n (fun y => cel t h y) - cel t h h) := by
  have l := T.len
  have r := T.row hn
  have e1 : (t.map fun r => cellA r (h : Int)).sum = sm n fun x => cel t x h := by
    rw [sum_map_sm, l]
    rfl
  have e2 : ((rowA t h).take n).sum = sm n fun y => cel t h y := sum_take_sm (by omega)
  unfold rightsI lentToI lentByI
  rw [l, e1, e2]
  have e3 : cellA (rowA t h) h = cel t h h := rfl
  have e4 : cellA (rowA t h) (n : Nat) = cel t h n := rfl
  omega
end Gx

namespace Gx
open PySem L2
theorem Upd.mono {h h' : Hs} {ms ks : List Nat} (u : Upd h h' ms) (s : ∀ m ∈ ms, m ∈ ks) : Upd h h' ks := ⟨u.len, fun k hk => u.out k fun z => hk (s k z)⟩
/-! values that are something, by a tape -/
theorem lcL_ex {α β : Type} {f : α → D} {g : β → D} {ft : D → SD → Option SD} {fb fe : SD → Hs → R D} {s : SD} (I : Nat → Hs → Prop) (Q : β → Prop) (N : Nat) : ∀ (l : List α) (i : Nat) (h : Hs), i + l.length ≤ N → I i h → (∀ a ∈ l, ∀ i h, i < N → I i h → ∃ y h', lcT ft fb fe s (f a) h = .ok (some (g y)) h' ∧ Q y ∧ I (i + 1) h') →
    ∃ (ys : List β) (h' : Hs), lcL (fun _ => True) ft fb fe s (l.map f) h = .ok (ys.map g) h' ∧ ys.length = l.length ∧ (∀ y ∈ ys, Q y) ∧ I (i + l.length) h'
  | [], i, h, _, j, _ => ⟨[], h, by rw [List.map_nil, lcL, if_pos trivial]; rfl, rfl, fun a m => (by cases m), j⟩
  | a :: r, i, h, hN, j, k => by
    rw [List.length_cons] at hN
    obtain ⟨y, h1, e, q, j1⟩ := k a List.mem_cons_self i h (by omega) j
    obtain ⟨ys, h2, e2, l2, qa, j2⟩ := lcL_ex I Q N r (i + 1) h1 (by omega) j1 fun a' m => k a' (List.mem_cons_of_mem _ m)
    refine ⟨y :: ys, h2, ?_, by simp [l2], fun b m => ?_, by rw [List.length_cons, show i + (r.length + 1) = i + 1 + r.length by omega]; exact j2⟩
    · rw [List.map_cons, lcL_cons trivial e, e2]
      simp
    · rcases List.mem_cons.mp m with z | z
      · rw [z]; exact q
      · exact qa b z
theorem lcO_ex {α β : Type} {m : Bool} {f : α → D} {g : β → D} {ft : D → SD → Option SD} {fb fe : SD → Hs → R D} {vs : List Nat} {s : SD} (I : Nat → Hs → Prop) (Q : β → Prop) (l : List α) (h : Hs) (hl : l.length ≤ 16777216) (i0 : I 0 h) (k : ∀ a ∈ l, ∀ i h, i < l.length → I i h → ∃ y h', lcT ft fb fe (wipeS s vs) (f a) h = .ok (some (g y)) h' ∧ Q y ∧ I (i + 1) h') :
    ∃ (ys : List β) (h' : Hs), lcO m ft fb fe vs s (src0 (l.map f)) h = newL m (ys.map g) h' ∧ ys.length = l.length ∧ (∀ y ∈ ys, Q y) ∧ I l.length h' := by
  obtain ⟨ys, h', e, ly, qa, j⟩ := lcL_ex I Q l.length l 0 h (by omega) i0 k
  refine ⟨ys, h', ?_, ly, qa, by rw [Nat.zero_add] at j; exact j⟩
  unfold lcO
  simp only [src0_ds, src0_c]
  rw [if_pos (by rw [List.length_map]; exact hl), e, bind_ok]
theorem forL_may {α γ : Type} {f : α → D} {turn : D → SD → Hs → O} {h : Hs} (st : γ → SD) (P : D → Prop) : ∀ (l : List α) (c : γ), (∀ c a, a ∈ l → (∃ c', turn (f a) (st c) h = .nx (st c') h) ∨ ∃ v, P v ∧ turn (f a) (st c) h = .rt v h) → (∃ c', forL turn (l.map f) (st c) h = .nx (st c') h) ∨ ∃ v, P v ∧ forL turn (l.map f) (st c) h = .rt v h
  | [], c, _ => .inl ⟨c, forL_nil⟩
  | a :: r, c, k => by
    rcases k c a List.mem_cons_self with ⟨c', e⟩ | ⟨v, p, e⟩
    · rw [List.map_cons, forL_nx e]
      exact forL_may st P r c' fun c a m => k c a (List.mem_cons_of_mem _ m)
    · exact .inr ⟨v, p, by rw [List.map_cons, forL_rt e]⟩
end Gx

namespace Gx
open PySem L2
/-! ### is_whole_one -/
def N_is_whole_one : List Str := ["thing"]
def b_is_whole_one : List S :=
  [.ret (.and (.isi "int" (.var 0)) (.not (.isi "bool" (.var 0))))]
def n_is_whole_one : Nat := 0
noncomputable def gam_is_whole_one : Mir := mirA []
noncomputable def f_is_whole_one : List D → Hs → R D := runF gam_is_whole_one false n_is_whole_one 1 1 b_is_whole_one
theorem r_is_whole_one {ds : List D} {h : Hs} (e : ds.length = 1) : f_is_whole_one ds h = fin false h (S.evs gam_is_whole_one n_is_whole_one b_is_whole_one (ds.map some ++ List.replicate 0 none) h) := runF_eq e
theorem whole_one_int {i : Int} {h : Hs} : f_is_whole_one [.int i] h = .ok (.bl true) h := by
  rw [r_is_whole_one rfl]
  simp [b_is_whole_one, isi_int_int, isi_bool_int, back_nr]
/-! ### are_rising_houses -/
def N_are_rising_houses : List Str := ["n", "thing", "k", "house"]
def b_are_rising_houses : List S :=
  [.iff (.or (.not (.isi "tuple" (.var 1))) (.not (.bi .all [.lc false 0 [.var 1] false [3] [] (.and (.call 186 [.var 3]) (.ch .le .lt (.int 0) (.var 3) (.var 0))) [3]]))) [.ret (.bl false)] [],
   .ret (.bi .all [.lc false 1 [.op .sub (.bi .len [.var 1]) (.int 1)] false [2] [] (.op .lt (.ix (.var 1) (.var 2)) (.ix (.var 1) (.op .add (.var 2) (.int 1)))) [2]])]
def n_are_rising_houses : Nat := 0
noncomputable def gam_are_rising_houses : Mir := mirA [(186, 1, f_is_whole_one)]
noncomputable def f_are_rising_houses : List D → Hs → R D := runF gam_are_rising_houses false n_are_rising_houses 4 2 b_are_rising_houses
theorem k_are_rising_houses_is_whole_one {ds : List D} {h : Hs} : callR gam_are_rising_houses 186 ds h = if ds.length = 1 then f_is_whole_one ds h else .stk := callR_at rfl
theorem r_are_rising_houses {ds : List D} {h : Hs} (e : ds.length = 2) : f_are_rising_houses ds h = fin false h (S.evs gam_are_rising_houses n_are_rising_houses b_are_rising_houses (ds.map some ++ List.replicate 2 none) h) := runF_eq e
/-! plain things -/
def plD : D → Bool
  | .non => true
  | .bl _ => true
  | .int _ => true
  | .str _ => true
  | .tup _ => true
  | .vl _ => true
  | .vd _ _ => true
  | .sl _ => true
  | _ => false
def isT : D → Bool
  | .tup _ => true
  | _ => false
def isI : D → Bool
  | .int _ => true
  | _ => false
def isBo : D → Bool
  | .bl _ => true
  | _ => false
theorem isi_plT {d : D} (e : plD d = true) {h : Hs} : isiG "tuple" d h = .ok (.bl (isT d)) h := by
  cases d <;> first | (cases e; done) | exact isi_of (b := false) rfl (by decide +kernel) | exact isi_of (b := true) rfl (by decide +kernel)
theorem isi_plI {d : D} (e : plD d = true) {h : Hs} : isiG "int" d h = .ok (.bl (isI d || isBo d)) h := by
  cases d <;> first | (cases e; done) | exact isi_of (b := false) rfl (by decide +kernel) | exact isi_of (b := true) rfl (by decide +kernel)
theorem isi_plB {d : D} (e : plD d = true) {h : Hs} : isiG "bool" d h = .ok (.bl (isBo d)) h := by
  cases d <;> first | (cases e; done) | exact isi_of (b := false) rfl (by decide +kernel) | exact isi_of (b := true) rfl (by decide +kernel)
theorem whole_one_pl {d : D} (e : plD d = true) {h : Hs} : f_is_whole_one [d] h = .ok (.bl (isI d)) h := by
  have i1 := isi_plI e (h := h)
  have i2 := isi_plB e (h := h)
  rw [r_is_whole_one rfl]
  cases d <;> first | (cases e; done) | (simp [isI, isBo] at i1 i2; simp [b_is_whole_one, i1, i2, isI, back_nr])
theorem src0_id {l : List D} : src0 l = src0 (l.map id) := by simp
/-- a house below n -/
def intIn (n : Int) : D → Bool
  | .int i => decide (0 ≤ i) && decide (i < n)
  | _ => false
/-- whole numbers, each less than the next -/
def riseB (a : List Int) : Bool := (List.range (a.length - 1)).all fun k => decide (a.getD k 0 < a.getD (k + 1) 0)
def risD (l : List D) : Bool := match intsOf l with
  | some a => riseB a
  | none => false
def rhB (n : Int) : D → Bool
  | .tup l => l.all (intIn n) && risD l
  | _ => false
theorem riseB_iff : ∀ {a : List Int}, riseB a = true ↔ a.Pairwise (· < ·) := fun {a} => by
  unfold riseB
  rw [List.all_eq_true]
  refine ⟨fun h => ?_, fun h k hk => ?_⟩
  · have st : ∀ k, k + 1 < a.length → a.getD k 0 < a.getD (k + 1) 0 := fun k hk => of_decide_eq_true (h k (List.mem_range.mpr (by omega)))
    rw [List.pairwise_iff_getElem]
    intro i j hi hj ij
    have go : ∀ d, i + d + 1 < a.length → a.getD i 0 < a.getD (i + d + 1) 0 := fun d => by
      induction d with
      | zero =>
        intro hd
        exact st i hd
      | succ d ih =>
        intro hd
        have h1 := ih (by omega)
        have h2 := st (i + d + 1) (by omega)
        rw [show i + (d + 1) + 1 = i + d + 1 + 1 by omega]
        omega
    have g := go (j - i - 1) (by omega)
    rw [show i + (j - i - 1) + 1 = j by omega] at g
    simpa [List.getD_eq_getElem?_getD, List.getElem?_eq_getElem hi, List.getElem?_eq_getElem hj] using g
  · have hk := List.mem_range.mp hk
    have h1 : k < a.length := by omega
    have h2 : k + 1 < a.length := by omega
    have := List.pairwise_iff_getElem.mp h k (k + 1) h1 h2 (by omega)
    simpa [List.getD_eq_getElem?_getD, List.getElem?_eq_getElem h1, List.getElem?_eq_getElem h2] using this
theorem ints_in {n : Int} : ∀ {l : List D}, l.all (intIn n) = true → ∃ a : List Int, l = a.map .int ∧ ∀ i ∈ a, 0 ≤ i ∧ i < n
  | [], _ => ⟨[], rfl, fun i hi => (by cases hi)⟩
  | d :: r, h => by
    rw [List.all_cons, Bool.and_eq_true] at h
    obtain ⟨a, rfl, ha⟩ := ints_in h.2
    cases d with
    | int i =>
      have h1 := h.1
      simp only [intIn, Bool.and_eq_true, decide_eq_true_eq] at h1
      exact ⟨i :: a, rfl, fun j hj => (List.mem_cons.mp hj).elim (fun z => by rw [z]; exact h1) (ha j)⟩
    | _ => cases h.1
theorem rising_pl {d : D} {n : Int} {h : Hs} (pd : plD d = true) (q : ∀ l, d = .tup l → l.length ≤ 5000 ∧ ∀ x ∈ l, plD x = true) : f_are_rising_houses [.int n, d] h = .ok (.bl (rhB n d)) h := by
  have it := isi_plT pd (h := h)
  rw [r_are_rising_houses rfl]
  cases d with
  | tup l =>
    obtain ⟨hl, hp⟩ := q l rfl
    simp [isT] at it
    have e := gAll_map (h := h) (p := intIn n) (l := l)
    have L := lcM (m := false) (f := id) (ft := tgF false [3]) (fb := E.evT gam_are_rising_houses []) (fe := E.ev gam_are_rising_houses (.and (.call 186 [.var 3]) (.ch .le .lt (.int 0) (.var 3) (.var 0)))) (vs := [3]) (s := [some (.int n), some (.tup l), none, none]) (h := h) (fun d => D.bl (intIn n d)) l (by omega) ?_
    · rw [← src0_id, newL_f] at L
      by_cases z : l.all (intIn n) = true
      · obtain ⟨a, rfl, ha⟩ := ints_in z
        rw [z] at e
        rw [List.length_map] at hl
        obtain ⟨m, em⟩ : ∃ m : Nat, m = a.length - 1 := ⟨_, rfl⟩
        have rg : rngO1 [.int ((a.length : Int) - 1)] h = .ok (src0 ((List.range m).map fun (i : Nat) => .int i)) h := by
          have := rng1 (h := h) (j := (a.length : Int) - 1) (by omega) (by omega)
          rw [show ((a.length : Int) - 1).toNat = m by omega] at this
          exact this
        have L2 := lcM (m := false) (f := fun (i : Nat) => D.int i) (ft := tgF false [2]) (fb := E.evT gam_are_rising_houses []) (fe := E.ev gam_are_rising_houses (.op .lt (.ix (.var 1) (.var 2)) (.ix (.var 1) (.op .add (.var 2) (.int 1))))) (vs := [2]) (s := [some (.int n), some (.tup (a.map .int)), none, none]) (h := h) (fun (k : Nat) => D.bl (decide (a.getD k 0 < a.getD (k + 1) 0))) (List.range m) (by simp; omega) ?_
        · rw [newL_f] at L2
          have e2 := gAll_map (h := h) (p := fun (k : Nat) => decide (a.getD k 0 < a.getD (k + 1) 0)) (l := List.range m)
          have er : ((List.range m).all fun (k : Nat) => decide (a.getD k 0 < a.getD (k + 1) 0)) = rhB n (.tup (a.map .int)) := by
            simp only [rhB, risD]
            rw [z, intsOf_map, Bool.true_and, em]
            rfl
          rw [er] at e2
          generalize (List.range m).map (fun (k : Nat) => D.bl (decide (a.getD k 0 < a.getD (k + 1) 0))) = BL at *
          generalize (a.map D.int).map (fun d => D.bl (intIn n d)) = AL at *
          simp (disch := first | (simp; done) | omega) [b_are_rising_houses, it]
          rw [L]
          simp (disch := first | (simp; done) | omega) [e, rg]
          rw [L2]
          simp [e2, back_nr]
        · intro k hk
          have hk := List.mem_range.mp hk
          have l1 : k < a.length := by omega
          have l2 : k + 1 < a.length := by omega
          have g1 : ∀ h, gIx h (.tup (a.map .int)) (.int (k : Int)) = some (.int (a.getD k 0)) := fun h => by
            rw [gIx_tup, atI_map (by omega) (by omega)]
            simp [List.getD_eq_getElem?_getD, List.getElem?_eq_getElem l1]
          have g2 : ∀ h, gIx h (.tup (a.map .int)) (.int ((k : Int) + 1)) = some (.int (a.getD (k + 1) 0)) := fun h => by
            rw [gIx_tup, atI_map (by omega) (by omega)]
            simp [show ((k : Int) + 1).toNat = k + 1 by omega, List.getD_eq_getElem?_getD, List.getElem?_eq_getElem l2]
          simp [lcT, g1, g2]
      · have z := Bool.eq_false_iff.mpr z
        rw [z] at e
        have er : rhB n (.tup l) = false := by simp only [rhB]; rw [z]; rfl
        simp (disch := first | (simp; done) | omega) [b_are_rising_houses, it]
        rw [L]
        simp [e, back_nr, er]
    · intro d hd
      have w := whole_one_pl (hp d hd) (h := h)
      cases d with
      | int i =>
        simp [isI] at w
        by_cases y : 0 ≤ i
        · simp [lcT, k_are_rising_houses_is_whole_one, w, e_ch (o := .le) (o' := .lt) rfl rfl, chR, intIn, y]
        · simp [lcT, k_are_rising_houses_is_whole_one, w, e_ch (o := .le) (o' := .lt) rfl rfl, chR, intIn, y]
      | _ => first | (have := hp _ hd; cases this; done) | (simp [isI] at w; simp [lcT, k_are_rising_houses_is_whole_one, w, intIn])
  | _ => first | (cases pd; done) | (simp [isT] at it; simp [b_are_rising_houses, it, rhB, back_nr])
/-! ### is_book -/
def N_is_book : List Str := ["thing", "n", "sets", "k", "one"]
def b_is_book : List S :=
  [.iff (.or (.not (.isi "tuple" (.var 0))) (.or (.op .ne (.bi .len [.var 0]) (.int 2)) (.or (.not (.call 186 [.ix (.var 0) (.int 0)])) (.not (.isi "tuple" (.ix (.var 0) (.int 1))))))) [.ret (.bl false)] [],
   .tset true [1, 2] (.var 0),
   .iff (.or (.not (.ch .le .le (.int 1) (.var 1) (.cst (.int (9))))) (.op .eq (.var 2) (.tup []))) [.ret (.bl false)] [],
   .iff (.not (.bi .all [.lc false 0 [.var 2] false [4] [] (.and (.call 280 [.var 1, .var 4]) (.op .ne (.var 4) (.tup []))) [4]])) [.ret (.bl false)] [],
   .ret (.bi .all [.lc false 1 [.op .sub (.bi .len [.var 2]) (.int 1)] false [3] [] (.op .lt (.ix (.var 2) (.var 3)) (.ix (.var 2) (.op .add (.var 3) (.int 1)))) [3]])]
def n_is_book : Nat := 0
noncomputable def gam_is_book : Mir := mirA [(186, 1, f_is_whole_one), (280, 2, f_are_rising_houses)]
noncomputable def f_is_book : List D → Hs → R D := runF gam_is_book false n_is_book 5 1 b_is_book
theorem k_is_book_is_whole_one {ds : List D} {h : Hs} : callR gam_is_book 186 ds h = if ds.length = 1 then f_is_whole_one ds h else .stk := callR_at rfl
theorem k_is_book_are_rising_houses {ds : List D} {h : Hs} : callR gam_is_book 280 ds h = if ds.length = 2 then f_are_rising_houses ds h else .stk := callR_at rfl
theorem r_is_book {ds : List D} {h : Hs} (e : ds.length = 1) : f_is_book ds h = fin false h (S.evs gam_is_book n_is_book b_is_book (ds.map some ++ List.replicate 4 none) h) := runF_eq e
/-- plain data of depth k at most -/
structure OkK (k : Nat) (d : D) : Prop where
  lay : d.py.canLay0 = true
  dp : d.py.depth ≤ k
  nr : d.nr = true
theorem OkK.mono {k m : Nat} {d : D} (o : OkK k d) (h : k ≤ m) : OkK m d := ⟨o.lay, Nat.le_trans o.dp h, o.nr⟩
theorem okK_all {k : Nat} : ∀ {l : List D}, (∀ x ∈ l, OkK k x) → PyData.canLayAll0 (l.map D.py) = true ∧ PyData.depthAll (l.map D.py) ≤ k
  | [], _ => ⟨rfl, Nat.zero_le _⟩
  | d :: r, h => by
    have h1 := h d List.mem_cons_self
    obtain ⟨h2, h3⟩ := okK_all fun x hx => h x (List.mem_cons_of_mem _ hx)
    have h4 := h1.dp
    simp only [List.map_cons, PyData.canLayAll0, PyData.depthAll, h1.lay, h2, Bool.and_self, true_and]
    omega
theorem okK_tup {k : Nat} {l : List D} (h : ∀ x ∈ l, OkK k x) : OkK (k + 1) (.tup l) := by
  obtain ⟨h2, h3⟩ := okK_all h
  refine ⟨by simp only [D.py, pyL_map, PyData.canLay0]; exact h2, ?_, ?_⟩
  · simp only [D.py, pyL_map, PyData.depth]
    omega
  · simp only [D.nr]
    rw [nrL_all, List.all_eq_true]
    exact fun x hx => (h x hx).nr
theorem okK_vl {k : Nat} {l : List D} (h : ∀ x ∈ l, OkK k x) : OkK (k + 1) (.vl l) := by
  obtain ⟨h2, h3⟩ := okK_all h
  refine ⟨by simp only [D.py, pyL_map, PyData.canLay0]; exact h2, ?_, ?_⟩
  · simp only [D.py, pyL_map, PyData.depth]
    omega
  · simp only [D.nr]
    rw [nrL_all, List.all_eq_true]
    exact fun x hx => (h x hx).nr
theorem OkK.shp {k : Nat} {d : D} (o : OkK k d) (h : k ≤ 60) : shp d = true := by
  have h1 := o.lay
  have h2 := o.dp
  unfold Gx.shp SeqAt.shaped
  rw [h1]
  simp
  omega
theorem layAll_mem : ∀ {l : List D}, PyData.canLayAll0 (l.map D.py) = true → ∀ x ∈ l, x.py.canLay0 = true
  | [], _, x, hx => by cases hx
  | d :: r, h, x, hx => by
    simp only [List.map_cons, PyData.canLayAll0, Bool.and_eq_true] at h
    rcases List.mem_cons.mp hx with z | z
    · rw [z]; exact h.1
    · exact layAll_mem h.2 x z
theorem dpAll_mem : ∀ {l : List D} {x : D}, x ∈ l → x.py.depth ≤ PyData.depthAll (l.map D.py)
  | [], x, hx => by cases hx
  | d :: r, x, hx => by
    simp only [List.map_cons, PyData.depthAll]
    rcases List.mem_cons.mp hx with z | z
    · rw [z]; omega
    · have := dpAll_mem z
      omega
theorem OkK.mem {k : Nat} {l : List D} (o : OkK k (.tup l)) {x : D} (hx : x ∈ l) : OkK k x := by
  have h1 := o.lay
  have h2 := o.dp
  have h3 := o.nr
  simp only [D.py, pyL_map, PyData.canLay0, PyData.depth] at h1 h2
  simp only [D.nr] at h3
  rw [nrL_all, List.all_eq_true] at h3
  have := dpAll_mem hx
  exact ⟨layAll_mem h1 x hx, by omega, h3 x hx⟩
theorem OkK.pl {k : Nat} {d : D} (o : OkK k d) : plD d = true := by
  cases d with
  | ref n => have := o.nr; simp only [D.nr] at this; cases this
  | exc c p => have := o.lay; simp only [D.py, PyData.canLay0] at this; cases this
  | _ => rfl
def neT : D → Bool
  | .tup [] => false
  | _ => true
theorem shp_nil : shp (.tup []) = true := by decide +kernel
theorem eqT_core {k : Nat} {d : D} {h : Hs} (o : OkK k d) (hk : k ≤ 60) : dicP h d (.tup []) = none ∧ rsv h d = d ∧ rsv h (.tup []) = .tup [] ∧ shp d = true ∧ eqD d (.tup []) = !neT d := by
  refine ⟨?_, rsv_nr o.nr, rsv_nr (by simp), o.shp hk, ?_⟩
  · unfold dicP
    cases dicU h d <;> rfl
  · cases d with
    | tup l =>
      cases l with
      | nil => decide +kernel
      | cons a r => simp [eqD, D.py, pyL, PyData.eqv, PyData.eqvAll, neT]
    | _ => first | rfl | (simp [eqD, D.py, PyData.eqv, neT]; done)
theorem eqT {k : Nat} {d : D} {h : Hs} (o : OkK k d) (hk : k ≤ 60) : gEq h d (.tup []) = some (.bl (!neT d)) := by
  obtain ⟨a, b, c, e, f⟩ := eqT_core (h := h) o hk
  unfold gEq
  rw [a]
  simp only
  rw [b, c, if_pos ⟨e, shp_nil⟩, f]
theorem neTT {k : Nat} {d : D} {h : Hs} (o : OkK k d) (hk : k ≤ 60) : gNe h d (.tup []) = some (.bl (neT d)) := by
  obtain ⟨a, b, c, e, f⟩ := eqT_core (h := h) o hk
  unfold gNe
  rw [a]
  simp only
  rw [b, c, if_pos ⟨e, shp_nil⟩, f, Bool.not_not]
def lexUp (S : List D) : Bool := match tupsOf S with
  | some L => (List.range (L.length - 1)).all fun k => HT.lexLt (L.getD k []) (L.getD (k + 1) [])
  | none => false
def bkB : D → Bool
  | .tup [.int n, .tup S] => decide (1 ≤ n) && decide (n ≤ 9) && !S.isEmpty && S.all (fun one => rhB n one && neT one) && lexUp S
  | _ => false
theorem tups_in {n : Int} : ∀ {S : List D}, S.all (fun one => rhB n one && neT one) = true → ∃ L : List (List Int), S = L.map tupD
  | [], _ => ⟨[], rfl⟩
  | d :: r, h => by
    rw [List.all_cons, Bool.and_eq_true] at h
    obtain ⟨L, rfl⟩ := tups_in h.2
    have h1 := (Bool.and_eq_true _ _ ▸ h.1 : rhB n d = true ∧ neT d = true).1
    cases d with
    | tup l =>
      unfold rhB at h1
      rw [Bool.and_eq_true] at h1
      obtain ⟨a, rfl, _⟩ := ints_in h1.1
      exact ⟨a :: L, rfl⟩
    | _ => cases h1
theorem book_pl {d : D} {h : Hs} (o : OkK 20 d) (q : ∀ a S, d = .tup [a, .tup S] → S.length ≤ 5000 ∧ ∀ x ∈ S, ∀ m, x = .tup m → m.length ≤ 5000) : f_is_book [d] h = .ok (.bl (bkB d)) h := by
  have it := isi_plT o.pl (h := h)
  rw [r_is_book rfl]
  cases d with
  | tup l =>
    simp [isT] at it
    rcases l with _ | ⟨a, _ | ⟨b, _ | ⟨c, r⟩⟩⟩
    · simp [b_is_book, it, bkB, back_nr]
    · simp [b_is_book, it, bkB, back_nr]
    rotate_left
    · have e : ¬ ((r.length : Int) + 1 + 1 + 1 = 2) := by omega
      simp [b_is_book, it, bkB, back_nr, e]
    have oa : OkK 20 a := o.mem (by simp)
    have ob : OkK 20 b := o.mem (by simp)
    have wa := whole_one_pl oa.pl (h := h)
    have ib := isi_plT ob.pl (h := h)
    have g0 : ∀ h, gIx h (.tup [a, b]) (.int 0) = some a := fun h => rfl
    have g1 : ∀ h, gIx h (.tup [a, b]) (.int 1) = some b := fun h => rfl
    have eb : isI a = false ∨ isT b = false → bkB (.tup [a, b]) = false := fun z => by
      cases a <;> first | rfl | (cases b <;> first | rfl | (rcases z with z | z <;> cases z))
    by_cases za : isI a = true
    rotate_left
    · have za := Bool.eq_false_iff.mpr za
      rw [za] at wa
      simp [b_is_book, it, g0, k_is_book_is_whole_one, wa, back_nr, eb (.inl za)]
    by_cases zb : isT b = true
    rotate_left
    · have zb := Bool.eq_false_iff.mpr zb
      rw [zb] at ib
      rw [za] at wa
      simp [b_is_book, it, g0, g1, k_is_book_is_whole_one, wa, ib, back_nr, eb (.inr zb)]
    cases a with
    | int n =>
      cases b with
      | tup S =>
        obtain ⟨lS, hS⟩ := q _ _ rfl
        simp [isI] at wa
        simp [isT] at ib
        have sS := eqT (h := h) ob (by omega)
        have oS : ∀ x ∈ S, OkK 20 x := fun x hx => ob.mem hx
        have L1 := lcM (m := false) (f := id) (ft := tgF false [4]) (fb := E.evT gam_is_book []) (fe := E.ev gam_is_book (.and (.call 280 [.var 1, .var 4]) (.op .ne (.var 4) (.tup [])))) (vs := [4]) (s := [some (.tup [.int n, .tup S]), some (.int n), some (.tup S), none, none]) (h := h) (fun d => D.bl (rhB n d && neT d)) S (by omega) fun x hx => by
          have rp := rising_pl (n := n) (h := h) (oS x hx).pl fun m em => ⟨hS x hx m em, fun y hy => ((em ▸ oS x hx : OkK 20 (.tup m)).mem hy).pl⟩
          have nt := neTT (h := h) (oS x hx) (by omega)
          by_cases w : rhB n x = true
          · rw [w] at rp
            simp [lcT, k_is_book_are_rising_houses, rp, nt, w]
          · have w := Bool.eq_false_iff.mpr w
            rw [w] at rp
            simp [lcT, k_is_book_are_rising_houses, rp, w]
        rw [← src0_id, newL_f] at L1
        have e1 := gAll_map (h := h) (p := fun d => rhB n d && neT d) (l := S)
        have E1 : ∀ Z, Gx.S.evs gam_is_book n_is_book (b_is_book.take 2 ++ Z) (List.map some [D.tup [D.int n, D.tup S]] ++ List.replicate 4 none) h = Gx.S.evs gam_is_book n_is_book Z [some (.tup [.int n, .tup S]), some (.int n), some (.tup S), none, none] h := fun Z => by
          rw [evs_append]
          have : Gx.S.evs gam_is_book n_is_book (b_is_book.take 2) (List.map some [D.tup [D.int n, D.tup S]] ++ List.replicate 4 none) h = .nx [some (.tup [.int n, .tup S]), some (.int n), some (.tup S), none, none] h := by
            simp [b_is_book, it, g0, g1, k_is_book_is_whole_one, wa, ib, tsetO]
          rw [this, seq_nx]
        rw [show b_is_book = b_is_book.take 2 ++ b_is_book.drop 2 from rfl, E1]
        by_cases n1 : 1 ≤ n
        rotate_left
        · simp [b_is_book, e_ch (o := .le) (o' := .le) rfl rfl, chR, n1, back_nr, bkB]
        by_cases n9 : n ≤ 9
        rotate_left
        · simp [b_is_book, e_ch (o := .le) (o' := .le) rfl rfl, chR, n1, n9, back_nr, bkB]
        by_cases se : S = []
        · subst se
          simp [neT] at sS
          simp [b_is_book, e_ch (o := .le) (o' := .le) rfl rfl, chR, n1, n9, sS, back_nr, bkB]
        have nS : neT (.tup S) = true := by
          cases S with
          | nil => exact absurd rfl se
          | cons => rfl
        rw [nS] at sS
        have ne : S.isEmpty = false := by
          cases S with
          | nil => exact absurd rfl se
          | cons => rfl
        by_cases al : S.all (fun one => rhB n one && neT one) = true
        rotate_left
        · have al := Bool.eq_false_iff.mpr al
          rw [al] at e1
          have eb2 : bkB (.tup [.int n, .tup S]) = false := by simp only [bkB]; rw [al]; simp
          simp (disch := first | (simp; done) | omega) [-Bool.and_eq_true, b_is_book, e_ch (o := .le) (o' := .le) rfl rfl, chR, n1, n9, sS]
          rw [L1]
          simp [e1, back_nr, eb2]
        rw [al] at e1
        obtain ⟨L, rfl⟩ := tups_in al
        rw [List.length_map] at lS
        obtain ⟨m, em⟩ : ∃ m : Nat, m = L.length - 1 := ⟨_, rfl⟩
        have rg : rngO1 [.int ((L.length : Int) - 1)] h = .ok (src0 ((List.range m).map fun (i : Nat) => .int i)) h := by
          have := rng1 (h := h) (j := (L.length : Int) - 1) (by omega) (by omega)
          rw [show ((L.length : Int) - 1).toNat = m by omega] at this
          exact this
        have L2 := lcM (m := false) (f := fun (i : Nat) => D.int i) (ft := tgF false [3]) (fb := E.evT gam_is_book []) (fe := E.ev gam_is_book (.op .lt (.ix (.var 2) (.var 3)) (.ix (.var 2) (.op .add (.var 3) (.int 1))))) (vs := [3]) (s := [some (.tup [.int n, .tup (L.map tupD)]), some (.int n), some (.tup (L.map tupD)), none, none]) (h := h) (fun (k : Nat) => D.bl (HT.lexLt (L.getD k []) (L.getD (k + 1) []))) (List.range m) (by simp; omega) fun k hk => by
          have hk := List.mem_range.mp hk
          have l1 : k < L.length := by omega
          have l2 : k + 1 < L.length := by omega
          have g1 : ∀ h, gIx h (.tup (L.map tupD)) (.int (k : Int)) = some (tupD (L.getD k [])) := fun h => by
            rw [gIx_tup, atI_map (by omega) (by omega)]
            simp [List.getD_eq_getElem?_getD, List.getElem?_eq_getElem l1]
          have g2 : ∀ h, gIx h (.tup (L.map tupD)) (.int ((k : Int) + 1)) = some (tupD (L.getD (k + 1) [])) := fun h => by
            rw [gIx_tup, atI_map (by omega) (by omega)]
            simp [show ((k : Int) + 1).toNat = k + 1 by omega, List.getD_eq_getElem?_getD, List.getElem?_eq_getElem l2]
          have lt : ∀ (a b : List Int) (h : Hs), gLt h (tupD a) (tupD b) = some (.bl (HT.lexLt a b)) := fun a b h => by
            unfold gLt tupD
            simp only [intsOf_map]
          simp [lcT, g1, g2, lt]
        rw [newL_f] at L2
        have e2 := gAll_map (h := h) (p := fun (k : Nat) => HT.lexLt (L.getD k []) (L.getD (k + 1) [])) (l := List.range m)
        have er : bkB (.tup [.int n, .tup (L.map tupD)]) = (List.range m).all fun (k : Nat) => HT.lexLt (L.getD k []) (L.getD (k + 1) []) := by
          simp only [bkB, lexUp]
          rw [al, ne, tupsOf_map, decide_eq_true n1, decide_eq_true n9, em]
          rfl
        rw [er]
        generalize (List.range m).map (fun (k : Nat) => D.bl (HT.lexLt (L.getD k []) (L.getD (k + 1) []))) = BL at *
        generalize (L.map tupD).map (fun d => D.bl (rhB n d && neT d)) = AL at *
        generalize ((List.range m).all fun (k : Nat) => HT.lexLt (L.getD k []) (L.getD (k + 1) [])) = RB at *
        simp (disch := first | (simp; done) | omega) [-Bool.and_eq_true, b_is_book, e_ch (o := .le) (o' := .le) rfl rfl, chR, n1, n9, sS]
        rw [L1]
        simp (disch := first | (simp; done) | omega) [e1, rg]
        rw [L2]
        simp [e2, back_nr]
      | _ => cases zb
    | _ => cases za
  | _ => first | (have := o.pl; cases this; done) | (simp [isT] at it; simp [b_is_book, it, bkB, back_nr])
/-! ### _law_e_stirred -/
def N_law_e_stirred : List Str := ["cell", "place", "first", "second", "third"]
def b_law_e_stirred : List S :=
  [.iff (.op .ge (.var 0) (.op .pow (.int 10) (.int 18))) [.ret (.var 0)] [],
   .set 2 (.op .mod (.op .add (.op .add (.op .mul (.op .mod (.var 0) (.int 998244353)) (.int 51749)) (.op .mul (.var 1) (.int 7919))) (.int 3)) (.int 1000000007)),
   .set 3 (.op .mod (.op .add (.op .add (.op .add (.op .mul (.var 2) (.var 2)) (.op .mul (.int 32749) (.var 2))) (.var 1)) (.int 5)) (.int 2147483629)),
   .set 4 (.op .mod (.op .add (.op .add (.op .mul (.var 3) (.var 3)) (.op .mul (.int 61) (.var 1))) (.var 2)) (.int 2147483587)),
   .ret (.op .add (.op .mul (.var 3) (.int 2147483587)) (.var 4))]
def n_law_e_stirred : Nat := 0
noncomputable def gam_law_e_stirred : Mir := mirA []
noncomputable def f_law_e_stirred : List D → Hs → R D := runF gam_law_e_stirred false n_law_e_stirred 5 2 b_law_e_stirred
theorem r_law_e_stirred {ds : List D} {h : Hs} (e : ds.length = 2) : f_law_e_stirred ds h = fin false h (S.evs gam_law_e_stirred n_law_e_stirred b_law_e_stirred (ds.map some ++ List.replicate 3 none) h) := runF_eq e
theorem stirred_eq {c p : Int} {h : Hs} (p0 : 0 ≤ p) (p1 : p ≤ 10 ^ 12) : ∃ r, 0 ≤ r ∧ f_law_e_stirred [.int c, .int p] h = .ok (.int r) h := by
  rw [r_law_e_stirred rfl]
  by_cases z : c ≥ 1000000000000000000
  · exact ⟨c, by omega, by simp [b_law_e_stirred, z, back_nr]⟩
  · have b1 : 0 ≤ c % 998244353 ∧ c % 998244353 < 998244353 := by omega
    generalize hx : c % 998244353 = x at *
    have b2 : 0 ≤ (x * 51749 + p * 7919 + 3) % 1000000007 ∧ (x * 51749 + p * 7919 + 3) % 1000000007 < 1000000007 := by omega
    generalize hf : (x * 51749 + p * 7919 + 3) % 1000000007 = y at *
    have sq : 0 ≤ y * y ∧ y * y ≤ 1000000007 * 1000000007 := ⟨Int.mul_nonneg b2.1 b2.1, Int.mul_le_mul (by omega) (by omega) b2.1 (by omega)⟩
    generalize hg : y * y = yy at *
    have b3 : 0 ≤ (yy + 32749 * y + p + 5) % 2147483629 ∧ (yy + 32749 * y + p + 5) % 2147483629 < 2147483629 := by omega
    generalize hh : (yy + 32749 * y + p + 5) % 2147483629 = w at *
    have sq2 : 0 ≤ w * w ∧ w * w ≤ 2147483629 * 2147483629 := ⟨Int.mul_nonneg b3.1 b3.1, Int.mul_le_mul (by omega) (by omega) b3.1 (by omega)⟩
    generalize hk : w * w = ww at *
    refine ⟨w * 2147483587 + (ww + 61 * p + y) % 2147483587, by omega, ?_⟩
    simp (disch := first | (simp; done) | omega) [b_law_e_stirred, z, gMul_int, hx, hf, hg, hh, hk, back_nr]
/-! ### _law_e_digit -/
def N_law_e_digit : List Str := ["tape", "many", "place", "cell", "digit"]
def b_law_e_digit : List S :=
  [.iff (.op .lt (.ix (.var 0) (.int 2)) (.var 1)) [.set 2 (.ix (.var 0) (.int 1)), .set 3 (.var 2), .iff (.op .lt (.var 2) (.bi .len [.ix (.var 0) (.int 0)])) [.set 3 (.ix (.ix (.var 0) (.int 0)) (.var 2))] [.iff (.op .gt (.bi .len [.ix (.var 0) (.int 0)]) (.int 0)) [.set 3 (.op .add (.op .mod (.ix (.ix (.var 0) (.int 0)) (.op .mod (.op .mul (.var 2) (.int 3)) (.bi .len [.ix (.var 0) (.int 0)]))) (.op .pow (.int 10) (.int 9))) (.op .mul (.var 2) (.int 1000000)))] []], .store (.var 0) (.int 1) (.op .add (.var 2) (.int 1)), .store (.var 0) (.int 2) (.call 190 [.var 3, .var 2])] [],
   .set 4 (.op .mod (.ix (.var 0) (.int 2)) (.var 1)),
   .store (.var 0) (.int 2) (.op .fdiv (.ix (.var 0) (.int 2)) (.var 1)),
   .ret (.var 4)]
def n_law_e_digit : Nat := 0
noncomputable def gam_law_e_digit : Mir := mirA [(190, 2, f_law_e_stirred)]
noncomputable def f_law_e_digit : List D → Hs → R D := runF gam_law_e_digit false n_law_e_digit 5 2 b_law_e_digit
theorem k_law_e_digit_law_e_stirred {ds : List D} {h : Hs} : callR gam_law_e_digit 190 ds h = if ds.length = 2 then f_law_e_stirred ds h else .stk := callR_at rfl
theorem r_law_e_digit {ds : List D} {h : Hs} (e : ds.length = 2) : f_law_e_digit ds h = fin false h (S.evs gam_law_e_digit n_law_e_digit b_law_e_digit (ds.map some ++ List.replicate 3 none) h) := runF_eq e
/-- a digit drawn -/
theorem digit_eq {t : Nat} {ns : List Int} {p m : Int} {h : Hs} (T : TapeAt h t ns p) (p1 : p ≤ 10 ^ 9) (m0 : 0 < m) (m1 : m < 2 ^ 100) : ∃ d h', f_law_e_digit [.ref t, .int m] h = .ok (.int d) h' ∧ 0 ≤ d ∧ d < m ∧ TapeAt h' t ns (p + 1) ∧ Upd h h' [t] := by
  obtain ⟨a, r, e, a0, a1, r0⟩ := T.ex
  have ht := lt_of_get e
  have ls : ∀ h, gLen h [script ns] = some (.int ns.length) := fun h => by unfold script; simp
  have ix : ∀ h (k : Nat), k < ns.length → ∃ c : Int, gIx h (script ns) (.int (k : Int)) = some (.int c) := fun h k hk => by
    refine ⟨ns[k], ?_⟩
    have : gIx h (script ns) (.int (k : Int)) = atI (ns.map D.int) (k : Int) := by
      unfold script gIx
      simp [dicH, ditH, lstH]
    rw [this, atI_map (by omega) (by omega)]
    simp
  have g0 : ∀ x y z : D, atI [x, y, z] 0 = some x := fun _ _ _ => rfl
  have g1 : ∀ x y z : D, atI [x, y, z] 1 = some y := fun _ _ _ => rfl
  have g2 : ∀ x y z : D, atI [x, y, z] 2 = some z := fun _ _ _ => rfl
  -- the end: a digit of what is left
  have fin' : ∀ (h1 : Hs) (a1 r1 : Int) (x2 x3 : Option D), h1[t]? = some (.lst [script ns, .int a1, .int r1]) → 0 ≤ r1 → Upd h h1 [t] → 0 ≤ a1 → a1 ≤ p + 1 →
      ∃ d h', fin false h (S.evs gam_law_e_digit n_law_e_digit (b_law_e_digit.drop 1) [some (.ref t), some (.int m), x2, x3, none] h1) = .ok (.int d) h' ∧ 0 ≤ d ∧ d < m ∧ TapeAt h' t ns (p + 1) ∧ Upd h h' [t] := by
    intro h1 a1 r1 x2 x3 e1 r10 U a10 a11
    have st := storeG_of (v := .int (r1 / m)) e1 (k := 2) (by omega) (by simp)
    have q0 := Int.emod_nonneg r1 (b := m) (by omega)
    have q1 := Int.emod_lt_of_pos r1 m0
    have q2 := Int.ediv_nonneg r10 (Int.le_of_lt m0)
    have U2 := U.trans (Upd.set (h := h1) (m := t) (ms := [t]) (.lst [script ns, .int a1, .int (r1 / m)]) (by simp))
    have ht1 : t < h1.length := lt_of_get e1
    refine ⟨r1 % m, h1.set t (.lst [script ns, .int a1, .int (r1 / m)]), ?_, q0, q1, ⟨a1, r1 / m, List.getElem?_set_self ht1, a10, a11, q2⟩, U2⟩
    have t2 : Int.toNat 2 = 2 := rfl
    simp [t2] at st
    simp (disch := first | (simp; done) | omega) [b_law_e_digit, gIx_ref e1, g2, gFdiv_int, st]
    rw [back_nr (by simp) (fun k o hk eo => by
      by_cases z : t = k
      · subst z
        rw [List.getElem?_set_self ht1] at eo
        injection eo with eo
        subst eo
        exact .inr (bel_lst (by simp))
      · rw [List.getElem?_set_ne z] at eo
        have := U.out k (by simpa using fun w => z w.symm)
        exact .inl (by rw [← this]; exact eo))]
    congr 1
    rw [← U2.len]
    exact List.take_of_length_le (Nat.le_refl _)
  rw [r_law_e_digit rfl]
  rw [show b_law_e_digit = b_law_e_digit.take 1 ++ b_law_e_digit.drop 1 from rfl, evs_append]
  by_cases z : r < m
  · have hd : ∃ (c : Int), S.ev gam_law_e_digit n_law_e_digit (.iff (.op .lt (.var 2) (.bi .len [.ix (.var 0) (.int 0)])) [.set 3 (.ix (.ix (.var 0) (.int 0)) (.var 2))] [.iff (.op .gt (.bi .len [.ix (.var 0) (.int 0)]) (.int 0)) [.set 3 (.op .add (.op .mod (.ix (.ix (.var 0) (.int 0)) (.op .mod (.op .mul (.var 2) (.int 3)) (.bi .len [.ix (.var 0) (.int 0)]))) (.op .pow (.int 10) (.int 9))) (.op .mul (.var 2) (.int 1000000)))] []]) [some (.ref t), some (.int m), some (.int a), some (.int a), none] h = .nx [some (.ref t), some (.int m), some (.int a), some (.int c), none] h := by
      by_cases w : a < ns.length
      · obtain ⟨c, ic⟩ := ix h a.toNat (by omega)
        rw [Int.toNat_of_nonneg a0] at ic
        refine ⟨c, ?_⟩
        simp (disch := first | (simp; done) | omega) [gIx_ref e, g0, ls, w, ic]
      · by_cases w2 : 0 < (ns.length : Int)
        · have q0 := Int.emod_nonneg (a * 3) (b := (ns.length : Int)) (by omega)
          have q1 := Int.emod_lt_of_pos (a * 3) w2
          obtain ⟨c, ic⟩ := ix h (a * 3 % (ns.length : Int)).toNat (by omega)
          rw [Int.toNat_of_nonneg q0] at ic
          refine ⟨c % 1000000000 + a * 1000000, ?_⟩
          have wn : ns ≠ [] := fun z => by rw [z] at w2; simp at w2
          simp (disch := first | (simp; done) | omega) [gIx_ref e, g0, ls, w, wn, gMul_int, ic]
        · refine ⟨a, ?_⟩
          have wn : ns = [] := List.eq_nil_of_length_eq_zero (by omega)
          have wl : ¬ a < 0 := by omega
          subst wn
          have ls0 : ∀ h, gLen h [script []] = some (.int 0) := fun h => by simpa using ls h
          simp (disch := first | (simp; done) | omega) [gIx_ref e, g0, ls0, wl]
    obtain ⟨c, hd⟩ := hd
    have s1 := storeG_of (v := .int (a + 1)) e (k := 1) (by omega) (by simp)
    obtain ⟨r1, r10, sq⟩ := stirred_eq (c := c) (p := a) (h := h.set t (.lst [script ns, .int (a + 1), .int r])) (by omega) (by omega)
    have e2 : (h.set t (HO'.lst [script ns, .int (a + 1), .int r]))[t]? = some (.lst [script ns, .int (a + 1), .int r]) := List.getElem?_set_self ht
    have s2 := storeG_of (v := .int r1) e2 (k := 2) (by omega) (by simp)
    have q := fin' (h.set t (.lst [script ns, .int (a + 1), .int r1])) (a + 1) r1 (some (.int a)) (some (.int c)) (List.getElem?_set_self ht) r10 (Upd.set _ (by simp)) (by omega) (by omega)
    obtain ⟨d, h', q, q'⟩ := q
    refine ⟨d, h', ?_, q'⟩
    rw [← q]
    congr 1
    have t2 : Int.toNat 2 = 2 := rfl
    have t1 : Int.toNat 1 = 1 := rfl
    simp [t1, t2, gIx_ref e] at hd s1 s2
    have : S.evs gam_law_e_digit n_law_e_digit (b_law_e_digit.take 1) (List.map some [D.ref t, .int m] ++ List.replicate 3 none) h = .nx [some (.ref t), some (.int m), some (.int a), some (.int c), none] (h.set t (.lst [script ns, .int (a + 1), .int r1])) := by
      simp (disch := first | (simp; done) | omega) [b_law_e_digit, gIx_ref e, g1, g2, z]
      rw [hd]
      simp [s1, k_law_e_digit_law_e_stirred, sq, s2]
    rw [this, seq_nx]
  · obtain ⟨d, h', q, q'⟩ := fin' h a r none none e r0 Upd.refl a0 (by omega)
    refine ⟨d, h', ?_, q'⟩
    rw [← q]
    congr 1
    have z' : ¬ r < m := z
    simp (disch := first | (simp; done) | omega) [b_law_e_digit, gIx_ref e, g2, z']
/-! ### _law_e_subset -/
def N_law_e_subset : List Str := ["tape", "n", "house"]
def b_law_e_subset : List S :=
  [.ret (.bi .tuple [.lc false 1 [.var 1] false [2] [.op .eq (.call 191 [.var 0, .int 2]) (.int 0)] (.var 2) [2]])]
def n_law_e_subset : Nat := 0
noncomputable def gam_law_e_subset : Mir := mirA [(191, 2, f_law_e_digit)]
noncomputable def f_law_e_subset : List D → Hs → R D := runF gam_law_e_subset false n_law_e_subset 3 2 b_law_e_subset
theorem k_law_e_subset_law_e_digit {ds : List D} {h : Hs} : callR gam_law_e_subset 191 ds h = if ds.length = 2 then f_law_e_digit ds h else .stk := callR_at rfl
theorem r_law_e_subset {ds : List D} {h : Hs} (e : ds.length = 2) : f_law_e_subset ds h = fin false h (S.evs gam_law_e_subset n_law_e_subset b_law_e_subset (ds.map some ++ List.replicate 1 none) h) := runF_eq e
/-- rising houses below n -/
structure HsOk (n : Nat) (a : List Int) : Prop where
  up : a.Pairwise (· < ·)
  rg : ∀ i ∈ a, 0 ≤ i ∧ i < n
theorem hs_nat {n : Nat} {js : List Nat} (sb : js.Sublist (List.range n)) : HsOk n (js.map fun (i : Nat) => (i : Int)) := by
  refine ⟨?_, fun i hi => ?_⟩
  · rw [List.pairwise_map]
    exact ((List.pairwise_lt_range (n := n)).sublist sb).imp fun h => by omega
  · obtain ⟨j, hj, rfl⟩ := List.mem_map.mp hi
    have := List.mem_range.mp (sb.subset hj)
    omega
theorem HsOk.nat {n : Nat} {a : List Int} (H : HsOk n a) : ∃ js : List Nat, a = js.map (fun (i : Nat) => (i : Int)) ∧ js.Pairwise (· < ·) ∧ ∀ i ∈ js, i < n := by
  refine ⟨a.map Int.toNat, ?_, ?_, fun i hi => ?_⟩
  · rw [List.map_map]
    have : ∀ l : List Int, (∀ i ∈ l, 0 ≤ i) → l = l.map fun i => ((i.toNat : Nat) : Int) := fun l => by
      induction l with
      | nil => exact fun _ => rfl
      | cons b r ih =>
        intro h
        rw [List.map_cons, ← ih fun i hi => h i (List.mem_cons_of_mem _ hi), Int.toNat_of_nonneg (h b List.mem_cons_self)]
    exact this a fun i hi => (H.rg i hi).1
  · rw [List.pairwise_map]
    exact H.up.imp_of_mem fun {x y} hx hy h => by
      have := H.rg x hx
      omega
  · obtain ⟨j, hj, rfl⟩ := List.mem_map.mp hi
    have := H.rg j hj
    omega
theorem HsOk.len {n : Nat} {a : List Int} (H : HsOk n a) : a.length ≤ n := by
  obtain ⟨js, rfl, h1, h2⟩ := H.nat
  rw [List.length_map]
  exact pigeon n js (h1.imp fun h => by omega) h2
theorem hs_tup {js : List Nat} : D.tup (js.map fun (i : Nat) => D.int i) = tupD (js.map fun (i : Nat) => (i : Int)) := by
  unfold tupD
  rw [List.map_map]
  rfl
theorem Tape_back {h h' : Hs} {t : Nat} {ns : List Int} {p : Int} {d : D} (T : TapeAt h' t ns p) (U : Upd h h' [t]) (e : d.nr = true) : backR false h d h' = .ok d h' := by
  rw [back_nr e (T.cl fun q hq hn => U.out q (by simpa using hn))]
  congr 1
  rw [← U.len]
  exact List.take_of_length_le (Nat.le_refl _)
theorem subset_ex {t n : Nat} {ns : List Int} {p : Int} {h : Hs} (T : TapeAt h t ns p) (p1 : p + n ≤ 10 ^ 9) (n8 : n ≤ 1000) : ∃ (a : List Int) (h' : Hs), f_law_e_subset [.ref t, .int n] h = .ok (tupD a) h' ∧ HsOk n a ∧ TapeAt h' t ns (p + n) ∧ Upd h h' [t] := by
  have F := lcO_sub (m := false) (f := fun (i : Nat) => D.int i) (g := fun (i : Nat) => D.int i) (ft := tgF false [2]) (fb := E.evT gam_law_e_subset [.op .eq (.call 191 [.var 0, .int 2]) (.int 0)]) (fe := E.ev gam_law_e_subset (.var 2)) (vs := [2]) (s := [some (.ref t), some (.int n), none]) (fun k h' => TapeAt h' t ns (p + k) ∧ Upd h h' [t]) (fun _ => True) (List.range n) h (by simp; omega) ⟨by simpa using T, Upd.refl⟩ ?_
  · obtain ⟨js, h', e, ⟨T', U'⟩, sb, -⟩ := F
    rw [List.length_range] at T'
    rw [newL_f] at e
    have lj := sb.length_le
    rw [List.length_range] at lj
    refine ⟨js.map fun (i : Nat) => (i : Int), h', ?_, hs_nat sb, T', U'⟩
    rw [r_law_e_subset rfl]
    simp (disch := first | (simp; done) | omega) [b_law_e_subset, rngN]
    rw [e]
    simp (disch := first | (simp; done) | (simp; omega))
    rw [hs_tup]
    exact Tape_back T' U' (by simp [tupD])
  · rintro j hj k h1 hk ⟨T1, U1⟩
    rw [List.length_range] at hk
    obtain ⟨d, h2, q, d0, d1, T2, U2⟩ := digit_eq (m := 2) T1 (by omega) (by omega) (by omega)
    by_cases w : d = 0
    · subst w
      exact ⟨some (.int j), h2, by simp [lcT, k_law_e_subset_law_e_digit, q], ⟨T2.mono (by omega), U1.trans U2⟩, .inr ⟨rfl, trivial⟩⟩
    · exact ⟨none, h2, by simp [lcT, k_law_e_subset_law_e_digit, q, w], ⟨T2.mono (by omega), U1.trans U2⟩, .inl rfl⟩
/-! ### _law_e_sized -/
def N_law_e_sized : List Str := ["n", "many", "found", "house", "one"]
def b_law_e_sized : List S :=
  [.set 2 (.lst false [.tup []]),
   .loop false 1 [.var 0] false [3] [.set 2 (.op .add (.var 2) (.lc false 0 [.var 2] false [4] [] (.op .add (.var 4) (.tup [.var 3])) [4]))],
   .ret (.bi (.sorted false) [.lc false 0 [.var 2] false [4] [.op .eq (.bi .len [.var 4]) (.var 1)] (.var 4) [4]])]
def n_law_e_sized : Nat := 0
noncomputable def gam_law_e_sized : Mir := mirA []
noncomputable def f_law_e_sized : List D → Hs → R D := runF gam_law_e_sized false n_law_e_sized 5 2 b_law_e_sized
abbrev L_law_e_sized_0 : List S := [.set 2 (.op .add (.var 2) (.lc false 0 [.var 2] false [4] [] (.op .add (.var 4) (.tup [.var 3])) [4]))]
noncomputable abbrev T_law_e_sized_0 : D → SD → Hs → O := turnO (tgF false [3]) (cutB false (S.evs gam_law_e_sized n_law_e_sized L_law_e_sized_0))
theorem r_law_e_sized {ds : List D} {h : Hs} (e : ds.length = 2) : f_law_e_sized ds h = fin false h (S.evs gam_law_e_sized n_law_e_sized b_law_e_sized (ds.map some ++ List.replicate 3 none) h) := runF_eq e
-- needs law_e_subset
theorem lex_ltL : ∀ a b : List Int, HT.lexLt a b = ltL a b
  | [], [] => rfl
  | [], _ :: _ => rfl
  | _ :: _, [] => rfl
  | x :: a, y :: b => by
    rw [HT.lexLt_cons, ltL, lex_ltL a b]
/-- all rising tuples of houses below n -/
def allS : Nat → List (List Int)
  | 0 => [[]]
  | n + 1 => allS n ++ (allS n).map fun a => a ++ [(n : Int)]
theorem allS_ok : ∀ {n : Nat} {a : List Int}, a ∈ allS n → HsOk n a
  | 0, a, h => by
    rw [List.mem_singleton.mp h]
    exact ⟨by simp, fun i hi => (by cases hi)⟩
  | n + 1, a, h => by
    rcases List.mem_append.mp h with z | z
    · have H := allS_ok z
      exact ⟨H.up, fun i hi => by have := H.rg i hi; omega⟩
    · obtain ⟨b, hb, rfl⟩ := List.mem_map.mp z
      have H := allS_ok hb
      refine ⟨?_, fun i hi => ?_⟩
      · rw [List.pairwise_append]
        exact ⟨H.up, by simp, fun x hx y hy => by
          rw [List.mem_singleton.mp hy]
          exact (H.rg x hx).2⟩
      · rcases List.mem_append.mp hi with w | w
        · have := H.rg i w
          omega
        · rw [List.mem_singleton.mp w]
          omega
theorem allS_nd : ∀ n : Nat, (allS n).Nodup
  | 0 => by simp [allS]
  | n + 1 => by
    unfold allS List.Nodup
    rw [List.pairwise_append]
    refine ⟨allS_nd n, ?_, fun a ha b hb e => ?_⟩
    · rw [List.pairwise_map]
      exact (allS_nd n).imp fun h e => h (List.append_cancel_right e)
    · obtain ⟨c, hc, rfl⟩ := List.mem_map.mp hb
      have := (allS_ok ha).rg (n : Int) (by rw [e]; simp)
      omega
theorem allS_mem : ∀ {n : Nat} {a : List Int}, HsOk n a → a ∈ allS n
  | 0, a, H => by
    cases a with
    | nil => simp [allS]
    | cons i r => have := H.rg i List.mem_cons_self; omega
  | n + 1, a, H => by
    unfold allS
    rw [List.mem_append]
    by_cases z : (n : Int) ∈ a
    · right
      obtain ⟨b, c, rfl⟩ := List.append_of_mem z
      have up := H.up
      rw [List.pairwise_append, List.pairwise_cons] at up
      have ec : c = [] := by
        cases c with
        | nil => rfl
        | cons i r =>
          have := up.2.1.1 i List.mem_cons_self
          have := H.rg i (by simp)
          omega
      subst ec
      refine List.mem_map.mpr ⟨b, allS_mem ⟨up.1, fun i hi => ?_⟩, rfl⟩
      have h1 := up.2.2 i hi (n : Int) (by simp)
      have h2 := H.rg i (by simp [hi])
      omega
    · left
      refine allS_mem ⟨H.up, fun i hi => ?_⟩
      have h2 := H.rg i hi
      have : i ≠ (n : Int) := fun w => z (w ▸ hi)
      omega
theorem allS_len : ∀ n : Nat, (allS n).length = 2 ^ n
  | 0 => rfl
  | n + 1 => by
    unfold allS
    rw [List.length_append, List.length_map, allS_len n, Nat.pow_succ]
    omega
/-- sets in order, none twice -/
theorem sort_up {L : List (List Int)} (nd : L.Nodup) : (sortT L).Pairwise fun a b => HT.lexLt a b = true := by
  have h1 := sortT_le L
  have h2 : (sortT L).Nodup := (sortT_perm L).nodup_iff.mpr nd
  refine (List.Pairwise.and h1 h2).imp fun {a b} h => ?_
  rw [lex_ltL]
  rcases leT_iff.mp h.1 with z | z
  · exact absurd z h.2
  · exact z
def sizedI (n many : Nat) : List (List Int) := sortT ((allS n).filter fun a => decide (a.length = many))
section
variable {n many : Nat} {h : Hs}
theorem sized_mem {a : List Int} : a ∈ sizedI n many ↔ HsOk n a ∧ a.length = many := by
  unfold sizedI
  rw [(sortT_perm _).mem_iff, List.mem_filter, decide_eq_true_eq]
  exact ⟨fun h => ⟨allS_ok h.1, h.2⟩, fun h => ⟨allS_mem h.1, h.2⟩⟩
theorem sized_up : (sizedI n many).Pairwise fun a b => HT.lexLt a b = true := sort_up ((allS_nd n).sublist List.filter_sublist)
theorem sized_len (n9 : n ≤ 9) : (sizedI n many).length ≤ 512 := by
  unfold sizedI
  rw [(sortT_perm _).length_eq]
  have h1 : ((allS n).filter fun a => decide (a.length = many)).length ≤ (allS n).length := List.length_filter_le _ _
  rw [allS_len] at h1
  have h2 : 2 ^ n ≤ 2 ^ 9 := Nat.pow_le_pow_right (by omega) n9
  omega
theorem sized_eq (n9 : n ≤ 9) (m1 : 1 ≤ many) : f_law_e_sized [.int n, .int many] h = .ok (.vl ((sizedI n many).map tupD)) h := by
  have pw : ∀ i, i ≤ 9 → (allS i).length ≤ 512 := fun i hi => by
    rw [allS_len]
    have : 2 ^ i ≤ 2 ^ 9 := Nat.pow_le_pow_right (by omega) hi
    omega
  have F := forL_relI (f := fun (i : Nat) => D.int i) (turn := T_law_e_sized_0) (fun i (_ : Unit) s h' => ∃ c : Option D, s = [some (.int n), some (.int many), some (.vl ((allS i).map tupD)), c, none] ∧ h' = h) (fun b _ => b) (List.range n) () [some (.int n), some (.int many), some (.vl ((allS 0).map tupD)), none, none] h ⟨none, rfl, rfl⟩ ?_
  · obtain ⟨s', h', F, c, rfl, rfl⟩ := F
    rw [List.length_range] at F
    have L1 := lcF (m := false) (f := tupD) (ft := tgF false [4]) (fb := E.evT gam_law_e_sized [.op .eq (.bi .len [.var 4]) (.var 1)]) (fe := E.ev gam_law_e_sized (.var 4)) (vs := [4]) (s := [some (.int n), some (.int many), some (.vl ((allS n).map tupD)), c, none]) (h := h') (fun a => decide (a.length = many)) tupD (allS n) (by rw [allS_len]; have : 2 ^ n ≤ 2 ^ 9 := Nat.pow_le_pow_right (by omega) n9; omega) fun a ha => by
      have gl : ∀ h, gLen h [tupD a] = some (.int a.length) := fun h => by unfold tupD; simp
      by_cases z : a.length = many
      · simp [lcT, gl, z]
      · have z' : ¬ ((a.length : Int) = many) := by omega
        simp [lcT, gl, z, z']
    rw [newL_f] at L1
    have so := gSort_tups (m := false) (h := h') (x := .vl (((allS n).filter fun a => decide (a.length = many)).map tupD)) (L := (allS n).filter fun a => decide (a.length = many)) .vl ⟨by
      have h1 : ((allS n).filter fun a => decide (a.length = many)).length ≤ (allS n).length := List.length_filter_le _ _
      rw [allS_len] at h1
      have h2 : 2 ^ n ≤ 2 ^ 9 := Nat.pow_le_pow_right (by omega) n9
      omega, fun a ha e => by
      have := of_decide_eq_true (List.mem_filter.mp ha).2
      rw [e] at this
      simp at this
      omega⟩
    rw [newL_f] at so
    rw [r_law_e_sized rfl]
    simp only [T_law_e_sized_0, L_law_e_sized_0] at F
    rw [show (allS 0).map tupD = [D.tup []] from rfl] at F
    simp (disch := first | (simp; done) | omega) [b_law_e_sized, rngN]
    rw [F]
    simp
    rw [L1]
    simp only [bind_ok]
    simp [so]
    rw [back_nr (by simp [tupD]) (by simp)]
    simp [sizedI]
  · rintro k u s h1 a ha ⟨c, rfl, rfl⟩
    obtain ⟨hk, ha⟩ := List.getElem?_eq_some_iff.mp ha
    rw [List.getElem_range] at ha
    subst ha
    rw [List.length_range] at hk
    have pk := pw k (by omega)
    have L2 := lcM (m := false) (f := tupD) (ft := tgF false [4]) (fb := E.evT gam_law_e_sized []) (fe := E.ev gam_law_e_sized (.op .add (.var 4) (.tup [.var 3]))) (vs := [4]) (s := [some (.int n), some (.int many), some (.vl ((allS k).map tupD)), some (.int k), none]) (h := h1) (fun a => tupD (a ++ [(k : Int)])) (allS k) (by omega) fun a ha => by
      have la := (allS_ok ha).len
      have ad : ∀ h, gAdd h (tupD a) (.tup [.int k]) = some (tupD (a ++ [(k : Int)])) := fun h => by
        unfold tupD
        rw [List.map_append, gAdd_tup (by simp; omega)]
        rfl
      simp [lcT, ad]
    rw [newL_f] at L2
    have ad : ∀ h, gAdd h (.vl ((allS k).map tupD)) (.vl ((allS k).map fun a => tupD (a ++ [(k : Int)]))) = some (.vl ((allS (k + 1)).map tupD)) := fun h => by
      have e : (allS (k + 1)).map tupD = (allS k).map tupD ++ (allS k).map fun a => tupD (a ++ [(k : Int)]) := by
        rw [show allS (k + 1) = allS k ++ (allS k).map fun a => a ++ [(k : Int)] from rfl, List.map_append, List.map_map]
        rfl
      rw [e, gAdd_vl (by simp; omega)]
    refine ⟨_, h1, .inl ?_, some (.int k), rfl, rfl⟩
    refine turn_go (s' := [some (.int n), some (.int many), some (.vl ((allS k).map tupD)), some (.int k), none]) (tgF_one (by simp)) ?_
    rw [cutB_f]
    simp [L_law_e_sized_0]
    rw [L2]
    simp [ad]
end
/-! ### _law_e_book -/
def N_law_e_book : List Str := ["tape", "most", "n", "way", "sets", "turn", "one", "house"]
def b_law_e_book : List S :=
  [.set 2 (.op .add (.int 1) (.call 191 [.var 0, .var 1])),
   .set 3 (.call 191 [.var 0, .int 4]),
   .iff (.op .eq (.var 3) (.int 0)) [.ret (.tup [.var 2, .bi .tuple [.call 283 [.var 2, .op .add (.int 1) (.call 191 [.var 0, .var 2])]]])] [],
   .set 4 (.dnt),
   .loop false 1 [.op .add (.int 1) (.call 191 [.var 0, .int 6])] false [5] [.set 6 (.call 282 [.var 0, .var 2]), .iff (.op .eq (.var 3) (.int 1)) [.set 6 (.bi .tuple [.lc false 1 [.var 2] false [7] [.op .gt (.call 191 [.var 0, .int 4]) (.int 0)] (.var 7) [7]])] [], .iff (.op .ne (.var 6) (.tup [])) [.store (.var 4) (.var 6) (.bl true)] []],
   .iff (.op .eq (.bi .len [.var 4]) (.int 0)) [.store (.var 4) (.tup [.op .sub (.var 2) (.int 1)]) (.bl true)] [],
   .ret (.tup [.var 2, .bi .tuple [.bi (.sorted false) [.var 4]]])]
def n_law_e_book : Nat := 0
noncomputable def gam_law_e_book : Mir := mirA [(191, 2, f_law_e_digit), (282, 2, f_law_e_subset), (283, 2, f_law_e_sized)]
noncomputable def f_law_e_book : List D → Hs → R D := runF gam_law_e_book false n_law_e_book 8 2 b_law_e_book
abbrev L_law_e_book_0 : List S := [.set 6 (.call 282 [.var 0, .var 2]), .iff (.op .eq (.var 3) (.int 1)) [.set 6 (.bi .tuple [.lc false 1 [.var 2] false [7] [.op .gt (.call 191 [.var 0, .int 4]) (.int 0)] (.var 7) [7]])] [], .iff (.op .ne (.var 6) (.tup [])) [.store (.var 4) (.var 6) (.bl true)] []]
noncomputable abbrev T_law_e_book_0 : D → SD → Hs → O := turnO (tgF false [5]) (cutB false (S.evs gam_law_e_book n_law_e_book L_law_e_book_0))
theorem k_law_e_book_law_e_digit {ds : List D} {h : Hs} : callR gam_law_e_book 191 ds h = if ds.length = 2 then f_law_e_digit ds h else .stk := callR_at rfl
theorem k_law_e_book_law_e_subset {ds : List D} {h : Hs} : callR gam_law_e_book 282 ds h = if ds.length = 2 then f_law_e_subset ds h else .stk := callR_at rfl
theorem k_law_e_book_law_e_sized {ds : List D} {h : Hs} : callR gam_law_e_book 283 ds h = if ds.length = 2 then f_law_e_sized ds h else .stk := callR_at rfl
theorem r_law_e_book {ds : List D} {h : Hs} (e : ds.length = 2) : f_law_e_book ds h = fin false h (S.evs gam_law_e_book n_law_e_book b_law_e_book (ds.map some ++ List.replicate 6 none) h) := runF_eq e
-- needs law_e_subset
-- needs law_e_sized
def bookD (n : Nat) (S : List (List Int)) : D := .tup [.int n, .tup (S.map tupD)]
/-- a book of n houses -/
structure BkOk (n : Nat) (S : List (List Int)) : Prop where
  ne : S ≠ []
  hs : ∀ a ∈ S, HsOk n a ∧ a ≠ []
  up : S.Pairwise fun a b => HT.lexLt a b = true
  len : S.length ≤ 600
theorem ltL_nd {L : List (List Int)} (h : L.Pairwise fun a b => HT.lexLt a b = true) : L.Nodup := h.imp fun {a b} h e => by
  subst e
  rw [lex_ltL, ltL_irr] at h
  cases h
/-! a dict keyed by sets -/
theorem kys_ints : ∀ a : List Int, kysOf (a.map .int) = some (a.map Sum.inl)
  | [] => rfl
  | i :: r => by rw [List.map_cons, kysOf, kys_ints r]; rfl
theorem kyT_tup {a : List Int} : kyT (tupD a) = some (a.map Sum.inl) := kys_ints a
def ksK (L : List (List Int)) : List (List Key) := L.map (·.map Sum.inl)
def stObj (L : List (List Int)) : HO' := .dit (ksK L) (L.map fun _ => .bl true)
def putS (L : List (List Int)) (a : List Int) : List (List Int) := if a ∈ L then L else L ++ [a]
theorem inl_inj : ∀ {a b : List Int}, a.map (Sum.inl : Int → Key) = b.map Sum.inl → a = b
  | [], [], _ => rfl
  | [], _ :: _, h => by cases h
  | _ :: _, [], h => by cases h
  | x :: a, y :: b, h => by
    simp only [List.map_cons, List.cons.injEq, Sum.inl.injEq] at h
    rw [h.1, inl_inj h.2]
theorem ksK_mem {L : List (List Int)} {a : List Int} : ((ksK L).any fun k => decide (k = a.map Sum.inl)) = decide (a ∈ L) := by
  rw [Bool.eq_iff_iff, List.any_eq_true, decide_eq_true_eq]
  refine ⟨fun ⟨k, hk, e⟩ => ?_, fun h => ⟨a.map Sum.inl, List.mem_map.mpr ⟨a, h, rfl⟩, decide_eq_true rfl⟩⟩
  obtain ⟨b, hb, rfl⟩ := List.mem_map.mp hk
  rw [← inl_inj (of_decide_eq_true e)]
  exact hb
theorem zip_true {q : List Key} : ∀ L : List (List Int), ((ksK L).zip (L.map fun _ => D.bl true)).map (fun p => if p.1 = q then D.bl true else p.2) = L.map fun _ => D.bl true
  | [] => rfl
  | a :: r => by
    have ih := zip_true (q := q) r
    unfold ksK at ih ⊢
    simp only [List.map_cons, List.zip_cons_cons]
    rw [ih]
    congr 1
    split <;> rfl
theorem store_set {h : Hs} {m : Nat} {L : List (List Int)} {a : List Int} (e : h[m]? = some (stObj L)) (hl : L.length < 10000) : storeG (.ref m) (tupD a) (.bl true) h = some (h.set m (stObj (putS L a))) := by
  unfold storeG
  simp only [e, stObj, kyT_tup, Option.bind_some]
  rw [if_pos (by unfold ksK; rw [List.length_map]; omega)]
  unfold putH dPutT
  rw [ksK_mem]
  unfold putS
  by_cases z : a ∈ L
  · rw [if_pos (decide_eq_true z), if_pos z, zip_true]
  · rw [if_neg (by rw [decide_eq_false z]; exact Bool.false_ne_true), if_neg z]
    unfold ksK
    simp
theorem len_set {h : Hs} {m : Nat} {L : List (List Int)} (e : h[m]? = some (stObj L)) : gLen h [.ref m] = some (.int L.length) := by
  unfold gLen
  simp only [dicH, e, stObj, ditU]
  unfold ksK
  rw [List.length_map]
theorem sort_set {h : Hs} {m : Nat} {L : List (List Int)} {md : Bool} (e : h[m]? = some (stObj L)) (hl : L.length ≤ 10000) (ne : ∀ a ∈ L, a ≠ []) : gSort md [.ref m] h = newL md ((sortT L).map tupD) h := by
  unfold gSort
  dsimp only
  have e1 : lstH h (.ref m) = none := by unfold lstH; simp [e, stObj]
  have e2 : ditU h (.ref m) = some (ksK L, L.map fun _ => D.bl true) := by unfold ditU; simp [e, stObj]
  rw [e1]
  simp only [Option.bind_none, e2, ksK, intsKs_map]
  rw [if_pos ⟨by omega, ne⟩]
/-- sets that were drawn -/
structure StOk (n : Nat) (L : List (List Int)) (k : Nat) : Prop where
  nd : L.Nodup
  hs : ∀ a ∈ L, HsOk n a ∧ a ≠ []
  len : L.length ≤ k
theorem StOk.put {n k : Nat} {L : List (List Int)} {a : List Int} (O : StOk n L k) (H : HsOk n a) (ne : a ≠ []) : StOk n (putS L a) (k + 1) := by
  unfold putS
  split
  · exact ⟨O.nd, O.hs, by have := O.len; omega⟩
  · rename_i z
    refine ⟨?_, fun b hb => ?_, by have := O.len; simp; omega⟩
    · rw [List.nodup_append]
      exact ⟨O.nd, by simp, fun x hx y hy e => z (by rw [← List.mem_singleton.mp hy, ← e]; exact hx)⟩
    · rcases List.mem_append.mp hb with w | w
      · exact O.hs b w
      · rw [List.mem_singleton.mp w]
        exact ⟨H, ne⟩
theorem StOk.bk {n k : Nat} {L : List (List Int)} (O : StOk n L k) (ne : L ≠ []) (k6 : k ≤ 600) : BkOk n (sortT L) := by
  refine ⟨fun e => ne ?_, fun a ha => O.hs a ((sortT_perm L).mem_iff.mp ha), sort_up O.nd, ?_⟩
  · have := (sortT_perm L).length_eq
    rw [e] at this
    exact List.eq_nil_of_length_eq_zero (by simpa using this.symm)
  · have := O.len
    rw [(sortT_perm L).length_eq]
    omega
section
variable {t n m : Nat} {ns : List Int} {p w mo : Int} {h : Hs} {L : List (List Int)} {x5 x6 : Option D}
abbrev BS (t m n : Nat) (mo w : Int) (x5 x6 : Option D) : SD := [some (.ref t), some (.int mo), some (.int n), some (.int w), some (.ref m), x5, x6, none]
theorem some_set (T : TapeAt h t ns p) (p1 : p + n ≤ 10 ^ 8) (n8 : n ≤ 100) : ∃ (a : List Int) (h' : Hs),
    lcO false (tgF false [7]) (E.evT gam_law_e_book [.op .gt (.call 191 [.var 0, .int 4]) (.int 0)]) (E.ev gam_law_e_book (.var 7)) [7] (BS t m n mo w x5 x6) (src0 ((List.range n).map fun (i : Nat) => D.int i)) h = .ok (.vl (a.map .int)) h' ∧ HsOk n a ∧ TapeAt h' t ns (p + n) ∧ Upd h h' [t] := by
  have F := lcO_sub (m := false) (f := fun (i : Nat) => D.int i) (g := fun (i : Nat) => D.int i) (ft := tgF false [7]) (fb := E.evT gam_law_e_book [.op .gt (.call 191 [.var 0, .int 4]) (.int 0)]) (fe := E.ev gam_law_e_book (.var 7)) (vs := [7]) (s := BS t m n mo w x5 x6) (fun k h' => TapeAt h' t ns (p + k) ∧ Upd h h' [t]) (fun _ => True) (List.range n) h (by simp; omega) ⟨by simpa using T, Upd.refl⟩ ?_
  · obtain ⟨js, h', e, ⟨T', U'⟩, sb, -⟩ := F
    rw [List.length_range] at T'
    refine ⟨js.map fun (i : Nat) => (i : Int), h', ?_, hs_nat sb, T', U'⟩
    rw [e, newL_f, List.map_map]
    rfl
  · rintro j hj k h1 hk ⟨T1, U1⟩
    rw [List.length_range] at hk
    obtain ⟨d, h2, q, d0, d1, T2, U2⟩ := digit_eq (m := 4) T1 (by omega) (by omega) (by omega)
    by_cases w : 0 < d
    · exact ⟨some (.int j), h2, by simp [lcT, k_law_e_book_law_e_digit, q, w], ⟨T2.mono (by omega), U1.trans U2⟩, .inr ⟨rfl, trivial⟩⟩
    · exact ⟨none, h2, by simp [lcT, k_law_e_book_law_e_digit, q, w], ⟨T2.mono (by omega), U1.trans U2⟩, .inl rfl⟩
theorem ne_nil {a : List Int} {h : Hs} : gNe h (tupD a) (.tup []) = some (.bl (decide (a ≠ []))) := gNe_enc (h := h) enc_int.tup (by omega) (a := a) (b := [])
theorem book_turn {k : Nat} (T : TapeAt h t ns p) (p1 : p ≤ 10 ^ 7) (n8 : n ≤ 9) (e : h[m]? = some (stObj L)) (mt : m ≠ t) (O : StOk n L k) (k6 : k ≤ 100) : ∃ (h' : Hs) (L' : List (List Int)) (y6 : Option D), T_law_e_book_0 (.int k) (BS t m n mo w x5 x6) h = .nx (BS t m n mo w (some (.int k)) y6) h' ∧ h'[m]? = some (stObj L') ∧ StOk n L' (k + 1) ∧ TapeAt h' t ns (p + 20) ∧ Upd h h' [t, m] := by
  obtain ⟨a, h1, q1, H1, T1, U1⟩ := subset_ex (n := n) T (by omega) (by omega)
  have e1 := U1.get (k := m) (by simp; omega) e
  have last : ∀ {b : List Int} {h2 : Hs} {p2 : Int}, HsOk n b → TapeAt h2 t ns p2 → p2 ≤ p + 20 → Upd h h2 [t] → S.evs gam_law_e_book n_law_e_book (L_law_e_book_0.take 2) (BS t m n mo w (some (.int k)) x6) h = .nx (BS t m n mo w (some (.int k)) (some (tupD b))) h2 → ∃ (h' : Hs) (L' : List (List Int)) (y6 : Option D), T_law_e_book_0 (.int k) (BS t m n mo w x5 x6) h = .nx (BS t m n mo w (some (.int k)) y6) h' ∧ h'[m]? = some (stObj L') ∧ StOk n L' (k + 1) ∧ TapeAt h' t ns (p + 20) ∧ Upd h h' [t, m] := by
    intro b h2 p2 H T2 hp U E
    have e2 := U.get (k := m) (by simp; omega) e
    have nn := ne_nil (a := b) (h := h2)
    have lm := lt_of_get e2
    by_cases z : b = []
    · subst z
      simp at nn
      refine ⟨h2, L, some (tupD []), turn_go (s' := BS t m n mo w (some (.int k)) x6) (tgF_one (by simp)) ?_, e2, ⟨O.nd, O.hs, by have := O.len; omega⟩, T2.mono hp, U.mono (by simp)⟩
      rw [cutB_f, show L_law_e_book_0 = L_law_e_book_0.take 2 ++ L_law_e_book_0.drop 2 from rfl, evs_append, E, seq_nx]
      simp [L_law_e_book_0, nn]
    · rw [decide_eq_true z] at nn
      have st := store_set (a := b) e2 (by have := O.len; omega)
      refine ⟨h2.set m (stObj (putS L b)), putS L b, some (tupD b), turn_go (s' := BS t m n mo w (some (.int k)) x6) (tgF_one (by simp)) ?_, List.getElem?_set_self lm, O.put H z, (T2.mono hp).same (List.getElem?_set_ne mt), (U.mono (by simp)).trans (Upd.set _ (by simp))⟩
      rw [cutB_f, show L_law_e_book_0 = L_law_e_book_0.take 2 ++ L_law_e_book_0.drop 2 from rfl, evs_append, E, seq_nx]
      simp [L_law_e_book_0, nn, st]
  by_cases z : w = 1
  · obtain ⟨b, h2, q2, H2, T2, U2⟩ := some_set (n := n) (m := m) (mo := mo) (w := w) (x5 := some (.int k)) (x6 := some (tupD a)) T1 (by omega) (by omega)
    refine last H2 T2 (by omega) (U1.trans U2) ?_
    have lb := H2.len
    simp (disch := first | (simp; done) | omega) [L_law_e_book_0, k_law_e_book_law_e_subset, q1, z, rngN]
    rw [← z, q2]
    simp (disch := first | (simp; done) | (simp; omega)) [tupD]
  · refine last H1 T1 (by omega) U1 ?_
    simp [L_law_e_book_0, k_law_e_book_law_e_subset, q1, z]
theorem sized_bk {n many : Nat} (n9 : n ≤ 9) (m1 : 1 ≤ many) (mn : many ≤ n) : BkOk n (sizedI n many) := by
  refine ⟨fun e => ?_, fun a ha => ?_, sized_up, by have := sized_len (many := many) n9; omega⟩
  · have H : HsOk n ((List.range many).map fun (i : Nat) => (i : Int)) := hs_nat (List.range_sublist.mpr mn)
    have := sized_mem (many := many) |>.mpr ⟨H, by simp⟩
    rw [e] at this
    cases this
  · obtain ⟨H, l⟩ := sized_mem.mp ha
    exact ⟨H, fun z => by rw [z] at l; simp at l; omega⟩
theorem book_ex {mo : Nat} (T : TapeAt h t ns p) (p1 : p ≤ 10 ^ 6) (m1 : 1 ≤ mo) (m9 : mo ≤ 9) : ∃ (n : Nat) (Z : List (List Int)) (h' : Hs), f_law_e_book [.ref t, .int mo] h = .ok (bookD n Z) h' ∧ 1 ≤ n ∧ n ≤ mo ∧ BkOk n Z ∧ TapeAt h' t ns (p + 200) ∧ Upd h h' [t] := by
  obtain ⟨d, h1, q1, d0, d1, T1, U1⟩ := digit_eq (m := (mo : Int)) T (by omega) (by omega) (by omega)
  obtain ⟨n, en⟩ : ∃ n : Nat, 1 + d = (n : Int) := ⟨(1 + d).toNat, by omega⟩
  have n1 : 1 ≤ n := by omega
  have n9 : n ≤ mo := by omega
  obtain ⟨w, h2, q2, w0, w1, T2, U2⟩ := digit_eq (m := 4) T1 (by omega) (by omega) (by omega)
  have U12 := U1.trans U2
  by_cases z : w = 0
  · subst z
    obtain ⟨s, h3, q3, s0, s1, T3, U3⟩ := digit_eq (m := (n : Int)) T2 (by omega) (by omega) (by omega)
    obtain ⟨many, em⟩ : ∃ many : Nat, 1 + s = (many : Int) := ⟨(1 + s).toNat, by omega⟩
    have sq := sized_eq (n := n) (many := many) (h := h3) (by omega) (by omega)
    have sl := sized_len (n := n) (many := many) (by omega)
    refine ⟨n, sizedI n many, h3, ?_, n1, n9, sized_bk (by omega) (by omega) (by omega), T3.mono (by omega), U12.trans U3⟩
    rw [r_law_e_book rfl]
    simp (disch := first | (simp; done) | (simp; omega)) [b_law_e_book, k_law_e_book_law_e_digit, q1, en, q2, q3, em, k_law_e_book_law_e_sized, sq]
    exact Tape_back T3 (U12.trans U3) (by simp [tupD])
  · obtain ⟨M, eM⟩ : ∃ M, M = h2.length := ⟨_, rfl⟩
    have lt2 := T2.lt
    have T2x := T2.ext (Ext.app (Ext.refl h2) [.dit [] []])
    obtain ⟨r, h3, q3, r0, r1, T3, U3⟩ := digit_eq (m := 6) T2x (by omega) (by omega) (by omega)
    have e3 : h3[M]? = some (stObj []) := by
      rw [U3.out M (by simp; omega), eM]
      simp [stObj, ksK]
    obtain ⟨many, em⟩ : ∃ many : Nat, 1 + r = (many : Int) := ⟨(1 + r).toNat, by omega⟩
    have F := forL_relI (f := fun (i : Nat) => D.int i) (turn := T_law_e_book_0) (fun k (_ : Unit) s h' => ∃ (L : List (List Int)) (x5 x6 : Option D), s = BS t M n mo w x5 x6 ∧ h'[M]? = some (stObj L) ∧ StOk n L k ∧ TapeAt h' t ns (p + 3 + k * 20) ∧ Upd h3 h' [t, M]) (fun b _ => b) (List.range many) () _ h3 ⟨[], none, none, rfl, e3, ⟨by simp, fun a ha => (by cases ha), by simp⟩, T3.mono (by omega), Upd.refl⟩ ?_
    rotate_left
    · rintro k u s h4 a ha ⟨L, x5, x6, rfl, e4, O, T4, U4⟩
      obtain ⟨hk, ha⟩ := List.getElem?_eq_some_iff.mp ha
      rw [List.getElem_range] at ha
      subst ha
      rw [List.length_range] at hk
      obtain ⟨h5, L5, y6, E, e5, O5, T5, U5⟩ := book_turn (n := n) (mo := mo) (w := w) (x5 := x5) (x6 := x6) (k := k) T4 (by omega) (by omega) e4 (by omega) O (by omega)
      exact ⟨_, h5, .inl E, L5, _, _, rfl, e5, O5, T5.mono (by omega), U4.trans U5⟩
    · obtain ⟨s, h4, F, L, x5, x6, rfl, e4, O, T4, U4⟩ := F
      rw [List.length_range] at O T4
      have gl := len_set e4
      have l4 : h4.length = h.length + 1 := by rw [U4.len, U3.len, List.length_append, U2.len, U1.len]; rfl
      have lM : M = h.length := by rw [eM, U2.len, U1.len]
      have out4 : ∀ k, k < h.length → k ≠ t → h4[k]? = h[k]? := fun k hk kt => by
        rw [U4.out k (by simp; omega), U3.out k (by simpa using kt), List.getElem?_append_left (by rw [U2.len, U1.len]; exact hk), U12.out k (by simpa using kt)]
      have fin : ∀ {L5 : List (List Int)} {h5 : Hs}, h5[M]? = some (stObj L5) → StOk n L5 (many + 1) → L5 ≠ [] → TapeAt h5 t ns (p + 3 + many * 20) → h5.length = h.length + 1 → (∀ k, k < h.length → k ≠ t → h5[k]? = h[k]?) → backR false h (bookD n (sortT L5)) h5 = .ok (bookD n (sortT L5)) (h5.take h.length) ∧ BkOk n (sortT L5) ∧ TapeAt (h5.take h.length) t ns (p + 200) ∧ Upd h (h5.take h.length) [t] := by
        intro L5 h5 e5 O5 ne T5 l5 out5
        have ht : t < h.length := T.lt
        have tk : ∀ k, k < h.length → (h5.take h.length)[k]? = h5[k]? := fun k hk => List.getElem?_take_of_lt hk
        refine ⟨back_nr (by simp [bookD, tupD]) (T5.cl fun k hk kt => out5 k hk kt), O5.bk ne (by omega), (T5.mono (by omega)).same (tk t ht), by rw [List.length_take]; omega, fun k hk => ?_⟩
        have hk' : k ≠ t := by simpa using hk
        by_cases y : k < h.length
        · rw [tk k y, out5 k y hk']
        · rw [List.getElem?_eq_none (by rw [List.length_take]; omega), List.getElem?_eq_none (by omega)]
      simp only [T_law_e_book_0, L_law_e_book_0] at F
      by_cases y : L = []
      · subst y
        have st := store_set (a := [((n : Int) - 1)]) e4 (by simp)
        have pu : putS [] [((n : Int) - 1)] = [[(n : Int) - 1]] := by simp [putS]
        rw [pu] at st
        have e5 : (h4.set M (stObj [[(n : Int) - 1]]))[M]? = some (stObj [[(n : Int) - 1]]) := List.getElem?_set_self (lt_of_get e4)
        have H5 : HsOk n [(n : Int) - 1] := ⟨by simp, fun i hi => by rw [List.mem_singleton.mp hi]; omega⟩
        have O5 := O.put H5 (by simp)
        rw [pu] at O5
        obtain ⟨f1, f2, f3, f4⟩ := fin e5 O5 (by simp) (T4.same (List.getElem?_set_ne (by omega))) (by rw [List.length_set]; exact l4) fun k hk kt => by rw [List.getElem?_set_ne (by omega)]; exact out4 k hk kt
        have so := sort_set (md := false) e5 (by simp) fun a ha => by rw [List.mem_singleton.mp ha]; simp
        rw [newL_f] at so
        refine ⟨n, sortT [[(n : Int) - 1]], _, ?_, n1, n9, f2, f3, f4⟩
        have sl : (sortT [[(n : Int) - 1]]).length ≤ 1 := by rw [(sortT_perm _).length_eq]; simp
        have stt : storeG (.ref M) (.tup [.int ((n : Int) - 1)]) (.bl true) h4 = some (h4.set M (stObj [[(n : Int) - 1]])) := st
        rw [r_law_e_book rfl]
        simp (disch := first | (simp; done) | omega) [b_law_e_book, k_law_e_book_law_e_digit, q1, en, q2, z, ← eM, q3, em, rngN]
        rw [F]
        simp at gl
        simp (disch := first | (simp; done) | (simp; omega)) [gl, stt, so]
        exact f1
      · obtain ⟨f1, f2, f3, f4⟩ := fin e4 ⟨O.nd, O.hs, by have := O.len; omega⟩ y (T4.mono (by omega)) l4 out4
        have ol := O.len
        have so := sort_set (md := false) e4 (by omega) fun a ha => (O.hs a ha).2
        rw [newL_f] at so
        refine ⟨n, sortT L, _, ?_, n1, n9, f2, f3, f4⟩
        have sl : (sortT L).length ≤ 100 := by rw [(sortT_perm _).length_eq]; omega
        have ly : L.length ≠ 0 := fun v => y (List.eq_nil_of_length_eq_zero v)
        have ly' : ¬ ((L.length : Int) = 0) := by omega
        rw [r_law_e_book rfl]
        simp (disch := first | (simp; done) | omega) [b_law_e_book, k_law_e_book_law_e_digit, q1, en, q2, z, ← eM, q3, em, rngN]
        rw [F]
        simp (disch := first | (simp; done) | (simp; omega)) [gl, y, ly', so]
        exact f1
end
/-! ### _law_e_spoilt -/
def N_law_e_spoilt_v1 : List Str := ["tape", "book", "n", "sets", "bad", "at", "found"]
def b_law_e_spoilt_v1 : List S :=
  [.tset true [2, 3] (.var 1),
   .set 4 (.lst false [.tup [], .tup [.var 2], .tup [.neg (.int 1)], .tup [.int 0, .int 0], .tup [.int 0, .var 2], .tup [.bl true], .tup [.bl false, .var 2], .lst false [.int 0], .non, .int 0, .str "0"]),
   .set 4 (.op .add (.var 4) (.lst false [.tup [.str "0"], .tup [.op .pow (.int 10) (.int 30)], .tup [.int 1, .int 0], .tup [.tup [.int 0]]])),
   .set 4 (.ix (.var 4) (.call 191 [.var 0, .bi .len [.var 4]])),
   .set 5 (.call 191 [.var 0, .op .add (.bi .len [.var 3]) (.int 1)]),
   .set 6 (.lst false [.tup [.var 2, .op .add (.op .add (.sl false (.var 3) [] [.var 5]) (.tup [.var 4])) (.sl false (.var 3) [.var 5] [])], .tup [.var 2, .bi (.list false) [.var 3]], .lst false [.var 2, .var 3], .tup [.var 2, .tup []], .tup [.var 2], .tup [.var 2, .var 3, .tup []], .tup [.var 3, .var 2]]),
   .set 6 (.op .add (.var 6) (.lst false [.tup [.int 0, .var 3], .tup [.int 10, .var 3], .tup [.neg (.var 2), .var 3], .tup [.bl true, .var 3], .tup [.non, .var 3], .tup [.bi .str [.var 2], .var 3]])),
   .set 6 (.op .add (.var 6) (.lst false [.tup [.var 2, .non], .tup [.var 2, .ix (.var 3) (.int 0)]])),
   .set 6 (.op .add (.var 6) (.lst false [.tup [.var 2, .op .add (.var 3) (.sl false (.var 3) [.neg (.int 1)] [])], .tup [.var 2, .op .add (.sl false (.var 3) [] [.int 1]) (.var 3)], .tup [.ix (.ix (.var 3) (.neg (.int 1))) (.neg (.int 1)), .var 3]])),
   .iff (.op .gt (.bi .len [.var 3]) (.int 1)) [.set 6 (.op .add (.var 6) (.lst false [.tup [.var 2, .rev false (.var 3)], .tup [.var 2, .op .add (.sl false (.var 3) [.int 1] []) (.sl false (.var 3) [] [.int 1])]]))] [],
   .ret (.var 6)]
def n_law_e_spoilt_v1 : Nat := 0
noncomputable def gam_law_e_spoilt_v1 : Mir := mirA [(191, 2, f_law_e_digit)]
noncomputable def f_law_e_spoilt_v1 : List D → Hs → R D := runF gam_law_e_spoilt_v1 false n_law_e_spoilt_v1 7 2 b_law_e_spoilt_v1
theorem k_law_e_spoilt_v1_law_e_digit {ds : List D} {h : Hs} : callR gam_law_e_spoilt_v1 191 ds h = if ds.length = 2 then f_law_e_digit ds h else .stk := callR_at rfl
theorem r_law_e_spoilt_v1 {ds : List D} {h : Hs} (e : ds.length = 2) : f_law_e_spoilt_v1 ds h = fin false h (S.evs gam_law_e_spoilt_v1 n_law_e_spoilt_v1 b_law_e_spoilt_v1 (ds.map some ++ List.replicate 5 none) h) := runF_eq e
-- needs law_e_book
-- needs is_book
theorem okK_int {i : Int} {k : Nat} : OkK k (.int i) := ⟨rfl, Nat.zero_le _, by simp⟩
theorem okK_bl {b : Bool} {k : Nat} : OkK k (.bl b) := ⟨rfl, Nat.zero_le _, by simp⟩
theorem okK_non {k : Nat} : OkK k .non := ⟨rfl, Nat.zero_le _, by simp⟩
theorem okK_str {w : Str} {k : Nat} (e : (D.str w).py.canLay0 = true) : OkK k (.str w) := ⟨e, Nat.zero_le _, by simp⟩
theorem okK_set {a : List Int} : OkK 1 (tupD a) := okK_tup fun x hx => by
  obtain ⟨i, _, rfl⟩ := List.mem_map.mp hx
  exact okK_int
/-- small -/
def Sm (x : D) : Prop := ∀ m, x = .tup m → m.length ≤ 5000
/-- no book, whatever the store -/
structure NoBk (d : D) : Prop where
  ok : OkK 20 d
  sm : ∀ a Z, d = .tup [a, .tup Z] → Z.length ≤ 5000 ∧ ∀ x ∈ Z, Sm x
  no : bkB d = false
theorem NoBk.eq {d : D} (N : NoBk d) (h : Hs) : f_is_book [d] h = .ok (.bl false) h := by
  rw [book_pl N.ok N.sm, N.no]
theorem noBk2 {a : D} {Z : List D} (oa : OkK 5 a) (oz : ∀ x ∈ Z, OkK 5 x ∧ Sm x) (lz : Z.length ≤ 5000) (e : bkB (.tup [a, .tup Z]) = false) : NoBk (.tup [a, .tup Z]) := by
  refine ⟨(okK_tup (k := 6) fun x hx => ?_).mono (by omega), fun a' Z' e => ?_, e⟩
  · simp only [List.mem_cons, List.not_mem_nil, or_false] at hx
    rcases hx with rfl | rfl
    · exact oa.mono (by omega)
    · exact okK_tup fun x hx => (oz x hx).1
  · injection e with e
    injection e with _ e
    injection e with e _
    injection e with e
    subst e
    exact ⟨lz, fun x hx => (oz x hx).2⟩
theorem noBk_other {d : D} (o : OkK 20 d) (n : ∀ a Z, d ≠ .tup [a, .tup Z]) : NoBk d := by
  refine ⟨o, fun a Z e => (n a Z e).elim, ?_⟩
  unfold bkB
  split
  · rename_i n' Z
    exact (n _ _ rfl).elim
  · rfl
theorem bk_bad {n : Int} {Z : List D} {x : D} (hx : x ∈ Z) (e : (rhB n x && neT x) = false) : bkB (.tup [.int n, .tup Z]) = false := by
  have : (Z.all fun one => rhB n one && neT one) = false := Bool.eq_false_iff.mpr fun w => by
    have := List.all_eq_true.mp w x hx
    rw [e] at this
    cases this
  simp only [bkB]
  rw [this]
  simp
theorem bk_up {n : Int} {L : List (List Int)} (e : ¬ L.Pairwise fun a b => HT.lexLt a b = true) : bkB (.tup [.int n, .tup (L.map tupD)]) = false := by
  have : lexUp (L.map tupD) = false := Bool.eq_false_iff.mpr fun w => e (by
    unfold lexUp at w
    rw [tupsOf_map] at w
    simp only at w
    rw [List.all_eq_true] at w
    have st : ∀ k, k + 1 < L.length → HT.lexLt (L.getD k []) (L.getD (k + 1) []) = true := fun k hk => w k (List.mem_range.mpr (by omega))
    rw [List.pairwise_iff_getElem]
    intro i j hi hj ij
    have go : ∀ d, i + d + 1 < L.length → HT.lexLt (L.getD i []) (L.getD (i + d + 1) []) = true := fun d => by
      induction d with
      | zero =>
        intro hd
        exact st i hd
      | succ d ih =>
        intro hd
        have h1 := ih (by omega)
        have h2 := st (i + d + 1) (by omega)
        rw [show i + (d + 1) + 1 = i + d + 1 + 1 by omega]
        rw [lex_ltL] at *
        exact ltL_trans h1 h2
    have g := go (j - i - 1) (by omega)
    rw [show i + (j - i - 1) + 1 = j by omega] at g
    simpa [List.getD_eq_getElem?_getD, List.getElem?_eq_getElem hi, List.getElem?_eq_getElem hj] using g)
  simp only [bkB]
  rw [this]
  simp
theorem lex_asym {a b : List Int} (h : HT.lexLt a b = true) : HT.lexLt b a = false := by
  rw [lex_ltL] at *
  exact ltL_asym h
/-- what is no set of a book -/
def badL (n : Nat) : List D := [.tup [], .tup [.int n], .tup [.int (-1)], .tup [.int 0, .int 0], .tup [.int 0, .int n], .tup [.bl true], .tup [.bl false, .int n], .vl [.int 0], .non, .int 0, .str "0", .tup [.str "0"], .tup [.int (10 ^ 30)], .tup [.int 1, .int 0], .tup [.tup [.int 0]]]
theorem lay0 : (D.str "0").py.canLay0 = true := by decide +kernel
theorem tup_small {l : List D} (h : l.length ≤ 5000) : Sm (.tup l) := fun m e => by
  injection e with e
  rw [← e]
  exact h
theorem bad_ok {n : Nat} (n9 : n ≤ 9) : ∀ x ∈ badL n, OkK 5 x ∧ Sm x ∧ (rhB n x && neT x) = false := by
  intro x hx
  simp only [badL, List.mem_cons, List.not_mem_nil, or_false] at hx
  have o1 : ∀ {l : List D}, (∀ y ∈ l, OkK 1 y) → OkK 5 (.tup l) := fun h => (okK_tup h).mono (by omega)
  rcases hx with rfl | rfl | rfl | rfl | rfl | rfl | rfl | rfl | rfl | rfl | rfl | rfl | rfl | rfl | rfl
  · exact ⟨o1 (by simp), tup_small (by simp), by simp [neT]⟩
  · exact ⟨o1 (by simp [okK_int]), tup_small (by simp), by simp [rhB, intIn]⟩
  · exact ⟨o1 (by simp [okK_int]), tup_small (by simp), by simp [rhB, intIn]⟩
  · exact ⟨o1 (by simp [okK_int]), tup_small (by simp), by simp [rhB, risD, intsOf, riseB]⟩
  · exact ⟨o1 (by simp [okK_int]), tup_small (by simp), by simp [rhB, intIn]⟩
  · exact ⟨o1 (by simp [okK_bl]), tup_small (by simp), by simp [rhB, intIn]⟩
  · exact ⟨o1 (by simp [okK_int, okK_bl]), tup_small (by simp), by simp [rhB, intIn]⟩
  · exact ⟨(okK_vl (k := 1) (by simp [okK_int])).mono (by omega), fun m e => (by cases e), by simp [rhB]⟩
  · exact ⟨okK_non, fun m e => (by cases e), by simp [rhB]⟩
  · exact ⟨okK_int, fun m e => (by cases e), by simp [rhB]⟩
  · exact ⟨okK_str lay0, fun m e => (by cases e), by simp [rhB]⟩
  · exact ⟨o1 (by simp [okK_str lay0]), tup_small (by simp), by simp [rhB, intIn]⟩
  · exact ⟨o1 (by simp [okK_int]), tup_small (by simp), by simp [rhB, intIn]; omega⟩
  · exact ⟨o1 (by simp [okK_int]), tup_small (by simp), by simp [rhB, risD, intsOf, riseB]⟩
  · exact ⟨(okK_tup (k := 2) (by simp; exact (okK_tup (k := 1) (by simp [okK_int])))).mono (by omega), tup_small (by simp), by simp [rhB, intIn]⟩
theorem neg_cut {α : Type} {f : α → D} {l : List α} (ne : l ≠ []) : cutD (l.map f) (some (-1)) none = [f (l.getLast ne)] := by
  have hl : 0 < l.length := List.length_pos_iff.mpr ne
  unfold cutD
  have e1 : HT.sIx (l.map f).length 0 (some (-1)) = l.length - 1 := by
    show (if (-1 : Int) < 0 then ((-1 : Int) + ((l.map f).length : Int)).toNat else min (Int.toNat (-1)) (l.map f).length) = _
    rw [if_pos (by omega), List.length_map]
    omega
  have e2 : HT.sIx (l.map f).length (l.map f).length none = l.length := by rw [HT.sIx_none, List.length_map]
  rw [e1, e2, show l.length - (l.length - 1) = 1 by omega, ← List.map_drop, List.drop_eq_getElem_cons (by omega : l.length - 1 < l.length), List.getLast_eq_getElem]
  rfl
theorem strN : ∀ n : Fin 10, (D.str (toString ((n.val : Nat) : Int))).py.canLay0 = true := by decide +kernel
def spA (n : Nat) (a : Int) (ZS : List D) (bad : D) : List D := [.tup [.int n, .tup (cutD ZS none (some a) ++ bad :: cutD ZS (some a) none)], .tup [.int n, .vl ZS], .vl [.int n, .tup ZS], .tup [.int n, .tup []], .tup [.int n], .tup [.int n, .tup ZS, .tup []], .tup [.tup ZS, .int n]]
def spB (n : Nat) (ZS : List D) (w : Str) : List D := [.tup [.int 0, .tup ZS], .tup [.int 10, .tup ZS], .tup [.int (-(n : Int)), .tup ZS], .tup [.bl true, .tup ZS], .tup [.non, .tup ZS], .tup [.str w, .tup ZS]]
def spC (n : Nat) (z : D) : List D := [.tup [.int n, .non], .tup [.int n, z]]
def spD (n : Nat) (ZS : List D) (i : Int) : List D := [.tup [.int n, .tup (ZS ++ cutD ZS (some (-1)) none)], .tup [.int n, .tup (cutD ZS none (some 1) ++ ZS)], .tup [.int i, .tup ZS]]
def spE (n : Nat) (ZS : List D) : List D := [.tup [.int n, .tup ZS.reverse], .tup [.int n, .tup (cutD ZS (some 1) none ++ cutD ZS none (some 1))]]
section
variable {n : Nat} {Z : List (List Int)}
theorem set_in (B : BkOk n Z) (n9 : n ≤ 9) : ∀ x ∈ Z.map tupD, OkK 5 x ∧ Sm x := fun x hx => by
  obtain ⟨a, ha, rfl⟩ := List.mem_map.mp hx
  have := (B.hs a ha).1.len
  exact ⟨okK_set.mono (by omega), tup_small (by rw [List.length_map]; omega)⟩
theorem sets_ok (B : BkOk n Z) : OkK 6 (.tup (Z.map tupD)) := (okK_tup (k := 1) fun x hx => by
  obtain ⟨a, ha, rfl⟩ := List.mem_map.mp hx
  exact okK_set).mono (by omega)
theorem spA_no {a : Int} {bad : D} (B : BkOk n Z) (n9 : n ≤ 9) (a0 : 0 ≤ a) (hb : bad ∈ badL n) : ∀ d ∈ spA n a (Z.map tupD) bad, NoBk d := by
  intro d hd
  have so := sets_ok B
  have sm : ∀ x ∈ (.tup (Z.map tupD) : D) :: [.int n], OkK 6 x := by simp [so, okK_int]
  have ln := B.len
  obtain ⟨b1, b2, b3⟩ := bad_ok n9 bad hb
  have oz := set_in B n9
  simp only [spA, List.mem_cons, List.not_mem_nil, or_false] at hd
  rcases hd with rfl | rfl | rfl | rfl | rfl | rfl | rfl
  · rw [cut_takeI a0, cut_dropI a0]
    refine noBk2 okK_int (fun x hx => ?_) ?_ (bk_bad (x := bad) (by simp) b3)
    · simp only [List.mem_append, List.mem_cons] at hx
      rcases hx with hx | rfl | hx
      · exact oz x (List.mem_of_mem_take hx)
      · exact ⟨b1, b2⟩
      · exact oz x (List.mem_of_mem_drop hx)
    · simp
      omega
  · exact noBk_other ((okK_tup (k := 6) (by simp [okK_int]; exact (okK_vl (k := 5) fun x hx => (oz x hx).1))).mono (by omega)) fun a Z e => by cases e
  · exact noBk_other ((okK_vl (k := 6) (by simp [okK_int, so])).mono (by omega)) fun a Z e => by cases e
  · exact noBk2 okK_int (by simp) (by simp) (by simp [bkB])
  · exact noBk_other ((okK_tup (k := 1) (by simp [okK_int])).mono (by omega)) fun a Z e => by cases e
  · exact noBk_other ((okK_tup (k := 6) (by simp [okK_int, so]; exact (okK_tup (k := 5) (by simp)))).mono (by omega)) fun a Z e => by cases e
  · exact noBk_other ((okK_tup (k := 6) (by simp [okK_int, so])).mono (by omega)) fun a Z e => by cases e
theorem spB_no {w : Str} (B : BkOk n Z) (n1 : 1 ≤ n) (n9 : n ≤ 9) (sn : (D.str w).py.canLay0 = true) : ∀ d ∈ spB n (Z.map tupD) w, NoBk d := by
  intro d hd
  have ln := B.len
  have oz := set_in B n9
  simp only [spB, List.mem_cons, List.not_mem_nil, or_false] at hd
  have lz : (Z.map tupD).length ≤ 5000 := by rw [List.length_map]; omega
  rcases hd with rfl | rfl | rfl | rfl | rfl | rfl
  · exact noBk2 okK_int oz lz (by simp [bkB])
  · exact noBk2 okK_int oz lz (by simp [bkB])
  · exact noBk2 okK_int oz lz (by
      have : ¬ (1 : Int) ≤ -(n : Int) := by omega
      simp [bkB, this])
  · exact noBk2 okK_bl oz lz rfl
  · exact noBk2 okK_non oz lz rfl
  · exact noBk2 (okK_str sn) oz lz rfl
theorem spC_no (B : BkOk n Z) (n9 : n ≤ 9) {a : List Int} (ha : a ∈ Z) : ∀ d ∈ spC n (tupD a), NoBk d := by
  intro d hd
  obtain ⟨H, ne⟩ := B.hs a ha
  have la := H.len
  simp only [spC, List.mem_cons, List.not_mem_nil, or_false] at hd
  rcases hd with rfl | rfl
  · exact noBk_other ((okK_tup (k := 1) (by simp [okK_int, okK_non])).mono (by omega)) fun a Z e => by cases e
  · refine noBk2 okK_int (fun x hx => ?_) (by rw [List.length_map]; omega) ?_
    · obtain ⟨i, _, rfl⟩ := List.mem_map.mp hx
      exact ⟨okK_int, fun m e => (by cases e)⟩
    · obtain ⟨i, r, rfl⟩ : ∃ i r, a = i :: r := by
        cases a with
        | nil => exact absurd rfl ne
        | cons i r => exact ⟨i, r, rfl⟩
      exact bk_bad (x := .int i) (by simp) rfl
theorem spD_no (B : BkOk n Z) (n9 : n ≤ 9) {i : Int} {a : List Int} (ha : a ∈ Z) (hi : i ∈ a) : ∀ d ∈ spD n (Z.map tupD) i, NoBk d := by
  intro d hd
  have ln := B.len
  have oz := set_in B n9
  have nd := ltL_nd B.up
  simp only [spD, List.mem_cons, List.not_mem_nil, or_false] at hd
  rcases hd with rfl | rfl | rfl
  · rw [neg_cut B.ne, show Z.map tupD ++ [tupD (Z.getLast B.ne)] = (Z ++ [Z.getLast B.ne]).map tupD by simp]
    refine noBk2 okK_int (fun x hx => ?_) (by simp; omega) (bk_up fun w => ?_)
    · obtain ⟨b, hb, rfl⟩ := List.mem_map.mp hx
      refine oz _ (List.mem_map.mpr ⟨b, ?_, rfl⟩)
      rcases List.mem_append.mp hb with z | z
      · exact z
      · rw [List.mem_singleton.mp z]; exact List.getLast_mem B.ne
    · have := ltL_nd w
      rw [List.nodup_append] at this
      exact this.2.2 _ (List.getLast_mem B.ne) _ (by simp) rfl
  · obtain ⟨c, r, rfl⟩ : ∃ c r, Z = c :: r := by
      cases Z with
      | nil => exact absurd rfl B.ne
      | cons c r => exact ⟨c, r, rfl⟩
    rw [cut_takeI (by omega), show ((c :: r).map tupD).take (Int.toNat 1) ++ (c :: r).map tupD = (c :: c :: r).map tupD from rfl]
    refine noBk2 okK_int (fun x hx => ?_) (by simp at *; omega) (bk_up fun w => ?_)
    · obtain ⟨b, hb, rfl⟩ := List.mem_map.mp hx
      refine oz _ (List.mem_map.mpr ⟨b, ?_, rfl⟩)
      rcases List.mem_cons.mp hb with z | z
      · rw [z]; exact List.mem_cons_self
      · exact z
    · have := ltL_nd w
      rw [List.nodup_cons] at this
      exact this.1 List.mem_cons_self
  · have H := (B.hs a ha).1
    refine noBk2 okK_int oz (by rw [List.length_map]; omega) (bk_bad (x := tupD a) (List.mem_map.mpr ⟨a, ha, rfl⟩) ?_)
    have : (a.map D.int).all (intIn i) = false := Bool.eq_false_iff.mpr fun w => by
      have := List.all_eq_true.mp w (.int i) (List.mem_map.mpr ⟨i, hi, rfl⟩)
      simp [intIn] at this
    simp only [tupD, rhB]
    rw [this]
    rfl
theorem spE_no (B : BkOk n Z) (n9 : n ≤ 9) (l2 : 1 < Z.length) : ∀ d ∈ spE n (Z.map tupD), NoBk d := by
  intro d hd
  have ln := B.len
  have oz := set_in B n9
  obtain ⟨a, b, r, rfl⟩ : ∃ a b r, Z = a :: b :: r := by
    rcases Z with _ | ⟨a, _ | ⟨b, r⟩⟩
    · simp at l2
    · simp at l2
    · exact ⟨a, b, r, rfl⟩
  have ab : HT.lexLt a b = true := (List.pairwise_cons.mp B.up).1 b List.mem_cons_self
  have ba := lex_asym ab
  simp only [spE, List.mem_cons, List.not_mem_nil, or_false] at hd
  rcases hd with rfl | rfl
  · rw [← List.map_reverse]
    refine noBk2 okK_int (fun x hx => ?_) (by simp at *; omega) (bk_up fun w => ?_)
    · obtain ⟨c, hc, rfl⟩ := List.mem_map.mp hx
      exact oz _ (List.mem_map.mpr ⟨c, List.mem_reverse.mp hc, rfl⟩)
    · rw [List.pairwise_reverse, List.pairwise_cons] at w
      have := w.1 b List.mem_cons_self
      rw [ba] at this
      cases this
  · rw [cut_takeI (by omega), cut_dropI (by omega), show ((a :: b :: r).map tupD).drop (Int.toNat 1) ++ ((a :: b :: r).map tupD).take (Int.toNat 1) = (b :: r ++ [a]).map tupD by simp [show Int.toNat 1 = 1 from rfl]]
    refine noBk2 okK_int (fun x hx => ?_) (by simp at *; omega) (bk_up fun w => ?_)
    · obtain ⟨c, hc, rfl⟩ := List.mem_map.mp hx
      refine oz _ (List.mem_map.mpr ⟨c, ?_, rfl⟩)
      rcases List.mem_append.mp hc with z | z
      · exact List.mem_cons_of_mem _ z
      · rw [List.mem_singleton.mp z]; exact List.mem_cons_self
    · rw [List.pairwise_append] at w
      have := w.2.2 b List.mem_cons_self a (by simp)
      rw [ba] at this
      cases this
theorem spoilt_ex {t : Nat} {ns : List Int} {p : Int} {h : Hs} (T : TapeAt h t ns p) (p1 : p ≤ 10 ^ 7) (n1 : 1 ≤ n) (n9 : n ≤ 9) (B : BkOk n Z) : ∃ (th : List D) (h' : Hs), f_law_e_spoilt_v1 [.ref t, bookD n Z] h = .ok (.vl th) h' ∧ (∀ d ∈ th, NoBk d) ∧ th.length ≤ 100 ∧ TapeAt h' t ns (p + 2) ∧ Upd h h' [t] := by
  have ln := B.len
  have lz : 0 < Z.length := List.length_pos_iff.mpr B.ne
  obtain ⟨d, h1, q1, d0, d1, T1, U1⟩ := digit_eq (m := 15) T (by omega) (by omega) (by omega)
  obtain ⟨a, h2, q2, a0, a1, T2, U2⟩ := digit_eq (m := (Z.length : Int) + 1) T1 (by omega) (by omega) (by omega)
  obtain ⟨bad, hb, gb⟩ : ∃ bad, bad ∈ badL n ∧ ∀ h, gIx h (.vl (badL n)) (.int d) = some bad := by
    refine ⟨(badL n)[d.toNat]'(by simp [badL]; omega), List.getElem_mem _, fun h => ?_⟩
    have := atI_map (f := id) (l := badL n) (k := d) (by omega) (by simp [badL]; omega)
    rw [List.map_id] at this
    rw [gIx_vl, this]
    rfl
  obtain ⟨c, r, ez⟩ : ∃ c r, Z = c :: r := by
    cases Z with
    | nil => exact absurd rfl B.ne
    | cons c r => exact ⟨c, r, rfl⟩
  have hc : c ∈ Z := by rw [ez]; exact List.mem_cons_self
  obtain ⟨zl, ezl⟩ : ∃ zl, zl = Z.getLast B.ne := ⟨_, rfl⟩
  have hz : zl ∈ Z := by rw [ezl]; exact List.getLast_mem B.ne
  have zne := (B.hs zl hz).2
  have lzl := (B.hs zl hz).1.len
  obtain ⟨i, ei⟩ : ∃ i, i = zl.getLast zne := ⟨_, rfl⟩
  have hi : i ∈ zl := by rw [ei]; exact List.getLast_mem zne
  have g0 : ∀ h, gIx h (.tup (Z.map tupD)) (.int 0) = some (tupD c) := fun h => by
    rw [ez, gIx_tup, atI_map (by omega) (by simp)]
    simp
  have gl1 : ∀ h, gIx h (.tup (Z.map tupD)) (.int (-1)) = some (tupD zl) := fun h => by
    rw [gIx_tup, atI_last (by rw [List.length_map]; exact lz)]
    simp [ezl, List.getLast_eq_getElem]
  have gl2 : ∀ h, gIx h (tupD zl) (.int (-1)) = some (.int i) := fun h => by
    unfold tupD
    rw [gIx_tup, atI_last (by rw [List.length_map]; exact List.length_pos_iff.mpr zne)]
    simp [ei, List.getLast_eq_getElem]
  obtain ⟨ZS, eZS⟩ : ∃ ZS, ZS = Z.map tupD := ⟨_, rfl⟩
  have lS : ZS.length = Z.length := by rw [eZS, List.length_map]
  have eb : bookD n Z = .tup [.int n, .tup ZS] := by rw [eZS]; rfl
  rw [← eZS] at g0 gl1
  obtain ⟨w, ew⟩ : ∃ w : Str, w = toString (n : Int) := ⟨_, rfl⟩
  have sn : (D.str w).py.canLay0 = true := by rw [ew]; exact strN ⟨n, by omega⟩
  have gs : ∀ h, gStr h [.int (n : Int)] = some (.str w) := fun h => by
    rw [ew]
    unfold gStr
    dsimp only
    rw [if_pos]
    have : (n : Int).natAbs.log2 ≤ (n : Int).natAbs := Nat.log2_le_self _
    omega
  have lc : ∀ lo hi, (cutD ZS lo hi).length ≤ ZS.length := fun lo hi => by
    unfold cutD
    rw [List.length_take, List.length_drop]
    omega
  have TB : ∀ {th : List D}, (D.vl th).nr = true → backR false h (.vl th) h2 = .ok (.vl th) h2 := fun e => Tape_back T2 (U1.trans U2) e
  have NA := spA_no (a := a) B n9 a0 hb
  have NB := spB_no B n1 n9 sn
  have NC := spC_no B n9 hc
  have ND := spD_no B n9 hz hi
  rw [← eZS] at NA NB ND
  have main : ∀ E : List D, (∀ d ∈ E, NoBk d) → (∀ d ∈ spA n a ZS bad ++ spB n ZS w ++ spC n (tupD c) ++ spD n ZS i ++ E, NoBk d) := fun E hE d hd => by
    simp only [List.mem_append] at hd
    rcases hd with (((hd | hd) | hd) | hd) | hd
    · exact NA d hd
    · exact NB d hd
    · exact NC d hd
    · exact ND d hd
    · exact hE d hd
  have nrl : ∀ {th : List D}, (∀ d ∈ th, NoBk d) → (D.vl th).nr = true := fun hth => by
    simp only [D.nr]
    rw [nrL_all, List.all_eq_true]
    exact fun x hx => (hth x hx).ok.nr
  have l1 := lc none (some a)
  have l2 := lc (some a) none
  have l3 := lc (some (-1)) none
  have l4 := lc none (some 1)
  have l5 := lc (some 1) none
  have E0 : S.evs gam_law_e_spoilt_v1 n_law_e_spoilt_v1 (b_law_e_spoilt_v1.take 5) (List.map some [.ref t, bookD n Z] ++ List.replicate 5 none) h = .nx [some (.ref t), some (bookD n Z), some (.int n), some (.tup ZS), some bad, some (.int a), none] h2 := by
    rw [eb]
    have lb : gLen h [.vl (badL n)] = some (.int 15) := by simp [badL]
    have ad : gAdd h (.vl [.tup [], .tup [.int n], .tup [.int (-1)], .tup [.int 0, .int 0], .tup [.int 0, .int n], .tup [.bl true], .tup [.bl false, .int n], .vl [.int 0], .non, .int 0, .str "0"]) (.vl [.tup [.str "0"], .tup [.int (10 ^ 30)], .tup [.int 1, .int 0], .tup [.tup [.int 0]]]) = some (.vl (badL n)) := by
      rw [gAdd_vl (by simp)]
      rfl
    have e30 : (10 : Int) ^ 30 = 1000000000000000000000000000000 := by decide
    rw [e30] at ad
    have lB : (badL n).length = 15 := rfl
    generalize badL n = BL at *
    simp (disch := first | (simp; done) | omega) [b_law_e_spoilt_v1, tsetO, ad, lB, k_law_e_spoilt_v1_law_e_digit, q1, gb, lS, q2]
  rw [r_law_e_spoilt_v1 rfl, show b_law_e_spoilt_v1 = b_law_e_spoilt_v1.take 5 ++ b_law_e_spoilt_v1.drop 5 from rfl, evs_append, E0, seq_nx]
  by_cases z : 1 < Z.length
  · have NE := spE_no B n9 z
    rw [← eZS] at NE
    have hth := main (spE n ZS) NE
    refine ⟨_, h2, ?_, hth, by simp [spA, spB, spC, spD, spE], T2.mono (by omega), U1.trans U2⟩
    have z' : 1 < (Z.length : Int) := by omega
    simp (disch := first | (simp; done) | omega | (simp; omega)) [b_law_e_spoilt_v1, g0, gl1, gl2, gs, lS, z']
    exact TB (nrl hth)
  · have hth := main [] (fun d hd => by cases hd)
    refine ⟨_, h2, ?_, hth, by simp [spA, spB, spC, spD], T2.mono (by omega), U1.trans U2⟩
    have z' : ¬ 1 < (Z.length : Int) := by omega
    simp (disch := first | (simp; done) | omega | (simp; omega)) [b_law_e_spoilt_v1, g0, gl1, gl2, gs, lS, z']
    exact TB (nrl hth)
end
def N_law : List Str := ["script", "tape", "k", "book", "turn", "thing", "things"]
def b_law : List S :=
  [.set 1 (.lst true [.var 0, .int 0, .int 0]),
   .loop false 1 [.int 5] false [2] [.iff (.and (.op .gt (.var 2) (.int 1)) (.op .ge (.ix (.var 1) (.int 1)) (.bi .len [.var 0]))) [.brk] [], .set 3 (.call 284 [.var 1, .int 6]), .iff (.op .eq (.call 191 [.var 1, .int 3]) (.int 0)) [.set 3 (.tup [.int 9, .bi .tuple [.bi (.sorted false) [.lst false [.ix (.ix (.var 3) (.int 1)) (.int 0), .tup [.int 8]]]]])] [], .loop false 1 [.int 2] false [4] [.iff (.op .isNot (.call 281 [.var 3]) (.bl true)) [.ret (.bl false)] []], .loop false 0 [.call 285 [.var 1, .var 3]] false [5] [.iff (.op .isNot (.call 281 [.var 5]) (.bl false)) [.ret (.bl false)] []]],
   .set 6 (.lst false [.non, .bl true, .int 1, .str "book", .tup [], .lst false [], .dnw false, .tup [.int 1], .tup [.int 1, .int 1], .tup [.tup [], .tup []], .tup [.int 1, .tup [.tup []]], .tup [.int 1, .tup [.tup [.int 1]]]]),
   .loop false 0 [.op .add (.var 6) (.lst false [.tup [.int 2, .tup [.tup [.int 0], .tup [.int 0]]]])] false [5] [.iff (.op .isNot (.call 281 [.var 5]) (.bl false)) [.ret (.bl false)] []],
   .ret (.and (.op .is (.call 281 [.tup [.int 1, .tup [.tup [.int 0]]]]) (.bl true)) (.op .is (.call 281 [.tup [.int 9, .tup [.tup [.int 0, .int 8], .tup [.int 8]]]]) (.bl true)))]
def n_law : Nat := 0
noncomputable def gam_law : Mir := mirA [(284, 2, f_law_e_book), (285, 2, f_law_e_spoilt_v1), (191, 2, f_law_e_digit), (281, 1, f_is_book)]
noncomputable def f_law : List D → Hs → R D := runF gam_law false n_law 7 1 b_law
abbrev L_law_0 : List S := [.iff (.and (.op .gt (.var 2) (.int 1)) (.op .ge (.ix (.var 1) (.int 1)) (.bi .len [.var 0]))) [.brk] [], .set 3 (.call 284 [.var 1, .int 6]), .iff (.op .eq (.call 191 [.var 1, .int 3]) (.int 0)) [.set 3 (.tup [.int 9, .bi .tuple [.bi (.sorted false) [.lst false [.ix (.ix (.var 3) (.int 1)) (.int 0), .tup [.int 8]]]]])] [], .loop false 1 [.int 2] false [4] [.iff (.op .isNot (.call 281 [.var 3]) (.bl true)) [.ret (.bl false)] []], .loop false 0 [.call 285 [.var 1, .var 3]] false [5] [.iff (.op .isNot (.call 281 [.var 5]) (.bl false)) [.ret (.bl false)] []]]
noncomputable abbrev T_law_0 : D → SD → Hs → O := turnO (tgF false [2]) (cutB false (S.evs gam_law n_law L_law_0))
abbrev L_law_1 : List S := [.iff (.op .isNot (.call 281 [.var 3]) (.bl true)) [.ret (.bl false)] []]
noncomputable abbrev T_law_1 : D → SD → Hs → O := turnO (tgF false [4]) (cutB false (S.evs gam_law n_law L_law_1))
abbrev L_law_2 : List S := [.iff (.op .isNot (.call 281 [.var 5]) (.bl false)) [.ret (.bl false)] []]
noncomputable abbrev T_law_2 : D → SD → Hs → O := turnO (tgF false [5]) (cutB false (S.evs gam_law n_law L_law_2))
abbrev L_law_3 : List S := [.iff (.op .isNot (.call 281 [.var 5]) (.bl false)) [.ret (.bl false)] []]
noncomputable abbrev T_law_3 : D → SD → Hs → O := turnO (tgF false [5]) (cutB false (S.evs gam_law n_law L_law_3))
theorem k_law_law_e_book {ds : List D} {h : Hs} : callR gam_law 284 ds h = if ds.length = 2 then f_law_e_book ds h else .stk := callR_at rfl
theorem k_law_law_e_spoilt_v1 {ds : List D} {h : Hs} : callR gam_law 285 ds h = if ds.length = 2 then f_law_e_spoilt_v1 ds h else .stk := callR_at rfl
theorem k_law_law_e_digit {ds : List D} {h : Hs} : callR gam_law 191 ds h = if ds.length = 2 then f_law_e_digit ds h else .stk := callR_at rfl
theorem k_law_is_book {ds : List D} {h : Hs} : callR gam_law 281 ds h = if ds.length = 1 then f_is_book ds h else .stk := callR_at rfl
theorem r_law {ds : List D} {h : Hs} (e : ds.length = 1) : f_law ds h = fin false h (S.evs gam_law n_law b_law (ds.map some ++ List.replicate 6 none) h) := runF_eq e
theorem isNot_bb {h : Hs} {b : Bool} : gIsNot h (.bl b) (.bl b) = some (.bl false) := by cases b <;> simp [gIsNot, gIs0]
theorem is_bb {h : Hs} {b : Bool} : gIs h (.bl b) (.bl b) = some (.bl true) := by cases b <;> simp [gIs, gIs0]
theorem bk_lexUp {Z : List (List Int)} (h : Z.Pairwise fun a b => HT.lexLt a b = true) : lexUp (Z.map tupD) = true := by
  unfold lexUp
  rw [tupsOf_map]
  simp only
  rw [List.all_eq_true]
  intro k hk
  have hk := List.mem_range.mp hk
  have h1 : k < Z.length := by omega
  have h2 : k + 1 < Z.length := by omega
  have := List.pairwise_iff_getElem.mp h k (k + 1) h1 h2 (by omega)
  simpa [List.getD_eq_getElem?_getD, List.getElem?_eq_getElem h1, List.getElem?_eq_getElem h2] using this
theorem bk_true {n : Nat} {Z : List (List Int)} (B : BkOk n Z) (n1 : 1 ≤ n) (n9 : n ≤ 9) : bkB (bookD n Z) = true := by
  have al : (Z.map tupD).all (fun one => rhB n one && neT one) = true := by
    rw [List.all_eq_true]
    intro x hx
    obtain ⟨a, ha, rfl⟩ := List.mem_map.mp hx
    obtain ⟨H, ne⟩ := B.hs a ha
    have h1 : (a.map D.int).all (intIn n) = true := by
      rw [List.all_eq_true]
      intro y hy
      obtain ⟨i, hi, rfl⟩ := List.mem_map.mp hy
      have := H.rg i hi
      simp [intIn, this]
    have h2 : neT (tupD a) = true := by
      cases a with
      | nil => exact absurd rfl ne
      | cons => rfl
    have h3 : rhB n (tupD a) = true := by
      simp only [tupD, rhB, risD]
      rw [h1, intsOf_map]
      exact riseB_iff.mpr H.up
    rw [h2, h3]
    rfl
  have ne : (Z.map tupD).isEmpty = false := by
    cases Z with
    | nil => exact absurd rfl B.ne
    | cons => rfl
  simp only [bookD, bkB]
  rw [al, ne, bk_lexUp B.up, decide_eq_true (by omega : (1 : Int) ≤ n), decide_eq_true (by omega : (n : Int) ≤ 9)]
  rfl
theorem book_is {n : Nat} {Z : List (List Int)} (B : BkOk n Z) (n1 : 1 ≤ n) (n9 : n ≤ 9) (h : Hs) : f_is_book [bookD n Z] h = .ok (.bl true) h := by
  have so := sets_ok B
  have e := book_pl (d := bookD n Z) (h := h) ((okK_tup (k := 6) (by simp [okK_int, so])).mono (by omega)) fun a Y e => by
    injection e with e
    injection e with _ e
    injection e with e _
    injection e with e
    subst e
    exact ⟨by have := B.len; rw [List.length_map]; omega, fun x hx => (set_in B n9 x hx).2⟩
  rw [e, bk_true B n1 n9]
section
variable {ns : List Int} {h : Hs} {t n : Nat} {Z : List (List Int)} {x2 x3 x4 x5 x6 : Option D} {sc : D}
abbrev KS (sc : D) (t : Nat) (x2 x3 x4 x5 x6 : Option D) : SD := [some sc, some (.ref t), x2, x3, x4, x5, x6]
theorem k_twice (B : BkOk n Z) (n1 : 1 ≤ n) (n9 : n ≤ 9) : forL T_law_1 ((List.range 2).map fun (i : Nat) => D.int i) (KS sc t x2 (some (bookD n Z)) x4 x5 x6) h = .nx (KS sc t x2 (some (bookD n Z)) (some (.int (1 : Nat))) x5 x6) h := by
  have q := book_is B n1 n9 h
  have tr : ∀ (j : Nat) (x4 : Option D), T_law_1 (.int j) (KS sc t x2 (some (bookD n Z)) x4 x5 x6) h = .nx (KS sc t x2 (some (bookD n Z)) (some (.int j)) x5 x6) h := fun j x4 => by
    generalize bookD n Z = d at *
    simp [turnE, k_law_is_book, q, isNot_bb]
  show forL T_law_1 [.int (0 : Nat), .int (1 : Nat)] _ h = _
  rw [forL_nx (tr 0 x4), forL_nx (tr 1 _), forL_nil]
theorem k_no : ∀ (l : List D) (x5 : Option D), (∀ d ∈ l, ∀ h, f_is_book [d] h = .ok (.bl false) h) → ∃ y5, forL T_law_2 l (KS sc t x2 x3 x4 x5 x6) h = .nx (KS sc t x2 x3 x4 y5 x6) h
  | [], x5, _ => ⟨x5, forL_nil⟩
  | d :: r, x5, hl => by
    obtain ⟨y5, E⟩ := k_no r (some d) fun e he => hl e (List.mem_cons_of_mem _ he)
    have q := hl d List.mem_cons_self h
    refine ⟨y5, ?_⟩
    rw [forL_nx (s' := KS sc t x2 x3 x4 (some d) x6) (h' := h) (by simp [turnE, k_law_is_book, q, isNot_bb]), E]
theorem k_turn {p : Int} {k : Nat} (T : TapeAt h t ns p) (p1 : p ≤ 10 ^ 5) (ls : ∀ h, gLen h [sc] = some (.int ns.length)) : (∃ h', T_law_0 (.int k) (KS sc t x2 x3 x4 x5 x6) h = .bk (KS sc t (some (.int k)) x3 x4 x5 x6) h' ∧ h' = h) ∨ ∃ (h' : Hs) (y3 y4 y5 : Option D), T_law_0 (.int k) (KS sc t x2 x3 x4 x5 x6) h = .nx (KS sc t (some (.int k)) y3 y4 y5 x6) h' ∧ TapeAt h' t ns (p + 300) ∧ Upd h h' [t] := by
  obtain ⟨a1, ea⟩ := T.at1
  by_cases z : 1 < (k : Int) ∧ (ns.length : Int) ≤ a1
  · left
    refine ⟨h, turn_go (s' := KS sc t (some (.int k)) x3 x4 x5 x6) (tgF_one (by simp)) ?_, rfl⟩
    rw [cutB_f]
    simp (disch := first | (simp; done) | omega) [L_law_0, ea, ls, z.1, z.2]
  · right
    obtain ⟨n, Z, h1, q1, n1, n6, B, T1, U1⟩ := book_ex (mo := 6) T (by omega) (by omega) (by omega)
    obtain ⟨d, h2, q2, d0, d1, T2, U2⟩ := digit_eq (m := 3) T1 (by omega) (by omega) (by omega)
    have q1 : f_law_e_book [.ref t, .int 6] h = _ := q1
    have U12 := U1.trans U2
    have guard : ∀ Q : List S, S.evs gam_law n_law (L_law_0.take 1 ++ Q) (KS sc t (some (.int k)) x3 x4 x5 x6) h = S.evs gam_law n_law Q (KS sc t (some (.int k)) x3 x4 x5 x6) h := fun Q => by
      rw [evs_append]
      have : S.evs gam_law n_law (L_law_0.take 1) (KS sc t (some (.int k)) x3 x4 x5 x6) h = .nx (KS sc t (some (.int k)) x3 x4 x5 x6) h := by
        by_cases w : 1 < (k : Int)
        · have w2 : ¬ ((ns.length : Int) ≤ a1) := fun y => z ⟨w, y⟩
          simp (disch := first | (simp; done) | omega) [L_law_0, ea, ls, w, w2]
        · simp (disch := first | (simp; done) | omega) [L_law_0, w]
      rw [this, seq_nx]
    have rest : ∀ {m : Nat} {Y : List (List Int)}, BkOk m Y → 1 ≤ m → m ≤ 9 → ∃ (h' : Hs) (y4 y5 : Option D), S.evs gam_law n_law (L_law_0.drop 3) (KS sc t (some (.int k)) (some (bookD m Y)) x4 x5 x6) h2 = .nx (KS sc t (some (.int k)) (some (bookD m Y)) y4 y5 x6) h' ∧ TapeAt h' t ns (p + 300) ∧ Upd h h' [t] := by
      intro m Y BY m1 m9
      obtain ⟨th, h3, q3, N, lth, T3, U3⟩ := spoilt_ex T2 (by omega) m1 m9 BY
      have F1 := k_twice (sc := sc) (t := t) (x2 := some (.int k)) (x4 := x4) (x5 := x5) (x6 := x6) (h := h2) BY m1 m9
      obtain ⟨y5, F2⟩ := k_no (sc := sc) (t := t) (x2 := some (.int k)) (x3 := some (bookD m Y)) (x4 := some (.int 1)) (x6 := x6) (h := h3) th x5 fun d hd h => (N d hd).eq h
      refine ⟨h3, some (.int 1), y5, ?_, T3.mono (by omega), U12.trans U3⟩
      have F1' : forL T_law_1 [.int 0, .int 1] (KS sc t (some (.int k)) (some (bookD m Y)) x4 x5 x6) h2 = .nx (KS sc t (some (.int k)) (some (bookD m Y)) (some (.int 1)) x5 x6) h2 := F1
      have r2 : ∀ h, rngO1 [.int 2] h = .ok (src0 [.int 0, .int 1]) h := fun h => rngN (n := 2) (by omega)
      simp only [T_law_1, L_law_1] at F1'
      simp only [T_law_2, L_law_2] at F2
      generalize bookD m Y = bd at *
      simp (disch := first | (simp; done) | omega) [L_law_0, r2]
      rw [F1']
      simp [k_law_law_e_spoilt_v1, q3]
      rw [F2]
      simp
    have fin : ∀ {m : Nat} {Y : List (List Int)}, BkOk m Y → 1 ≤ m → m ≤ 9 → S.evs gam_law n_law ((L_law_0.drop 1).take 2) (KS sc t (some (.int k)) x3 x4 x5 x6) h = .nx (KS sc t (some (.int k)) (some (bookD m Y)) x4 x5 x6) h2 → ∃ (h' : Hs) (y3 y4 y5 : Option D), T_law_0 (.int k) (KS sc t x2 x3 x4 x5 x6) h = .nx (KS sc t (some (.int k)) y3 y4 y5 x6) h' ∧ TapeAt h' t ns (p + 300) ∧ Upd h h' [t] := by
      intro m Y BY m1 m9 E
      obtain ⟨h', y4, y5, E2, T', U'⟩ := rest BY m1 m9
      refine ⟨h', some (bookD m Y), y4, y5, turn_go (s' := KS sc t (some (.int k)) x3 x4 x5 x6) (tgF_one (by simp)) ?_, T', U'⟩
      rw [cutB_f, show L_law_0 = L_law_0.take 1 ++ ((L_law_0.drop 1).take 2 ++ L_law_0.drop 3) from rfl, guard, evs_append, E, seq_nx, E2]
    by_cases w : d = 0
    · subst w
      obtain ⟨c, r, ez⟩ : ∃ c r, Z = c :: r := by
        cases Z with
        | nil => exact absurd rfl B.ne
        | cons c r => exact ⟨c, r, rfl⟩
      obtain ⟨Hc, cne⟩ := B.hs c (by rw [ez]; exact List.mem_cons_self)
      have c8 : c ≠ [8] := fun e => by
        have := Hc.rg 8 (by rw [e]; simp)
        omega
      have ok8 : ∀ a ∈ [c, [8]], HsOk 9 a ∧ a ≠ [] := fun a ha => by
        simp only [List.mem_cons, List.not_mem_nil, or_false] at ha
        rcases ha with rfl | rfl
        · exact ⟨⟨Hc.up, fun i hi => by have := Hc.rg i hi; omega⟩, cne⟩
        · exact ⟨⟨by simp, fun i hi => by rw [List.mem_singleton.mp hi]; omega⟩, by simp⟩
      have BY : BkOk 9 (sortT [c, [8]]) := (StOk.bk (k := 2) ⟨by simp [c8], ok8, by simp⟩ (by simp) (by omega))
      have so := gSort_tups (m := false) (h := h2) (x := .vl ([c, [8]].map tupD)) (L := [c, [8]]) .vl ⟨by simp, fun a ha => (ok8 a ha).2⟩
      rw [newL_f] at so
      have ls : (sortT [c, [8]]).length ≤ 2 := by rw [(sortT_perm _).length_eq]; simp
      have g1 : ∀ h, gIx h (bookD n Z) (.int 1) = some (.tup (Z.map tupD)) := fun h => rfl
      have g0 : ∀ h, gIx h (.tup (Z.map tupD)) (.int 0) = some (tupD c) := fun h => by
        rw [ez, gIx_tup, atI_map (by omega) (by simp)]
        simp
      refine fin BY (by omega) (by omega) ?_
      have so' : gSort false [.vl [tupD c, .tup [.int 8]]] h2 = .ok (.vl ((sortT [c, [8]]).map tupD)) h2 := so
      have eb : bookD 9 (sortT [c, [8]]) = .tup [.int 9, .tup ((sortT [c, [8]]).map tupD)] := rfl
      rw [eb]
      generalize sortT [c, [8]] = Y at *
      generalize bookD n Z = bd at *
      simp (disch := first | (simp; done) | (simp; omega)) [L_law_0, k_law_law_e_book, q1, k_law_law_e_digit, q2, g1, g0, so']
    · refine fin B n1 (by omega) ?_
      simp [L_law_0, k_law_law_e_book, q1, k_law_law_e_digit, q2, w]
end
theorem gN {d : D} (o : OkK 20 d) (n : ∀ a Z, d ≠ .tup [a, .tup Z]) : ∀ h, f_is_book [d] h = .ok (.bl false) h := fun h => (noBk_other o n).eq h
theorem gN2 {i : Int} {Z : List D} (oz : ∀ x ∈ Z, OkK 5 x ∧ Sm x) (lz : Z.length ≤ 5000) (e : bkB (.tup [.int i, .tup Z]) = false) : ∀ h, f_is_book [.tup [.int i, .tup Z]] h = .ok (.bl false) h := fun h => (noBk2 okK_int oz lz e).eq h
theorem layBook : (D.str "book").py.canLay0 = true := by decide +kernel
theorem things_no : ∀ d ∈ [D.non, .bl true, .int 1, .str "book", .tup [], .vl [], .vd [] [], .tup [.int 1], .tup [.int 1, .int 1], .tup [.tup [], .tup []], .tup [.int 1, .tup [.tup []]], .tup [.int 1, .tup [.tup [.int 1]]], .tup [.int 2, .tup [.tup [.int 0], .tup [.int 0]]]], ∀ h, f_is_book [d] h = .ok (.bl false) h := by
  intro d hd
  have o0 : OkK 1 (.tup []) := okK_tup (k := 0) (by simp)
  have oi : ∀ i : Int, OkK 1 (.tup [.int i]) := fun i => okK_tup (k := 0) (by simp [okK_int])
  simp only [List.mem_cons, List.not_mem_nil, or_false] at hd
  rcases hd with rfl | rfl | rfl | rfl | rfl | rfl | rfl | rfl | rfl | rfl | rfl | rfl | rfl
  · exact gN okK_non fun a Z e => by cases e
  · exact gN okK_bl fun a Z e => by cases e
  · exact gN okK_int fun a Z e => by cases e
  · exact gN (okK_str layBook) fun a Z e => by cases e
  · exact gN (o0.mono (by omega)) fun a Z e => by cases e
  · exact gN ((okK_vl (k := 0) (by simp)).mono (by omega)) fun a Z e => by cases e
  · intro h
    have it := isi_plT (d := .vd [] []) rfl (h := h)
    simp [isT] at it
    rw [r_is_book rfl]
    simp [b_is_book, it, back_nr]
  · exact gN ((oi 1).mono (by omega)) fun a Z e => by cases e
  · exact gN ((okK_tup (k := 0) (by simp [okK_int])).mono (by omega)) fun a Z e => by cases e
  · intro h
    have wa := whole_one_pl (d := .tup []) rfl (h := h)
    simp [isI] at wa
    have it := isi_plT (d := .tup [.tup [], .tup []]) rfl (h := h)
    simp [isT] at it
    have g0 : gIx h (.tup [.tup [], .tup []]) (.int 0) = some (.tup []) := rfl
    rw [r_is_book rfl]
    simp [b_is_book, it, g0, k_is_book_is_whole_one, wa, back_nr]
  · exact gN2 (fun x hx => by rw [List.mem_singleton.mp hx]; exact ⟨o0.mono (by omega), tup_small (by simp)⟩) (by simp) (bk_bad (x := .tup []) (by simp) (by simp [neT]))
  · exact gN2 (fun x hx => by rw [List.mem_singleton.mp hx]; exact ⟨(oi 1).mono (by omega), tup_small (by simp)⟩) (by simp) (bk_bad (x := .tup [.int 1]) (by simp) (by simp [rhB, intIn]))
  · exact gN2 (fun x hx => by
      simp only [List.mem_cons, List.not_mem_nil, or_false] at hx
      rcases hx with rfl | rfl <;> exact ⟨(oi 0).mono (by omega), tup_small (by simp)⟩) (by simp) (bk_up (L := [[0], [0]]) (by decide))
theorem bk1 : BkOk 1 [[0]] := ⟨by simp, fun a ha => by rw [List.mem_singleton.mp ha]; exact ⟨⟨by simp, fun i hi => by rw [List.mem_singleton.mp hi]; omega⟩, by simp⟩, by simp, by simp⟩
theorem bk9 : BkOk 9 [[0, 8], [8]] := ⟨by simp, fun a ha => by
  simp only [List.mem_cons, List.not_mem_nil, or_false] at ha
  rcases ha with rfl | rfl
  · exact ⟨⟨by simp, fun i hi => by simp at hi; omega⟩, by simp⟩
  · exact ⟨⟨by simp, fun i hi => by simp at hi; omega⟩, by simp⟩, by decide, by simp⟩
theorem law_true (ns : List Int) (hl : ns.length ≤ 63) : ∃ h', f_law [script ns] [] = .ok (.bl true) h' := by
  have ls : ∀ h, gLen h [script ns] = some (.int ns.length) := fun h => by unfold script; simp
  have F := forL_brk (f := fun (i : Nat) => D.int i) (turn := T_law_0) (fun i s h' => ∃ x2 x3 x4 x5, s = KS (script ns) 0 x2 x3 x4 x5 none ∧ TapeAt h' 0 ns (i * 300)) (fun s _ => ∃ x2 x3 x4 x5, s = KS (script ns) 0 x2 x3 x4 x5 none) 5 (fun i s h' ⟨x2, x3, x4, x5, e, _⟩ => ⟨x2, x3, x4, x5, e⟩) (List.range 5) 0 (KS (script ns) 0 none none none none none) [.lst [script ns, .int 0, .int 0]] (by simp) ⟨none, none, none, none, rfl, ⟨0, 0, by simp, by omega, by omega, by omega⟩⟩ ?_
  · obtain ⟨s, h', F, x2, x3, x4, x5, rfl⟩ := F
    obtain ⟨y5, F2⟩ := k_no (sc := script ns) (t := 0) (x2 := x2) (x3 := x3) (x4 := x4) (x6 := some (.vl [.non, .bl true, .int 1, .str "book", .tup [], .vl [], .vd [] [], .tup [.int 1], .tup [.int 1, .int 1], .tup [.tup [], .tup []], .tup [.int 1, .tup [.tup []]], .tup [.int 1, .tup [.tup [.int 1]]]])) (h := h') _ x5 things_no
    have b1 : f_is_book [.tup [.int 1, .tup [.tup [.int 0]]]] h' = .ok (.bl true) h' := book_is bk1 (by omega) (by omega) h'
    have b9 : f_is_book [.tup [.int 9, .tup [.tup [.int 0, .int 8], .tup [.int 8]]]] h' = .ok (.bl true) h' := book_is bk9 (by omega) (by omega) h'
    have r5 : ∀ h, rngO1 [.int 5] h = .ok (src0 ((List.range 5).map fun (i : Nat) => .int i)) h := fun h => rngN (n := 5) (by omega)
    simp only [T_law_0, L_law_0] at F
    simp only [T_law_2, L_law_2] at F2
    refine ⟨h'.take 0, ?_⟩
    rw [r_law rfl]
    simp [b_law, r5]
    rw [F]
    simp
    rw [F2]
    simp [k_law_is_book, b1, b9, is_bb]
    rw [back_nr (by simp) (fun k o hk eo => by cases hk)]
    simp
  · rintro i s h1 k hk hi ⟨x2, x3, x4, x5, rfl, T⟩
    rcases k_turn (sc := script ns) (x2 := x2) (x3 := x3) (x4 := x4) (x5 := x5) (x6 := none) (k := k) T (by omega) ls with ⟨h', E, rfl⟩ | ⟨h', y3, y4, y5, E, T', U'⟩
    · exact .inr ⟨_, _, E, _, _, _, _, rfl⟩
    · exact .inl ⟨_, _, E, _, _, _, _, rfl, T'.mono (by omega)⟩
end Gx
namespace K53
open PySem L2 Gx
def top (i : Nat) : Stmt := PySem.Challenge.pw_lendwharf_k53_books_of_anything.main.body.getD i (.Pass ⟨0, 0, 0, 0⟩)
def blts : List Str := ["all", "tuple", "range", "sorted", "isinstance", "int", "len", "bool", "list", "str"]
def kds : List (Str × List (Str × Int)) := []
def csts : List (Str × D) := [("MOST_HOUSES", .int (9))]
def F0 (K : PySem.W.Frag) : Fr := ⟨K, fun x => (PySem.W.nsIn K mainGlobals x).join.getD .none, none⟩
def exs : List Str := []
def ask : List Str := []
def flds : List Str := []
def fid_is_whole_one : List (Str × Nat) := []
def g_is_whole_one : Cfg := ⟨N_is_whole_one, defScope (top 1), blts, fid_is_whole_one, csts, [], [], true, exs, ask, ⟨[], flds, [], []⟩, kds⟩
theorem c_is_whole_one : mapO (compS 30 g_is_whole_one 30) (defBody (top 1)) = some b_is_whole_one := comp_eq (by decide +kernel)
theorem s_is_whole_one : FnScope N_is_whole_one ["thing"] (defScope (top 1)) := ⟨rfl, rfl, rfl, by decide +kernel, rfl, by decide +kernel, by decide +kernel⟩
def fid_are_rising_houses : List (Str × Nat) := [("is_whole_one", 186)]
def g_are_rising_houses : Cfg := ⟨N_are_rising_houses, defScope (top 4), blts, fid_are_rising_houses, csts, [], [], true, exs, ask, ⟨[], flds, [], []⟩, kds⟩
theorem c_are_rising_houses : mapO (compS 30 g_are_rising_houses 30) (defBody (top 4)) = some b_are_rising_houses := comp_eq (by decide +kernel)
theorem s_are_rising_houses : FnScope N_are_rising_houses ["n", "thing"] (defScope (top 4)) := ⟨rfl, rfl, rfl, by decide +kernel, rfl, by decide +kernel, by decide +kernel⟩
def fid_is_book : List (Str × Nat) := [("is_whole_one", 186), ("are_rising_houses", 280)]
def g_is_book : Cfg := ⟨N_is_book, defScope (top 5), blts, fid_is_book, csts, [], [], true, exs, ask, ⟨[], flds, [], []⟩, kds⟩
theorem c_is_book : mapO (compS 30 g_is_book 30) (defBody (top 5)) = some b_is_book := comp_eq (by decide +kernel)
theorem s_is_book : FnScope N_is_book ["thing"] (defScope (top 5)) := ⟨rfl, rfl, rfl, by decide +kernel, rfl, by decide +kernel, by decide +kernel⟩
def fid_law_e_stirred : List (Str × Nat) := []
def g_law_e_stirred : Cfg := ⟨N_law_e_stirred, defScope (top 7), blts, fid_law_e_stirred, csts, [], [], true, exs, ask, ⟨[], flds, [], []⟩, kds⟩
theorem c_law_e_stirred : mapO (compS 30 g_law_e_stirred 30) (defBody (top 7)) = some b_law_e_stirred := comp_eq (by decide +kernel)
theorem s_law_e_stirred : FnScope N_law_e_stirred ["cell", "place"] (defScope (top 7)) := ⟨rfl, rfl, rfl, by decide +kernel, rfl, by decide +kernel, by decide +kernel⟩
def fid_law_e_digit : List (Str × Nat) := [("_law_e_stirred", 190)]
def g_law_e_digit : Cfg := ⟨N_law_e_digit, defScope (top 8), blts, fid_law_e_digit, csts, [], [], true, exs, ask, ⟨[], flds, [], []⟩, kds⟩
theorem c_law_e_digit : mapO (compS 30 g_law_e_digit 30) (defBody (top 8)) = some b_law_e_digit := comp_eq (by decide +kernel)
theorem s_law_e_digit : FnScope N_law_e_digit ["tape", "many"] (defScope (top 8)) := ⟨rfl, rfl, rfl, by decide +kernel, rfl, by decide +kernel, by decide +kernel⟩
def fid_law_e_subset : List (Str × Nat) := [("_law_e_digit", 191)]
def g_law_e_subset : Cfg := ⟨N_law_e_subset, defScope (top 9), blts, fid_law_e_subset, csts, [], [], true, exs, ask, ⟨[], flds, [], []⟩, kds⟩
theorem c_law_e_subset : mapO (compS 30 g_law_e_subset 30) (defBody (top 9)) = some b_law_e_subset := comp_eq (by decide +kernel)
theorem s_law_e_subset : FnScope N_law_e_subset ["tape", "n"] (defScope (top 9)) := ⟨rfl, rfl, rfl, by decide +kernel, rfl, by decide +kernel, by decide +kernel⟩
def fid_law_e_sized : List (Str × Nat) := []
def g_law_e_sized : Cfg := ⟨N_law_e_sized, defScope (top 10), blts, fid_law_e_sized, csts, [], [], true, exs, ask, ⟨[], flds, [], []⟩, kds⟩
theorem c_law_e_sized : mapO (compS 30 g_law_e_sized 30) (defBody (top 10)) = some b_law_e_sized := comp_eq (by decide +kernel)
theorem s_law_e_sized : FnScope N_law_e_sized ["n", "many"] (defScope (top 10)) := ⟨rfl, rfl, rfl, by decide +kernel, rfl, by decide +kernel, by decide +kernel⟩
def fid_law_e_book : List (Str × Nat) := [("_law_e_digit", 191), ("_law_e_subset", 282), ("_law_e_sized", 283)]
def g_law_e_book : Cfg := ⟨N_law_e_book, defScope (top 11), blts, fid_law_e_book, csts, [(52, 11), (52, 4011)], [], true, exs, ask, ⟨[], flds, [], []⟩, kds⟩
theorem c_law_e_book : mapO (compS 30 g_law_e_book 30) (defBody (top 11)) = some b_law_e_book := comp_eq (by decide +kernel)
theorem s_law_e_book : FnScope N_law_e_book ["tape", "most"] (defScope (top 11)) := ⟨rfl, rfl, rfl, by decide +kernel, rfl, by decide +kernel, by decide +kernel⟩
def fid_law_e_spoilt_v1 : List (Str × Nat) := [("_law_e_digit", 191)]
def g_law_e_spoilt_v1 : Cfg := ⟨N_law_e_spoilt_v1, defScope (top 12), blts, fid_law_e_spoilt_v1, csts, [], [], true, exs, ask, ⟨[], flds, [], []⟩, kds⟩
theorem c_law_e_spoilt_v1 : mapO (compS 30 g_law_e_spoilt_v1 30) (defBody (top 12)) = some b_law_e_spoilt_v1 := comp_eq (by decide +kernel)
theorem s_law_e_spoilt_v1 : FnScope N_law_e_spoilt_v1 ["tape", "book"] (defScope (top 12)) := ⟨rfl, rfl, rfl, by decide +kernel, rfl, by decide +kernel, by decide +kernel⟩
def fid_law : List (Str × Nat) := [("_law_e_book", 284), ("_law_e_spoilt", 285), ("_law_e_digit", 191), ("is_book", 281)]
def g_law : Cfg := ⟨N_law, defScope (top 13), blts, fid_law, csts, [(76, 11)], [], true, exs, ask, ⟨[], flds, [], []⟩, kds⟩
theorem c_law : mapO (compS 30 g_law 30) (defBody (top 13)) = some b_law := comp_eq (by decide +kernel)
theorem s_law : FnScope N_law ["script"] (defScope (top 13)) := ⟨rfl, rfl, rfl, by decide +kernel, rfl, by decide +kernel, by decide +kernel⟩
theorem all_mk {P : Program} {w : World} {K : PySem.W.Frag} {h : Heap} {mg : Str → Option Value} {fa : Addr} (X : K.In h) (G : h.Ns mainGlobals mg) (hfa : mg "law" = some (.ref fa))
    {f_is_whole_one : Addr} {od_is_whole_one an_is_whole_one : Option Addr} {sl_is_whole_one : Array (Option Value)} {oc_is_whole_one kV_is_whole_one dc_is_whole_one pm_is_whole_one cd_is_whole_one ct_is_whole_one : Value}
    {f_are_rising_houses : Addr} {od_are_rising_houses an_are_rising_houses : Option Addr} {sl_are_rising_houses : Array (Option Value)} {oc_are_rising_houses kV_are_rising_houses dc_are_rising_houses pm_are_rising_houses cd_are_rising_houses ct_are_rising_houses : Value}
    {f_is_book : Addr} {od_is_book an_is_book : Option Addr} {sl_is_book : Array (Option Value)} {oc_is_book kV_is_book dc_is_book pm_is_book cd_is_book ct_is_book : Value}
    {f_law_e_stirred : Addr} {od_law_e_stirred an_law_e_stirred : Option Addr} {sl_law_e_stirred : Array (Option Value)} {oc_law_e_stirred kV_law_e_stirred dc_law_e_stirred pm_law_e_stirred cd_law_e_stirred ct_law_e_stirred : Value}
    {f_law_e_digit : Addr} {od_law_e_digit an_law_e_digit : Option Addr} {sl_law_e_digit : Array (Option Value)} {oc_law_e_digit kV_law_e_digit dc_law_e_digit pm_law_e_digit cd_law_e_digit ct_law_e_digit : Value}
    {f_law_e_subset : Addr} {od_law_e_subset an_law_e_subset : Option Addr} {sl_law_e_subset : Array (Option Value)} {oc_law_e_subset kV_law_e_subset dc_law_e_subset pm_law_e_subset cd_law_e_subset ct_law_e_subset : Value}
    {f_law_e_sized : Addr} {od_law_e_sized an_law_e_sized : Option Addr} {sl_law_e_sized : Array (Option Value)} {oc_law_e_sized kV_law_e_sized dc_law_e_sized pm_law_e_sized cd_law_e_sized ct_law_e_sized : Value}
    {f_law_e_book : Addr} {od_law_e_book an_law_e_book : Option Addr} {sl_law_e_book : Array (Option Value)} {oc_law_e_book kV_law_e_book dc_law_e_book pm_law_e_book cd_law_e_book ct_law_e_book : Value}
    {f_law_e_spoilt_v1 : Addr} {od_law_e_spoilt_v1 an_law_e_spoilt_v1 : Option Addr} {sl_law_e_spoilt_v1 : Array (Option Value)} {oc_law_e_spoilt_v1 kV_law_e_spoilt_v1 dc_law_e_spoilt_v1 pm_law_e_spoilt_v1 cd_law_e_spoilt_v1 ct_law_e_spoilt_v1 : Value}
    {f_law : Addr} {od_law an_law : Option Addr} {sl_law : Array (Option Value)} {oc_law kV_law dc_law pm_law cd_law ct_law : Value}
    {t0 : Tok}
    (a_is_whole_one : PySem.W.nsIn K mainGlobals "is_whole_one" = some (some (.ref f_is_whole_one)))
    (l_is_whole_one : K.lookup f_is_whole_one = some ⟨oc_is_whole_one, od_is_whole_one, .func (PySem.W.fnOf "is_whole_one" "is_whole_one" (defArgs (top 1)) (defBody (top 1)) (defScope (top 1)) .none kV_is_whole_one dc_is_whole_one pm_is_whole_one an_is_whole_one cd_is_whole_one ct_is_whole_one), sl_is_whole_one⟩) (q_is_whole_one : PySem.W.codeIn K cd_is_whole_one "is_whole_one" = true) (k_is_whole_one : PySem.W.keepIn K (.ref f_is_whole_one) = true)
    (a_are_rising_houses : PySem.W.nsIn K mainGlobals "are_rising_houses" = some (some (.ref f_are_rising_houses)))
    (l_are_rising_houses : K.lookup f_are_rising_houses = some ⟨oc_are_rising_houses, od_are_rising_houses, .func (PySem.W.fnOf "are_rising_houses" "are_rising_houses" (defArgs (top 4)) (defBody (top 4)) (defScope (top 4)) .none kV_are_rising_houses dc_are_rising_houses pm_are_rising_houses an_are_rising_houses cd_are_rising_houses ct_are_rising_houses), sl_are_rising_houses⟩) (q_are_rising_houses : PySem.W.codeIn K cd_are_rising_houses "are_rising_houses" = true) (k_are_rising_houses : PySem.W.keepIn K (.ref f_are_rising_houses) = true)
    (a_is_book : PySem.W.nsIn K mainGlobals "is_book" = some (some (.ref f_is_book)))
    (l_is_book : K.lookup f_is_book = some ⟨oc_is_book, od_is_book, .func (PySem.W.fnOf "is_book" "is_book" (defArgs (top 5)) (defBody (top 5)) (defScope (top 5)) .none kV_is_book dc_is_book pm_is_book an_is_book cd_is_book ct_is_book), sl_is_book⟩) (q_is_book : PySem.W.codeIn K cd_is_book "is_book" = true) (k_is_book : PySem.W.keepIn K (.ref f_is_book) = true)
    (a_law_e_stirred : PySem.W.nsIn K mainGlobals "_law_e_stirred" = some (some (.ref f_law_e_stirred)))
    (l_law_e_stirred : K.lookup f_law_e_stirred = some ⟨oc_law_e_stirred, od_law_e_stirred, .func (PySem.W.fnOf "_law_e_stirred" "_law_e_stirred" (defArgs (top 7)) (defBody (top 7)) (defScope (top 7)) .none kV_law_e_stirred dc_law_e_stirred pm_law_e_stirred an_law_e_stirred cd_law_e_stirred ct_law_e_stirred), sl_law_e_stirred⟩) (q_law_e_stirred : PySem.W.codeIn K cd_law_e_stirred "_law_e_stirred" = true) (k_law_e_stirred : PySem.W.keepIn K (.ref f_law_e_stirred) = true)
    (a_law_e_digit : PySem.W.nsIn K mainGlobals "_law_e_digit" = some (some (.ref f_law_e_digit)))
    (l_law_e_digit : K.lookup f_law_e_digit = some ⟨oc_law_e_digit, od_law_e_digit, .func (PySem.W.fnOf "_law_e_digit" "_law_e_digit" (defArgs (top 8)) (defBody (top 8)) (defScope (top 8)) .none kV_law_e_digit dc_law_e_digit pm_law_e_digit an_law_e_digit cd_law_e_digit ct_law_e_digit), sl_law_e_digit⟩) (q_law_e_digit : PySem.W.codeIn K cd_law_e_digit "_law_e_digit" = true) (k_law_e_digit : PySem.W.keepIn K (.ref f_law_e_digit) = true)
    (a_law_e_subset : PySem.W.nsIn K mainGlobals "_law_e_subset" = some (some (.ref f_law_e_subset)))
    (l_law_e_subset : K.lookup f_law_e_subset = some ⟨oc_law_e_subset, od_law_e_subset, .func (PySem.W.fnOf "_law_e_subset" "_law_e_subset" (defArgs (top 9)) (defBody (top 9)) (defScope (top 9)) .none kV_law_e_subset dc_law_e_subset pm_law_e_subset an_law_e_subset cd_law_e_subset ct_law_e_subset), sl_law_e_subset⟩) (q_law_e_subset : PySem.W.codeIn K cd_law_e_subset "_law_e_subset" = true) (k_law_e_subset : PySem.W.keepIn K (.ref f_law_e_subset) = true)
    (a_law_e_sized : PySem.W.nsIn K mainGlobals "_law_e_sized" = some (some (.ref f_law_e_sized)))
    (l_law_e_sized : K.lookup f_law_e_sized = some ⟨oc_law_e_sized, od_law_e_sized, .func (PySem.W.fnOf "_law_e_sized" "_law_e_sized" (defArgs (top 10)) (defBody (top 10)) (defScope (top 10)) .none kV_law_e_sized dc_law_e_sized pm_law_e_sized an_law_e_sized cd_law_e_sized ct_law_e_sized), sl_law_e_sized⟩) (q_law_e_sized : PySem.W.codeIn K cd_law_e_sized "_law_e_sized" = true) (k_law_e_sized : PySem.W.keepIn K (.ref f_law_e_sized) = true)
    (a_law_e_book : PySem.W.nsIn K mainGlobals "_law_e_book" = some (some (.ref f_law_e_book)))
    (l_law_e_book : K.lookup f_law_e_book = some ⟨oc_law_e_book, od_law_e_book, .func (PySem.W.fnOf "_law_e_book" "_law_e_book" (defArgs (top 11)) (defBody (top 11)) (defScope (top 11)) .none kV_law_e_book dc_law_e_book pm_law_e_book an_law_e_book cd_law_e_book ct_law_e_book), sl_law_e_book⟩) (q_law_e_book : PySem.W.codeIn K cd_law_e_book "_law_e_book" = true) (k_law_e_book : PySem.W.keepIn K (.ref f_law_e_book) = true)
    (a_law_e_spoilt_v1 : PySem.W.nsIn K mainGlobals "_law_e_spoilt" = some (some (.ref f_law_e_spoilt_v1)))
    (l_law_e_spoilt_v1 : K.lookup f_law_e_spoilt_v1 = some ⟨oc_law_e_spoilt_v1, od_law_e_spoilt_v1, .func (PySem.W.fnOf "_law_e_spoilt" "_law_e_spoilt" (defArgs (top 12)) (defBody (top 12)) (defScope (top 12)) .none kV_law_e_spoilt_v1 dc_law_e_spoilt_v1 pm_law_e_spoilt_v1 an_law_e_spoilt_v1 cd_law_e_spoilt_v1 ct_law_e_spoilt_v1), sl_law_e_spoilt_v1⟩) (q_law_e_spoilt_v1 : PySem.W.codeIn K cd_law_e_spoilt_v1 "_law_e_spoilt" = true) (k_law_e_spoilt_v1 : PySem.W.keepIn K (.ref f_law_e_spoilt_v1) = true)
    (a_law : PySem.W.nsIn K mainGlobals "law" = some (some (.ref f_law)))
    (l_law : K.lookup f_law = some ⟨oc_law, od_law, .func (PySem.W.fnOf "law" "law" (defArgs (top 13)) (defBody (top 13)) (defScope (top 13)) .none kV_law dc_law pm_law an_law cd_law ct_law), sl_law⟩) (q_law : PySem.W.codeIn K cd_law "law" = true) (k_law : PySem.W.keepIn K (.ref f_law) = true)
    (z0 : PySem.W.nsIn K mainGlobals "all" = some none)
    (z1 : PySem.W.nsIn K mainGlobals "tuple" = some none)
    (z2 : PySem.W.nsIn K mainGlobals "range" = some none)
    (z3 : PySem.W.nsIn K mainGlobals "sorted" = some none)
    (z4 : PySem.W.nsIn K mainGlobals "isinstance" = some none)
    (z5 : PySem.W.nsIn K mainGlobals "int" = some none)
    (z6 : PySem.W.nsIn K mainGlobals "len" = some none)
    (z7 : PySem.W.nsIn K mainGlobals "bool" = some none)
    (z8 : PySem.W.nsIn K mainGlobals "list" = some none)
    (z9 : PySem.W.nsIn K mainGlobals "str" = some none)
    (y0 : PySem.W.nsIn K mainGlobals "MOST_HOUSES" = some (some (.int (9) t0)))
    : ∃ fd : FuncData, (∀ (s : Shared) (v : Value), BindsTo s fd ⟨[v], []⟩ [("script", v)]) ∧ ∀ base : Heap, K.In base → base.Ns mainGlobals mg → FnOk P w K mg base (L2N.CX P w) 5 fa fd ["script"] (spOf (F0 K) 1 Gx.f_law) := by
  have e := hfa.symm.trans (PySem.W.mg_of X G a_law)
  cases e
  have hb : ∀ x ∈ blts, mg x = none := blt_cons (PySem.W.mg_none_of X G z0) (blt_cons (PySem.W.mg_none_of X G z1) (blt_cons (PySem.W.mg_none_of X G z2) (blt_cons (PySem.W.mg_none_of X G z3) (blt_cons (PySem.W.mg_none_of X G z4) (blt_cons (PySem.W.mg_none_of X G z5) (blt_cons (PySem.W.mg_none_of X G z6) (blt_cons (PySem.W.mg_none_of X G z7) (blt_cons (PySem.W.mg_none_of X G z8) (blt_cons (PySem.W.mg_none_of X G z9) (blt_nil))))))))))
  have hc : CstOk (F0 K) mg csts := cst_int (PySem.W.mg_of X G y0) (cst_nil)
  have hk : KdsOk w (F0 K) mg kds := kds_nil
  have F_is_whole_one := fun_mk (st := (top 1)) l_is_whole_one q_is_whole_one k_is_whole_one
  have B_is_whole_one := F_is_whole_one.binds (ps := ["thing"]) fun _ _ _ _ _ _ us hl => match us, hl with | [_], _ => rfl
  have F_are_rising_houses := fun_mk (st := (top 4)) l_are_rising_houses q_are_rising_houses k_are_rising_houses
  have B_are_rising_houses := F_are_rising_houses.binds (ps := ["n", "thing"]) fun _ _ _ _ _ _ us hl => match us, hl with | [_, _], _ => rfl
  have F_is_book := fun_mk (st := (top 5)) l_is_book q_is_book k_is_book
  have B_is_book := F_is_book.binds (ps := ["thing"]) fun _ _ _ _ _ _ us hl => match us, hl with | [_], _ => rfl
  have F_law_e_stirred := fun_mk (st := (top 7)) l_law_e_stirred q_law_e_stirred k_law_e_stirred
  have B_law_e_stirred := F_law_e_stirred.binds (ps := ["cell", "place"]) fun _ _ _ _ _ _ us hl => match us, hl with | [_, _], _ => rfl
  have F_law_e_digit := fun_mk (st := (top 8)) l_law_e_digit q_law_e_digit k_law_e_digit
  have B_law_e_digit := F_law_e_digit.binds (ps := ["tape", "many"]) fun _ _ _ _ _ _ us hl => match us, hl with | [_, _], _ => rfl
  have F_law_e_subset := fun_mk (st := (top 9)) l_law_e_subset q_law_e_subset k_law_e_subset
  have B_law_e_subset := F_law_e_subset.binds (ps := ["tape", "n"]) fun _ _ _ _ _ _ us hl => match us, hl with | [_, _], _ => rfl
  have F_law_e_sized := fun_mk (st := (top 10)) l_law_e_sized q_law_e_sized k_law_e_sized
  have B_law_e_sized := F_law_e_sized.binds (ps := ["n", "many"]) fun _ _ _ _ _ _ us hl => match us, hl with | [_, _], _ => rfl
  have F_law_e_book := fun_mk (st := (top 11)) l_law_e_book q_law_e_book k_law_e_book
  have B_law_e_book := F_law_e_book.binds (ps := ["tape", "most"]) fun _ _ _ _ _ _ us hl => match us, hl with | [_, _], _ => rfl
  have F_law_e_spoilt_v1 := fun_mk (st := (top 12)) l_law_e_spoilt_v1 q_law_e_spoilt_v1 k_law_e_spoilt_v1
  have B_law_e_spoilt_v1 := F_law_e_spoilt_v1.binds (ps := ["tape", "book"]) fun _ _ _ _ _ _ us hl => match us, hl with | [_, _], _ => rfl
  have F_law := fun_mk (st := (top 13)) l_law q_law k_law
  have B_law := F_law.binds (ps := ["script"]) fun _ _ _ _ _ _ us hl => match us, hl with | [_], _ => rfl
  refine ⟨PySem.W.fnOf "law" "law" (defArgs (top 13)) (defBody (top 13)) (defScope (top 13)) .none kV_law dc_law pm_law an_law cd_law ct_law, fun s v => .of_eq rfl, fun base _ _ => ?_⟩
  have hx : ExcT (F0 K) mg exs ask := by
    refine ⟨mem_all ?_, mem_all ?_, mem_all ?_, ?_⟩
    · exact trivial
    · exact trivial
    · exact trivial
    · exact fun z => absurd z (by decide)
  have hi : ∀ n ∈ ([] : List Str), InsC (F0 K) flds n := mem_all trivial
  have G_is_whole_one : FnOk P w K mg base (L2N.CX P w) 1 f_is_whole_one _ _ (spOf (F0 K) 1 Gx.f_is_whole_one) := fn_run (P := P) (w := w) (base := base) (F := F0 K) (Γ := gam_is_whole_one) (k := 0) (n := n_is_whole_one) (keep := false) (c := g_is_whole_one) F_is_whole_one s_is_whole_one rfl c_is_whole_one hb (low_nil) hc hx hi ⟨ni_nil, mt_nil⟩ hk rfl
  have G_are_rising_houses : FnOk P w K mg base (L2N.CX P w) 2 f_are_rising_houses _ _ (spOf (F0 K) 2 Gx.f_are_rising_houses) := fn_run (P := P) (w := w) (base := base) (F := F0 K) (Γ := gam_are_rising_houses) (k := 1) (n := n_are_rising_houses) (keep := false) (c := g_are_rising_houses) F_are_rising_houses s_are_rising_houses rfl c_are_rising_houses hb (low_cons (PySem.W.mg_of X G a_is_whole_one) k_is_whole_one B_is_whole_one (G_is_whole_one.mono (by decide)) rfl (low_nil)) hc hx hi ⟨ni_nil, mt_nil⟩ hk rfl
  have G_is_book : FnOk P w K mg base (L2N.CX P w) 3 f_is_book _ _ (spOf (F0 K) 1 Gx.f_is_book) := fn_run (P := P) (w := w) (base := base) (F := F0 K) (Γ := gam_is_book) (k := 2) (n := n_is_book) (keep := false) (c := g_is_book) F_is_book s_is_book rfl c_is_book hb (low_cons (PySem.W.mg_of X G a_is_whole_one) k_is_whole_one B_is_whole_one (G_is_whole_one.mono (by decide)) rfl (low_cons (PySem.W.mg_of X G a_are_rising_houses) k_are_rising_houses B_are_rising_houses (G_are_rising_houses.mono (by decide)) rfl (low_nil))) hc hx hi ⟨ni_nil, mt_nil⟩ hk rfl
  have G_law_e_stirred : FnOk P w K mg base (L2N.CX P w) 1 f_law_e_stirred _ _ (spOf (F0 K) 2 Gx.f_law_e_stirred) := fn_run (P := P) (w := w) (base := base) (F := F0 K) (Γ := gam_law_e_stirred) (k := 0) (n := n_law_e_stirred) (keep := false) (c := g_law_e_stirred) F_law_e_stirred s_law_e_stirred rfl c_law_e_stirred hb (low_nil) hc hx hi ⟨ni_nil, mt_nil⟩ hk rfl
  have G_law_e_digit : FnOk P w K mg base (L2N.CX P w) 2 f_law_e_digit _ _ (spOf (F0 K) 2 Gx.f_law_e_digit) := fn_run (P := P) (w := w) (base := base) (F := F0 K) (Γ := gam_law_e_digit) (k := 1) (n := n_law_e_digit) (keep := false) (c := g_law_e_digit) F_law_e_digit s_law_e_digit rfl c_law_e_digit hb (low_cons (PySem.W.mg_of X G a_law_e_stirred) k_law_e_stirred B_law_e_stirred (G_law_e_stirred.mono (by decide)) rfl (low_nil)) hc hx hi ⟨ni_nil, mt_nil⟩ hk rfl
  have G_law_e_subset : FnOk P w K mg base (L2N.CX P w) 3 f_law_e_subset _ _ (spOf (F0 K) 2 Gx.f_law_e_subset) := fn_run (P := P) (w := w) (base := base) (F := F0 K) (Γ := gam_law_e_subset) (k := 2) (n := n_law_e_subset) (keep := false) (c := g_law_e_subset) F_law_e_subset s_law_e_subset rfl c_law_e_subset hb (low_cons (PySem.W.mg_of X G a_law_e_digit) k_law_e_digit B_law_e_digit (G_law_e_digit.mono (by decide)) rfl (low_nil)) hc hx hi ⟨ni_nil, mt_nil⟩ hk rfl
  have G_law_e_sized : FnOk P w K mg base (L2N.CX P w) 1 f_law_e_sized _ _ (spOf (F0 K) 2 Gx.f_law_e_sized) := fn_run (P := P) (w := w) (base := base) (F := F0 K) (Γ := gam_law_e_sized) (k := 0) (n := n_law_e_sized) (keep := false) (c := g_law_e_sized) F_law_e_sized s_law_e_sized rfl c_law_e_sized hb (low_nil) hc hx hi ⟨ni_nil, mt_nil⟩ hk rfl
  have G_law_e_book : FnOk P w K mg base (L2N.CX P w) 4 f_law_e_book _ _ (spOf (F0 K) 2 Gx.f_law_e_book) := fn_run (P := P) (w := w) (base := base) (F := F0 K) (Γ := gam_law_e_book) (k := 3) (n := n_law_e_book) (keep := false) (c := g_law_e_book) F_law_e_book s_law_e_book rfl c_law_e_book hb (low_cons (PySem.W.mg_of X G a_law_e_digit) k_law_e_digit B_law_e_digit (G_law_e_digit.mono (by decide)) rfl (low_cons (PySem.W.mg_of X G a_law_e_subset) k_law_e_subset B_law_e_subset (G_law_e_subset.mono (by decide)) rfl (low_cons (PySem.W.mg_of X G a_law_e_sized) k_law_e_sized B_law_e_sized (G_law_e_sized.mono (by decide)) rfl (low_nil)))) hc hx hi ⟨ni_nil, mt_nil⟩ hk rfl
  have G_law_e_spoilt_v1 : FnOk P w K mg base (L2N.CX P w) 3 f_law_e_spoilt_v1 _ _ (spOf (F0 K) 2 Gx.f_law_e_spoilt_v1) := fn_run (P := P) (w := w) (base := base) (F := F0 K) (Γ := gam_law_e_spoilt_v1) (k := 2) (n := n_law_e_spoilt_v1) (keep := false) (c := g_law_e_spoilt_v1) F_law_e_spoilt_v1 s_law_e_spoilt_v1 rfl c_law_e_spoilt_v1 hb (low_cons (PySem.W.mg_of X G a_law_e_digit) k_law_e_digit B_law_e_digit (G_law_e_digit.mono (by decide)) rfl (low_nil)) hc hx hi ⟨ni_nil, mt_nil⟩ hk rfl
  exact fn_run (P := P) (w := w) (base := base) (F := F0 K) (Γ := gam_law) (k := 4) (n := n_law) (keep := false) (c := g_law) F_law s_law rfl c_law hb (low_cons (PySem.W.mg_of X G a_law_e_book) k_law_e_book B_law_e_book (G_law_e_book.mono (by decide)) rfl (low_cons (PySem.W.mg_of X G a_law_e_spoilt_v1) k_law_e_spoilt_v1 B_law_e_spoilt_v1 (G_law_e_spoilt_v1.mono (by decide)) rfl (low_cons (PySem.W.mg_of X G a_law_e_digit) k_law_e_digit B_law_e_digit (G_law_e_digit.mono (by decide)) rfl (low_cons (PySem.W.mg_of X G a_is_book) k_is_book B_is_book (G_is_book.mono (by decide)) rfl (low_nil))))) hc hx hi ⟨ni_nil, mt_nil⟩ hk rfl
end K53
open PySem PySem.W PyProof.Rows
set_option maxHeartbeats 0 in
theorem PySem.Challenge.cw_lendwharf_k53_books_of_anything_holds : PySem.Challenge.rw_lendwharf_k53_books_of_anything.Holds := by
  w_on; o_law; k_head; (case hw => w_witness2)
  k_fill
  refine Gx.law_walk (l := PySem.Challenge.rw_lendwharf_k53_books_of_anything) (k := 5) (x := "script") (F0 := K53.F0) rfl rfl ⟨rfl, by decide, by decide⟩ (fun _ => rfl) Gx.law_true (fun _ => rfl) (fun w h Y => PySem.W.kIn_of Y) ?F
  case F =>
    intro w mg fa h KX G hmg
    refine' K53.all_mk KX G hmg ?a_is_whole_one ?l_is_whole_one ?q_is_whole_one ?k_is_whole_one ?a_are_rising_houses ?l_are_rising_houses ?q_are_rising_houses ?k_are_rising_houses ?a_is_book ?l_is_book ?q_is_book ?k_is_book ?a_law_e_stirred ?l_law_e_stirred ?q_law_e_stirred ?k_law_e_stirred ?a_law_e_digit ?l_law_e_digit ?q_law_e_digit ?k_law_e_digit ?a_law_e_subset ?l_law_e_subset ?q_law_e_subset ?k_law_e_subset ?a_law_e_sized ?l_law_e_sized ?q_law_e_sized ?k_law_e_sized ?a_law_e_book ?l_law_e_book ?q_law_e_book ?k_law_e_book ?a_law_e_spoilt_v1 ?l_law_e_spoilt_v1 ?q_law_e_spoilt_v1 ?k_law_e_spoilt_v1 ?a_law ?l_law ?q_law ?k_law ?z0 ?z1 ?z2 ?z3 ?z4 ?z5 ?z6 ?z7 ?z8 ?z9 ?y0
    (case a_is_whole_one => k_is); (case l_is_whole_one => k_is); (case q_is_whole_one => k_is); (case k_is_whole_one => k_is); (case a_are_rising_houses => k_is); (case l_are_rising_houses => k_is); (case q_are_rising_houses => k_is); (case k_are_rising_houses => k_is)
    (case a_is_book => k_is); (case l_is_book => k_is); (case q_is_book => k_is); (case k_is_book => k_is); (case a_law_e_stirred => k_is); (case l_law_e_stirred => k_is); (case q_law_e_stirred => k_is); (case k_law_e_stirred => k_is)
    (case a_law_e_digit => k_is); (case l_law_e_digit => k_is); (case q_law_e_digit => k_is); (case k_law_e_digit => k_is); (case a_law_e_subset => k_is); (case l_law_e_subset => k_is); (case q_law_e_subset => k_is); (case k_law_e_subset => k_is)
    (case a_law_e_sized => k_is); (case l_law_e_sized => k_is); (case q_law_e_sized => k_is); (case k_law_e_sized => k_is); (case a_law_e_book => k_is); (case l_law_e_book => k_is); (case q_law_e_book => k_is); (case k_law_e_book => k_is)
    (case a_law_e_spoilt_v1 => k_is); (case l_law_e_spoilt_v1 => k_is); (case q_law_e_spoilt_v1 => k_is); (case k_law_e_spoilt_v1 => k_is); (case a_law => k_is); (case l_law => k_is); (case q_law => k_is); (case k_law => k_is)
    (case z0 => k_is); (case z1 => k_is); (case z2 => k_is); (case z3 => k_is); (case z4 => k_is); (case z5 => k_is); (case z6 => k_is); (case z7 => k_is)
    (case z8 => k_is); (case z9 => k_is); (case y0 => k_is)
#print axioms PySem.Challenge.cw_lendwharf_k53_books_of_anything_holds
