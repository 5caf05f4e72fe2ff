import PyProof.Rows.All
import Wide.All
import OpenK.AllK
import Wide.FinOn
import HandS.ForMost
import HandS.ForExc
import HandS.ExcIs
import HandS.ExcCtx
import HandS.Hot
import HandS.ExcField
import HandS.IsInst
import KE.OsGo
import Open.SpecLaws
import HandS.Zip
import HandS.Wide
import HandS.TupAny
import HandS.TupLe
import HandS.Deep
import HandS.Style
import HandS.Flow
import HandS.Dict
import HandS.WordsDict
import HandS.More
import HandS.SortInts
import HandS.Small
import HandS.TupSets
import HandS.Conv
import HandS.SetFor
import HandS.Iter
import HandS.Finally
import HandS.WordsExc
import HandS.EndBits
import PySem.Challenge.RW_lendwharf_k14_whole_row_of_deeds
set_option Elab.async false
set_option linter.all false
set_option maxRecDepth 100000
set_option maxHeartbeats 4000000
namespace PySem
namespace ShortX
open PySem.W PySem.Calls PyProof.Rows PySem.HandSPX
/-! ### the text of __init__ -/
def iA (p1 p2 : Pos) : Arguments := { posonlyargs := [], args := [{ arg := "self", annotation := none, pos := p1 }, { arg := "had", annotation := none, pos := p2 }], vararg := none, kwonlyargs := [], kw_defaults := [], kwarg := none, defaults := [] }
def iB (q1 q2 q3 q4 : Pos) : List Stmt := [.Assign [.Attribute (.Name "self" q1) "had" q2] (.Name "had" q3) q4]
def iS : Scope := { kind := .function, names := [(PySem.Str.ofString "self", .local), (PySem.Str.ofString "had", .local)], isGenerator := false, isCoroutine := false, more := [] }
/-- what the written part says of Short, at C, and of its __init__, at fI -/
structure ShortTxt (K : Frag) (mg : Str → Option Value) (C fI : Addr) : Prop where
  gC : mg "Short" = some (.ref C)
  cls : ∃ nm q N bs bm sn sub ab col dd k0 k1 k2 k3 k5, K.lookup C = some (excClassObj nm q C N bs bm true sn sub ab col dd k0 k1 k2 k3 k5 "ValueError.__new__") ∧ refsVE bm = true
  sa : findIn K (.ref C) "__setattr__" = some (some (.builtin "object.__setattr__"))
  ga : findIn K (.ref C) "__getattribute__" = some (some (.builtin "BaseException.__getattribute__"))
  gg : findIn K (.ref C) "__getattr__" = some none
  noN : findIn K (.ref C) "had" = some none
  iC : findIn K (.ref C) "__init__" = some (some (.ref fI))
  tC : typeIn K (.ref fI) = some (.type "function")
  kC : keepIn K (.ref C) = true
  exC : subIn K (.ref C) (.type "BaseException") = some true
  tyC : typeIn K (.ref C) = some (.type "type")
  hdC : hasDictIn K C = true
  te : exmOne K (.ref C) (.ref C) = some true
  fn : ∃ (oc : Value) (od : Option Addr) (doc pm : Value) (an : Option Addr) (cdv ct : Value) (osl : Array (Option Value)) (p1 p2 q1 q2 q3 q4 : Pos),
    K.lookup fI = some ⟨oc, od, .func (fnOf "__init__" "Short.__init__" (iA p1 p2) (iB q1 q2 q3 q4) iS .none .none doc pm an cdv ct), osl⟩ ∧ codeIn K cdv "Short.__init__" = true
theorem one_size (v : Value) : [v].length ≤ sizeLine := by
  rw [sizeLine_eq]
  exact (by decide : 1 ≤ 16777216)
theorem kept_but {K : Frag} {h h' : Heap} {x : Addr} (X : K.In h) (hx : K.lookup x = none) (k : ∀ b o, b ≠ x → h.get? b = some o → h'.get? b = some o) : K.In h' := fun a o e =>
  k a o (fun z => by rw [z, hx] at e; cases e) (X a o e)
theorem ldC {M : Model} {s : Shared} {name : Str} {scope : Scope} {L a : Addr} {cd : Value} {m : Str → Option Value} {x : Str} {pos : Pos} {v : Value} {Q : Value → Shared → Prop} {A : Around} {E : Value → Shared → Prop} (hn : s.heap.Ns L m) (hv : m x = some v) (h : Q v s)
    (hk : scope.kind = .function := by rfl) (hl : (envOfC name scope L a cd).kindOf x = some .local := by rfl) (hd : (x == ("__debug__" : Str)) = false := by decide) :
    wpAny M A (eval (.Name x pos) (envOfC name scope L a cd)) Q E s := wpAny_Name (wpAny_loadName_local hk hl hn hv h) hd
/-- what __init__ leaves of a fresh exception at x -/
structure InitEnd (h h' : Heap) (x C dx t1 : Addr) (v : Value) : Prop where
  keep : ∀ b o, b ≠ x → h.get? b = some o → h'.get? b = some o
  obj : h'.get? x = some { cls := .ref C, dict := some dx, data := .fields #[.ref t1, .none, .none, .none, .bool false, .none] }
  dbig : h.objs.size ≤ dx
  dne : dx ≠ x
  ns : h'.Ns1 dx (fun y => if y = "had" then some v else none)
/-- a made Short -/
structure OwnMade (h h' : Heap) (e C d : Addr) (v : Value) : Prop where
  keep : ∀ b o, h.get? b = some o → h'.get? b = some o
  new : h.objs.size ≤ e
  obj : ∃ oe vs, h'.get? e = some oe ∧ oe.cls = .ref C ∧ oe.dict = some d ∧ oe.data = .fields vs ∧ vs[1]? = some .none ∧ vs[2]? = some .none
  dbig : h.objs.size ≤ d
  dne : d ≠ e
  ns : h'.Ns1 d (fun y => if y = "had" then some v else none)
section
variable {prog : Program} {w : World} {A : Around} {E : Value → Shared → Prop} {R : Result → Shared → Prop} {s : Shared} {K : Frag} {mg : Str → Option Value} {C fI : Addr}
theorem short_init (T : ShortTxt K mg C fI) {x t0 : Addr} {v : Value} (X : K.In s.heap) (hlim : s.heap.NoLimit) (hx : s.heap.get? x = some (excO C t0)) (hnx : K.lookup x = none) (hroom : A.depth < recursionLimit)
    (hq : ∀ h' tk dx, InitEnd s.heap h' x C dx t0 v → R (.ok (.ret .none)) { s with heap := h', toks := tk }) :
    codeAny (model prog w) A (.call (.ref fI) ⟨[.ref x, v], []⟩) R s := by
  obtain ⟨oc, od, doc, pm, an, cdv, ct, osl, p1, p2, q1, q2, q3, q4, ho, hcd⟩ := T.fn
  obtain ⟨nm, q, N, bs, bm, sn, sub, ab, col, dd, k0, k1, k2, k3, k5, hC, hbm⟩ := T.cls
  have hcl : clsIn K C = some { name := nm, bases := bs, mro := .ref C :: bm, ns := N, qualname := q, hasDict := true, slotNames := sn, subclasses := sub, abstract := ab, collection := col, hasDel := false } := by unfold clsIn; rw [hC] <;> rfl
  refine Att.call_fn (binds := [("self", .ref x), ("had", v)]) X hlim ho hcd hroom (BindsTo.of_eq (by first | rfl | with_unfolding_all rfl)) (by first | rfl | decide | with_unfolding_all rfl) (fun s₁ IC => ?_) rfl rfl rfl
  obtain ⟨h₁, tk₁, rfl⟩ := IC.toInCall.same
  have k : ∀ b o, s.heap.get? b = some o → h₁.get? b = some o := IC.toInCall.keep
  have hn := IC.toInCall.ns
  have hxL : s.heap.objs.size ≠ x := Nat.ne_of_gt (Heap.lt_size hx)
  have X₁ : K.In h₁ := X.keeps k
  have hx₁ := k _ _ hx
  -- self.had = had
  show wpAny _ _ (execs _ _) _ _ _
  refine wpAny_execs_cons (plainObj_wpAny_Assign_Attribute ?_)
  refine ldC (v := v) hn (by first | rfl | with_unfolding_all rfl | kernel_rfl) (ldC (v := .ref x) hn (by first | rfl | with_unfolding_all rfl | kernel_rfl) ?_)
  refine set_plain X₁ (ox := excO C t0) (od := none) ⟨hx₁, rfl, rfl, trivial⟩ T.sa ?_
  refine exc_osa X₁ hx₁ hcl (show refsVE (.ref C :: bm) = true from hbm) rfl T.noN (fun h₃ tk₃ dx k₃ dn dne hx₃ hn₃ => ?_)
  show wpAny _ _ (execs _ _) _ _ _
  have z : s.heap.objs.size < h₁.objs.size := hn.lt
  exact wpAny_execs_nil (hq h₃ tk₃ dx ⟨fun b o hb e => k₃ b o hb (k b o e), hx₃, Nat.le_of_lt (Nat.lt_of_lt_of_le z dn), dne, hn₃⟩)
theorem short_made (T : ShortTxt K mg C fI) {v : Value} (X : K.In s.heap) (hlim : s.heap.NoLimit) (hroom : A.depth + 1 < recursionLimit)
    (hq : ∀ h' tk e d, OwnMade s.heap h' e C d v → R (.ok (.ret (.ref e))) { s with heap := h', toks := tk }) :
    codeAny (model prog w) A (.call (.ref C) ⟨[v], []⟩) R s := by
  obtain ⟨nm, q, N, bs, bm, sn, sub, ab, col, dd, k0, k1, k2, k3, k5, hC, hbm⟩ := T.cls
  obtain ⟨hp, g, dr, tk, os⟩ := s
  have k : ∀ b o, hp.get? b = some o → ((hp.push (kdv_tup [v])).push (excO C hp.objs.size)).get? b = some o := fun b o e => Heap.get?_push_of_some _ (Heap.get?_push_of_some _ e)
  have hget : ((hp.push (kdv_tup [v])).push (excO C hp.objs.size)).get? (hp.objs.size + 1) = some (excO C hp.objs.size) := by heap_get
  have hnx : K.lookup (hp.objs.size + 1) = none := by
    cases e : K.lookup (hp.objs.size + 1) with
    | none => rfl
    | some o =>
      have z : hp.get? (hp.objs.size + 1) = some o := X _ _ e
      exact absurd (Nat.lt_of_succ_lt (Heap.lt_size z)) (Nat.lt_irrefl _)
  refine call_own F.excBase_ValueError (fun X => refsVE_contains X bm hbm) (X _ _ hC) (looks_findIn X T.iC) (fun self => bind_fn X self T.tC) (one_size v) ?_
  refine short_init (s := ⟨(hp.push (kdv_tup [v])).push (excO C hp.objs.size), g, dr, tk, os⟩) T (X.keeps k) (hlim.keeps k) hget hnx ?_ fun h' tk' dx ⟨k', hx, dn, dne, hns⟩ => ?_
  · show A.depth + 1 < recursionLimit
    exact hroom
  · have old : ∀ b o, hp.get? b = some o → h'.get? b = some o := fun b o e => k' b o (Nat.ne_of_lt (Nat.lt_succ_of_lt (Heap.lt_size e))) (k b o e)
    have z : hp.objs.size + 1 + 1 ≤ dx := by
      first
        | (simpa only [Heap.size_push] using dn)
        | exact dn
        | (have q := dn; rw [Heap.size_push, Heap.size_push] at q; exact q)
    exact ⟨rfl, hq h' tk' (hp.objs.size + 1) dx ⟨old, Nat.le_succ _, ⟨_, _, hx, rfl, rfl, rfl, rfl, rfl⟩, Nat.le_trans (Nat.le_trans (Nat.le_succ _) (Nat.le_succ _)) z, dne, hns⟩⟩
end
end ShortX
end PySem
namespace L2
open PySem PySem.Spec PyProof.Rows
theorem relO_short {v : V} {v' : Value} (r : RelV v v') (f : Str) : RelO (List.lookup f [(("had" : Str), v)]) (if f = "had" then some v' else none) := by
  by_cases hw : f = "had"
  · subst hw
    rw [if_pos rfl]
    have q : List.lookup ("had" : Str) [(("had" : Str), v)] = some v := by simp [List.lookup]
    rw [q]
    exact r
  · rw [if_neg hw]
    have qw : (f == ("had" : Str)) = false := by simpa using hw
    have q2 : List.lookup f [(("had" : Str), v)] = none := by simp [List.lookup, qw]
    rw [q2]
    trivial
section
variable {X : Cx} {C fI : Addr}
/-- Short(e) -/
def tMkShort (C : Addr) (ta : TA) : St → Hp → XK → Prop := fun σ H Q => ta σ H fun vs H1 => ∃ v, vs = [v] ∧ ∀ d, H1 d = none → Q (.ref C) (some d) (upd H1 d (.xd [(("had" : Str), v)]))
theorem pmk_short {a : Expr} {ta : TA} {p pos : Pos} {k : Nat} (T : PySem.ShortX.ShortTxt X.K X.mg C fI) (hr : Room k X.A) (ha : PA X [a] ta) (hg : Gl X "Short" := by rfl)
    (he : starEach (a :: []) X.env = (false, eval a X.env) :: starEach [] X.env := by rfl) (hpl : (backTo pos (starEach [] X.env)).any (·.1) = false := by rfl) :
    L2N.PMk X (.Call (.Name "Short" p) [a] [] pos) (tMkShort C ta) := by
  intro pins s σ H Q I h
  refine wpAny_Call_Name_kw (ld_glob I hg T.gC ?_)
  refine PySem.W.callWith_K (h₀ := X.base) I.ok.mod.kin T.kC (thn (ha.run pos pins s σ H _ I h) fun us s1 hh => ?_) he hpl
  obtain ⟨vs, H1, I1, r1, v, ev, q1⟩ := hh
  subst ev
  refine ⟨I1.kIn, ?_⟩
  cases r1 with
  | cons rv rn =>
    rename_i v' us'
    cases rn
    show wpAny _ _ (call (.ref C) [v']) _ _ _
    have hlim := I1.nolimit
    obtain ⟨hp, g, dr, tk, os⟩ := s1
    refine wpAny_call (PySem.ShortX.short_made T I1.kIn hlim (by have := hr.dp; omega) fun h' tk' e d M => ?_)
    show L2N.MkP X pins σ Q (.ref e) ⟨h', g, dr, tk', os⟩
    obtain ⟨oe, fv, hoe, hc, hd, hdat, h1, hcx⟩ := M.obj
    have hns := M.ns
    obtain ⟨G', g1, g2⟩ := restrict h' fun b => decide (b ≠ e)
    have gk : ∀ b, b ≠ e → G'.get? b = h'.get? b := fun b hb => g1 b (decide_eq_true hb)
    have ge : G'.get? e = none := g2 e (by simp)
    have old : ∀ b o, hp.get? b = some o → G'.get? b = some o := fun b o q => (gk b (Nat.ne_of_lt (Nat.lt_of_lt_of_le (Heap.lt_size q) M.new))).trans (M.keep b o q)
    have ob : ObjOk X.prog X.w (upd H1 d (.xd [(("had" : Str), v)])) G' d (.xd [(("had" : Str), v)]) :=
      ⟨_, hns.at (fun o q => (gk d M.dne).trans q), fun f => relO_short rv f⟩
    have J : Inv X pins σ (upd H1 d (.xd [(("had" : Str), v)])) ⟨G', g, dr, tk', os⟩ := I1.laid (t' := tk') old M.dbig ob
    refine ⟨e, oe, fv, ⟨G', g, dr, tk', os⟩, _, .ref C, some d, rfl, J, fun b o q => ?_, ge, hoe, ⟨hc, hd, fun vs' e' => by rw [hdat] at e'; cases e'; exact hcx⟩, hdat, h1, ?_, rfl, I1.bare, raises_own T.exC T.tyC, q1 d (I1.hok.fresh M.dbig)⟩
    · by_cases hb : b = e
      · have q' : G'.get? b = some o := q
        rw [hb, ge] at q'; cases q'
      · exact (gk b hb).symm.trans q
    · rw [upd_ne (Ne.symm M.dne)]
      exact I1.hok.fresh M.new
end
end L2
/-! G0: exceptions as objects that are tracked. -/
namespace Gx
open PySem L2
abbrev Takes := L2N.Takes
abbrev Zn := L2N.Zn
theorem takes0 {X : Cx} : Takes X fun _ _ _ _ => False := fun _ _ ⟨_, _, _, _, _, _, _, _, _, _, _, _, _, _, _, _, w⟩ => w.elim
/-- an exception that is handled, or was, at a: its class, its dict -/
def exV (cls : Value) (d : Option Addr) (a : Addr) : HO := .ext fun h => ∃ (oe : Obj) (vs : Array Value), h.get? a = some oe ∧ Zn cls d oe ∧ oe.data = .fields vs
theorem exV_ok {P : Program} {w : World} {H : Hp} {h : Heap} {a : Addr} {cls : Value} {d : Option Addr} {oe : Obj} {vs : Array Value} (e : h.get? a = some oe) (z : Zn cls d oe) (hd : oe.data = .fields vs) : ObjOk P w H h a (exV cls d a) :=
  ⟨⟨oe, vs, e, z, hd⟩, ⟨oe, e⟩, fun _ _ ⟨o, v, q, r⟩ k => ⟨o, v, k o q, r⟩⟩
theorem exV_at {P : Program} {w : World} {H : Hp} {h : Heap} {a : Addr} {cls : Value} {d : Option Addr} (x : HOk P w H h) (e : H a = some (exV cls d a)) : ∃ (oe : Obj) (vs : Array Value), h.get? a = some oe ∧ Zn cls d oe ∧ oe.data = .fields vs := (x a _ e).1
section
variable {X : Cx} {pins : List (Addr × Obj)} {σ : L2.St} {H : Hp} {s : Shared}
theorem track (I : Inv X pins σ H s) {a : Addr} {oe : Obj} {vs : Array Value} {cls : Value} {d : Option Addr} (ha : s.heap.get? a = some oe) (z : Zn cls d oe) (hd : oe.data = .fields vs) (na : H a = none) (nL : a ≠ X.env.locals)
    (n0 : ∀ o, X.s_0.heap.get? a = some o → a ∈ X.ex) (np : ∀ p ∈ X.pn ++ pins, p.1 ≠ a) : Inv X pins σ (upd H a (exV cls d a)) s := by
  have up : ∀ {b o}, H b = some o → upd H a (exV cls d a) b = some o := fun {b o} e => by
    rw [upd_ne (fun q => by rw [q, na] at e; cases e)]
    exact e
  refine ⟨I.ok, I.os, I.bare, ⟨I.base.keep, I.base.slot, fun b o e n hx => ?_, I.base.there, fun b xs e => up (I.base.tups b xs e), fun b o u e => up (I.base.frzs b o u e), fun b ps e => ?_⟩, I.loc, I.cell, ?_, fun x c e => ?_, fun p hp => ?_, fun b u e => ?_, I.len⟩
  · have hb : b ≠ a := fun q => by
      subst q
      exact hx (n0 o e)
    rw [upd_ne hb]
    exact I.base.free b o e n hx
  · obtain ⟨m, q⟩ := I.base.tbls b ps e
    exact ⟨m, up q⟩
  · rw [upd_ne (Ne.symm nL)]
    exact I.free
  · have hb : c ≠ a := fun q => by
      subst q
      obtain ⟨v, o, ho, hd2⟩ := I.cell x c e
      rw [ha] at ho
      cases ho
      rw [hd] at hd2
      cases hd2
    rw [upd_ne hb]
    exact I.freeC x c e
  · obtain ⟨e, n, ne, nf, dd⟩ := I.pin p hp
    exact ⟨e, by rw [upd_ne (np p hp)]; exact n, ne, nf, dd⟩
  · by_cases hb : b = a
    · subst hb
      rw [upd_same] at e
      injection e with e
      subst e
      exact exV_ok ha z hd
    · rw [upd_ne hb] at e
      exact (I.hok b u e).stay (fun c v _ q => q) (fun c q => up q) fun c xs q => up q
theorem suiteT (I : Inv X pins σ H s) (a : Addr) : Inv (X.suite a (X.pn ++ pins)) [] σ H s :=
  ⟨I.ok.suite _ _, I.os, I.bare, I.base, I.loc, I.cell, I.free, I.freeC, fun p hp => I.pin p (by rw [List.append_nil] at hp; exact hp), I.hok, I.len⟩
theorem unsuiteT {a : Addr} {pn' : List (Addr × Obj)} (I : Inv (X.suite a (X.pn ++ pins)) pn' σ H s) (ok : X.Ok) : Inv X pins σ H s :=
  ⟨ok, I.os, I.bare, I.base, I.loc, I.cell, I.free, I.freeC, fun p hp => I.pin p (List.mem_append_left _ hp), I.hok, I.len⟩
end
/-! ### try: body, except x as n: suite -/
/-- how a suite ends: the name goes -/
def goneD (D : Ends) : Option Nat → Ends
  | none => D
  | some i => { nx := fun σ' H' => D.nx (σ'.set i none) H', rt := D.rt, bk := fun σ' H' => D.bk (σ'.set i none) H', ct := fun σ' H' => D.ct (σ'.set i none) H' }
def bindI (σ : L2.St) (a : Addr) : Option Nat → L2.St
  | none => σ
  | some i => σ.set i (some (.ref a))
def wTr (K : PySem.W.Frag) (c : Value) (i : Option Nat) (ts : Addr → Value → Option Addr → TS) (Wout : WX) (D : Ends) : WX := fun cls d σ H =>
  ∃ b, PySem.W.exmOne K cls c = some b ∧ (b = true → ∀ a, H a = none → ts a cls d { nx := fun σ' H' => D.nx (match i with | some i => σ'.set i none | none => σ') H', rt := fun v H' => D.rt v H', bk := fun σ' H' => D.bk (match i with | some i => σ'.set i none | none => σ') H', ct := fun σ' H' => D.ct (match i with | some i => σ'.set i none | none => σ') H' } (bindI σ a i) (upd H a (exV cls d a))) ∧ (b = false → Wout cls d σ H)
section
variable {X : Cx} {x n : Str} {c : Value} {i : Nat} {body suite : List Stmt} {b₀ : Stmt} {np pos pos' : Pos} {tb : WX → TS} {ts : Addr → Value → Option Addr → TS} {Wout : WX}
theorem ps_try_tr (hs : X.stack = X.env :: X.outer) (hf : X.env.frame = some X.env.locals) (hN : X.N.Nodup) (hi : X.N[i]? = some n) (hln : X.env.kindOf n = some .local) (hc : Names X x c) (tk : Takes X Wout)
    (hb : ∀ (W : WX) (pn : List (Addr × Obj)) (xe : Value → Shared → Prop), Takes (X.tr pn xe) W → PassesOwn (model X.prog X.w) X.A X.env xe → PSs (X.tr pn xe) body (tb W))
    (hsu : ∀ (a : Addr) (cls : Value) (d : Option Addr) (pn : List (Addr × Obj)), PSs (X.suite a pn) (b₀ :: suite) (ts a cls d)) :
    PS X (.Try body [.ExceptHandler (some (.Name x np)) (some n) (b₀ :: suite) pos'] [] [] pos) (fun D σ H => tb (wTr X.K c (some i) ts Wout D) D σ H) := by
  refine ⟨fun pins s σ H D I h => ?_⟩
  have ok := I.ok
  have hfr : X.A.frames = some (X.env :: X.outer) := by rw [ok.frames, hs]
  have hloc : Loc X.env.scope n := .inl hln
  refine wpAny_Try_except ?_
  refine wpAny_mono ((hb (wTr X.K c (some i) ts Wout D) (X.pn ++ pins) (fun e s₁ => wpAny (model X.prog X.w) X.A (noteFrame e X.env) (fun _ s₂ => wpAny (model X.prog X.w) X.A (setFlight e none) (fun _ s₃ =>
    wpAny (model X.prog X.w) X.A (handleBy e X.env [.ExceptHandler (some (.Name x np)) (some n) (b₀ :: suite) pos']) (SP X pins D) X.xe s₃) X.xe s₂) X.xe s₁) (fun u s' xx => ?_) PassesOwn.looking).run [] s σ H D (I.toTry _) h) (fun f s1 hsp => ?_) (fun e s1 he => he)
  · -- the catch
    obtain ⟨a, B, sI, pins', σ', H', cls, d, rfl, J', nb, up, sky, na, os, ag, b, hb1, hyes, hno⟩ := xx
    have J : Inv X pins σ' H' sI := J'.ofTry ok
    have sky' : Sky B (X.env :: X.outer) a (Zn cls d) X.env.locals s'.heap := by rw [← hs]; exact sky
    show wpAny (model X.prog X.w) X.A (noteFrame (.ref a) X.env) _ _ _
    refine L2N.Sky.land L2N.Zn.steady hfr hf sky' fun h3 fl3 up3 => ?_
    have J3 : Inv X pins σ' H' { s' with heap := h3 } := J.landed nb fl3.1 (up.trans up3) os ag
    obtain ⟨oe3, vs3, he3, hz3, hd3⟩ := fl3.there
    have notFr : ∀ {h : Heap} {o : Obj} {vs : Array Value}, h.FunFrames B (X.env :: X.outer) → h.get? a = some o → o.data = .fields vs → a ∉ frs (X.env :: X.outer) := fun {h o vs} ff e dd hm => by
      obtain ⟨_, o', e', hnf⟩ := ff.mem hm
      rw [e] at e'; cases e'
      exact hnf _ dd
    have nfr := notFr fl3.2.2.1 he3 hd3
    have nL : a ≠ X.env.locals := fun z => nfr (List.mem_filterMap.mpr ⟨X.env, List.mem_cons_self, by rw [hf, z]⟩)
    have nF : a ∉ X.fs := fun hm => by
      obtain ⟨e, he, q⟩ := List.mem_filterMap.mp hm
      exact nfr (List.mem_filterMap.mpr ⟨e, List.mem_cons_of_mem _ he, q⟩)
    have nI : sI.heap.get? a = none := by
      cases q : sI.heap.get? a with
      | none => rfl
      | some o =>
        have := nb a o q (by rw [hs]; exact nfr)
        rw [fl3.2.1] at this
        cases this
    have n0 : ∀ o, X.s_0.heap.get? a = some o → a ∈ X.ex := fun o q => by
      apply Classical.byContradiction
      intro hx
      obtain ⟨o', q'⟩ := J.base.there a o q hx
      rw [nI] at q'
      cases q'
    have npin : ∀ p ∈ X.pn ++ pins, p.1 ≠ a := fun p hp q => by
      have := (J.pin p hp).1
      rw [q, nI] at this
      cases this
    have S3 := J3.suite he3 hd3 na nL nF
    refine wpAny_handleBy_cons (codeAny_handlers_test ?_) (by intro q; cases q)
    have LT : PySem.W.Looks (model X.prog X.w) h3 (typeOf (.ref a)) cls := fun A Q E s k q => wpAny_typeOf_ref (k _ _ he3) (by rw [hz3.1]; exact q)
    have LM := PySem.W.exm_one (M := model X.prog X.w) (J3.kIn) LT hb1
    have test : ∀ {Q : Value → Shared → Prop} {E : Value → Shared → Prop}, Q c { s' with heap := h3 } → wpAny (model X.prog X.w) (X.A.mark (some (.ref a))) (eval (.Name x np) X.env) Q E { s' with heap := h3 } := fun {Q E} q => by
      obtain ⟨hg, hdbg, hm | ⟨hm, hv, hnn⟩⟩ := hc
      · exact ld_glob (X := X.suite a ((a, oe3) :: (X.pn ++ pins))) S3 hg hm q hdbg
      · exact ld_blt (X := X.suite a ((a, oe3) :: (X.pn ++ pins))) S3 hg hm hv q hnn hdbg
    refine test (LM.here ?_)
    cases b with
    | true =>
      refine codeAny_handlers_suite_as ?_
      refine HandSPX.lands_againZ fl3 fun h4 fl4 up4 => ?_
      have J4 : Inv X pins σ' H' { s' with heap := h4 } := J.landed nb fl4.1 ((up.trans up3).trans up4) os ag
      obtain ⟨oe4, vs4, he4, hz4, hd4⟩ := fl4.there
      have S4 := suiteT (track J4 he4 hz4 hd4 na nL n0 npin) a
      refine store_ok (X := X.suite a (X.pn ++ pins)) (v := .ref a) S4 hN hi hloc rfl (fun s5 S5 => ?_) (.inr hln)
      refine wpAny_mono ((hsu a cls d (X.pn ++ pins)).run [] s5 _ _ _ S5 (hyes rfl a na)) (fun f s6 hsp => ?_) (fun _ _ z => False.elim z)
      have end_ : ∀ {σ6 : L2.St} {H6 : Hp} {Q : Shared → Prop}, Inv (X.suite a (X.pn ++ pins)) [] σ6 H6 s6 → (∀ s7, Inv X pins (σ6.set i none) H6 s7 → Q s7) →
          wpAny (model X.prog X.w) X.A (do bindName X.env n .none; unbindBehindTheSuite X.env n pos') (fun _ s7 => Q s7) X.xe s6 := fun {σ6 H6 Q} S6 hq => gone_ok (unsuiteT S6 ok) hN hi hln hq
      cases f with
      | next =>
        obtain ⟨σ6, H6, S6, q6⟩ := hsp
        exact end_ S6 fun s7 J7 => ⟨_, _, J7, q6⟩
      | brk =>
        obtain ⟨σ6, H6, S6, q6⟩ := hsp
        exact end_ S6 fun s7 J7 => ⟨_, _, J7, q6⟩
      | cont =>
        obtain ⟨σ6, H6, S6, q6⟩ := hsp
        exact end_ S6 fun s7 J7 => ⟨_, _, J7, q6⟩
      | ret u =>
        obtain ⟨v6, σ6, H6, S6, r6, q6⟩ := hsp
        exact end_ S6 fun s7 J7 => ⟨_, _, _, J7, r6, q6⟩
    | false =>
      show wpAny _ X.A (handleBy (.ref a) X.env []) _ _ _
      refine wpAny_handleBy_nil ?_
      obtain ⟨k1, k2, k3, oe, vs, T, oT, ts', he, hz, hd, h1, hr⟩ := id fl3
      unfold PySem.passOn
      refine wpAny_bind (wpAny_field he hd h1 ?_)
      rw [if_neg (show ¬ ((Value.ref T == Value.none) = true) from by simp)]
      have fin : wpAny (model X.prog X.w) X.A (setFlight (.ref a) X.env.frame) (fun _ s4 => wpAny (model X.prog X.w) X.A (throw (.ref a) : Sem Flow) (SP X pins D) X.xe s4) X.xe { s' with heap := h3 } := by
        rw [hf]
        refine HandSPX.setFlight_upZ fl3 fun h4 hh4 up4 => wpAny_throw (tk _ _ ?_)
        exact ⟨a, B, sI, pins, σ', H', cls, d, rfl, J, nb, (up.trans up3).trans up4, .inr (.inr (by rw [hs]; exact hh4)), na, os, ag, hno rfl⟩
      first
        | exact wpAny_bind (wpAny_pure (wpAny_bind fin))
        | exact wpAny_bind fin
  · cases f with
    | next =>
      obtain ⟨σ', H', J', q⟩ := hsp
      exact wpAny_execs_nil ⟨σ', H', J'.ofTry ok, q⟩
    | brk =>
      obtain ⟨σ', H', J', q⟩ := hsp
      exact ⟨σ', H', J'.ofTry ok, q⟩
    | cont =>
      obtain ⟨σ', H', J', q⟩ := hsp
      exact ⟨σ', H', J'.ofTry ok, q⟩
    | ret u =>
      obtain ⟨v, σ', H', J', r, q⟩ := hsp
      exact ⟨v, σ', H', J'.ofTry ok, r, q⟩
theorem ps_try_tr0 (hs : X.stack = X.env :: X.outer) (hf : X.env.frame = some X.env.locals) (hc : Names X x c) (tk : Takes X Wout)
    (hb : ∀ (W : WX) (pn : List (Addr × Obj)) (xe : Value → Shared → Prop), Takes (X.tr pn xe) W → PassesOwn (model X.prog X.w) X.A X.env xe → PSs (X.tr pn xe) body (tb W))
    (hsu : ∀ (a : Addr) (cls : Value) (d : Option Addr) (pn : List (Addr × Obj)), PSs (X.suite a pn) (b₀ :: suite) (ts a cls d)) :
    PS X (.Try body [.ExceptHandler (some (.Name x np)) none (b₀ :: suite) pos'] [] [] pos) (fun D σ H => tb (wTr X.K c none ts Wout D) D σ H) := by
  refine ⟨fun pins s σ H D I h => ?_⟩
  have ok := I.ok
  have hfr : X.A.frames = some (X.env :: X.outer) := by rw [ok.frames, hs]
  refine wpAny_Try_except ?_
  refine wpAny_mono ((hb (wTr X.K c none ts Wout D) (X.pn ++ pins) (fun e s₁ => wpAny (model X.prog X.w) X.A (noteFrame e X.env) (fun _ s₂ => wpAny (model X.prog X.w) X.A (setFlight e none) (fun _ s₃ =>
    wpAny (model X.prog X.w) X.A (handleBy e X.env [.ExceptHandler (some (.Name x np)) none (b₀ :: suite) pos']) (SP X pins D) X.xe s₃) X.xe s₂) X.xe s₁) (fun u s' xx => ?_) PassesOwn.looking).run [] s σ H D (I.toTry _) h) (fun f s1 hsp => ?_) (fun e s1 he => he)
  · -- the catch
    obtain ⟨a, B, sI, pins', σ', H', cls, d, rfl, J', nb, up, sky, na, os, ag, b, hb1, hyes, hno⟩ := xx
    have J : Inv X pins σ' H' sI := J'.ofTry ok
    have sky' : Sky B (X.env :: X.outer) a (Zn cls d) X.env.locals s'.heap := by rw [← hs]; exact sky
    show wpAny (model X.prog X.w) X.A (noteFrame (.ref a) X.env) _ _ _
    refine L2N.Sky.land L2N.Zn.steady hfr hf sky' fun h3 fl3 up3 => ?_
    have J3 : Inv X pins σ' H' { s' with heap := h3 } := J.landed nb fl3.1 (up.trans up3) os ag
    obtain ⟨oe3, vs3, he3, hz3, hd3⟩ := fl3.there
    have notFr : ∀ {h : Heap} {o : Obj} {vs : Array Value}, h.FunFrames B (X.env :: X.outer) → h.get? a = some o → o.data = .fields vs → a ∉ frs (X.env :: X.outer) := fun {h o vs} ff e dd hm => by
      obtain ⟨_, o', e', hnf⟩ := ff.mem hm
      rw [e] at e'; cases e'
      exact hnf _ dd
    have nfr := notFr fl3.2.2.1 he3 hd3
    have nL : a ≠ X.env.locals := fun z => nfr (List.mem_filterMap.mpr ⟨X.env, List.mem_cons_self, by rw [hf, z]⟩)
    have nF : a ∉ X.fs := fun hm => by
      obtain ⟨e, he, q⟩ := List.mem_filterMap.mp hm
      exact nfr (List.mem_filterMap.mpr ⟨e, List.mem_cons_of_mem _ he, q⟩)
    have nI : sI.heap.get? a = none := by
      cases q : sI.heap.get? a with
      | none => rfl
      | some o =>
        have := nb a o q (by rw [hs]; exact nfr)
        rw [fl3.2.1] at this
        cases this
    have n0 : ∀ o, X.s_0.heap.get? a = some o → a ∈ X.ex := fun o q => by
      apply Classical.byContradiction
      intro hx
      obtain ⟨o', q'⟩ := J.base.there a o q hx
      rw [nI] at q'
      cases q'
    have npin : ∀ p ∈ X.pn ++ pins, p.1 ≠ a := fun p hp q => by
      have := (J.pin p hp).1
      rw [q, nI] at this
      cases this
    have S3 := J3.suite he3 hd3 na nL nF
    refine wpAny_handleBy_cons (codeAny_handlers_test ?_) (by intro q; cases q)
    have LT : PySem.W.Looks (model X.prog X.w) h3 (typeOf (.ref a)) cls := fun A Q E s k q => wpAny_typeOf_ref (k _ _ he3) (by rw [hz3.1]; exact q)
    have LM := PySem.W.exm_one (M := model X.prog X.w) (J3.kIn) LT hb1
    have test : ∀ {Q : Value → Shared → Prop} {E : Value → Shared → Prop}, Q c { s' with heap := h3 } → wpAny (model X.prog X.w) (X.A.mark (some (.ref a))) (eval (.Name x np) X.env) Q E { s' with heap := h3 } := fun {Q E} q => by
      obtain ⟨hg, hdbg, hm | ⟨hm, hv, hnn⟩⟩ := hc
      · exact ld_glob (X := X.suite a ((a, oe3) :: (X.pn ++ pins))) S3 hg hm q hdbg
      · exact ld_blt (X := X.suite a ((a, oe3) :: (X.pn ++ pins))) S3 hg hm hv q hnn hdbg
    refine test (LM.here ?_)
    cases b with
    | true =>
      refine codeAny_handlers_suite ?_
      refine HandSPX.lands_againZ fl3 fun h4 fl4 up4 => ?_
      have J4 : Inv X pins σ' H' { s' with heap := h4 } := J.landed nb fl4.1 ((up.trans up3).trans up4) os ag
      obtain ⟨oe4, vs4, he4, hz4, hd4⟩ := fl4.there
      have S4 := suiteT (track J4 he4 hz4 hd4 na nL n0 npin) a
      refine wpAny_mono ((hsu a cls d (X.pn ++ pins)).run [] _ _ _ _ S4 (hyes rfl a na)) (fun f s6 hsp => ?_) (fun _ _ z => False.elim z)
      cases f with
      | next =>
        obtain ⟨σ6, H6, S6, q6⟩ := hsp
        exact ⟨_, _, unsuiteT S6 ok, q6⟩
      | brk =>
        obtain ⟨σ6, H6, S6, q6⟩ := hsp
        exact ⟨_, _, unsuiteT S6 ok, q6⟩
      | cont =>
        obtain ⟨σ6, H6, S6, q6⟩ := hsp
        exact ⟨_, _, unsuiteT S6 ok, q6⟩
      | ret u =>
        obtain ⟨v6, σ6, H6, S6, r6, q6⟩ := hsp
        exact ⟨_, _, _, unsuiteT S6 ok, r6, q6⟩
    | false =>
      show wpAny _ X.A (handleBy (.ref a) X.env []) _ _ _
      refine wpAny_handleBy_nil ?_
      obtain ⟨k1, k2, k3, oe, vs, T, oT, ts', he, hz, hd, h1, hr⟩ := id fl3
      unfold PySem.passOn
      refine wpAny_bind (wpAny_field he hd h1 ?_)
      rw [if_neg (show ¬ ((Value.ref T == Value.none) = true) from by simp)]
      have fin : wpAny (model X.prog X.w) X.A (setFlight (.ref a) X.env.frame) (fun _ s4 => wpAny (model X.prog X.w) X.A (throw (.ref a) : Sem Flow) (SP X pins D) X.xe s4) X.xe { s' with heap := h3 } := by
        rw [hf]
        refine HandSPX.setFlight_upZ fl3 fun h4 hh4 up4 => wpAny_throw (tk _ _ ?_)
        exact ⟨a, B, sI, pins, σ', H', cls, d, rfl, J, nb, (up.trans up3).trans up4, .inr (.inr (by rw [hs]; exact hh4)), na, os, ag, hno rfl⟩
      first
        | exact wpAny_bind (wpAny_pure (wpAny_bind fin))
        | exact wpAny_bind fin
  · cases f with
    | next =>
      obtain ⟨σ', H', J', q⟩ := hsp
      exact wpAny_execs_nil ⟨σ', H', J'.ofTry ok, q⟩
    | brk =>
      obtain ⟨σ', H', J', q⟩ := hsp
      exact ⟨σ', H', J'.ofTry ok, q⟩
    | cont =>
      obtain ⟨σ', H', J', q⟩ := hsp
      exact ⟨σ', H', J'.ofTry ok, q⟩
    | ret u =>
      obtain ⟨v, σ', H', J', r, q⟩ := hsp
      exact ⟨v, σ', H', J'.ofTry ok, r, q⟩
end
end Gx
namespace PySem.W
open PySem PySem.Spec PySem.Calls PyProof.Rows
section
variable {prog : Program} {w : World} {A : Around} {E : Value → Shared → Prop} {s : Shared} {K : Frag} {x D : Addr} {ox : Obj} {od : Option Obj}
theorem findObj_dataT {C : Addr} {name : Str} {a g : Value} (hc : (clsIn K C).isSome = true) (ha : findIn K (.ref C) name = some (some a)) (hg : specialIn K a "__get__" = some (some g)) (ht : takesIn K a = some true) : findObj K C od name = some (.bind g a) := by
  obtain ⟨cd, hc⟩ := Option.isSome_iff_exists.mp hc
  unfold findObj
  rw [hc, Option.bind_some, ha, Option.bind_some]
  simp [hg, ht]
theorem kin_classT {Q : Option Value → Shared → Prop} (hga : findIn K (.ref D) "__getattribute__" = some (some (.builtin "BaseException.__getattribute__"))) (hgt : findIn K (.ref D) "__getattr__" = some none) (hsub : subIn K (.ref D) (.type "BaseException") = some true)
    (hdct : hasDictIn K D = true) (ha : findIn K (.ref D) "__class__" = some (some (.builtin "object.__class__")))
    (hn : specialIn K (.builtin "object.__class__") "__get__" = some (some (.builtin "getset_descriptor.__get__"))) (htk : takesIn K (.builtin "object.__class__") = some true) (hm : mroIn K D (.type "object") = some true)
    (X : K.In s.heap) (I : InstAt s.heap x ox D od) (h : Q (some (.ref D)) { s with toks := s.toks + 1 }) : wpAny (model prog w) A (getAttr? (.ref x) "__class__") Q E s := by
  have hf : findObj K D od "__class__" = some (.bind (.builtin "getset_descriptor.__get__") (.builtin "object.__class__")) := findObj_dataT (by obtain ⟨cd, hc, _⟩ := any_some hdct; rw [hc]; rfl) ha hn htk
  obtain ⟨hp, g, d, t, os⟩ := s
  have L0 := I.type (M := model prog w)
  have L1 := looks_findIn (M := model prog w) X hga
  have L2 := looks_findIn (M := model prog w) X hgt
  have L3 := looks_find (M := model prog w) X I hf
  have sub : Looks (model prog w) hp (isInstance (.ref x) (.type "BaseException")) true := L0.andThen (looks_subIn X hsub)
  have hx0 : (false && onTheHeap (Value.builtin "BaseException.__getattribute__")) = false := rfl
  have hx2 : (Value.builtin "BaseException.__getattribute__" == Value.builtin "object.__getattribute__") = false := by decide +kernel
  have hx1 : (onTheHeap (Value.ref D) && Value.builtin "BaseException.__getattribute__" == Value.builtin "object.__getattribute__") = false := by rw [hx2]; rfl
  unfold getAttr? getAttrBy? getAttrBy
  refine wpAny_bind (wpAny_mkText (wpAny_bind (wpAny_attempt (wpAny_holding (wpAny_bind (L0.at (wpAny_bind (L1.at ?_))))))))
  show wpAny _ _ (if (onTheHeap (Value.ref D) && Value.builtin "BaseException.__getattribute__" == Value.builtin "object.__getattribute__") = true then _ else _) _ _ _
  rw [hx1, if_neg Bool.false_ne_true]
  unfold getAttrByItsOwn hookBefore
  refine wpAny_bind ?_
  rw [if_pos (show onTheHeap (Value.ref D) = true from rfl)]
  refine L2.at ?_
  refine wpAny_bind (wpAny_attempt (wpAny_holding ?_))
  unfold callGetattribute
  rw [hx0, if_neg Bool.false_ne_true]
  unfold boundAndCalled
  rw [PySem.F.excAttr_ValueError.ga.bind (.ref x)]
  refine wpAny_bind (wpAny_pure ?_)
  show wpAny _ _ (call (.builtin "BaseException.__getattribute__") [.ref x, .str "__class__" t]) _ _ _
  refine wpAny_call (codeAny_call_builtin PySem.F.excAttr_ValueError.ga.plain PySem.F.entry_bexc_ga ?_)
  refine @check_slot (model prog w) _ _ ⟨hp, g, d, t + 1, os⟩ "BaseException.__getattribute__" "BaseException" "__getattribute__" (.ref x) [.str "__class__" t] [] _ (by decide +kernel) (by decide +kernel) sub (PySem.F.args_bexc_ga (.ref x) (.str "__class__" t)) ?_
  unfold Builtin.«object.__getattribute__»
  refine wpAny_bind (wpAny_of_eq (a := ((Value.ref x : Value), [Value.str "__class__" t])) (by first | rfl | (simp only [slotArgs]; rfl)) ?_)
  refine wpAny_bind (wpAny_pure (wpAny_bind (L0.at (wpAny_bind (L3.at ?_)))))
  show wpAny _ _ (holding [Value.builtin "object.__class__"] (call (.builtin "getset_descriptor.__get__") [.builtin "object.__class__", .ref x, .ref D]) >>= ret) _ _ _
  refine wpAny_bind (wpAny_holding (wpAny_call (class_get (s := ⟨hp, g, d, t + 1, os⟩) (ox := ox) (od := od) X I hm ?_)))
  refine wpAny_pure ?_
  show wpAny _ _ (handedOut (.ref D)) _ _ _
  rw [handedOut_of (v := .ref D) rfl]
  first
    | exact wpAny_pure (wpAny_pure h)
    | exact wpAny_pure h
    | exact wpAny_pure (wpAny_bind (wpAny_pure (wpAny_pure h)))
theorem kitx_excT (hga : findIn K (.ref D) "__getattribute__" = some (some (.builtin "BaseException.__getattribute__"))) (hgt : findIn K (.ref D) "__getattr__" = some none) (hsub : subIn K (.ref D) (.type "BaseException") = some true) (hdct : hasDictIn K D = true) (ha : findIn K (.ref D) "__class__" = some (some (.builtin "object.__class__")))
    (hn : specialIn K (.builtin "object.__class__") "__get__" = some (some (.builtin "getset_descriptor.__get__"))) (htk : takesIn K (.builtin "object.__class__") = some true) (hm : mroIn K D (.type "object") = some true) :
    KitX K (.ref x) (.ref D) (fun h => InstAt h x ox D od) where
  ty := fun _ _ _ I => I.type
  it := fun _ _ X _ => by
    obtain ⟨cdD, hcD, _⟩ := any_some hdct
    unfold clsIn at hcD
    split at hcD
    · rename_i c' d' cd' sl' ho
      intro A' Q' E' s' k q
      unfold isType loadHead
      exact wpAny_bind (wpAny_loadPart (k _ _ (X _ _ ho)) (wpAny_pure q))
    · cases hcD
  ne := fun h tp dd its n sl X htp => by
    obtain ⟨cdD, hcD, _⟩ := any_some hdct
    refine Bool.eq_false_iff.mpr fun q => ?_
    have e : D = tp := Value.ref.inj (beq_iff_eq.mp q)
    subst e
    unfold clsIn at hcD
    split at hcD
    · rename_i c' d' cd' sl' ho
      have z := (X _ _ ho).symm.trans htp
      cases z
    · cases hcD
  ca := fun X I k => kin_classT hga hgt hsub hdct ha hn htk hm X I k
end
end PySem.W
namespace Gx
open PySem L2
/-- the dict of a tracked exception -/
def DcOk (H : Hp) : Option Addr → Prop
  | none => True
  | some d => ∃ fs, H d = some (.xd fs)
def rIsT (K : PySem.W.Frag) : List V → Hp → VK → Prop := fun xs H Q => ∃ (a D : Addr) (d : Option Addr) (c : V) (cv : Value) (b : Bool), xs = [.ref a, c] ∧ H a = some (exV (.ref D) d a) ∧ DcOk H d ∧ ExcC K D ∧ (∀ u, RelV c u → u = cv) ∧ PySem.W.kitOne K (.ref D) cv = some b ∧ Q (.bl b) H
theorem call_isT {X : Cx} : CallR X (.builtin "isinstance") (rIsT X.K) := by
  intro pins s σ H xs us Q I r h
  obtain ⟨a, D, d, c, cv, b, rfl, ha, hd, C, hcv, e, q⟩ := h
  cases r with
  | cons rx rr =>
    cases rr with
    | cons rt rr =>
      cases rr
      cases rx
      have ec := hcv _ rt
      subst ec
      obtain ⟨oe, vs, hget, hz, hv⟩ := exV_at I.hok ha
      obtain ⟨od, J⟩ : ∃ od, PySem.W.InstAt s.heap a oe D od := by
        obtain ⟨oc, odx, oda, osl⟩ := oe
        obtain ⟨h1, h2, _⟩ := hz
        dsimp only at h1 h2 hv
        subst h1 h2 hv
        cases odx with
        | none => exact ⟨none, hget, rfl, rfl, trivial⟩
        | some dx =>
          obtain ⟨fs, hx⟩ := hd
          have hx : ObjOk X.prog X.w H s.heap dx (.xd fs) := I.hok dx _ hx
          obtain ⟨mA, hns, _⟩ := hx
          obtain ⟨o, ho, _⟩ := lookIn_ns hns
          exact ⟨some o, hget, rfl, rfl, ho⟩
      exact PySem.W.kia_one (PySem.W.kitx_excT C.hg C.hk C.hs C.hd C.ha C.hn C.ht C.hm) I.kIn J e (fun z => nomatch z) fun tk => ⟨.bl b, H, I.kept (t' := tk) fun _ _ z => z, rfl, q⟩
/-- e.f -/
def tXt (K : PySem.W.Frag) (f : Str) (te : TE) : TE := fun σ H Q => te σ H fun x H1 => ∃ (a C d : Addr) (fs : List (Str × V)) (v : V), x = .ref a ∧ H1 a = some (exV (.ref C) (some d) a) ∧ XfC K C ∧ PySem.W.findIn K (.ref C) f = some none ∧ H1 d = some (.xd fs) ∧ fs.lookup f = some v ∧ Q v H1
theorem pe_xt {X : Cx} {e : Expr} {te : TE} {pos : Pos} {n : Str} (he : PE X e te) (hb : attributeBase e n X.env (eval e X.env) = eval e X.env := by rfl) : PE X (.Attribute e n pos) (tXt X.K n te) := by
  refine ⟨fun pins s σ H Q I h => ?_⟩
  refine attr_of hb (thn (he.run pins s σ H _ I h) fun u s1 hh => ?_)
  obtain ⟨x, H1, I1, rx, a, C, d, fs, v, ex, hx, T, hno, ea, l, q⟩ := hh
  subst ex
  obtain rfl : u = Value.ref a := rx
  obtain ⟨oe, vs, hget, hz, hd⟩ := exV_at I1.hok hx
  have hx : ObjOk X.prog X.w H1 s1.heap d (.xd fs) := I1.hok d _ ea
  obtain ⟨mA, hns, hr⟩ := hx
  obtain ⟨od, ho, hl⟩ := lookIn_ns hns
  obtain ⟨u, hu, ru⟩ := RelO.some_of (v := v) (o := mA n) (by rw [← l]; exact hr n)
  have J : PySem.W.InstAt s1.heap a oe C (some od) := ⟨hget, hz.1, by unfold PySem.W.notCls; rw [hd] <;> rfl, by rw [hz.2.1]; exact ho⟩
  exact HandSPX.exc_get I1.kIn J T.ga T.gg T.exC (PySem.W.findObj_own T.hdC hno rfl (by rw [hl, hu])) (handed_of ru) ⟨v, H1, I1.tok _, ru, q⟩
end Gx
namespace L2
open PySem PySem.Spec PyProof.Rows
theorem Fun_okN {P : Program} {w : World} {K : PySem.W.Frag} {mg : Str → Option Value} {base : Heap} {x qual : Str} {st : Stmt} {f : Addr} {fd : FuncData} {N ps : List Str} {k : Nat} {sp : Sp} (F : Fun K x qual st f fd) (S : FnScope N ps (defScope st)) (len : ∀ vs H Q E, sp vs H Q E → vs.length = ps.length)
    (hbody : ∀ (cdv : Value) (A : Around) (outer : List Env) (s : Shared) (H : Hp) (vs : List V) (Q : VK) (E : XK), Room k (A.deeper (envOfC qual (defScope st) s.heap.objs.size f cdv)) → sp vs H Q E →
      ∃ t, PSs (cxOf (L2N.CX P w) P w K mg base N qual (defScope st) f cdv A outer s H E) (defBody st) t ∧ t { nx := fun _ H' => Q .non H', rt := Q } (start N vs) H) : FnOk P w K mg base (L2N.CX P w) (k + 1) f fd ps sp := by
  obtain ⟨oc, od, kV, doc, pm, an, cdv, ct, osl, rfl, lk, hcd⟩ := F.ex
  exact fn_of lk hcd S len fun A outer s H vs Q E hr hsp => hbody cdv A outer s H vs Q E hr hsp
end L2

/-! G1: plain data D; a store of objects that may change, by number; how values and the abstract heap stand for them; steps. -/
namespace Gx
open PySem L2
inductive D where
  | non | bl (b : Bool) | int (i : Int) | str (x : Str)
  | tup (l : List D) | vl (l : List D) | sl (l : List D) | vd (k l : List D) | ref (n : Nat) | exc (c : Str) (p : Option Int)
/-- an object of the store: a list, a dict (keys, values), an instance (its class, its fields) -/
inductive HO' where
  | lst (l : List D) | dic (k l : List D) | ins (c : Str) (f : List Str) (l : List D) | fdc (k l : List D) | dit (k : List (List Key)) (l : List D)
abbrev Hs := List HO'
abbrev SD := List (Option D)
mutual
/-- no number of the store in it, but below n -/
def D.bel (n : Nat) : D → Bool
  | .non => true
  | .bl _ => true
  | .int _ => true
  | .str _ => true
  | .exc _ _ => true
  | .tup l => belL n l
  | .vl l => belL n l
  | .sl l => belL n l
  | .vd k l => belL n k && belL n l
  | .ref m => decide (m < n)
def belL (n : Nat) : List D → Bool
  | [] => true
  | d :: r => d.bel n && belL n r
end
def HO'.bel (n : Nat) : HO' → Bool
  | .lst l => belL n l
  | .dic k l => belL n k && belL n l
  | .fdc k l => belL n k && belL n l
  | .dit _ l => belL n l
  | .ins _ _ l => belL n l
/-- a list of the written part -/
def KLst (K : PySem.W.Frag) (a : Addr) (xs : List V) : Prop :=
  ∃ (o : Obj) (its : Array Value) (n : Nat), K.lookup a = some o ∧ o.cls = .type "list" ∧ o.dict = none ∧ o.data = .seq its n ∧ its.size ≤ sizeLine ∧ Vals xs its.toList
/-- what may be an object of the store -/
def Mt : Option HO → Prop
  | some (.lst _) => True
  | some (.dK _) => True
  | some (.dT _) => True
  | some (.ins _ _ _) => True
  | some (.frz _ (.dK _)) => True
  | _ => False
theorem Mt.ne {o : Option HO} (h : Mt o) : o ≠ none := fun z => by rw [z] at h; exact h
theorem Mt.tup {xs : List V} (h : Mt (some (.tup xs))) : False := h
/-- where the store's objects lie; what else is nobody's to look at -/
structure Gh where
  α : Nat → Option Addr
  B : Addr → Prop
/-- the store's first k objects alone -/
def Gh.cut (G : Gh) (k : Nat) : Gh := ⟨fun n => if n < k then G.α n else none, fun p => G.B p ∧ ∀ n, k ≤ n → G.α n ≠ some p⟩
/-- fixed things: the written part; the classes by name; what is handled -/
structure Fr where
  K : PySem.W.Frag
  cls : Str → Value
  hot : Option Addr
/-- what an exception carries -/
def Pay (G : Gh) (H : Hp) : Option Addr → Option Int → Prop
  | none, none => True
  | some d, some i => H d = some (.xd [("had", .int i)]) ∧ ¬ G.B d
  | _, _ => False
/-- keys of a dict -/
def keyV : V → Option Key
  | .int i => some (.inl i)
  | .str x => some (.inr x)
  | _ => none
section
variable (F : Fr)
mutual
/-- v stands for d -/
def VR (G : Gh) (H : Hp) : D → V → Prop
  | .non, v => v = .non
  | .bl b, v => v = .bl b
  | .int i, v => v = .int i
  | .str x, v => v = .str x
  | .tup l, v => ∃ p xs, v = .ref p ∧ SqT F.K H p xs ∧ VRL G H l xs
  | .vl l, v => ∃ p xs, v = .ref p ∧ (Rd H p (.lst xs) ∧ ¬ G.B p) ∧ VRL G H l xs
  | .sl l, v => ∃ p xs, v = .ref p ∧ ((Rd H p (.lst xs) ∧ ¬ G.B p) ∨ KLst F.K p xs) ∧ VRL G H l xs
  | .vd k l, v => ∃ (p : Addr) (ks : List Key) (vs : List V), v = .ref p ∧ (H p = some (.dK (ks.zip vs)) ∧ ¬ G.B p) ∧ ks.length = vs.length ∧ VRL G H k (ks.map kV) ∧ VRL G H l vs
  | .ref n, v => ∃ p, v = .ref p ∧ G.α n = some p
  | .exc c q, v => ∃ a d, v = .ref a ∧ (H a = some (exV (F.cls c) d a) ∧ ¬ G.B a) ∧ Pay G H d q
def VRL (G : Gh) (H : Hp) : List D → List V → Prop
  | [], vs => vs = []
  | d :: r, vs => ∃ v vr, vs = v :: vr ∧ VR G H d v ∧ VRL G H r vr
end
end
section
variable {F : Fr} {G G' G1 G2 : Gh} {H H' H1 H2 : Hp}
theorem vr_non {v} : VR F G H .non v ↔ v = .non := by simp only [VR]
theorem vr_bl {b v} : VR F G H (.bl b) v ↔ v = .bl b := by simp only [VR]
theorem vr_int {i v} : VR F G H (.int i) v ↔ v = .int i := by simp only [VR]
theorem vr_str {x v} : VR F G H (.str x) v ↔ v = .str x := by simp only [VR]
theorem vr_tup {l v} : VR F G H (.tup l) v ↔ ∃ p xs, v = .ref p ∧ SqT F.K H p xs ∧ VRL F G H l xs := by simp only [VR]
theorem vr_vl {l v} : VR F G H (.vl l) v ↔ ∃ p xs, v = .ref p ∧ (Rd H p (.lst xs) ∧ ¬ G.B p) ∧ VRL F G H l xs := by simp only [VR]
theorem vr_sl {l v} : VR F G H (.sl l) v ↔ ∃ p xs, v = .ref p ∧ ((Rd H p (.lst xs) ∧ ¬ G.B p) ∨ KLst F.K p xs) ∧ VRL F G H l xs := by simp only [VR]
theorem vr_vd {k l v} : VR F G H (.vd k l) v ↔ ∃ (p : Addr) (ks : List Key) (vs : List V), v = .ref p ∧ (H p = some (.dK (ks.zip vs)) ∧ ¬ G.B p) ∧ ks.length = vs.length ∧ VRL F G H k (ks.map kV) ∧ VRL F G H l vs := by simp only [VR]
theorem vr_ref {n v} : VR F G H (.ref n) v ↔ ∃ p, v = .ref p ∧ G.α n = some p := by simp only [VR]
theorem vr_exc {c q v} : VR F G H (.exc c q) v ↔ ∃ a d, v = .ref a ∧ (H a = some (exV (F.cls c) d a) ∧ ¬ G.B a) ∧ Pay G H d q := by simp only [VR]
theorem vrl_nil {vs} : VRL F G H [] vs ↔ vs = [] := by simp only [VRL]
theorem vrl_cons {d r vs} : VRL F G H (d :: r) vs ↔ ∃ v vr, vs = v :: vr ∧ VR F G H d v ∧ VRL F G H r vr := by simp only [VRL]
theorem VRL.length : ∀ {l : List D} {xs : List V}, VRL F G H l xs → xs.length = l.length
  | [], _, h => by rw [vrl_nil.mp h]; rfl
  | d :: r, _, h => by
    obtain ⟨v, vr, rfl, _, h2⟩ := vrl_cons.mp h
    simp [VRL.length h2]
theorem vrl_one {d : D} {v : V} : VRL F G H [d] [v] ↔ VR F G H d v := by
  constructor
  · intro h
    obtain ⟨v', vr, e, h1, h2⟩ := vrl_cons.mp h
    injection e with e1 _
    rw [e1]; exact h1
  · exact fun h => vrl_cons.mpr ⟨v, [], rfl, h, vrl_nil.mpr rfl⟩
theorem VRL.append : ∀ {l l2 : List D} {xs ys : List V}, VRL F G H l xs → VRL F G H l2 ys → VRL F G H (l ++ l2) (xs ++ ys)
  | [], l2, _, ys, h, h2 => by rw [vrl_nil.mp h]; exact h2
  | d :: r, l2, _, ys, h, h2 => by
    obtain ⟨v, vr, rfl, h1, h3⟩ := vrl_cons.mp h
    exact vrl_cons.mpr ⟨v, vr ++ ys, rfl, h1, VRL.append h3 h2⟩
theorem VRL.get : ∀ {l : List D} {xs : List V} {i : Nat} {d : D}, VRL F G H l xs → l[i]? = some d → ∃ v, xs[i]? = some v ∧ VR F G H d v
  | [], _, _, _, _, e => by simp at e
  | d0 :: r, _, 0, d, h, e => by
    obtain ⟨v, vr, rfl, h1, h2⟩ := vrl_cons.mp h
    simp at e; subst e
    exact ⟨v, rfl, h1⟩
  | d0 :: r, _, i + 1, d, h, e => by
    obtain ⟨v, vr, rfl, h1, h2⟩ := vrl_cons.mp h
    obtain ⟨w, q1, q2⟩ := VRL.get (i := i) (d := d) h2 (by simpa using e)
    exact ⟨w, by simpa using q1, q2⟩
theorem VRL.drop : ∀ {l : List D} {xs : List V} (n : Nat), VRL F G H l xs → VRL F G H (l.drop n) (xs.drop n)
  | l, xs, 0, h => by simpa using h
  | [], xs, n + 1, h => by rw [vrl_nil.mp h]; simpa using vrl_nil.mpr rfl
  | d :: r, xs, n + 1, h => by
    obtain ⟨v, vr, rfl, h1, h2⟩ := vrl_cons.mp h
    simpa using VRL.drop n h2
theorem VRL.take : ∀ {l : List D} {xs : List V} (n : Nat), VRL F G H l xs → VRL F G H (l.take n) (xs.take n)
  | l, xs, 0, h => by simpa using vrl_nil.mpr rfl
  | [], xs, n + 1, h => by rw [vrl_nil.mp h]; simpa using vrl_nil.mpr rfl
  | d :: r, xs, n + 1, h => by
    obtain ⟨v, vr, rfl, h1, h2⟩ := vrl_cons.mp h
    simpa using vrl_cons.mpr ⟨v, vr.take n, rfl, h1, VRL.take n h2⟩
theorem VRL.set : ∀ {l : List D} {xs : List V} (n : Nat) {d : D} {v : V}, VRL F G H l xs → VR F G H d v → VRL F G H (l.set n d) (xs.set n v)
  | [], xs, n, d, v, h, _ => by rw [vrl_nil.mp h]; simpa using vrl_nil.mpr rfl
  | d0 :: r, xs, 0, d, v, h, hv => by
    obtain ⟨v0, vr, rfl, h1, h2⟩ := vrl_cons.mp h
    simpa using vrl_cons.mpr ⟨v, vr, rfl, hv, h2⟩
  | d0 :: r, xs, n + 1, d, v, h, hv => by
    obtain ⟨v0, vr, rfl, h1, h2⟩ := vrl_cons.mp h
    simpa using vrl_cons.mpr ⟨v0, vr.set n v, rfl, h1, VRL.set n h2 hv⟩
theorem VRL.reverse : ∀ {l : List D} {xs : List V}, VRL F G H l xs → VRL F G H l.reverse xs.reverse
  | [], xs, h => by rw [vrl_nil.mp h]; simpa using vrl_nil.mpr rfl
  | d :: r, xs, h => by
    obtain ⟨v, vr, rfl, h1, h2⟩ := vrl_cons.mp h
    simpa using VRL.append (VRL.reverse h2) (vrl_one.mpr h1)
theorem vrl_ints : ∀ {l : List Int} {xs : List V}, VRL F G H (l.map .int) xs → xs = l.map V.int
  | [], xs, h => vrl_nil.mp h
  | i :: r, xs, h => by
    obtain ⟨v, vr, rfl, h1, h2⟩ := vrl_cons.mp h
    rw [vr_int.mp h1, vrl_ints h2]; rfl
theorem vrl_of_ints : ∀ {l : List Int}, VRL F G H (l.map .int) (l.map V.int)
  | [] => vrl_nil.mpr rfl
  | i :: r => vrl_cons.mpr ⟨_, _, rfl, vr_int.mpr rfl, vrl_of_ints⟩

/-- what is tracked and no object of the store stays; the store's objects stay where they are -/
structure Step (G : Gh) (H : Hp) (G' : Gh) (H' : Hp) : Prop where
  ids : ∀ n p, G.α n = some p → G'.α n = some p
  new : ∀ n p, G'.α n = some p → G.α n = some p ∨ H p = none
  keep : ∀ p o, H p = some o → (∀ n, G.α n ≠ some p) → H' p = some o
  tup : ∀ p xs, Rd H p (.tup xs) → Rd H' p (.tup xs)
  ban : ∀ p, H p ≠ none → G'.B p → G.B p
  bans : ∀ p, G.B p → G'.B p
  there : ∀ p, H p ≠ none → H' p ≠ none
  frz : ∀ p o u, H p = some (.frz o u) → H' p = some (.frz o u)
theorem Step.refl (G : Gh) (H : Hp) : Step G H G H := ⟨fun _ _ h => h, fun _ _ h => .inl h, fun _ _ h _ => h, fun _ _ h => h, fun _ _ h => h, fun _ h => h, fun _ h => h, fun _ _ _ h => h⟩
theorem free_of {p : Addr} (h : ∀ p, H p ≠ none → H' p ≠ none) (e : H' p = none) : H p = none := by
  cases q : H p with
  | none => rfl
  | some o => exact (h p (by rw [q]; exact fun z => nomatch z) e).elim
theorem Step.free (a : Step G H G' H') {p : Addr} (e : H' p = none) : H p = none := free_of a.there e
theorem Step.trans (a : Step G H G1 H1) (b : Step G1 H1 G2 H2) : Step G H G2 H2 where
  ids := fun n p h => b.ids n p (a.ids n p h)
  new := fun n p h => by
    rcases b.new n p h with z | z
    · exact a.new n p z
    · exact .inr (a.free z)
  keep := fun p o h n => b.keep p o (a.keep p o h n) fun m z => by
    rcases a.new m p z with q | q
    · exact n m q
    · rw [h] at q; cases q
  tup := fun p xs h => b.tup p xs (a.tup p xs h)
  ban := fun p h z => a.ban p h (b.ban p (a.there p h) z)
  bans := fun p h => b.bans p (a.bans p h)
  there := fun p h => b.there p (a.there p h)
  frz := fun p o u h => b.frz p o u (a.frz p o u h)
theorem Step.rd (a : Step G H G' H') {p : Addr} {u : HO} (n : ∀ n, G.α n ≠ some p) (h : Rd H p u) : Rd H' p u := by
  rcases h with h | ⟨o, h⟩
  · exact .inl (a.keep p _ h n)
  · exact .inr ⟨o, a.keep p _ h n⟩
theorem Step.sqT (a : Step G H G' H') {K : PySem.W.Frag} {p xs} (h : SqT K H p xs) : SqT K H' p xs := by
  rcases h with h | h
  · exact .inl (a.tup p xs h)
  · exact .inr h
/-- nothing of what is tracked changes -/
theorem Step.same (e : Same H H') : Step G H G H' :=
  ⟨fun _ _ h => h, fun _ _ h => .inl h, fun p o h _ => e p o h, fun p xs h => by
    rcases h with h | ⟨o, h⟩
    · exact .inl (e _ _ h)
    · exact .inr ⟨o, e _ _ h⟩, fun _ _ h => h, fun _ h => h, fun p h z => h (e.free z), fun p o u h => e p _ h⟩
theorem same_upd {p : Addr} {o : HO} (h : H p = none) : Same H (upd H p o) := fun b u e => by
  rw [upd_ne (ne_of_none e h)]
  exact e
theorem rd_ne {p : Addr} {u : HO} (h : Rd H p u) : H p ≠ none := by
  rcases h with h | ⟨o, h⟩ <;> (rw [h]; exact fun z => nomatch z)
theorem Pay.step (T : Step G H G' H') (aB : ∀ n p, G.α n = some p → G.B p) : ∀ {d : Option Addr} {q : Option Int}, Pay G H d q → Pay G' H' d q
  | none, none, _ => trivial
  | some d, some i, ⟨h1, h2⟩ => ⟨T.keep d _ h1 fun n z => h2 (aB n d z), fun z => h2 (T.ban d (by rw [h1]; exact fun z => nomatch z) z)⟩
  | some d, none, h => h
  | none, some i, h => h
theorem Pay.al (b : ∀ p, G'.B p → G.B p) : ∀ {d : Option Addr} {q : Option Int}, Pay G H d q → Pay G' H d q
  | none, none, _ => trivial
  | some d, some i, ⟨h1, h2⟩ => ⟨h1, fun z => h2 (b d z)⟩
  | some d, none, h => h
  | none, some i, h => h
theorem Pay.cut {k : Nat} {d : Option Addr} {q : Option Int} (h : Pay G H d q) : Pay (G.cut k) H d q := Pay.al (G' := G.cut k) (fun p w => w.1) h
theorem Pay.dc : ∀ {d : Option Addr} {q : Option Int}, Pay G H d q → DcOk H d
  | none, none, _ => trivial
  | some d, some i, ⟨h1, h2⟩ => ⟨_, h1⟩
  | some d, none, h => h.elim
  | none, some i, h => h.elim
mutual
theorem VR.step (T : Step G H G' H') (aB : ∀ n p, G.α n = some p → G.B p) : ∀ (d : D) {v : V}, VR F G H d v → VR F G' H' d v
  | .non, _, h => vr_non.mpr (vr_non.mp h)
  | .bl _, _, h => vr_bl.mpr (vr_bl.mp h)
  | .int _, _, h => vr_int.mpr (vr_int.mp h)
  | .str _, _, h => vr_str.mpr (vr_str.mp h)
  | .tup l, _, h => by
    obtain ⟨p, xs, e, hs, hl⟩ := vr_tup.mp h
    exact vr_tup.mpr ⟨p, xs, e, T.sqT hs, VRL.step T aB l hl⟩
  | .vl l, _, h => by
    obtain ⟨p, xs, e, hs, hl⟩ := vr_vl.mp h
    obtain ⟨h1, h2⟩ := hs
    exact vr_vl.mpr ⟨p, xs, e, ⟨T.rd (fun n z => h2 (aB n p z)) h1, fun z => h2 (T.ban p (rd_ne h1) z)⟩, VRL.step T aB l hl⟩
  | .sl l, _, h => by
    obtain ⟨p, xs, e, hs, hl⟩ := vr_sl.mp h
    refine vr_sl.mpr ⟨p, xs, e, ?_, VRL.step T aB l hl⟩
    rcases hs with ⟨h1, h2⟩ | h1
    · exact .inl ⟨T.rd (fun n z => h2 (aB n p z)) h1, fun z => h2 (T.ban p (rd_ne h1) z)⟩
    · exact .inr h1
  | .vd k l, _, h => by
    obtain ⟨p, ks, vs, e, ⟨h1, h2⟩, hl, hk, hv⟩ := vr_vd.mp h
    exact vr_vd.mpr ⟨p, ks, vs, e, ⟨T.keep p _ h1 fun n z => h2 (aB n p z), fun z => h2 (T.ban p (by rw [h1]; exact fun z => nomatch z) z)⟩, hl, VRL.step T aB k hk, VRL.step T aB l hv⟩
  | .ref n, _, h => by
    obtain ⟨p, e, hp⟩ := vr_ref.mp h
    exact vr_ref.mpr ⟨p, e, T.ids n p hp⟩
  | .exc c q, _, h => by
    obtain ⟨a, d, e, ⟨h1, h2⟩, h3⟩ := vr_exc.mp h
    exact vr_exc.mpr ⟨a, d, e, ⟨T.keep a _ h1 fun n z => h2 (aB n a z), fun z => h2 (T.ban a (by rw [h1]; exact fun z => nomatch z) z)⟩, h3.step T aB⟩
theorem VRL.step (T : Step G H G' H') (aB : ∀ n p, G.α n = some p → G.B p) : ∀ (l : List D) {xs : List V}, VRL F G H l xs → VRL F G' H' l xs
  | [], _, h => vrl_nil.mpr (vrl_nil.mp h)
  | d :: r, _, h => by
    obtain ⟨v, vr, e, h1, h2⟩ := vrl_cons.mp h
    exact vrl_cons.mpr ⟨v, vr, e, VR.step T aB d h1, VRL.step T aB r h2⟩
end
/-- a key as data -/
def kD : Key → D
  | .inl i => .int i
  | .inr x => .str x
theorem belL_map {β : Type} {f : β → D} {n : Nat} (h : ∀ b, (f b).bel n = true) : ∀ l : List β, belL n (l.map f) = true
  | [] => rfl
  | b :: r => by
    rw [List.map_cons]
    unfold belL
    rw [h b, belL_map h r]; rfl
/-- what is stored as an object -/
def ON (F : Fr) (G : Gh) (H : Hp) (u : HO) : HO' → Prop
  | .lst l => ∃ xs, u = .lst xs ∧ VRL F G H l xs
  | .dic k l => ∃ (qs : List Key) (vs : List V), u = .dK (qs.zip vs) ∧ qs.length = vs.length ∧ VRL F G H k (qs.map kV) ∧ VRL F G H l vs
  | .fdc k l => ∃ (od : Obj) (qs : List Key) (vs : List V), u = .frz od (.dK (qs.zip vs)) ∧ qs.length = vs.length ∧ VRL F G H k (qs.map kV) ∧ VRL F G H l vs
  | .dit k l => ∃ (vs : List V), u = .dT (k.zip vs) ∧ k.length = vs.length ∧ VRL F G H l vs
  | .ins c f l => ∃ C dx vs, F.cls c = .ref C ∧ u = .ins C dx (f.zip vs) ∧ f.length = vs.length ∧ VRL F G H l vs
/-- what lies at an object's place -/
def OR (F : Fr) (G : Gh) (H : Hp) (p : Addr) (o : HO') : Prop := ∃ u, H p = some u ∧ ON F G H u o
structure HR (F : Fr) (G : Gh) (H : Hp) (h : Hs) : Prop where
  obj : ∀ (n : Nat) (o : HO'), h[n]? = some o → ∃ p, G.α n = some p ∧ OR F G H p o
  dom : ∀ n p, G.α n = some p → n < h.length
  inj : ∀ m n p, G.α m = some p → G.α n = some p → m = n
  aB : ∀ n p, G.α n = some p → G.B p
  bt : ∀ p, G.B p → H p ≠ none
  hot : ∀ a, F.hot = some a → ∃ cls d, H a = some (exV cls d a) ∧ ¬ G.B a
theorem ON.mt {u : HO} {o : HO'} (h : ON F G H u o) : Mt (some u) := by
  cases o with
  | lst l => obtain ⟨xs, rfl, _⟩ := h; trivial
  | dic k l =>
    obtain ⟨qs, vs, rfl, _⟩ := h
    trivial
  | fdc k l => obtain ⟨od, qs, vs, rfl, _⟩ := h; trivial
  | dit k l => obtain ⟨vs, rfl, _⟩ := h; trivial
  | ins c f l => obtain ⟨C, dx, vs, _, rfl, _⟩ := h; trivial
theorem OR.mt {p : Addr} {o : HO'} (h : OR F G H p o) : Mt (H p) := by
  obtain ⟨u, e, h⟩ := h
  rw [e]
  exact h.mt
/-- another way to say where the values are -/
theorem ON.imp {u : HO} {o : HO'} (i : ∀ l xs, VRL F G H l xs → VRL F G' H' l xs) (h : ON F G H u o) : ON F G' H' u o := by
  cases o with
  | lst l => obtain ⟨xs, e1, h1⟩ := h; exact ⟨xs, e1, i _ _ h1⟩
  | dic k l =>
    obtain ⟨qs, vs, e1, h1, h2, h3⟩ := h
    exact ⟨qs, vs, e1, h1, i _ _ h2, i _ _ h3⟩
  | fdc k l =>
    obtain ⟨od, qs, vs, e1, h1, h2, h3⟩ := h
    exact ⟨od, qs, vs, e1, h1, i _ _ h2, i _ _ h3⟩
  | dit k l =>
    obtain ⟨vs, e1, h1, h3⟩ := h
    exact ⟨vs, e1, h1, i _ _ h3⟩
  | ins c f l => obtain ⟨C, dx, vs, e0, e1, hl, h1⟩ := h; exact ⟨C, dx, vs, e0, e1, hl, i _ _ h1⟩
theorem ON.step (T : Step G H G' H') (aB : ∀ n p, G.α n = some p → G.B p) {u : HO} {o : HO'} (h : ON F G H u o) : ON F G' H' u o := h.imp fun l xs z => VRL.step T aB l z
theorem HR.mt {h : Hs} (r : HR F G H h) {n p} (e : G.α n = some p) : Mt (H p) := by
  have hn := r.dom n p e
  obtain ⟨q, e2, ho⟩ := r.obj n _ (List.getElem?_eq_getElem hn)
  rw [e] at e2
  injection e2 with e2
  subst e2
  exact ho.mt
theorem OR.step (T : Step G H G' H') (aB : ∀ n p, G.α n = some p → G.B p) {p : Addr} {o : HO'} (e : H' p = H p) (h : OR F G H p o) : OR F G' H' p o := by
  obtain ⟨u, e1, h⟩ := h
  exact ⟨u, by rw [e, e1], h.step T aB⟩
/-- nothing of what is tracked changes -/
theorem HR.same {h : Hs} (r : HR F G H h) (e : Same H H') : HR F G H' h where
  obj := fun n o q => by
    obtain ⟨p, e1, ho⟩ := r.obj n o q
    refine ⟨p, e1, ho.step (Step.same e) r.aB ?_⟩
    cases z : H p with
    | none => have := ho.mt; rw [z] at this; exact this.elim
    | some u => exact e p u z
  dom := r.dom
  inj := r.inj
  aB := r.aB
  bt := fun p b z => r.bt p b (e.free z)
  hot := fun a q => let ⟨c, d, h1, h2⟩ := r.hot a q; ⟨c, d, e a _ h1, h2⟩
mutual
theorem VR.bel {h : Hs} (r : HR F G H h) : ∀ (d : D) {v : V}, VR F G H d v → d.bel h.length = true
  | .non, _, h => rfl
  | .bl _, _, h => rfl
  | .int _, _, h => rfl
  | .str _, _, h => rfl
  | .exc _ _, _, h => rfl
  | .tup l, _, h => by
    obtain ⟨p, xs, e, hs, hl⟩ := vr_tup.mp h
    simpa [D.bel] using VRL.bel r l hl
  | .vl l, _, h => by
    obtain ⟨p, xs, e, hs, hl⟩ := vr_vl.mp h
    simpa [D.bel] using VRL.bel r l hl
  | .sl l, _, h => by
    obtain ⟨p, xs, e, hs, hl⟩ := vr_sl.mp h
    simpa [D.bel] using VRL.bel r l hl
  | .vd k l, _, h => by
    obtain ⟨p, ks, vs, e, hs, hl, h1, h2⟩ := vr_vd.mp h
    simpa [D.bel] using ⟨VRL.bel r k h1, VRL.bel r l h2⟩
  | .ref n, _, h => by
    obtain ⟨p, e, hp⟩ := vr_ref.mp h
    simpa [D.bel] using r.dom n p hp
theorem VRL.bel {h : Hs} (r : HR F G H h) : ∀ (l : List D) {xs : List V}, VRL F G H l xs → belL h.length l = true
  | [], _, _ => rfl
  | d :: t, _, hh => by
    obtain ⟨v, vr, e, h1, h2⟩ := vrl_cons.mp hh
    simpa [belL] using ⟨VR.bel r d h1, VRL.bel r t h2⟩
end
mutual
theorem VR.cut {h : Hs} (r : HR F G H h) (k : Nat) : ∀ (d : D) {v : V}, d.bel k = true → VR F G H d v → VR F (G.cut k) H d v
  | .non, _, _, h => vr_non.mpr (vr_non.mp h)
  | .bl _, _, _, h => vr_bl.mpr (vr_bl.mp h)
  | .int _, _, _, h => vr_int.mpr (vr_int.mp h)
  | .str _, _, _, h => vr_str.mpr (vr_str.mp h)
  | .exc _ _, _, _, h => by
    obtain ⟨a, d, e, ⟨h1, h2⟩, h3⟩ := vr_exc.mp h
    exact vr_exc.mpr ⟨a, d, e, ⟨h1, fun w => h2 w.1⟩, Pay.al (G' := G.cut k) (fun p w => w.1) h3⟩
  | .tup l, _, b, h => by
    obtain ⟨p, xs, e, hs, hl⟩ := vr_tup.mp h
    exact vr_tup.mpr ⟨p, xs, e, hs, VRL.cut r k l (by simpa [D.bel] using b) hl⟩
  | .vl l, _, b, h => by
    obtain ⟨p, xs, e, hs, hl⟩ := vr_vl.mp h
    exact vr_vl.mpr ⟨p, xs, e, ⟨hs.1, fun w => hs.2 w.1⟩, VRL.cut r k l (by simpa [D.bel] using b) hl⟩
  | .sl l, _, b, h => by
    obtain ⟨p, xs, e, hs, hl⟩ := vr_sl.mp h
    exact vr_sl.mpr ⟨p, xs, e, hs.imp (fun z => ⟨z.1, fun w => z.2 w.1⟩) id, VRL.cut r k l (by simpa [D.bel] using b) hl⟩
  | .vd ks l, _, b, h => by
    obtain ⟨p, qs, vs, e, hs, hl, h1, h2⟩ := vr_vd.mp h
    have b' : belL k ks = true ∧ belL k l = true := by simpa [D.bel] using b
    exact vr_vd.mpr ⟨p, qs, vs, e, ⟨hs.1, fun w => hs.2 w.1⟩, hl, VRL.cut r k ks b'.1 h1, VRL.cut r k l b'.2 h2⟩
  | .ref n, _, b, h => by
    obtain ⟨p, e, hp⟩ := vr_ref.mp h
    exact vr_ref.mpr ⟨p, e, by show (if n < k then G.α n else none) = some p; rw [if_pos (by simpa [D.bel] using b)]; exact hp⟩
theorem VRL.cut {h : Hs} (r : HR F G H h) (k : Nat) : ∀ (l : List D) {xs : List V}, belL k l = true → VRL F G H l xs → VRL F (G.cut k) H l xs
  | [], _, _, hh => vrl_nil.mpr (vrl_nil.mp hh)
  | d :: t, _, b, hh => by
    obtain ⟨v, vr, e, h1, h2⟩ := vrl_cons.mp hh
    have b' : d.bel k = true ∧ belL k t = true := by simpa [belL] using b
    exact vrl_cons.mpr ⟨v, vr, e, VR.cut r k d b'.1 h1, VRL.cut r k t b'.2 h2⟩
end
mutual
theorem D.bel_mono {m n : Nat} (hmn : m ≤ n) : ∀ (d : D), d.bel m = true → d.bel n = true
  | .non, _ => rfl
  | .bl _, _ => rfl
  | .int _, _ => rfl
  | .str _, _ => rfl
  | .exc _ _, _ => rfl
  | .tup l, b => by simpa [D.bel] using belL_mono hmn l (by simpa [D.bel] using b)
  | .vl l, b => by simpa [D.bel] using belL_mono hmn l (by simpa [D.bel] using b)
  | .sl l, b => by simpa [D.bel] using belL_mono hmn l (by simpa [D.bel] using b)
  | .vd k l, b => by
    have b' : belL m k = true ∧ belL m l = true := by simpa [D.bel] using b
    simpa [D.bel] using ⟨belL_mono hmn k b'.1, belL_mono hmn l b'.2⟩
  | .ref q, b => by
    have : q < m := by simpa [D.bel] using b
    simp [D.bel]; omega
theorem belL_mono {m n : Nat} (hmn : m ≤ n) : ∀ (l : List D), belL m l = true → belL n l = true
  | [], _ => rfl
  | d :: r, b => by
    have b' : d.bel m = true ∧ belL m r = true := by simpa [belL] using b
    simpa [belL] using ⟨D.bel_mono hmn d b'.1, belL_mono hmn r b'.2⟩
end
theorem HO'.bel_mono {m n : Nat} (hmn : m ≤ n) (o : HO') (b : o.bel m = true) : o.bel n = true := by
  cases o with
  | lst l => exact belL_mono hmn l b
  | dic k l =>
    have b' : belL m k = true ∧ belL m l = true := by simpa [HO'.bel] using b
    simpa [HO'.bel] using ⟨belL_mono hmn k b'.1, belL_mono hmn l b'.2⟩
  | fdc k l =>
    have b' : belL m k = true ∧ belL m l = true := by simpa [HO'.bel] using b
    simpa [HO'.bel] using ⟨belL_mono hmn k b'.1, belL_mono hmn l b'.2⟩
  | dit k l => exact belL_mono hmn l b
  | ins c f l => exact belL_mono hmn l b
theorem HR.cut {h : Hs} (r : HR F G H h) (k : Nat) (cl : ∀ n o, n < k → h[n]? = some o → o.bel k = true) : HR F (G.cut k) H (h.take k) where
  obj := fun n o e => by
    have hn : n < k := by
      rcases Nat.lt_or_ge n k with z | z
      · exact z
      · rw [List.getElem?_take, if_neg (by omega)] at e; cases e
    rw [List.getElem?_take_of_lt hn] at e
    obtain ⟨p, e1, ho⟩ := r.obj n o e
    refine ⟨p, by show (if n < k then G.α n else none) = some p; rw [if_pos hn]; exact e1, ?_⟩
    have b := cl n o hn e
    obtain ⟨u, eu, ho⟩ := ho
    refine ⟨u, eu, ?_⟩
    cases o with
    | lst l => obtain ⟨xs, e1, h1⟩ := ho; exact ⟨xs, e1, VRL.cut r k l b h1⟩
    | dic ks l =>
      have b' : belL k ks = true ∧ belL k l = true := by simpa [HO'.bel] using b
      obtain ⟨zs, vs, e1, h1, h2, h3⟩ := ho
      exact ⟨zs, vs, e1, h1, VRL.cut r k ks b'.1 h2, VRL.cut r k l b'.2 h3⟩
    | fdc ks l =>
      have b' : belL k ks = true ∧ belL k l = true := by simpa [HO'.bel] using b
      obtain ⟨od, zs, vs, e1, h1, h2, h3⟩ := ho
      exact ⟨od, zs, vs, e1, h1, VRL.cut r k ks b'.1 h2, VRL.cut r k l b'.2 h3⟩
    | dit ks l =>
      obtain ⟨vs, e1, h1, h3⟩ := ho
      exact ⟨vs, e1, h1, VRL.cut r k l b h3⟩
    | ins c f l => obtain ⟨C, dx, vs, e0, e1, hl, h1⟩ := ho; exact ⟨C, dx, vs, e0, e1, hl, VRL.cut r k l b h1⟩
  dom := fun n p e => by
    have e : (if n < k then G.α n else none) = some p := e
    split at e
    · rename_i hn
      have := r.dom n p e
      rw [List.length_take]
      omega
    · cases e
  inj := fun m n p e1 e2 => by
    have e1 : (if m < k then G.α m else none) = some p := e1
    have e2 : (if n < k then G.α n else none) = some p := e2
    split at e1 <;> first | cases e1 | skip
    split at e2 <;> first | cases e2 | skip
    exact r.inj m n p e1 e2
  aB := fun n p e => by
    have e : (if n < k then G.α n else none) = some p := e
    split at e
    · rename_i hn
      refine ⟨r.aB n p e, fun m hm z => ?_⟩
      have := r.inj m n p z e
      omega
    · cases e
  bt := fun p b => r.bt p b.1
  hot := fun a q => let ⟨c, d, h1, h2⟩ := r.hot a q; ⟨c, d, h1, fun z => h2 z.1⟩
/-- back to where k objects stood -/
theorem Step.cut {h h' : Hs} {k : Nat} (r : HR F G H h) (r' : HR F G' H' h') (hk : h.length ≤ k) (T : Step G H G' H') : Step G H (G'.cut k) H' where
  ids := fun n p e => by
    have := r.dom n p e
    show (if n < k then G'.α n else none) = some p
    rw [if_pos (by omega)]
    exact T.ids n p e
  new := fun n p e => by
    have e : (if n < k then G'.α n else none) = some p := e
    split at e
    · exact T.new n p e
    · cases e
  keep := T.keep
  tup := T.tup
  ban := fun p h b => T.ban p h b.1
  bans := fun p b => ⟨T.bans p b, fun n hn z => by
    rcases T.new n p z with q | q
    · have := r.dom n p q; omega
    · exact r.bt p b q⟩
  there := T.there
  frz := T.frz
structure St (F : Fr) (G : Gh) (h : Hs) (s : SD) (σ : L2.St) (H : Hp) : Prop where
  slot : ∀ (i : Nat) d, s[i]? = some (some d) → ∃ v, σ[i]? = some (some v) ∧ VR F G H d v
  hr : HR F G H h
  len : s.length = σ.length
theorem St.step {h h' : Hs} {s : SD} {σ : L2.St} (t : St F G h s σ H) (T : Step G H G' H') (r : HR F G' H' h') : St F G' h' s σ H' :=
  ⟨fun i d e => let ⟨v, h1, h2⟩ := t.slot i d e; ⟨v, h1, VR.step T t.hr.aB d h2⟩, r, t.len⟩
/-- a new object is laid -/
def Gh.add (G : Gh) (k : Nat) (p : Addr) : Gh := ⟨fun n => if n = k then some p else G.α n, fun q => G.B q ∨ q = p⟩
theorem Step.add {h : Hs} {p : Addr} {o : HO} (r : HR F G H h) (hp : H p = none) : Step G H (G.add h.length p) (upd H p o) where
  ids := fun n q e => by
    have := r.dom n q e
    show (if n = h.length then some p else G.α n) = some q
    rw [if_neg (by omega)]
    exact e
  new := fun n q e => by
    have e : (if n = h.length then some p else G.α n) = some q := e
    split at e
    · injection e with e; subst e; exact .inr hp
    · exact .inl e
  keep := fun q u e _ => same_upd hp q u e
  tup := (Step.same (G := G) (same_upd hp)).tup
  ban := fun q hq b => by
    rcases b with b | rfl
    · exact b
    · exact (hq hp).elim
  bans := fun q b => .inl b
  there := fun q hq z => hq ((same_upd hp).free z)
  frz := fun q o u e => same_upd hp q _ e
theorem ON.bel {h : Hs} {u : HO} {o : HO'} (r : HR F G H h) (ho : ON F G H u o) : o.bel h.length = true := by
  cases o with
  | lst l => obtain ⟨xs, e1, h1⟩ := ho; exact VRL.bel r l h1
  | dic ks l =>
    obtain ⟨zs, vs, e1, h1, h2, h3⟩ := ho
    simpa [HO'.bel] using ⟨VRL.bel r ks h2, VRL.bel r l h3⟩
  | fdc ks l =>
    obtain ⟨od, zs, vs, e1, h1, h2, h3⟩ := ho
    simpa [HO'.bel] using ⟨VRL.bel r ks h2, VRL.bel r l h3⟩
  | dit ks l =>
    obtain ⟨vs, e1, h1, h3⟩ := ho
    exact VRL.bel r l h3
  | ins c f l => obtain ⟨C, dx, vs, e0, e1, hl, h1⟩ := ho; exact VRL.bel r l h1
theorem HR.add {h : Hs} {p : Addr} {o : HO} {o' : HO'} (r : HR F G H h) (hp : H p = none) (ho : ON F G H o o') : HR F (G.add h.length p) (upd H p o) (h ++ [o']) := by
  have T := Step.add (o := o) r hp
  have na : ∀ n, G.α n ≠ some p := fun n e => r.bt p (r.aB n p e) hp
  refine ⟨fun n u e => ?_, fun n q e => ?_, fun m n q e1 e2 => ?_, fun n q e => ?_, fun q b => ?_, fun a q => let ⟨c, d, h1, h2⟩ := r.hot a q; ⟨c, d, same_upd hp _ _ h1, fun z => z.elim h2 fun w => by rw [w, hp] at h1; cases h1⟩⟩
  · rcases Nat.lt_trichotomy n h.length with hn | hn | hn
    · rw [List.getElem?_append_left hn] at e
      obtain ⟨q, e1, h1⟩ := r.obj n u e
      refine ⟨q, T.ids n q e1, h1.step T r.aB ?_⟩
      rw [upd_ne]
      intro z
      subst z
      exact na n e1
    · subst hn
      rw [List.getElem?_append_right (Nat.le_refl _), Nat.sub_self] at e
      injection e with e
      subst e
      exact ⟨p, by show (if h.length = h.length then some p else _) = some p; rw [if_pos rfl], o, upd_same, ho.step T r.aB⟩
    · rw [List.getElem?_eq_none (by simp; omega)] at e; cases e
  · have e : (if n = h.length then some p else G.α n) = some q := e
    split at e
    · simp; omega
    · have := r.dom n q e; simp; omega
  · have e1 : (if m = h.length then some p else G.α m) = some q := e1
    have e2 : (if n = h.length then some p else G.α n) = some q := e2
    split at e1 <;> split at e2
    · omega
    · injection e1 with e1; subst e1; exact (na n e2).elim
    · injection e2 with e2; subst e2; exact (na m e1).elim
    · exact r.inj m n q e1 e2
  · have e : (if n = h.length then some p else G.α n) = some q := e
    split at e
    · injection e with e; exact .inr e.symm
    · exact .inl (r.aB n q e)
  · rcases b with b | rfl
    · exact fun z => r.bt q b ((same_upd hp).free z)
    · rw [upd_same]; exact fun z => nomatch z
/-- an object is written -/
theorem Step.write {h : Hs} {n : Nat} {p : Addr} {u : HO} (r : HR F G H h) (hp : G.α n = some p) (nf : ∀ o u, H p ≠ some (.frz o u)) : Step G H G (upd H p u) where
  frz := fun q o u e => by
    rw [upd_ne]
    · exact e
    · intro z; subst z; exact (nf o u e).elim
  ids := fun _ _ e => e
  new := fun _ _ e => .inl e
  keep := fun q o e na => by
    rw [upd_ne]
    · exact e
    · intro z; subst z; exact na n hp
  tup := fun q xs e => by
    have m := r.mt hp
    have : q ≠ p := fun z => by
      subst z
      rcases e with e | ⟨o, e⟩ <;> (rw [e] at m; exact m)
    rcases e with e | ⟨o, e⟩
    · exact .inl (by rw [upd_ne this]; exact e)
    · exact .inr ⟨o, by rw [upd_ne this]; exact e⟩
  ban := fun _ _ b => b
  bans := fun _ b => b
  there := fun q hq => by
    by_cases z : q = p
    · subst z; rw [upd_same]; exact fun z => nomatch z
    · rw [upd_ne z]; exact hq
theorem HR.write {h : Hs} {n : Nat} {p : Addr} {u : HO} {o' : HO'} (r : HR F G H h) (hp : G.α n = some p) (nf : ∀ o u, H p ≠ some (.frz o u)) (ho : ON F G H u o') : HR F G (upd H p u) (h.set n o') := by
  have T := Step.write (u := u) r hp nf
  have hn := r.dom n p hp
  refine ⟨fun m o e => ?_, fun m q e => by rw [List.length_set]; exact r.dom m q e, r.inj, r.aB, fun q z => T.there q (r.bt q z), fun a q => let ⟨c, d, h1, h2⟩ := r.hot a q; ⟨c, d, by rw [upd_ne (show a ≠ p from fun z => h2 (by rw [z]; exact r.aB n p hp))]; exact h1, h2⟩⟩
  · by_cases z : n = m
    · subst z
      rw [List.getElem?_set_self hn] at e
      injection e with e
      subst e
      exact ⟨p, hp, u, upd_same, ho.step T r.aB⟩
    · rw [List.getElem?_set_ne z] at e
      obtain ⟨q, e1, h1⟩ := r.obj m o e
      refine ⟨q, e1, h1.step T r.aB ?_⟩
      rw [upd_ne]
      intro w
      subst w
      exact z (r.inj n m q hp e1)
/-- a store is closed at its length -/
theorem HR.cl {h : Hs} (r : HR F G H h) (n : Nat) (o : HO') (e : h[n]? = some o) : o.bel h.length = true := by
  obtain ⟨p, _, u, _, ho⟩ := r.obj n o e
  exact ho.bel r
/-- below the old store's length all is as it was, or closed there -/
def ClB (h0 h : Hs) : Prop := ∀ n o, n < h0.length → h[n]? = some o → h0[n]? = some o ∨ o.bel h0.length = true
theorem ClB.cl {h0 h : Hs} (c : ClB h0 h) (r : HR F G H h0) (n : Nat) (o : HO') (hn : n < h0.length) (e : h[n]? = some o) : o.bel h0.length = true := by
  rcases c n o hn e with z | z
  · exact r.cl n o z
  · exact z
end
/-! another exception handled -/
section
variable {F : Fr} {G G' : Gh} {H H' : Hp}
/-- the same, a being handled -/
def Fr.with (F : Fr) (a : Option Addr) : Fr := ⟨F.K, F.cls, a⟩
mutual
theorem VR.fr {F' : Fr} (hK : F'.K = F.K) (hc : F'.cls = F.cls) : ∀ (d : D) {v : V}, VR F G H d v → VR F' G H d v
  | .non, _, h => vr_non.mpr (vr_non.mp h)
  | .bl _, _, h => vr_bl.mpr (vr_bl.mp h)
  | .int _, _, h => vr_int.mpr (vr_int.mp h)
  | .str _, _, h => vr_str.mpr (vr_str.mp h)
  | .exc _ _, _, h => by
    obtain ⟨a, d, e, h1, h3⟩ := vr_exc.mp h
    exact vr_exc.mpr ⟨a, d, e, by rw [hc]; exact h1, h3⟩
  | .tup l, _, h => by
    obtain ⟨p, xs, e, hs, hl⟩ := vr_tup.mp h
    exact vr_tup.mpr ⟨p, xs, e, by rw [hK]; exact hs, VRL.fr hK hc l hl⟩
  | .vl l, _, h => by
    obtain ⟨p, xs, e, hs, hl⟩ := vr_vl.mp h
    exact vr_vl.mpr ⟨p, xs, e, hs, VRL.fr hK hc l hl⟩
  | .sl l, _, h => by
    obtain ⟨p, xs, e, hs, hl⟩ := vr_sl.mp h
    exact vr_sl.mpr ⟨p, xs, e, by rw [hK]; exact hs, VRL.fr hK hc l hl⟩
  | .vd k l, _, h => by
    obtain ⟨p, qs, vs, e, z, hl, h1, h2⟩ := vr_vd.mp h
    exact vr_vd.mpr ⟨p, qs, vs, e, z, hl, VRL.fr hK hc k h1, VRL.fr hK hc l h2⟩
  | .ref n, _, h => by
    obtain ⟨p, e, hp⟩ := vr_ref.mp h
    exact vr_ref.mpr ⟨p, e, hp⟩
theorem VRL.fr {F' : Fr} (hK : F'.K = F.K) (hc : F'.cls = F.cls) : ∀ (l : List D) {xs : List V}, VRL F G H l xs → VRL F' G H l xs
  | [], _, h => vrl_nil.mpr (vrl_nil.mp h)
  | d :: t, _, h => by
    obtain ⟨v, vr, e, h1, h2⟩ := vrl_cons.mp h
    exact vrl_cons.mpr ⟨v, vr, e, VR.fr hK hc d h1, VRL.fr hK hc t h2⟩
end
theorem ON.fr {F' : Fr} (hK : F'.K = F.K) (hc : F'.cls = F.cls) {u : HO} {o : HO'} (h : ON F G H u o) : ON F' G H u o := by
  cases o with
  | lst l => obtain ⟨xs, e, h⟩ := h; exact ⟨xs, e, VRL.fr hK hc l h⟩
  | dic k l =>
    obtain ⟨zs, vs, e1, h1, h2, h3⟩ := h
    exact ⟨zs, vs, e1, h1, VRL.fr hK hc k h2, VRL.fr hK hc l h3⟩
  | fdc k l =>
    obtain ⟨od, zs, vs, e1, h1, h2, h3⟩ := h
    exact ⟨od, zs, vs, e1, h1, VRL.fr hK hc k h2, VRL.fr hK hc l h3⟩
  | dit k l =>
    obtain ⟨vs, e1, h1, h3⟩ := h
    exact ⟨vs, e1, h1, VRL.fr hK hc l h3⟩
  | ins c f l => obtain ⟨C, dx, vs, e0, e1, hl, h1⟩ := h; exact ⟨C, dx, vs, by rw [hc]; exact e0, e1, hl, VRL.fr hK hc l h1⟩
theorem HR.fr {F' : Fr} (hK : F'.K = F.K) (hc : F'.cls = F.cls) {h : Hs} (r : HR F G H h) (hh : ∀ a, F'.hot = some a → ∃ cls d, H a = some (exV cls d a) ∧ ¬ G.B a) : HR F' G H h :=
  ⟨fun n o e => let ⟨p, h1, u, h2, h3⟩ := r.obj n o e; ⟨p, h1, u, h2, h3.fr hK hc⟩, r.dom, r.inj, r.aB, r.bt, hh⟩
theorem St.fr {F' : Fr} (hK : F'.K = F.K) (hc : F'.cls = F.cls) {h : Hs} {s : SD} {σ : L2.St} (t : St F G h s σ H) (hh : ∀ a, F'.hot = some a → ∃ cls d, H a = some (exV cls d a) ∧ ¬ G.B a) : St F' G h s σ H :=
  ⟨fun i d e => let ⟨v, h1, h2⟩ := t.slot i d e; ⟨v, h1, VR.fr hK hc d h2⟩, t.hr.fr hK hc hh, t.len⟩
/-- what is handled stays -/
theorem HR.hotS {h : Hs} (r : HR F G H h) (T : Step G H G' H') : ∀ a, F.hot = some a → ∃ cls d, H' a = some (exV cls d a) ∧ ¬ G'.B a := fun a q =>
  let ⟨c, d, h1, h2⟩ := r.hot a q
  ⟨c, d, T.keep a _ h1 fun n e => h2 (r.aB n a e), fun z => h2 (T.ban a (by rw [h1]; exact fun w => nomatch w) z)⟩
end
end Gx
/-! G2: results, the judgements over data, expressions. -/
namespace Gx
open PySem L2
inductive R (α : Type) where
  | ok (a : α) (h : Hs) | rs (c : Str) (p : Option Int) (h : Hs) | stk
def R.bind {α β : Type} (x : R α) (f : α → Hs → R β) : R β := match x with
  | .ok a h => f a h
  | .rs c p h => .rs c p h
  | .stk => .stk
def Out (F : Fr) (W : WX) (G : Gh) (σ : L2.St) (H : Hp) {δ ν : Type} (rel : Gh → Hp → δ → ν → Prop) (Q : ν → Hp → Prop) : R δ → Prop
  | .ok d h' => ∀ v G' H', Step G H G' H' → HR F G' H' h' → rel G' H' d v → Q v H'
  | .rs c p h' => ∀ G' H' dct, Step G H G' H' → HR F G' H' h' → Pay G' H' dct p → W (F.cls c) dct σ H'
  | .stk => False
def lift (F : Fr) (W : WX) {δ ν : Type} (rel : Gh → Hp → δ → ν → Prop) (f : SD → Hs → R δ) : L2.St → Hp → (ν → Hp → Prop) → Prop :=
  fun σ H Q => ∃ G h s, St F G h s σ H ∧ Out F W G σ H rel Q (f s h)
def toB : R D → R Bool
  | .ok (.bl b) h => .ok b h
  | .rs c p h => .rs c p h
  | _ => .stk
def relB : Gh → Hp → Bool → Bool → Prop := fun _ _ a b => a = b
def relO : Gh → Hp → Option Int → Option Int → Prop := fun _ _ a b => a = b
abbrev SE (X : Cx) (F : Fr) (W : WX) (e : Expr) (f : SD → Hs → R D) : Prop := PE X e (lift F W (VR F) f)
abbrev SA (X : Cx) (F : Fr) (W : WX) (es : List Expr) (f : SD → Hs → R (List D)) : Prop := PA X es (lift F W (VRL F) f)
abbrev ST (X : Cx) (F : Fr) (W : WX) (e : Expr) (f : SD → Hs → R D) : Prop := PT X e (lift F W relB fun s h => toB (f s h))
abbrev SW (X : Cx) (F : Fr) (W : WX) (e : Expr) (f : SD → Hs → R D) : Prop := PW X e (lift F W relB fun s h => toB (f s h))
abbrev SO (X : Cx) (F : Fr) (W : WX) (e : Option Expr) (f : SD → Hs → R (Option Int)) : Prop := PO X e (lift F W relO f)
theorem PE.imp {X : Cx} {e : Expr} {t t' : TE} (h : PE X e t) (i : ∀ σ H Q, t' σ H Q → t σ H Q) : PE X e t' := ⟨fun pins s σ H Q I w => h.run pins s σ H Q I (i σ H Q w)⟩
theorem PA.imp {X : Cx} {e : List Expr} {t t' : TA} (h : PA X e t) (i : ∀ σ H Q, t' σ H Q → t σ H Q) : PA X e t' := ⟨fun pos pins s σ H Q I w => h.run pos pins s σ H Q I (i σ H Q w)⟩
theorem PT.imp {X : Cx} {e : Expr} {t t' : TT} (h : PT X e t) (i : ∀ σ H Q, t' σ H Q → t σ H Q) : PT X e t' := ⟨fun pins s σ H Q I w => h.run pins s σ H Q I (i σ H Q w)⟩
theorem PW.imp {X : Cx} {e : Expr} {t t' : TT} (h : PW X e t) (i : ∀ σ H Q, t' σ H Q → t σ H Q) : PW X e t' := ⟨fun wh pins s σ H Q I w => h.run wh pins s σ H Q I (i σ H Q w)⟩
theorem PO.imp {X : Cx} {e : Option Expr} {t t' : TO} (h : PO X e t) (i : ∀ σ H Q, t' σ H Q → t σ H Q) : PO X e t' := ⟨fun pins s σ H Q I w => h.run pins s σ H Q I (i σ H Q w)⟩
theorem PS.imp {X : Cx} {e : Stmt} {t t' : TS} (h : PS X e t) (i : ∀ D σ H, t' D σ H → t D σ H) : PS X e t' := ⟨fun pins s σ H D I w => h.run pins s σ H D I (i D σ H w)⟩
theorem PSs.imp {X : Cx} {e : List Stmt} {t t' : TS} (h : PSs X e t) (i : ∀ D σ H, t' D σ H → t D σ H) : PSs X e t' := ⟨fun pins s σ H D I w => h.run pins s σ H D I (i D σ H w)⟩
theorem PI.imp {X : Cx} {tg e : Expr} {t t' : TI} (h : PI X tg e t) (i : ∀ σ H Q, t' σ H Q → t σ H Q) : PI X tg e t' := ⟨fun pins s σ H Q I w => h.run pins s σ H Q I (i σ H Q w)⟩
section
variable {X : Cx} {F : Fr} {W : WX} {G G' G1 : Gh} {H H' H1 : Hp} {σ : L2.St} {s : SD} {h h1 : Hs} {δ ν δ' ν' : Type} {rel : Gh → Hp → δ → ν → Prop} {rel' : Gh → Hp → δ' → ν' → Prop}
theorem Out.later {Q : ν → Hp → Prop} (T : Step G H G1 H1) : ∀ {x : R δ}, Out F W G σ H rel Q x → Out F W G1 σ H1 rel Q x
  | .ok d h', o => fun v G' H' T' r q => o v G' H' (T.trans T') r q
  | .rs c p h', o => fun G' H' dct T' r q => o G' H' dct (T.trans T') r q
  | .stk, o => o
/-- a part -/
theorem part {f : SD → Hs → R δ} {k : δ → Hs → R δ'} {Q : ν' → Hp → Prop} {Q' : ν → Hp → Prop} (t : St F G h s σ H) (o : Out F W G σ H rel' Q ((f s h).bind k))
    (go : ∀ d v h2 G2 H2, Step G H G2 H2 → St F G2 h2 s σ H2 → rel G2 H2 d v → Out F W G2 σ H2 rel' Q (k d h2) → Q' v H2) : lift F W rel f σ H Q' := by
  refine ⟨G, h, s, t, ?_⟩
  cases q : f s h with
  | ok d h2 => rw [q] at o; exact fun v G2 H2 T r z => go d v h2 G2 H2 T (t.step T r) z (Out.later T o)
  | rs c p h2 => rw [q] at o; exact o
  | stk => rw [q] at o; exact o
/-- how an answer goes on -/
abbrev KO (F : Fr) (G : Gh) (H : Hp) (h : Hs) (z : D) (Q : VK) : Prop := ∀ v G' H', Step G H G' H' → HR F G' H' h → VR F G' H' z v → Q v H'
theorem KO.val {z : D} {Q : VK} {v : V} (k : KO F G H h z Q) (r : HR F G H h) (x : VR F G H z v) : Q v H := k v G H (Step.refl G H) r x
theorem KO.bl {b : Bool} {Q : VK} (k : KO F G H h (.bl b) Q) (r : HR F G H h) : Q (.bl b) H := k.val r (vr_bl.mpr rfl)
theorem KO.int {b : Int} {Q : VK} (k : KO F G H h (.int b) Q) (r : HR F G H h) : Q (.int b) H := k.val r (vr_int.mpr rfl)
theorem KO.str {b : Str} {Q : VK} (k : KO F G H h (.str b) Q) (r : HR F G H h) : Q (.str b) H := k.val r (vr_str.mpr rfl)
theorem KO.non {Q : VK} (k : KO F G H h .non Q) (r : HR F G H h) : Q .non H := k.val r (vr_non.mpr rfl)
theorem KO.newL {l : List D} {xs : List V} {p : Addr} {Q : VK} (k : KO F G H h (.vl l) Q) (r : HR F G H h) (hp : H p = none) (hl : VRL F G H l xs) : Q (.ref p) (upd H p (.lst xs)) := by
  have T : Step G H G (upd H p (.lst xs)) := Step.same (same_upd hp)
  exact k _ G _ T (r.same (same_upd hp)) (vr_vl.mpr ⟨p, xs, rfl, ⟨.inl upd_same, fun b => r.bt p b hp⟩, VRL.step T r.aB l hl⟩)
theorem KO.newT {l : List D} {xs : List V} {p : Addr} {Q : VK} (k : KO F G H h (.tup l) Q) (r : HR F G H h) (hp : H p = none) (hl : VRL F G H l xs) : Q (.ref p) (upd H p (.tup xs)) := by
  have T : Step G H G (upd H p (.tup xs)) := Step.same (same_upd hp)
  exact k _ G _ T (r.same (same_upd hp)) (vr_tup.mpr ⟨p, xs, rfl, .inl (.inl upd_same), VRL.step T r.aB l hl⟩)
/-- a new object of the store -/
theorem KO.newO {u : HO} {o : HO'} {p : Addr} {Q : VK} (k : KO F G H (h ++ [o]) (.ref h.length) Q) (r : HR F G H h) (hp : H p = none) (ho : ON F G H u o) : Q (.ref p) (upd H p u) :=
  k _ _ _ (Step.add r hp) (r.add hp ho) (vr_ref.mpr ⟨p, rfl, by show (if h.length = h.length then some p else _) = some p; rw [if_pos rfl]⟩)
/-! ### names, constants -/
def getS (s : SD) (i : Nat) (h : Hs) : R D := match s[i]? with
  | some (some d) => .ok d h
  | _ => .stk
theorem se_var {i : Nat} {x : Str} {pos : Pos} (hN : X.N[i]? = some x) (hv : Vis X.env.scope x) (hd : (x == ("__debug__" : Str)) = false) (hcd : (x == ("__classdict__" : Str)) = false) :
    SE X F W (.Name x pos) (fun s h => getS s i h) := by
  refine PE.imp (pe_var hN hv hd hcd) fun σ H Q ⟨G, h, s, t, o⟩ => ?_
  dsimp only at o
  unfold getS at o
  split at o
  · rename_i d e
    obtain ⟨v, h1, h2⟩ := t.slot i d e
    exact ⟨v, h1, o v G H (Step.refl G H) t.hr h2⟩
  · exact o.elim
theorem se_int {i j pos} : SE X F W (.Constant (.int i) j pos) (fun _ h => .ok (.int i) h) := PE.imp pe_int fun σ H Q ⟨G, h, s, t, o⟩ => KO.int o t.hr
theorem se_bl {i j pos} : SE X F W (.Constant (.bool i) j pos) (fun _ h => .ok (.bl i) h) := PE.imp pe_bl fun σ H Q ⟨G, h, s, t, o⟩ => KO.bl o t.hr
theorem se_str {i j pos} : SE X F W (.Constant (.str i) j pos) (fun _ h => .ok (.str i) h) := PE.imp pe_str fun σ H Q ⟨G, h, s, t, o⟩ => KO.str o t.hr
theorem se_non {j pos} : SE X F W (.Constant .none j pos) (fun _ h => .ok .non h) := PE.imp pe_non fun σ H Q ⟨G, h, s, t, o⟩ => KO.non o t.hr
/-! ### operations by values -/
/-- how an operation by values answers one on data -/
def CallOk (F : Fr) (r : List V → Hp → VK → Prop) (g : List D → Hs → R D) : Prop := ∀ (G : Gh) (H : Hp) (h : Hs) (vs : List V) (ds : List D) (z : D) (h' : Hs) (Q : VK), HR F G H h → VRL F G H ds vs → g ds h = .ok z h' → KO F G H h' z Q → r vs H Q
def NoRs (g : List D → Hs → R D) : Prop := ∀ ds h c p h', g ds h ≠ .rs c p h'
theorem call_go {r : List V → Hp → VK → Prop} {g : List D → Hs → R D} {vs : List V} {ds : List D} {Q : VK} (ok : CallOk F r g) (nr : NoRs g) (rr : HR F G H h) (x : VRL F G H ds vs) (o : Out F W G σ H (VR F) Q (g ds h)) : r vs H Q := by
  cases e : g ds h with
  | ok z h' => rw [e] at o; exact ok G H h vs ds z h' Q rr x e o
  | rs c p h' => exact (nr ds h c p h' e).elim
  | stk => rw [e] at o; exact o.elim
def ofO (h : Hs) : Option D → R D
  | some d => .ok d h
  | none => .stk
theorem ofO_ok {o : Option D} {z : D} {h' : Hs} (e : ofO h o = .ok z h') : o = some z ∧ h' = h := by
  cases o with
  | none => cases e
  | some d => injection e with e1 e2; exact ⟨by rw [e1], e2.symm⟩
/-- an operation that leaves the store -/
def DL (g : Hs → List D → Option D) (ds : List D) (h : Hs) : R D := ofO h (g h ds)
theorem nrsL {g : Hs → List D → Option D} : NoRs (DL g) := by
  intro ds h c p h' q
  unfold DL at q
  unfold ofO at q; split at q <;> cases q
theorem okL {r : List V → Hp → VK → Prop} {g : Hs → List D → Option D} (hh : ∀ (G : Gh) (H : Hp) (h : Hs) (vs : List V) (ds : List D) (z : D) (Q : VK), g h ds = some z → HR F G H h → VRL F G H ds vs → KO F G H h z Q → r vs H Q) : CallOk F r (DL g) := by
  intro G H h vs ds z h' Q rr rl e k
  obtain ⟨e1, rfl⟩ := ofO_ok e
  exact hh G H h' vs ds z Q e1 rr rl k
def B2 (r : R2) : List V → Hp → VK → Prop := fun vs H Q => ∃ x y, vs = [x, y] ∧ r x y H Q
def B1 (r : V → Hp → VK → Prop) : List V → Hp → VK → Prop := fun vs H Q => ∃ x, vs = [x] ∧ r x H Q
def g2 (g : Hs → D → D → Option D) (h : Hs) : List D → Option D
  | [x, y] => g h x y
  | _ => none
def g1 (g : Hs → D → Option D) (h : Hs) : List D → Option D
  | [x] => g h x
  | _ => none
theorem vrl_two {d e : D} {vs : List V} (h : VRL F G H [d, e] vs) : ∃ x y, vs = [x, y] ∧ VR F G H d x ∧ VR F G H e y := by
  obtain ⟨v, vr, rfl, h1, h2⟩ := vrl_cons.mp h
  obtain ⟨v2, vr2, rfl, h3, h4⟩ := vrl_cons.mp h2
  rw [vrl_nil.mp h4]
  exact ⟨v, v2, rfl, h1, h3⟩
theorem vrl_onev {d : D} {vs : List V} (h : VRL F G H [d] vs) : ∃ x, vs = [x] ∧ VR F G H d x := by
  obtain ⟨v, vr, rfl, h1, h2⟩ := vrl_cons.mp h
  rw [vrl_nil.mp h2]
  exact ⟨v, rfl, h1⟩
theorem ok2 {r : R2} {g : Hs → D → D → Option D} (hh : ∀ (G : Gh) (H : Hp) (h : Hs) (x y : V) (d e z : D) (Q : VK), g h d e = some z → HR F G H h → VR F G H d x → VR F G H e y → KO F G H h z Q → r x y H Q) : CallOk F (B2 r) (DL (g2 g)) :=
  okL fun G H h vs ds z Q e rr rl k => by
    unfold g2 at e
    split at e
    · obtain ⟨x, y, rfl, r1, r2⟩ := vrl_two rl
      exact ⟨x, y, rfl, hh G H h x y _ _ z Q e rr r1 r2 k⟩
    · cases e
theorem ok1 {r : V → Hp → VK → Prop} {g : Hs → D → Option D} (hh : ∀ (G : Gh) (H : Hp) (h : Hs) (x : V) (d z : D) (Q : VK), g h d = some z → HR F G H h → VR F G H d x → KO F G H h z Q → r x H Q) : CallOk F (B1 r) (DL (g1 g)) :=
  okL fun G H h vs ds z Q e rr rl k => by
    unfold g1 at e
    split at e
    · obtain ⟨x, rfl, r1⟩ := vrl_onev rl
      exact ⟨x, rfl, hh G H h x _ z Q e rr r1 k⟩
    · cases e
/-- two operands -/
def bin2 (g : Hs → D → D → Option D) (fa fb : SD → Hs → R D) (s : SD) (h : Hs) : R D := (fa s h).bind fun x h1 => (fb s h1).bind fun y h2 => ofO h2 (g h2 x y)
theorem se_bin {e a b : Expr} {r : R2} {fa fb : SD → Hs → R D} {g : Hs → D → D → Option D} (rule : ∀ ta tb, PE X a ta → PE X b tb → PE X e (tOp r ta tb)) (ok : CallOk F (B2 r) (DL (g2 g))) (ha : SE X F W a fa) (hb : SE X F W b fb) :
    SE X F W e (bin2 g fa fb) := by
  refine PE.imp (rule _ _ ha hb) fun σ H Q ⟨G, h, s, t, o⟩ => ?_
  refine part t o fun d x h1 G1 H1 T1 t1 vx o => ?_
  refine part t1 o fun d' y h2 G2 H2 T2 t2 vy o => ?_
  have vx' := VR.step T2 t1.hr.aB d vx
  obtain ⟨x', y', e, q⟩ := call_go (g := DL (g2 g)) (ds := [d, d']) (vs := [x, y]) ok nrsL t2.hr (vrl_cons.mpr ⟨x, [y], rfl, vx', vrl_one.mpr vy⟩) o
  injection e with e1 e2
  injection e2 with e2 _
  subst e1
  subst e2
  exact q
theorem outT_E {Q : Bool → Hp → Prop} {x : R D} (o : Out F W G σ H relB Q (toB x)) : Out F W G σ H (VR F) (fun v H' => ∃ k, v = .bl k ∧ Q k H') x := by
  cases x with
  | stk => exact o
  | rs c p h => exact o
  | ok d h =>
    cases d with
    | bl k => exact fun v G' H' T r q => ⟨k, vr_bl.mp q, o k G' H' T r rfl⟩
    | _ => exact o.elim
theorem st_bin {e a b : Expr} {r : R2} {fa fb : SD → Hs → R D} {g : Hs → D → D → Option D} (rule : ∀ ta tb, PE X a ta → PE X b tb → PT X e (tTest (tOp r ta tb))) (ok : CallOk F (B2 r) (DL (g2 g))) (ha : SE X F W a fa) (hb : SE X F W b fb) :
    ST X F W e (bin2 g fa fb) := by
  refine PT.imp (rule _ _ ha hb) fun σ H Q ⟨G, h, s, t, o⟩ => ?_
  have o := outT_E o
  refine part t o fun d x h1 G1 H1 T1 t1 vx o => ?_
  refine part t1 o fun d' y h2 G2 H2 T2 t2 vy o => ?_
  have vx' := VR.step T2 t1.hr.aB d vx
  obtain ⟨x', y', e, q⟩ := call_go (g := DL (g2 g)) (ds := [d, d']) (vs := [x, y]) ok nrsL t2.hr (vrl_cons.mpr ⟨x, [y], rfl, vx', vrl_one.mpr vy⟩) o
  injection e with e1 e2
  injection e2 with e2 _
  subst e1
  subst e2
  exact q
def un1 (g : Hs → D → Option D) (fa : SD → Hs → R D) (s : SD) (h : Hs) : R D := (fa s h).bind fun x h1 => ofO h1 (g h1 x)
theorem se_un {e a : Expr} {r : V → Hp → VK → Prop} {fa : SD → Hs → R D} {g : Hs → D → Option D} (rule : ∀ ta, PE X a ta → PE X e (fun σ H Q => ta σ H fun x H1 => r x H1 Q)) (ok : CallOk F (B1 r) (DL (g1 g))) (ha : SE X F W a fa) :
    SE X F W e (un1 g fa) := by
  refine PE.imp (rule _ ha) fun σ H Q ⟨G, h, s, t, o⟩ => ?_
  refine part t o fun d x h1 G1 H1 T1 t1 vx o => ?_
  obtain ⟨x', e, q⟩ := call_go (g := DL (g1 g)) (ds := [d]) (vs := [x]) ok nrsL t1.hr (vrl_one.mpr vx) o
  injection e with e1 e2
  subst e1
  exact q
theorem se_call {e : Expr} {es : List Expr} {r : List V → Hp → VK → Prop} {fs : SD → Hs → R (List D)} {g : List D → Hs → R D} (rule : ∀ ta, PA X es ta → PE X e (tCB r ta)) (ok : CallOk F r g) (nr : NoRs g) (ha : SA X F W es fs) :
    SE X F W e (fun s h => (fs s h).bind g) := by
  refine PE.imp (rule _ ha) fun σ H Q ⟨G, h, s, t, o⟩ => ?_
  exact part t o fun ds vs h1 G1 H1 T1 t1 x o => call_go ok nr t1.hr x o
/-! ### arguments -/
theorem sa_nil : SA X F W [] (fun _ h => .ok [] h) := PA.imp pa_nil fun σ H Q ⟨G, h, s, t, o⟩ => o [] G H (Step.refl G H) t.hr (vrl_nil.mpr rfl)
theorem sa_cons {e : Expr} {es : List Expr} {f : SD → Hs → R D} {fs : SD → Hs → R (List D)} (hs : starEach (e :: es) X.env = (false, eval e X.env) :: starEach es X.env) (hh : SE X F W e f) (hr : SA X F W es fs) :
    SA X F W (e :: es) (fun s h => (f s h).bind fun d h1 => (fs s h1).bind fun ds h2 => .ok (d :: ds) h2) := by
  refine PA.imp (pa_cons hh hr hs) fun σ H Q ⟨G, h, s, t, o⟩ => ?_
  refine part t o fun d x h1 G1 H1 T1 t1 vx o => ?_
  refine part t1 o fun d' y h2 G2 H2 T2 t2 vy o => ?_
  exact o (x :: y) G2 H2 (Step.refl _ _) t2.hr (vrl_cons.mpr ⟨x, y, rfl, VR.step T2 t1.hr.aB d vx, vy⟩)
/-! ### tests -/
theorem st_val {e : Expr} {f : SD → Hs → R D} (he : ∀ whole, isTrue e X.env whole = (do let v ← whole; standAt e.pos; holding [v] (truthy v))) (hh : SE X F W e f) : ST X F W e f := by
  refine PT.imp (pt_val hh he) fun σ H Q ⟨G, h, s, t, o⟩ => ⟨G, h, s, t, outT_E o⟩
def andR (x : R D) (y : Hs → R D) : R D := x.bind fun d h => match d with
  | .bl true => y h
  | .bl false => .ok (.bl false) h
  | _ => .stk
def orR (x : R D) (y : Hs → R D) : R D := x.bind fun d h => match d with
  | .bl false => y h
  | .bl true => .ok (.bl true) h
  | _ => .stk
def notR (x : R D) : R D := x.bind fun d h => match d with
  | .bl b => .ok (.bl (!b)) h
  | _ => .stk
def iteR (c : R D) (x y : Hs → R D) : R D := c.bind fun d h => match d with
  | .bl true => x h
  | .bl false => y h
  | _ => .stk
theorem se_and {a b : Expr} {rest : List Expr} {fa fb : SD → Hs → R D} {pos : Pos} (ha : SE X F W a fa) (hb : SE X F W (.BoolOp .And (b :: rest) pos) fb) : SE X F W (.BoolOp .And (a :: b :: rest) pos) (fun s h => andR (fa s h) (fb s)) := by
  refine PE.imp (pe_and ha hb) fun σ H Q ⟨G, h, s, t, o⟩ => ?_
  refine part t o fun d v h1 G1 H1 T1 t1 vx o => ?_
  cases d with
  | bl k =>
    refine ⟨k, vr_bl.mp vx, ?_⟩
    cases k with
    | true => exact iteT ⟨G1, h1, s, t1, o⟩
    | false => exact iteF (KO.bl o t1.hr)
  | _ => exact o.elim
theorem se_or {a b : Expr} {rest : List Expr} {fa fb : SD → Hs → R D} {pos : Pos} (ha : SE X F W a fa) (hb : SE X F W (.BoolOp .Or (b :: rest) pos) fb) : SE X F W (.BoolOp .Or (a :: b :: rest) pos) (fun s h => orR (fa s h) (fb s)) := by
  refine PE.imp (pe_or ha hb) fun σ H Q ⟨G, h, s, t, o⟩ => ?_
  refine part t o fun d v h1 G1 H1 T1 t1 vx o => ?_
  cases d with
  | bl k =>
    refine ⟨k, vr_bl.mp vx, ?_⟩
    cases k with
    | true => exact iteT (KO.bl o t1.hr)
    | false => exact iteF ⟨G1, h1, s, t1, o⟩
  | _ => exact o.elim
theorem se_one {op : BoolOp} {a : Expr} {fa : SD → Hs → R D} {pos : Pos} (ha : SE X F W a fa) : SE X F W (.BoolOp op [a] pos) fa := pe_one ha
theorem se_not {a : Expr} {fa : SD → Hs → R D} {pos : Pos} (ha : SE X F W a fa) : SE X F W (.UnaryOp .Not a pos) (fun s h => notR (fa s h)) := by
  refine PE.imp (pe_not ha) fun σ H Q ⟨G, h, s, t, o⟩ => ?_
  refine part t o fun d v h1 G1 H1 T1 t1 vx o => ?_
  cases d with
  | bl k => exact ⟨k, vr_bl.mp vx, KO.bl o t1.hr⟩
  | _ => exact o.elim
theorem toB_bind {f : R D} {k : D → Hs → R D} : toB (f.bind fun d h => match d with | .bl b => k (.bl b) h | _ => .stk) = (toB f).bind fun b h => toB (k (.bl b) h) := by
  cases f with
  | ok d h => cases d <;> rfl
  | rs c p h => rfl
  | stk => rfl
theorem andR_toB {x : R D} {y : Hs → R D} : toB (andR x y) = (toB x).bind fun b h => toB (match b with | true => y h | false => .ok (.bl false) h) := by
  cases x with
  | ok d h => cases d <;> first | rfl | (rename_i b; cases b <;> rfl)
  | rs c p h => rfl
  | stk => rfl
theorem orR_toB {x : R D} {y : Hs → R D} : toB (orR x y) = (toB x).bind fun b h => toB (match b with | false => y h | true => .ok (.bl true) h) := by
  cases x with
  | ok d h => cases d <;> first | rfl | (rename_i b; cases b <;> rfl)
  | rs c p h => rfl
  | stk => rfl
theorem notR_toB {x : R D} : toB (notR x) = (toB x).bind fun b h => .ok (!b) h := by
  cases x with
  | ok d h => cases d <;> rfl
  | rs c p h => rfl
  | stk => rfl
theorem iteR_toB {c : R D} {x y : Hs → R D} : iteR c x y = (toB c).bind fun b h => match b with | true => x h | false => y h := by
  cases c with
  | ok d h => cases d <;> first | rfl | (rename_i b; cases b <;> rfl)
  | rs c p h => rfl
  | stk => rfl
theorem sw_and {a b : Expr} {rest : List Expr} {fa fb : SD → Hs → R D} {pos : Pos} (ha : ST X F W a fa) (hb : SW X F W (.BoolOp .And (b :: rest) pos) fb) : SW X F W (.BoolOp .And (a :: b :: rest) pos) (fun s h => andR (fa s h) (fb s)) := by
  refine PW.imp (pw_and ha hb) fun σ H Q ⟨G, h, s, t, o⟩ => ?_
  dsimp only at o; rw [andR_toB] at o
  refine part (f := fun s h => toB (fa s h)) t o fun b v h1 G1 H1 T1 t1 vx o => ?_
  obtain rfl : b = v := vx
  cases b with
  | true => exact iteT ⟨G1, h1, s, t1, o⟩
  | false => exact iteF (o false G1 H1 (Step.refl _ _) t1.hr rfl)
theorem sw_or {a b : Expr} {rest : List Expr} {fa fb : SD → Hs → R D} {pos : Pos} (ha : ST X F W a fa) (hb : SW X F W (.BoolOp .Or (b :: rest) pos) fb) : SW X F W (.BoolOp .Or (a :: b :: rest) pos) (fun s h => orR (fa s h) (fb s)) := by
  refine PW.imp (pw_or ha hb) fun σ H Q ⟨G, h, s, t, o⟩ => ?_
  dsimp only at o; rw [orR_toB] at o
  refine part (f := fun s h => toB (fa s h)) t o fun b v h1 G1 H1 T1 t1 vx o => ?_
  obtain rfl : b = v := vx
  cases b with
  | true => exact iteT (o true G1 H1 (Step.refl _ _) t1.hr rfl)
  | false => exact iteF ⟨G1, h1, s, t1, o⟩
theorem sw_and1 {a : Expr} {fa : SD → Hs → R D} {pos : Pos} (ha : ST X F W a fa) : SW X F W (.BoolOp .And [a] pos) fa := pw_and1 ha
theorem sw_or1 {a : Expr} {fa : SD → Hs → R D} {pos : Pos} (ha : ST X F W a fa) : SW X F W (.BoolOp .Or [a] pos) fa := pw_or1 ha
theorem st_not {a : Expr} {fa : SD → Hs → R D} {pos : Pos} (ha : ST X F W a fa) : ST X F W (.UnaryOp .Not a pos) (fun s h => notR (fa s h)) := by
  refine PT.imp (pt_not ha) fun σ H Q ⟨G, h, s, t, o⟩ => ?_
  dsimp only at o; rw [notR_toB] at o
  refine part (f := fun s h => toB (fa s h)) t o fun b v h1 G1 H1 T1 t1 vx o => ?_
  obtain rfl : b = v := vx
  exact o (!b) G1 H1 (Step.refl _ _) t1.hr rfl
theorem se_ite {c a b : Expr} {fc fa fb : SD → Hs → R D} {pos : Pos} (hc : ST X F W c fc) (ha : SE X F W a fa) (hb : SE X F W b fb) : SE X F W (.IfExp c a b pos) (fun s h => iteR (fc s h) (fa s) (fb s)) := by
  refine PE.imp (pe_ifExp hc ha hb) fun σ H Q ⟨G, h, s, t, o⟩ => ?_
  dsimp only at o; rw [iteR_toB] at o
  refine part (f := fun s h => toB (fc s h)) t o fun b v h1 G1 H1 T1 t1 vx o => ?_
  obtain rfl : b = v := vx
  cases b with
  | true => exact iteT ⟨G1, h1, s, t1, o⟩
  | false => exact iteF ⟨G1, h1, s, t1, o⟩
/-! chains of ints -/
def chR (p p' : Int → Int → Bool) (x : R D) (y z : Hs → R D) : R D := x.bind fun a h1 => (y h1).bind fun b h2 => match a, b with
  | .int i, .int j => if p i j = true then (z h2).bind fun c h3 => (match c with
      | .int k => .ok (.bl (p' j k)) h3
      | _ => .stk) else .ok (.bl false) h2
  | _, _ => .stk
theorem chain_go {r r' : R2} {p p' : Int → Int → Bool} {fa fb fc : SD → Hs → R D} {Q : VK} (hr : r = rI0 fun i j => .bl (p i j)) (hr' : r' = rI0 fun i j => .bl (p' i j)) (t : St F G h s σ H) (o : Out F W G σ H (VR F) Q (chR p p' (fa s h) (fb s) (fc s))) : tChain r r' (lift F W (VR F) fa) (lift F W (VR F) fb) (lift F W (VR F) fc) σ H Q := by
  subst hr hr'
  refine part t o fun d x h1 G1 H1 T1 t1 vx o => ?_
  refine part t1 o fun d' y h2 G2 H2 T2 t2 vy o => ?_
  cases d with
  | int i =>
    cases d' with
    | int j =>
      refine ⟨i, j, vr_int.mp vx, vr_int.mp vy, p i j, rfl, ?_⟩
      dsimp only at o
      by_cases hp : p i j = true
      · rw [if_pos hp] at o ⊢
        refine part t2 o fun c w h3 G3 H3 T3 t3 vw o => ?_
        cases c with
        | int k => exact ⟨j, k, vr_int.mp vy, vr_int.mp vw, KO.bl o t3.hr⟩
        | _ => exact o.elim
      · rw [if_neg hp] at o ⊢
        exact KO.bl o t2.hr
    | _ => exact o.elim
  | _ => exact o.elim
theorem se_chain {op op' : CmpOp} {p p' : Int → Int → Bool} {a b c : Expr} {fa fb fc : SD → Hs → R D} {pos : Pos} (ho : OpR X (compareOp op) (rI0 fun i j => .bl (p i j))) (ho' : OpR X (compareOp op') (rI0 fun i j => .bl (p' i j)))
    (hm : lastMarks [op, op'] [b, c] = false) (ha : SE X F W a fa) (hb : SE X F W b fb) (hc : SE X F W c fc) : SE X F W (.Compare a [op, op'] [b, c] pos) (fun s h => chR p p' (fa s h) (fb s) (fc s)) :=
  PE.imp (pe_chain ho ho' ha hb hc hm) fun σ H Q ⟨G, h, s, t, o⟩ => chain_go rfl rfl t o
theorem st_chain {op op' : CmpOp} {p p' : Int → Int → Bool} {a b c : Expr} {fa fb fc : SD → Hs → R D} {pos : Pos} (ho : OpR X (compareOp op) (rI0 fun i j => .bl (p i j))) (ho' : OpR X (compareOp op') (rI0 fun i j => .bl (p' i j)))
    (hm : lastMarks [op, op'] [b, c] = false) (ha : SE X F W a fa) (hb : SE X F W b fb) (hc : SE X F W c fc) : ST X F W (.Compare a [op, op'] [b, c] pos) (fun s h => chR p p' (fa s h) (fb s) (fc s)) :=
  PT.imp (pt_chain ho ho' ha hb hc hm) fun σ H Q ⟨G, h, s, t, o⟩ => chain_go rfl rfl t (outT_E o)
/-! slices -/
theorem so_none : SO X F W none (fun _ h => .ok none h) := PO.imp po_none fun σ H Q ⟨G, h, s, t, o⟩ => o none G H (Step.refl G H) t.hr rfl
def ixR (x : R D) : R (Option Int) := x.bind fun d h => match d with
  | .int i => .ok (some i) h
  | _ => .stk
theorem so_some {e : Expr} {f : SD → Hs → R D} (hh : SE X F W e f) : SO X F W (some e) (fun s h => ixR (f s h)) := by
  refine PO.imp (po_some hh) fun σ H Q ⟨G, h, s, t, o⟩ => ?_
  refine part t o fun d x h1 G1 H1 T1 t1 vx o => ?_
  cases d with
  | int i => exact ⟨i, vr_int.mp vx, o (some i) G1 H1 (Step.refl _ _) t1.hr rfl⟩
  | _ => exact o.elim
end
end Gx

/-! G3: statements, targets, loops. -/
namespace Gx
open PySem L2
inductive O where
  | nx (s : SD) (h : Hs) | bk (s : SD) (h : Hs) | ct (s : SD) (h : Hs) | rt (d : D) (h : Hs) | rs (c : Str) (p : Option Int) (s : SD) (h : Hs) | stk
def O.seq (o : O) (g : SD → Hs → O) : O := match o with
  | .nx s h => g s h
  | .bk s h => .bk s h
  | .ct s h => .ct s h
  | .rt d h => .rt d h
  | .rs c p s h => .rs c p s h
  | .stk => .stk
/-- an expression's value, then what comes of it -/
def R.thenO {α : Type} (x : R α) (s : SD) (f : α → Hs → O) : O := match x with
  | .ok a h => f a h
  | .rs c p h => .rs c p s h
  | .stk => .stk
def OutS (F : Fr) (W : WX) (Dn : Ends) (G : Gh) (H : Hp) : O → Prop
  | .nx s' h' => ∀ G' σ' H', Step G H G' H' → St F G' h' s' σ' H' → Dn.nx σ' H'
  | .bk s' h' => ∀ G' σ' H', Step G H G' H' → St F G' h' s' σ' H' → Dn.bk σ' H'
  | .ct s' h' => ∀ G' σ' H', Step G H G' H' → St F G' h' s' σ' H' → Dn.ct σ' H'
  | .rt d h' => ∀ v G' H', Step G H G' H' → HR F G' H' h' → VR F G' H' d v → Dn.rt v H'
  | .rs c p s' h' => ∀ G' σ' H' dct, Step G H G' H' → St F G' h' s' σ' H' → Pay G' H' dct p → W (F.cls c) dct σ' H'
  | .stk => False
def liftS (F : Fr) (W : WX) (f : SD → Hs → O) : TS := fun Dn σ H => ∃ G h s, St F G h s σ H ∧ OutS F W Dn G H (f s h)
abbrev SS (X : Cx) (F : Fr) (W : WX) (st : Stmt) (f : SD → Hs → O) : Prop := PS X st (liftS F W f)
abbrev SB (X : Cx) (F : Fr) (W : WX) (st : List Stmt) (f : SD → Hs → O) : Prop := PSs X st (liftS F W f)
section
variable {X : Cx} {F : Fr} {W : WX} {G G' G1 : Gh} {H H' H1 : Hp} {σ : L2.St} {s : SD} {h h1 : Hs} {δ ν : Type} {rel : Gh → Hp → δ → ν → Prop}
theorem OutS.later {Dn : Ends} (T : Step G H G1 H1) : ∀ {o : O}, OutS F W Dn G H o → OutS F W Dn G1 H1 o
  | .nx s' h', o => fun G' σ' H' b t => o G' σ' H' (T.trans b) t
  | .bk s' h', o => fun G' σ' H' b t => o G' σ' H' (T.trans b) t
  | .ct s' h', o => fun G' σ' H' b t => o G' σ' H' (T.trans b) t
  | .rt d h', o => fun v G' H' b r q => o v G' H' (T.trans b) r q
  | .rs c p s' h', o => fun G' σ' H' dct b t => o G' σ' H' dct (T.trans b) t
  | .stk, o => o
theorem sb_nil : SB X F W [] (fun s h => .nx s h) := PSs.imp pss_nil fun Dn σ H ⟨G, h, s, t, o⟩ => o G σ H (Step.refl G H) t
theorem seq_out {Dn : Ends} {g : SD → Hs → O} : ∀ {o : O}, OutS F W Dn G H (o.seq g) → OutS F W { Dn with nx := fun σ' H' => liftS F W g Dn σ' H' } G H o
  | .nx s' h', h => fun G' σ' H' a t => ⟨G', h', s', t, OutS.later a h⟩
  | .bk s' h', h => h
  | .ct s' h', h => h
  | .rt d h', h => h
  | .rs c p s' h', h => h
  | .stk, h => h
theorem sb_cons {st : Stmt} {rest : List Stmt} {f g : SD → Hs → O} (h1 : SS X F W st f) (h2 : SB X F W rest g) : SB X F W (st :: rest) (fun s h => (f s h).seq g) :=
  PSs.imp (pss_cons h1 h2) fun Dn σ H ⟨G, h, s, t, o⟩ => ⟨G, h, s, t, seq_out o⟩
/-- an expression ahead -/
theorem partS {f : SD → Hs → R δ} {k : δ → Hs → O} {Dn : Ends} {Q' : ν → Hp → Prop} (t : St F G h s σ H) (o : OutS F W Dn G H ((f s h).thenO s k))
    (go : ∀ d v h2 G2 H2, Step G H G2 H2 → St F G2 h2 s σ H2 → rel G2 H2 d v → OutS F W Dn G2 H2 (k d h2) → Q' v H2) : lift F W rel f σ H Q' := by
  refine ⟨G, h, s, t, ?_⟩
  cases q : f s h with
  | ok d h2 => rw [q] at o; exact fun v G2 H2 T r z => go d v h2 G2 H2 T (t.step T r) z (OutS.later T o)
  | rs c p h2 => rw [q] at o; exact fun G2 H2 dct T r z => o G2 σ H2 dct T (t.step T r) z
  | stk => rw [q] at o; exact o
/-- a slot is stored -/
theorem St.set {i : Nat} {v : V} {d : D} (t : St F G h s σ H) (hi : i < s.length) (x : VR F G H d v) : St F G h (s.set i (some d)) (σ.set i (some v)) H := by
  have hiσ : i < σ.length := by rw [← t.len]; exact hi
  refine ⟨fun j d' e => ?_, t.hr, by simp [t.len]⟩
  by_cases hj : j = i
  · subst hj
    rw [List.getElem?_set_self hi] at e
    obtain rfl : d = d' := Option.some.inj (Option.some.inj e)
    exact ⟨v, by rw [List.getElem?_set_self hiσ], x⟩
  · rw [List.getElem?_set_ne (Ne.symm hj)] at e
    obtain ⟨w, h1, h2⟩ := t.slot j d' e
    exact ⟨w, by rw [List.getElem?_set_ne (Ne.symm hj)]; exact h1, h2⟩
def setO (i : Nat) (s : SD) (d : D) (h : Hs) : O := if i < s.length then .nx (s.set i (some d)) h else .stk
theorem set_out {i : Nat} {Dn : Ends} {v : V} {d : D} (t : St F G h s σ H) (o : OutS F W Dn G H (setO i s d h)) (x : VR F G H d v) : Dn.nx (σ.set i (some v)) H := by
  unfold setO at o
  split at o
  · rename_i hi
    exact o G _ H (Step.refl _ _) (t.set hi x)
  · exact o.elim
theorem ss_set {i : Nat} {x : Str} {e : Expr} {f : SD → Hs → R D} {pos pos' : Pos} (hN : X.N.Nodup) (hi : X.N[i]? = some x) (hx : Loc X.env.scope x) (hs : swapsWith e (some (.Name x pos')) pos.line X.env = pure false) (hf : X.fn x = true ∨ X.env.scope.names.lookup x = some .local)
    (he : SE X F W e f) : SS X F W (.Assign [.Name x pos'] e pos) (fun s h => (f s h).thenO s (setO i s)) :=
  PS.imp (ps_set hN hi hx he hs hf) fun Dn σ H ⟨G, h, s, t, o⟩ => partS t o fun d v h2 G2 H2 T t2 x o => set_out t2 o x
theorem ss_ret {e : Expr} {f : SD → Hs → R D} {pos : Pos} (he : SE X F W e f) : SS X F W (.Return (some e) pos) (fun s h => (f s h).thenO s .rt) :=
  PS.imp (ps_ret he) fun Dn σ H ⟨G, h, s, t, o⟩ => partS t o fun d v h2 G2 H2 T t2 x o => o v G2 H2 (Step.refl _ _) t2.hr x
theorem ss_retN {pos : Pos} : SS X F W (.Return none pos) (fun _ h => .rt .non h) :=
  PS.imp ps_retN fun Dn σ H ⟨G, h, s, t, o⟩ => o .non G H (Step.refl _ _) t.hr (vr_non.mpr rfl)
def ifO (s : SD) (a b : SD → Hs → O) (d : D) (h : Hs) : O := match d with
  | .bl true => a s h
  | .bl false => b s h
  | _ => .stk
theorem ifO_toB {x : R D} {a b : SD → Hs → O} : x.thenO s (ifO s a b) = (toB x).thenO s fun k h => match k with | true => a s h | false => b s h := by
  cases x with
  | ok d h => cases d <;> first | rfl | (rename_i b; cases b <;> rfl)
  | rs c p h => rfl
  | stk => rfl
theorem ss_if {c : Expr} {a b : List Stmt} {fc : SD → Hs → R D} {fa fb : SD → Hs → O} {pos : Pos} (hc : ST X F W c fc) (ha : SB X F W a fa) (hb : SB X F W b fb) : SS X F W (.If c a b pos) (fun s h => (fc s h).thenO s (ifO s fa fb)) :=
  PS.imp (ps_if hc ha hb) fun Dn σ H ⟨G, h, s, t, o⟩ => by
    dsimp only at o
    rw [ifO_toB] at o
    refine partS (f := fun s h => toB (fc s h)) t o fun k v h2 G2 H2 T t2 x o => ?_
    obtain rfl : k = v := x
    cases k with
    | true => exact iteT ⟨G2, h2, s, t2, o⟩
    | false => exact iteF ⟨G2, h2, s, t2, o⟩
theorem ss_expr {e : Expr} {f : SD → Hs → R D} {pos : Pos} (hs : swapsWith e none pos.line X.env = pure false) (he : SE X F W e f) : SS X F W (.Expr e pos) (fun s h => (f s h).thenO s fun _ h => .nx s h) :=
  PS.imp (ps_expr he hs) fun Dn σ H ⟨G, h, s, t, o⟩ => partS t o fun d v h2 G2 H2 T t2 x o => o G2 σ H2 (Step.refl _ _) t2
theorem ss_pass {pos : Pos} : SS X F W (.Pass pos) (fun s h => .nx s h) := PS.imp ps_pass fun Dn σ H ⟨G, h, s, t, o⟩ => o G σ H (Step.refl G H) t
theorem ss_break {pos : Pos} : SS X F W (.Break pos) (fun s h => .bk s h) := PS.imp ps_break fun Dn σ H ⟨G, h, s, t, o⟩ => o G σ H (Step.refl G H) t
theorem ss_continue {pos : Pos} : SS X F W (.Continue pos) (fun s h => .ct s h) := PS.imp ps_continue fun Dn σ H ⟨G, h, s, t, o⟩ => o G σ H (Step.refl G H) t
/-! ### the store is cut back -/
def kill (k : Nat) : Option D → Option D
  | some d => if d.bel k = true then some d else none
  | none => none
def killS (k : Nat) (s : SD) : SD := s.map (kill k)
open Classical in
noncomputable def O.cut (h0 : Hs) : O → O
  | .nx s h => if ClB h0 h then .nx (killS h0.length s) (h.take h0.length) else .stk
  | .bk s h => if ClB h0 h then .bk (killS h0.length s) (h.take h0.length) else .stk
  | .ct s h => if ClB h0 h then .ct (killS h0.length s) (h.take h0.length) else .stk
  | .rt d h => .rt d h
  | .rs c p s h => if ClB h0 h then .rs c p (killS h0.length s) (h.take h0.length) else .stk
  | .stk => .stk
theorem St.cut (t : St F G h s σ H) (k : Nat) (cl : ∀ n o, n < k → h[n]? = some o → o.bel k = true) : St F (G.cut k) (h.take k) (killS k s) σ H := by
  refine ⟨fun i d e => ?_, t.hr.cut k cl, by simp [killS, t.len]⟩
  unfold killS at e
  rw [List.getElem?_map] at e
  cases q : s[i]? with
  | none => rw [q] at e; cases e
  | some u =>
    rw [q] at e
    injection e with e
    cases u with
    | none => cases e
    | some d' =>
      unfold kill at e
      dsimp only at e
      split at e
      · rename_i hb
        injection e with e
        subst e
        obtain ⟨v, h1, h2⟩ := t.slot i d' q
        exact ⟨v, h1, VR.cut t.hr k d' hb h2⟩
      · cases e
theorem cut_out {Dn : Ends} (r : HR F G H h) : ∀ {o : O}, OutS F W Dn G H (o.cut h) → OutS F W Dn G H o
  | .nx s' h', o => by
    unfold O.cut at o
    dsimp only at o
    split at o
    · rename_i c
      exact fun G' σ' H' a t => o _ σ' H' (Step.cut r t.hr (Nat.le_refl _) a) (t.cut _ (c.cl r))
    · exact o.elim
  | .bk s' h', o => by
    unfold O.cut at o
    dsimp only at o
    split at o
    · rename_i c
      exact fun G' σ' H' a t => o _ σ' H' (Step.cut r t.hr (Nat.le_refl _) a) (t.cut _ (c.cl r))
    · exact o.elim
  | .ct s' h', o => by
    unfold O.cut at o
    dsimp only at o
    split at o
    · rename_i c
      exact fun G' σ' H' a t => o _ σ' H' (Step.cut r t.hr (Nat.le_refl _) a) (t.cut _ (c.cl r))
    · exact o.elim
  | .rt d h', o => o
  | .rs c p s' h', o => by
    unfold O.cut at o
    dsimp only at o
    split at o
    · rename_i cc
      exact fun G' σ' H' dct a t pp => o _ σ' H' dct (Step.cut r t.hr (Nat.le_refl _) a) (t.cut _ (cc.cl r)) pp.cut
    · exact o.elim
  | .stk, o => o
theorem ss_cut {st : Stmt} {f : SD → Hs → O} (hh : SS X F W st f) : SS X F W st (fun s h => (f s h).cut h) :=
  PS.imp hh fun Dn σ H ⟨G, h, s, t, o⟩ => ⟨G, h, s, t, cut_out t.hr o⟩
theorem sb_cut {st : List Stmt} {f : SD → Hs → O} (hh : SB X F W st f) : SB X F W st (fun s h => (f s h).cut h) :=
  PSs.imp hh fun Dn σ H ⟨G, h, s, t, o⟩ => ⟨G, h, s, t, cut_out t.hr o⟩
/-! ### targets -/
def setAll (σ : L2.St) : List Nat → List V → L2.St
  | i :: is, v :: vs => setAll (σ.set i (some v)) is vs
  | _, _ => σ
/-- what a target does: the slots at is are stored -/
def TgOk (F : Fr) (is : List Nat) (f : D → SD → Option SD) (g : TG) : Prop := ∀ G H h σ s v d s', St F G h s σ H → VR F G H d v → f d s = some s' →
  ∀ Q : L2.St → Hp → Prop, (∀ vs, St F G h s' (setAll σ is vs) H → Q (setAll σ is vs) H) → g v σ H Q
def setN (i : Nat) (d : D) (s : SD) : Option SD := if i < s.length then some (s.set i (some d)) else none
theorem tg_name {i : Nat} : TgOk F [i] (setN i) (gName i) := by
  intro G H h σ s v d s' t x e Q q
  unfold setN at e
  split at e
  · rename_i hi
    obtain rfl := Option.some.inj e
    exact q [v] (t.set hi x)
  · cases e
def setMany : List Nat → List D → SD → Option SD
  | [], [], s => some s
  | i :: is, d :: ds, s => (setN i d s).bind (setMany is ds)
  | _, _, _ => none
def setT (is : List Nat) (d : D) (s : SD) : Option SD := match d with
  | .tup l => setMany is l s
  | _ => none
def TgsOk (F : Fr) (is : List Nat) (gs : TGs) : Prop := ∀ (l : List D) (G : Gh) (H : Hp) (h : Hs) (σ : L2.St) (s : SD) (vs : List V) (s' : SD), St F G h s σ H → VRL F G H l vs → setMany is l s = some s' →
  ∀ Q : L2.St → Hp → Prop, (∀ ws, St F G h s' (setAll σ is ws) H → Q (setAll σ is ws) H) → gs vs σ H Q
theorem tgs_nil : TgsOk F [] gNil := fun l G H h σ s vs s' t r e Q q => by
  cases l with
  | nil =>
    rw [vrl_nil.mp r]
    obtain rfl := Option.some.inj e
    exact ⟨rfl, q [] t⟩
  | cons d ds => cases e
theorem tgs_cons {i : Nat} {is : List Nat} {gs : TGs} (hr : TgsOk F is gs) : TgsOk F (i :: is) (gCons (gName i) gs) := fun l G H h σ s vs s' t r e Q q => by
  cases l with
  | nil => cases e
  | cons d ds =>
    obtain ⟨v, vr, rfl, h1, h2⟩ := vrl_cons.mp r
    refine ⟨v, vr, rfl, ?_⟩
    have e1 : (setN i d s).bind (setMany is ds) = some s' := e
    cases e2 : setN i d s with
    | none => rw [e2] at e1; cases e1
    | some s1 =>
      rw [e2] at e1
      unfold setN at e2
      split at e2
      · rename_i hi
        obtain rfl := Option.some.inj e2
        exact hr ds G H h _ _ vr s' (t.set hi h1) h2 e1 Q fun ws t2 => q (v :: ws) t2
      · cases e2
theorem setMany_len : ∀ (is : List Nat) (l : List D) (s s' : SD), setMany is l s = some s' → l.length = is.length
  | [], [], s, s', e => rfl
  | [], _ :: _, s, s', e => by cases e
  | _ :: _, [], s, s', e => by cases e
  | i :: is, d :: ds, s, s', e => by
    have e1 : (setN i d s).bind (setMany is ds) = some s' := e
    cases e2 : setN i d s with
    | none => rw [e2] at e1; cases e1
    | some s1 =>
      rw [e2] at e1
      simp [setMany_len is ds s1 s' e1]
theorem tg_tup {is : List Nat} {gs : TGs} (hh : TgsOk F is gs) : TgOk F is (setT is) (gTup F.K is.length gs) := by
  intro G H h σ s v d s' t x e Q q
  unfold setT at e
  split at e
  · rename_i l
    obtain ⟨p, xs, rfl, hs, hl⟩ := vr_tup.mp x
    exact ⟨p, xs, rfl, hs, by rw [hl.length, setMany_len is l s s' e], hh l G H h σ s xs s' t hl e Q q⟩
  · cases e
/-! ### what is walked -/
/-- items, and what must hold of the store while they are walked -/
structure Src where
  ds : List D
  c : Hs → Prop
structure Yields (F : Fr) (G : Gh) (H : Hp) (J : It) (z : Src) : Prop where
  fin : ∀ G2 H2 h2, Step G H G2 H2 → HR F G2 H2 h2 → z.c h2 → ∀ i, z.ds.length ≤ i → J.stop i H2
  go : ∀ G2 H2 h2, Step G H G2 H2 → HR F G2 H2 h2 → z.c h2 → ∀ i d, z.ds[i]? = some d → J.go i H2 ∧ ∀ x H3, J.yld i H2 x H3 → Same H2 H3 ∧ VR F G2 H3 d x
def OutI (F : Fr) (W : WX) (G : Gh) (σ : L2.St) (H : Hp) (Q : It → Hp → Prop) : R Src → Prop
  | .ok z h' => ∀ J G' H', Step G H G' H' → HR F G' H' h' → Yields F G' H' J z → Q J H'
  | .rs c p h' => ∀ G' H' dct, Step G H G' H' → HR F G' H' h' → Pay G' H' dct p → W (F.cls c) dct σ H'
  | .stk => False
def liftI (F : Fr) (W : WX) (f : SD → Hs → R Src) : TI := fun σ H Q => ∃ G h s, St F G h s σ H ∧ OutI F W G σ H Q (f s h)
abbrev SI (X : Cx) (F : Fr) (W : WX) (tg e : Expr) (f : SD → Hs → R Src) : Prop := PI X tg e (liftI F W f)
theorem partI {f : SD → Hs → R δ} {k : δ → Hs → R Src} {Q : It → Hp → Prop} {Q' : ν → Hp → Prop} (t : St F G h s σ H) (o : OutI F W G σ H Q ((f s h).bind k))
    (go : ∀ d v h2 G2 H2, Step G H G2 H2 → St F G2 h2 s σ H2 → rel G2 H2 d v → OutI F W G2 σ H2 Q (k d h2) → Q' v H2) : lift F W rel f σ H Q' := by
  refine ⟨G, h, s, t, ?_⟩
  cases q : f s h with
  | ok d h2 =>
    rw [q] at o
    refine fun v G2 H2 T r z => go d v h2 G2 H2 T (t.step T r) z ?_
    have o : OutI F W G σ H Q (k d h2) := o
    revert o
    cases k d h2 with
    | ok z h3 => exact fun o J G' H' T' r' y => o J G' H' (T.trans T') r' y
    | rs c p h3 => exact fun o G' H' dct T' r' y => o G' H' dct (T.trans T') r' y
    | stk => exact fun o => o
  | rs c p h2 => rw [q] at o; exact o
  | stk => rw [q] at o; exact o
def src0 (l : List D) : Src := ⟨l, fun _ => True⟩
open Classical in
noncomputable def forC (c : Hs → Prop) (f : D → SD → Hs → O) : List D → SD → Hs → O
  | [], s, h => if c h then .nx s h else .stk
  | d :: r, s, h => if c h then (match f d s h with
    | .nx s' h' => forC c f r s' h'
    | .ct s' h' => forC c f r s' h'
    | .bk s' h' => .nx s' h'
    | .rt d h' => .rt d h'
    | .rs c p s' h' => .rs c p s' h'
    | .stk => .stk) else .stk
def turnO (ft : D → SD → Option SD) (fb : SD → Hs → O) (d : D) (s : SD) (h : Hs) : O := match ft d s with
  | some s' => fb s' h
  | none => .stk
theorem ss_for {tg iter : Expr} {body : List Stmt} {pos : Pos} {fi : SD → Hs → R Src} {is : List Nat} {ft : D → SD → Option SD} {fb : SD → Hs → O} {g : TG} (hp : PassesOwn (model X.prog X.w) X.A X.env X.xe) (hc : X.calm = true) (hs : ∀ x, foldedSetIterable iter X.env x = pure x)
    (hi : SI X F W tg iter fi) (hg1 : PG X tg g) (hg2 : TgOk F is ft g) (hb : SB X F W body fb) : SS X F W (.For tg iter body [] pos) (fun s h => (fi s h).thenO s fun z h => forC z.c (turnO ft fb) z.ds s h) := by
  refine PS.imp (ps_for hp hc hi hg1 hb hs) fun Dn σ H ⟨G, h, s, t, o⟩ => ⟨G, h, s, t, ?_⟩
  dsimp only at o
  cases q : fi s h with
  | stk => rw [q] at o; exact o.elim
  | rs c p h2 => rw [q] at o; exact fun G2 H2 dct T r z => o G2 σ H2 dct T (t.step T r) z
  | ok z h2 =>
    rw [q] at o
    intro J G1 H1 T1 r1 y
    have o1 : OutS F W Dn G1 H1 (forC z.c (turnO ft fb) z.ds s h2) := OutS.later T1 o
    refine ⟨fun i m σ2 H2 => m = z.ds.length - i ∧ i ≤ z.ds.length ∧ ∃ G2 h2 s2, Step G1 H1 G2 H2 ∧ St F G2 h2 s2 σ2 H2 ∧ OutS F W Dn G2 H2 (forC z.c (turnO ft fb) (z.ds.drop i) s2 h2), ⟨z.ds.length, by simp, Nat.zero_le _, _, h2, s, Step.refl _ _, t.step T1 r1, o1⟩, ?_⟩
    rintro i m σ2 H2 ⟨rfl, hi, G2, h2, s2, a2, t2, o2⟩
    by_cases hlt : i < z.ds.length
    · have ed : z.ds[i]? = some z.ds[i] := List.getElem?_eq_getElem hlt
      rw [List.drop_eq_getElem_cons hlt] at o2
      unfold forC at o2
      split at o2
      case isFalse => exact o2.elim
      rename_i hc2
      obtain ⟨go, yl⟩ := y.go G2 H2 h2 a2 t2.hr hc2 i _ ed
      refine .inr ⟨go, fun σ' H' => ∃ G3 h3 s3, Step G1 H1 G3 H' ∧ St F G3 h3 s3 σ' H' ∧ OutS F W Dn G3 H' (forC z.c (turnO ft fb) (z.ds.drop (i + 1)) s3 h3), fun σ' H' ⟨G3, h3, s3, a3, t3, o3⟩ => ⟨z.ds.length - (i + 1), by omega, rfl, hlt, G3, h3, s3, a3, t3, o3⟩, fun x H3 hy => ?_⟩
      obtain ⟨sm, vx⟩ := yl x H3 hy
      have T3 : Step G2 H2 G2 H3 := Step.same sm
      have t3 : St F G2 h2 s2 σ2 H3 := t2.step T3 (t2.hr.same sm)
      unfold turnO at o2
      cases e : ft z.ds[i] s2 with
      | none => rw [e] at o2; exact o2.elim
      | some s3 =>
        rw [e] at o2
        dsimp only at o2
        refine hg2 G2 H3 h2 σ2 s2 x z.ds[i] s3 t3 vx e _ fun ws t3 => ⟨G2, h2, s3, t3, ?_⟩
        have a13 : Step G1 H1 G2 H3 := a2.trans T3
        cases eb : fb s3 h2 with
        | nx s4 h4 => rw [eb] at o2; exact fun G4 σ4 H4 a4 t4 => ⟨G4, h4, s4, a13.trans a4, t4, OutS.later (T3.trans a4) o2⟩
        | ct s4 h4 => rw [eb] at o2; exact fun G4 σ4 H4 a4 t4 => ⟨G4, h4, s4, a13.trans a4, t4, OutS.later (T3.trans a4) o2⟩
        | bk s4 h4 => rw [eb] at o2; exact fun G4 σ4 H4 a4 t4 => o2 G4 σ4 H4 (T3.trans a4) t4
        | rt d h4 => rw [eb] at o2; exact OutS.later T3 o2
        | rs c p s4 h4 => rw [eb] at o2; exact fun G4 σ4 H4 dct a4 t4 => o2 G4 σ4 H4 dct (T3.trans a4) t4
        | stk => rw [eb] at o2; exact o2.elim
    · obtain rfl : i = z.ds.length := by omega
      rw [List.drop_length] at o2
      unfold forC at o2
      split at o2
      case isFalse => exact o2.elim
      rename_i hc2
      exact .inl ⟨y.fin G2 H2 h2 a2 t2.hr hc2 _ (Nat.le_refl _), o2 G2 σ2 H2 (Step.refl _ _) t2⟩
/-! ### while -/
def whL (c : SD → Hs → R D) (f : SD → Hs → O) : Nat → SD → Hs → O
  | 0, _, _ => .stk
  | n + 1, s, h => (toB (c s h)).thenO s fun b h => match b with
    | true => (match f s h with
      | .nx s' h' => whL c f n s' h'
      | .ct s' h' => whL c f n s' h'
      | .bk s' h' => .nx s' h'
      | .rt d h' => .rt d h'
      | .rs c p s' h' => .rs c p s' h'
      | .stk => .stk)
    | false => .nx s h
theorem ss_while {c : Expr} {body : List Stmt} {pos : Pos} {fc : SD → Hs → R D} {fb : SD → Hs → O} (n : Nat) (hp : PassesOwn (model X.prog X.w) X.A X.env X.xe) (hc : ST X F W c fc) (hb : SB X F W body fb) :
    SS X F W (.While c body [] pos) (fun s h => whL fc fb n s h) := by
  refine PS.imp (ps_while hp hc hb) fun Dn σ H ⟨G, h, s, t, o⟩ => ?_
  refine ⟨fun m σ2 H2 => ∃ G2 h2 s2, St F G2 h2 s2 σ2 H2 ∧ OutS F W Dn G2 H2 (whL fc fb m s2 h2), ⟨n, G, h, s, t, o⟩, ?_⟩
  rintro m σ2 H2 ⟨G2, h2, s2, t2, o2⟩
  cases m with
  | zero => exact o2.elim
  | succ m =>
    refine partS (f := fun s h => toB (fc s h)) t2 o2 fun b v h3 G3 H3 T3 t3 x o3 => ?_
    obtain rfl : b = v := x
    cases b with
    | false => exact iteF (o3 G3 σ2 H3 (Step.refl _ _) t3)
    | true =>
      refine iteT ⟨fun σ' H' => ∃ G3 h3 s3, St F G3 h3 s3 σ' H' ∧ OutS F W Dn G3 H' (whL fc fb m s3 h3), fun σ' H' h => ⟨m, Nat.lt_succ_self m, h⟩, G3, h3, s2, t3, ?_⟩
      dsimp only at o3
      cases eb : fb s2 h3 with
      | nx s4 h4 => rw [eb] at o3; exact fun G4 σ4 H4 a4 t4 => ⟨G4, h4, s4, t4, OutS.later a4 o3⟩
      | ct s4 h4 => rw [eb] at o3; exact fun G4 σ4 H4 a4 t4 => ⟨G4, h4, s4, t4, OutS.later a4 o3⟩
      | bk s4 h4 => rw [eb] at o3; exact fun G4 σ4 H4 a4 t4 => o3 G4 σ4 H4 a4 t4
      | rt d h4 => rw [eb] at o3; exact o3
      | rs c p s4 h4 => rw [eb] at o3; exact fun G4 σ4 H4 dct a4 t4 => o3 G4 σ4 H4 dct a4 t4
      | stk => rw [eb] at o3; exact o3.elim
/-- a statement that is never reached -/
theorem ss_never {st : Stmt} : SS X F W st (fun _ _ => .stk) := ⟨fun pins s σ H D I ⟨G, h, s', t, o⟩ => o.elim⟩
end
end Gx

/-! G4: what is walked; list comprehensions. -/
namespace Gx
open PySem L2
/-- a list's items -/
def lstH (h : Hs) : D → Option (List D)
  | .vl l => some l
  | .sl l => some l
  | .ref n => match h[n]? with
    | some (.lst l) => some l
    | _ => none
  | _ => none
/-- of one that was made here -/
def lstW (h : Hs) : D → Option (List D)
  | .vl l => some l
  | .ref n => match h[n]? with
    | some (.lst l) => some l
    | _ => none
  | _ => none
def isTup : D → Bool
  | .tup _ => true
  | _ => false
/-- what must stay while it is walked -/
def stays (d : D) (l : List D) (h : Hs) : Prop := match d with
  | .ref n => h[n]? = some (.lst l)
  | _ => True
def srcOf (d : D) (h : Hs) : R Src := match d with
  | .tup l => .ok ⟨l, fun _ => True⟩ h
  | d => match lstH h d with
    | some l => .ok ⟨l, stays d l⟩ h
    | none => .stk
section
variable {X : Cx} {F : Fr} {W : WX} {G G' G1 G2 : Gh} {H H' H1 H2 : Hp} {σ : L2.St} {s : SD} {h h1 h2 : Hs}
theorem ref_lst {n : Nat} {v : V} {l : List D} (r : HR F G H h) (x : VR F G H (.ref n) v) (e : h[n]? = some (.lst l)) : ∃ p xs, v = .ref p ∧ G.α n = some p ∧ H p = some (.lst xs) ∧ VRL F G H l xs := by
  obtain ⟨p, rfl, hp⟩ := vr_ref.mp x
  obtain ⟨q, hq, u, hu, xs, rfl, hl⟩ := r.obj n _ e
  rw [hp] at hq
  injection hq with hq
  subst hq
  exact ⟨p, xs, rfl, hp, hu, hl⟩
theorem list_ofW {d : D} {v : V} {l : List D} (r : HR F G H h) (x : VR F G H d v) (e : lstW h d = some l) : ∃ p xs, v = .ref p ∧ Rd H p (.lst xs) ∧ VRL F G H l xs := by
  unfold lstW at e
  split at e
  · injection e with e
    subst e
    obtain ⟨p, xs, rfl, hs, hl⟩ := vr_vl.mp x
    exact ⟨p, xs, rfl, hs.1, hl⟩
  · split at e
    · rename_i e0
      injection e with e
      subst e
      obtain ⟨p, xs, rfl, _, hu, hl⟩ := ref_lst r x e0
      exact ⟨p, xs, rfl, .inl hu, hl⟩
    · cases e
  · cases e
theorem list_of {d : D} {v : V} {l : List D} (r : HR F G H h) (x : VR F G H d v) (e : lstH h d = some l) : ∃ p xs, v = .ref p ∧ SqL F.K H p xs ∧ VRL F G H l xs := by
  cases d with
  | sl l' =>
    injection e with e
    subst e
    obtain ⟨p, xs, rfl, hs, hl⟩ := vr_sl.mp x
    refine ⟨p, xs, rfl, ?_, hl⟩
    rcases hs with h1 | h1
    · exact .inl h1.1
    · exact .inr h1
  | vl l' =>
    obtain ⟨p, xs, e1, hs, hl⟩ := list_ofW r x (l := l) e
    exact ⟨p, xs, e1, .inl hs, hl⟩
  | ref n =>
    obtain ⟨p, xs, e1, hs, hl⟩ := list_ofW r x (l := l) e
    exact ⟨p, xs, e1, .inl hs, hl⟩
  | _ => cases e
theorem list_stays {d : D} {v : V} {l : List D} (r : HR F G H h) (x : VR F G H d v) (e : lstH h d = some l) : ∃ p, v = .ref p ∧ ∀ G2 H2 h2, Step G H G2 H2 → HR F G2 H2 h2 → stays d l h2 → ∃ xs, SqL F.K H2 p xs ∧ VRL F G2 H2 l xs := by
  unfold lstH at e
  split at e
  · injection e with e
    subst e
    obtain ⟨p, xs, rfl, hs, hl⟩ := vr_vl.mp x
    exact ⟨p, rfl, fun G2 H2 h2 T r2 _ => ⟨xs, .inl (T.rd (fun n z => hs.2 (r.aB n p z)) hs.1), VRL.step T r.aB _ hl⟩⟩
  · injection e with e
    subst e
    obtain ⟨p, xs, rfl, hs, hl⟩ := vr_sl.mp x
    refine ⟨p, rfl, fun G2 H2 h2 T r2 _ => ⟨xs, ?_, VRL.step T r.aB _ hl⟩⟩
    rcases hs with h1 | h1
    · exact .inl (T.rd (fun n z => h1.2 (r.aB n p z)) h1.1)
    · exact .inr h1
  · split at e
    · rename_i n _ _ e0
      injection e with e
      subst e
      obtain ⟨p, rfl, hp⟩ := vr_ref.mp x
      refine ⟨p, rfl, fun G2 H2 h2 T r2 c => ?_⟩
      obtain ⟨q, xs, e1, _, hu, hl⟩ := ref_lst r2 (vr_ref.mpr ⟨p, rfl, T.ids n p hp⟩) c
      injection e1 with e1
      subst e1
      exact ⟨xs, .inl (.inl hu), hl⟩
    · cases e
  · cases e
theorem yields_of {J : It} {z : Src} (P : Gh → Hp → List V → Prop) (hP : ∀ G2 H2 h2, Step G H G2 H2 → HR F G2 H2 h2 → z.c h2 → ∃ xs, P G2 H2 xs ∧ VRL F G2 H2 z.ds xs)
    (fin : ∀ G2 H2 xs, P G2 H2 xs → ∀ i, xs.length ≤ i → J.stop i H2) (go : ∀ G2 H2 xs, P G2 H2 xs → ∀ i x, xs[i]? = some x → J.go i H2 ∧ ∀ y H3, J.yld i H2 y H3 → H3 = H2 ∧ y = x) : Yields F G H J z := by
  refine ⟨fun G2 H2 h2 T r2 c i hi => ?_, fun G2 H2 h2 T r2 c i d e => ?_⟩
  · obtain ⟨xs, p, hl⟩ := hP G2 H2 h2 T r2 c
    exact fin G2 H2 xs p i (by rw [hl.length]; exact hi)
  · obtain ⟨xs, p, hl⟩ := hP G2 H2 h2 T r2 c
    obtain ⟨v, h1, h2⟩ := VRL.get hl e
    obtain ⟨g1, g2⟩ := go G2 H2 xs p i v h1
    refine ⟨g1, fun y H3 hy => ?_⟩
    obtain ⟨rfl, rfl⟩ := g2 y H3 hy
    exact ⟨Same.refl _, h2⟩
theorem se_iter {tg e : Expr} {f : SD → Hs → R D} (hK : X.K = F.K) (he : SE X F W e f) : SI X F W tg e (fun s h => (f s h).bind srcOf) := by
  refine ⟨fun pins s' σ H R0 I ⟨G, h, s, t, o⟩ => ?_⟩
  dsimp only at o
  by_cases q3 : ∃ d h2, f s h = .ok d h2 ∧ isTup d = true
  · obtain ⟨d0, h0, q, q3⟩ := q3
    refine (pi_tup he).run pins s' σ H R0 I ⟨G, h, s, t, ?_⟩
    rw [q] at o ⊢
    intro v G2 H2 T2 r2 x
    cases d0 with
    | tup l =>
      obtain ⟨p, xs, rfl, hs, hl⟩ := vr_tup.mp x
      rw [hK]
      refine ⟨p, rfl, ⟨xs, hs⟩, o _ G2 H2 T2 r2 ?_⟩
      refine yields_of (fun G3 H3 ys => ys = xs ∧ SqT F.K H3 p xs) (fun G3 H3 h3 T3 r3 _ => ⟨xs, ⟨rfl, T3.sqT hs⟩, VRL.step T3 r2.aB _ hl⟩) (fun G3 H3 ys ⟨e1, k⟩ i hi => ⟨xs, k, by rw [← e1]; exact hi⟩) fun G3 H3 ys ⟨e1, k⟩ i y e => ⟨⟨xs, y, k, by rw [← e1]; exact e⟩, fun z H4 hy => ⟨hy.1, ?_⟩⟩
      subst e1
      exact Option.some.inj ((hy.2 _ k).symm.trans e)
    | _ => cases q3
  · refine (pi_list he).run pins s' σ H R0 I ⟨G, h, s, t, ?_⟩
    cases q : f s h with
    | stk => rw [q] at o; exact o.elim
    | rs c p h2 => rw [q] at o; exact o
    | ok d h2 =>
      rw [q] at o
      intro v G2 H2 T2 r2 x
      have nt : isTup d = false := Bool.eq_false_iff.mpr fun z => q3 ⟨d, h2, q, z⟩
      have es : srcOf d h2 = match lstH h2 d with | some l => .ok ⟨l, stays d l⟩ h2 | none => .stk := by
        cases d <;> first | rfl | cases nt
      have o : OutI F W G σ H R0 (srcOf d h2) := o
      rw [es] at o
      cases ql : lstH h2 d with
      | none => rw [ql] at o; exact o.elim
      | some l =>
        rw [ql] at o
        obtain ⟨p, rfl, k⟩ := list_stays r2 x ql
        obtain ⟨p', xs, e1, hs, _⟩ := list_of r2 x ql
        injection e1 with e1
        subst e1
        rw [hK]
        refine ⟨p, rfl, ⟨xs, hs⟩, o _ G2 H2 T2 r2 ?_⟩
        refine yields_of (fun G3 H3 ys => SqL F.K H3 p ys) (fun G3 H3 h3 T3 r3 c => k G3 H3 h3 T3 r3 c) (fun G3 H3 ys k i hi => ⟨ys, k, hi⟩) fun G3 H3 ys k i y e => ⟨⟨ys, y, k, e⟩, fun z H4 hy => ⟨hy.1, ?_⟩⟩
        exact Option.some.inj ((hy.2 _ k).symm.trans e)
/-! ### range -/
def rngD (lo : Int) (n : Nat) : List D := (List.range n).map fun i => .int (lo + (i : Nat))
theorem rngD_get {lo : Int} {n i : Nat} {d : D} (h : (rngD lo n)[i]? = some d) : i < n ∧ d = .int (lo + (i : Nat)) := by
  unfold rngD at h
  rw [List.getElem?_map] at h
  by_cases hi : i < n
  · rw [List.getElem?_range hi] at h
    exact ⟨hi, (Option.some.inj h).symm⟩
  · rw [List.getElem?_eq_none (by simp; omega)] at h
    cases h
theorem rngD_len {lo : Int} {n : Nat} : (rngD lo n).length = n := by simp [rngD]
theorem yields_rng {lo : Int} {n : Nat} : Yields F G H (Itr lo n) (src0 (rngD lo n)) := by
  refine ⟨fun G2 H2 h2 T r c i hi => by show n ≤ i; rw [← rngD_len (lo := lo) (n := n)]; exact hi, fun G2 H2 h2 T r c i d e => ?_⟩
  obtain ⟨hi, rfl⟩ := rngD_get e
  refine ⟨hi, fun x H3 hy => ?_⟩
  obtain ⟨rfl, rfl⟩ := hy
  exact ⟨Same.refl _, vr_int.mpr rfl⟩
def rngO1 (ds : List D) (h : Hs) : R Src := match ds with
  | [.int j] => if -(2 ^ 62) ≤ j ∧ j < 2 ^ 62 then .ok (src0 (rngD 0 j.toNat)) h else .stk
  | _ => .stk
def rngO2 (ds : List D) (h : Hs) : R Src := match ds with
  | [.int i, .int j] => if -(2 ^ 62) ≤ i ∧ i < 2 ^ 62 ∧ -(2 ^ 62) ≤ j ∧ j < 2 ^ 62 then .ok (src0 (rngD i (j - i).toNat)) h else .stk
  | _ => .stk
theorem vals_int1 {vs : List V} {j : Int} (x : VRL F G H [.int j] vs) : vs = [.int j] := by
  obtain ⟨v, rfl, h⟩ := vrl_onev x
  rw [vr_int.mp h]
theorem vals_int2 {vs : List V} {i j : Int} (x : VRL F G H [.int i, .int j] vs) : vs = [.int i, .int j] := by
  obtain ⟨v, w, rfl, h1, h2⟩ := vrl_two x
  rw [vr_int.mp h1, vr_int.mp h2]
theorem si_range1 {tg a : Expr} {f : SD → Hs → R (List D)} {p pos : Pos} (hg : Gl X "range") (hm : X.mg "range" = none) (hs : starEach [a] X.env = [(false, eval a X.env)]) (ha : SA X F W [a] f) :
    SI X F W tg (.Call (.Name "range" p) [a] [] pos) (fun s h => (f s h).bind rngO1) :=
  ⟨fun pins s' σ H R0 I ⟨G, h, s, t, o⟩ => (pi_range1 hg hm ha hs).run pins s' σ H R0 I (partI t o fun d v h2 G2 H2 T2 t2 x o => by
    unfold rngO1 at o
    split at o
    · rename_i j
      split at o
      · rename_i hh
        exact ⟨j, vals_int1 x, hh.1, hh.2, o _ G2 H2 (Step.refl _ _) t2.hr yields_rng⟩
      · exact o.elim
    · exact o.elim)⟩
theorem si_range2 {tg a b : Expr} {f : SD → Hs → R (List D)} {p pos : Pos} (hg : Gl X "range") (hm : X.mg "range" = none) (hs : starEach [a, b] X.env = [(false, eval a X.env), (false, eval b X.env)]) (hs2 : starEach [b] X.env = [(false, eval b X.env)]) (ha : SA X F W [a, b] f) :
    SI X F W tg (.Call (.Name "range" p) [a, b] [] pos) (fun s h => (f s h).bind rngO2) :=
  ⟨fun pins s' σ H R0 I ⟨G, h, s, t, o⟩ => (pi_range2 hg hm ha hs hs2).run pins s' σ H R0 I (partI t o fun d v h2 G2 H2 T2 t2 x o => by
    unfold rngO2 at o
    split at o
    · rename_i i j
      split at o
      · rename_i hh
        exact ⟨i, j, vals_int2 x, hh, o _ G2 H2 (Step.refl _ _) t2.hr yields_rng⟩
      · exact o.elim
    · exact o.elim)⟩
/-! ### zip of two -/
/-- both tuples or both lists; what must stay -/
def zipO (ds : List D) (h : Hs) : R Src := match ds with
  | [.tup l, .tup m] => .ok (src0 ((l.zip m).map fun p => .tup [p.1, p.2])) h
  | [a, b] => match lstH h a, lstH h b with
    | some l, some m => .ok ⟨(l.zip m).map fun p => .tup [p.1, p.2], fun h' => stays a l h' ∧ stays b m h'⟩ h
    | _, _ => .stk
  | _ => .stk
theorem zip_get {l m : List D} {xs ys : List V} (h1 : VRL F G H l xs) (h2 : VRL F G H m ys) {i : Nat} {d : D} (e : ((l.zip m).map fun p => D.tup [p.1, p.2])[i]? = some d) (rr : HR F G H h) :
    ∃ x y, xs[i]? = some x ∧ ys[i]? = some y ∧ ∀ T, H T = none → VR F G (upd H T (.tup [x, y])) d (.ref T) := by
  rw [List.getElem?_map] at e
  cases q : (l.zip m)[i]? with
  | none => rw [q] at e; cases e
  | some p =>
    rw [q] at e
    injection e with e
    subst e
    obtain ⟨e1, e2⟩ := List.getElem?_zip_eq_some.mp q
    obtain ⟨x, x1, x2⟩ := VRL.get h1 e1
    obtain ⟨y, y1, y2⟩ := VRL.get h2 e2
    refine ⟨x, y, x1, y1, fun T hT => ?_⟩
    have S : Step G H G (upd H T (.tup [x, y])) := Step.same (same_upd hT)
    exact vr_tup.mpr ⟨T, [x, y], rfl, .inl (.inl upd_same), vrl_cons.mpr ⟨x, [y], rfl, VR.step S rr.aB _ x2, vrl_one.mpr (VR.step S rr.aB _ y2)⟩⟩
theorem zip_end {l m : List D} {xs ys : List V} (h1 : VRL F G H l xs) (h2 : VRL F G H m ys) {i : Nat} (hi : ((l.zip m).map fun p => D.tup [p.1, p.2]).length ≤ i) : xs.length ≤ i ∨ ys.length ≤ i := by
  rw [List.length_map, List.length_zip, ← h1.length, ← h2.length] at hi
  omega
theorem si_zip {e e2 : Expr} {elts : List Expr} {kk : Nat} {f : SD → Hs → R (List D)} {p pos tpos : Pos} (hK : X.K = F.K) (hg : Gl X "zip") (hm : X.mg "zip" = none) (hs : starEach [e, e2] X.env = (false, eval e X.env) :: starEach [e2] X.env) (hpl : (backTo pos (starEach [e2] X.env)).any (·.1) = false) (ha : SA X F W [e, e2] f) :
    SI X F W (.Tuple elts kk tpos) (.Call (.Name "zip" p) [e, e2] [] pos) (fun s h => (f s h).bind zipO) :=
  ⟨fun pins s' σ H R0 I ⟨G, h, s, t, o⟩ => (RZ.pi_zipA hg hm ha hs hpl).run pins s' σ H R0 I (partI t o fun d v h1 G1 H1 T1 t1 x o => by
    have main : ∀ (l m : List D) (pa pb : Addr) (PA PB : Gh → Hp → List V → Prop), v = [.ref pa, .ref pb] → (∃ xs, PA G1 H1 xs) → (∃ ys, PB G1 H1 ys) → ∀ c : Hs → Prop, c h1 →
        (∀ G2 H2 h2, Step G1 H1 G2 H2 → HR F G2 H2 h2 → c h2 → ∃ xs ys, PA G2 H2 xs ∧ VRL F G2 H2 l xs ∧ PB G2 H2 ys ∧ VRL F G2 H2 m ys) →
        ∀ J : It, (∀ G2 H2 xs ys, PA G2 H2 xs → PB G2 H2 ys → ∀ i, (xs.length ≤ i ∨ ys.length ≤ i) → J.stop i H2) →
          (∀ G2 H2 xs ys, PA G2 H2 xs → PB G2 H2 ys → ∀ i x y, xs[i]? = some x → ys[i]? = some y → J.go i H2 ∧ ∀ v H3, J.yld i H2 v H3 → ∃ T, H2 T = none ∧ v = .ref T ∧ H3 = upd H2 T (.tup [x, y])) →
          Yields F G1 H1 J ⟨(l.zip m).map fun p => .tup [p.1, p.2], c⟩ := by
      intro l m pa pb PA PB ev _ _ c hc hP J fin go
      refine ⟨fun G2 H2 h2 T r cc i hi => ?_, fun G2 H2 h2 T r cc i d e => ?_⟩
      · obtain ⟨xs, ys, a1, a2, a3, a4⟩ := hP G2 H2 h2 T r cc
        exact fin G2 H2 xs ys a1 a3 i (zip_end a2 a4 hi)
      · obtain ⟨xs, ys, a1, a2, a3, a4⟩ := hP G2 H2 h2 T r cc
        obtain ⟨x, y, x1, y1, k⟩ := zip_get a2 a4 e r
        obtain ⟨g1, g2⟩ := go G2 H2 xs ys a1 a3 i x y x1 y1
        refine ⟨g1, fun v H3 hy => ?_⟩
        obtain ⟨T, hT, rfl, rfl⟩ := g2 v H3 hy
        exact ⟨same_upd hT, k T hT⟩
    unfold zipO at o
    split at o
    · rename_i l m
      obtain ⟨va, vb, rfl, ra, rb⟩ := vrl_two x
      obtain ⟨pa, xs, rfl, hsa, hla⟩ := vr_tup.mp ra
      obtain ⟨pb, ys, rfl, hsb, hlb⟩ := vr_tup.mp rb
      refine ⟨pa, pb, xs, ys, rfl, .inr ⟨by rw [hK]; exact hsa, by rw [hK]; exact hsb, o _ G1 H1 (Step.refl _ _) t1.hr ?_⟩⟩
      rw [hK]
      refine main l m pa pb (fun G2 H2 zs => zs = xs ∧ SqT F.K H2 pa xs) (fun G2 H2 zs => zs = ys ∧ SqT F.K H2 pb ys) rfl ⟨_, rfl, hsa⟩ ⟨_, rfl, hsb⟩ (fun _ => True) trivial (fun G2 H2 h2 T r _ => ⟨xs, ys, ⟨rfl, T.sqT hsa⟩, VRL.step T t1.hr.aB _ hla, ⟨rfl, T.sqT hsb⟩, VRL.step T t1.hr.aB _ hlb⟩) _ ?_ ?_
      · rintro G2 H2 _ _ ⟨rfl, k1⟩ ⟨rfl, k2⟩ i hi
        exact ⟨_, _, k1, k2, hi⟩
      · rintro G2 H2 _ _ ⟨rfl, k1⟩ ⟨rfl, k2⟩ i x y hx hy
        refine ⟨⟨_, _, x, y, k1, k2, hx, hy⟩, fun v H3 hh => ?_⟩
        obtain ⟨T, x', y', rfl, hT, rfl, f1, f2⟩ := hh
        have e1 := Option.some.inj (hx.symm.trans (f1 _ k1))
        have e2 := Option.some.inj (hy.symm.trans (f2 _ k2))
        subst e1 e2
        exact ⟨T, hT, rfl, rfl⟩
    · rename_i a b _
      split at o
      · rename_i l m qa qb
        obtain ⟨va, vb, rfl, ra, rb⟩ := vrl_two x
        obtain ⟨pa, rfl, ka⟩ := list_stays t1.hr ra qa
        obtain ⟨pb, rfl, kb⟩ := list_stays t1.hr rb qb
        obtain ⟨pa', xs, e1, hsa, _⟩ := list_of t1.hr ra qa
        obtain ⟨pb', ys, e2, hsb, _⟩ := list_of t1.hr rb qb
        injection e1 with e1
        injection e2 with e2
        subst e1 e2
        refine ⟨pa, pb, xs, ys, rfl, .inl ⟨by rw [hK]; exact hsa, by rw [hK]; exact hsb, o _ G1 H1 (Step.refl _ _) t1.hr ?_⟩⟩
        rw [hK]
        refine ⟨fun G2 H2 h2 T r cc i hi => ?_, fun G2 H2 h2 T r cc i d e => ?_⟩
        · obtain ⟨xs2, a1, a2⟩ := ka G2 H2 h2 T r cc.1
          obtain ⟨ys2, a3, a4⟩ := kb G2 H2 h2 T r cc.2
          exact ⟨xs2, ys2, a1, a3, zip_end a2 a4 hi⟩
        · obtain ⟨xs2, a1, a2⟩ := ka G2 H2 h2 T r cc.1
          obtain ⟨ys2, a3, a4⟩ := kb G2 H2 h2 T r cc.2
          obtain ⟨x, y, hx, hy, k⟩ := zip_get a2 a4 e r
          refine ⟨⟨_, _, x, y, a1, a3, hx, hy⟩, fun v H3 hh => ?_⟩
          obtain ⟨T, x', y', rfl, hT, rfl, f1, f2⟩ := hh
          have e1 := Option.some.inj (hx.symm.trans (f1 _ a1))
          have e2 := Option.some.inj (hy.symm.trans (f2 _ a3))
          subst e1 e2
          exact ⟨same_upd hT, k T hT⟩
      · exact o.elim
    · exact o.elim)⟩
end
end Gx

/-! G5: list comprehensions. -/
namespace Gx
open PySem L2
abbrev W0 : WX := fun _ _ _ _ => False
def wipeS (s : SD) : List Nat → SD
  | [] => s
  | v :: vs => (wipeS s vs).set v none
theorem wipeS_len (s : SD) : ∀ vs : List Nat, (wipeS s vs).length = s.length
  | [] => rfl
  | v :: vs => by unfold wipeS; rw [List.length_set, wipeS_len s vs]
theorem wipeS_some {s : SD} {i : Nat} {d : D} : ∀ {vs : List Nat}, (wipeS s vs)[i]? = some (some d) → s[i]? = some (some d) ∧ i ∉ vs
  | [], h => ⟨h, by simp⟩
  | v :: vs, h => by
    unfold wipeS at h
    by_cases e : i = v
    · subst e
      by_cases hl : i < (wipeS s vs).length
      · rw [List.getElem?_set_self hl] at h; cases h
      · rw [List.getElem?_eq_none (by rw [List.length_set]; omega)] at h; cases h
    · rw [List.getElem?_set_ne (Ne.symm e)] at h
      obtain ⟨h1, h2⟩ := wipeS_some (vs := vs) h
      exact ⟨h1, by simp [e, h2]⟩
theorem wipe_keep {σ : L2.St} {i : Nat} {v : V} : ∀ {vs : List Nat}, i ∉ vs → σ[i]? = some (some v) → (wipe σ vs)[i]? = some (some v)
  | [], _, h => h
  | w :: vs, n, h => by
    unfold wipe
    have n1 : w ≠ i := fun e => n (by simp [e])
    rw [List.getElem?_set_ne n1]
    exact wipe_keep (fun z => n (List.mem_cons_of_mem _ z)) h
theorem set_set_none {σ : L2.St} {i j : Nat} {x : Option V} : (σ.set i x).set j none = if i = j then σ.set j none else (σ.set j none).set i x := by
  split
  · rename_i h; subst h; rw [List.set_set]
  · rename_i h; rw [List.set_comm _ _ h]
theorem wipe_set {σ : L2.St} {i : Nat} {x : Option V} : ∀ {vs : List Nat}, wipe (σ.set i x) vs = if i ∈ vs then wipe σ vs else (wipe σ vs).set i x
  | [] => by simp [wipe]
  | w :: vs => by
    unfold wipe
    rw [wipe_set (vs := vs)]
    by_cases h : i ∈ vs
    · rw [if_pos h, if_pos (List.mem_cons_of_mem _ h)]
    · rw [if_neg h, set_set_none]
      by_cases e : i = w
      · rw [if_pos e, if_pos (by simp [e])]
      · rw [if_neg e, if_neg (by simp [e, h])]
theorem wipe_in {σ : L2.St} {vs : List Nat} {i : Nat} {x : Option V} (h : i ∈ vs) : wipe (σ.set i x) vs = wipe σ vs := by rw [wipe_set, if_pos h]
theorem wipe_setAll : ∀ {is : List Nat} {σ : L2.St} {ws : List V} {vs : List Nat}, (∀ i ∈ is, i ∈ vs) → wipe (setAll σ is ws) vs = wipe σ vs
  | [], _, _, _, _ => by simp [setAll]
  | i :: is, _, [], _, _ => by simp [setAll]
  | i :: is, σ, w :: ws, vs, h => by
    unfold setAll
    rw [wipe_setAll (fun j hj => h j (List.mem_cons_of_mem _ hj)), wipe_in (h i List.mem_cons_self)]
theorem wipe_wipe {σ : L2.St} {vs : List Nat} : ∀ {ws : List Nat}, (∀ i ∈ ws, i ∈ vs) → wipe (wipe σ ws) vs = wipe σ vs
  | [], _ => rfl
  | w :: ws, h => by
    show wipe ((wipe σ ws).set w none) vs = wipe σ vs
    rw [wipe_in (h w List.mem_cons_self), wipe_wipe fun j hj => h j (List.mem_cons_of_mem _ hj)]
/-- what raises is not served -/
def nr {α : Type} (x : R α) : R α := match x with
  | .rs _ _ _ => .stk
  | y => y
open Classical in
noncomputable def lcL (c : Hs → Prop) (ft : D → SD → Option SD) (fb fe : SD → Hs → R D) (s : SD) : List D → Hs → R (List D)
  | [], h => if c h then .ok [] h else .stk
  | d :: r, h => if c h then (match ft d s with
    | none => .stk
    | some s1 => (nr (toB (fb s1 h))).bind fun b h1 => match b with
      | true => (nr (fe s1 h1)).bind fun y h2 => (lcL c ft fb fe s r h2).bind fun ys h3 => .ok (y :: ys) h3
      | false => lcL c ft fb fe s r h1) else .stk
/-- a list that was made: a value, or an object of the store -/
def newL (m : Bool) (l : List D) (h : Hs) : R D := match m with
  | false => .ok (.vl l) h
  | true => .ok (.ref h.length) (h ++ [.lst l])
noncomputable def lcO (m : Bool) (ft : D → SD → Option SD) (fb fe : SD → Hs → R D) (vs : List Nat) (s : SD) (z : Src) (h : Hs) : R D :=
  if z.ds.length ≤ 16777216 then (lcL z.c ft fb fe (wipeS s vs) z.ds h).bind (newL m) else .stk
/-- with one more place that is nobody's to look at -/
def Gh.hide (G : Gh) (q : Addr) : Gh := ⟨G.α, fun p => G.B p ∨ p = q⟩
def Gh.show (G : Gh) (q : Addr) : Gh := ⟨G.α, fun p => G.B p ∧ p ≠ q⟩
section
variable {X : Cx} {F : Fr} {W : WX} {G G' G1 G2 : Gh} {H H' H1 H2 : Hp} {σ : L2.St} {s : SD} {h h1 h2 : Hs}
theorem St.wipe (t : St F G h s σ H) (vs : List Nat) : St F G h (wipeS s vs) (L2.wipe σ vs) H :=
  ⟨fun i d e => by
    obtain ⟨h1, h2⟩ := wipeS_some e
    obtain ⟨v, h3, h4⟩ := t.slot i d h1
    exact ⟨v, wipe_keep h2 h3, h4⟩, t.hr, by rw [wipeS_len, wipe_length, t.len]⟩
mutual
theorem VR.al (a : ∀ n p, G.α n = some p → G'.α n = some p) (b : ∀ p, G'.B p → G.B p) : ∀ (d : D) {v : V}, VR F G H d v → VR F G' H d v
  | .non, _, h => vr_non.mpr (vr_non.mp h)
  | .bl _, _, h => vr_bl.mpr (vr_bl.mp h)
  | .int _, _, h => vr_int.mpr (vr_int.mp h)
  | .str _, _, h => vr_str.mpr (vr_str.mp h)
  | .exc _ _, _, h => by
    obtain ⟨a, d, e, ⟨h1, h2⟩, h3⟩ := vr_exc.mp h
    exact vr_exc.mpr ⟨a, d, e, ⟨h1, fun w => h2 (b a w)⟩, h3.al b⟩
  | .tup l, _, h => by
    obtain ⟨p, xs, e, hs, hl⟩ := vr_tup.mp h
    exact vr_tup.mpr ⟨p, xs, e, hs, VRL.al a b l hl⟩
  | .vl l, _, h => by
    obtain ⟨p, xs, e, hs, hl⟩ := vr_vl.mp h
    exact vr_vl.mpr ⟨p, xs, e, ⟨hs.1, fun w => hs.2 (b p w)⟩, VRL.al a b l hl⟩
  | .sl l, _, h => by
    obtain ⟨p, xs, e, hs, hl⟩ := vr_sl.mp h
    exact vr_sl.mpr ⟨p, xs, e, hs.imp (fun z => ⟨z.1, fun w => z.2 (b p w)⟩) id, VRL.al a b l hl⟩
  | .vd k l, _, h => by
    obtain ⟨p, qs, vs, e, hs, hl, h1, h2⟩ := vr_vd.mp h
    exact vr_vd.mpr ⟨p, qs, vs, e, ⟨hs.1, fun w => hs.2 (b p w)⟩, hl, VRL.al a b k h1, VRL.al a b l h2⟩
  | .ref n, _, h => by
    obtain ⟨p, e, hp⟩ := vr_ref.mp h
    exact vr_ref.mpr ⟨p, e, a n p hp⟩
theorem VRL.al (a : ∀ n p, G.α n = some p → G'.α n = some p) (b : ∀ p, G'.B p → G.B p) : ∀ (l : List D) {xs : List V}, VRL F G H l xs → VRL F G' H l xs
  | [], _, h => vrl_nil.mpr (vrl_nil.mp h)
  | d :: t, _, h => by
    obtain ⟨v, vr, e, h1, h2⟩ := vrl_cons.mp h
    exact vrl_cons.mpr ⟨v, vr, e, VR.al a b d h1, VRL.al a b t h2⟩
end
/-- the hidden place is written -/
theorem Step.hid {q : Addr} {u : HO} (hq : ∃ xs, H q = some (.lst xs)) (n : ∀ m, G.α m ≠ some q) : ∀ p xs, Rd H p (.tup xs) → Rd (upd H q u) p (.tup xs) := fun p xs r => by
  obtain ⟨ys, hq⟩ := hq
  have : p ≠ q := fun z => by
    subst z
    rcases r with r | ⟨o, r⟩ <;> (rw [hq] at r; cases r)
  rcases r with r | ⟨o, r⟩
  · exact .inl (by rw [upd_ne this]; exact r)
  · exact .inr ⟨o, by rw [upd_ne this]; exact r⟩
theorem Pay.hid {q : Addr} {u : HO} (hb : G.B q) : ∀ {d : Option Addr} {p : Option Int}, Pay G H d p → Pay G (upd H q u) d p
  | none, none, _ => trivial
  | some d, some i, ⟨h1, h2⟩ => by
    have : d ≠ q := fun w => h2 (w ▸ hb)
    exact ⟨by rw [upd_ne this]; exact h1, h2⟩
  | some d, none, h => h
  | none, some i, h => h
mutual
theorem VR.hid {q : Addr} {u : HO} (hb : G.B q) (ht : ∀ p xs, Rd H p (.tup xs) → Rd (upd H q u) p (.tup xs)) : ∀ (d : D) {v : V}, VR F G H d v → VR F G (upd H q u) d v
  | .non, _, h => vr_non.mpr (vr_non.mp h)
  | .bl _, _, h => vr_bl.mpr (vr_bl.mp h)
  | .int _, _, h => vr_int.mpr (vr_int.mp h)
  | .str _, _, h => vr_str.mpr (vr_str.mp h)
  | .exc _ _, _, h => by
    obtain ⟨a, d, e, ⟨h1, h2⟩, h3⟩ := vr_exc.mp h
    have : a ≠ q := fun w => h2 (w ▸ hb)
    exact vr_exc.mpr ⟨a, d, e, ⟨by rw [upd_ne this]; exact h1, h2⟩, h3.hid hb⟩
  | .tup l, _, h => by
    obtain ⟨p, xs, e, hs, hl⟩ := vr_tup.mp h
    exact vr_tup.mpr ⟨p, xs, e, hs.imp (ht p xs) id, VRL.hid hb ht l hl⟩
  | .vl l, _, h => by
    obtain ⟨p, xs, e, hs, hl⟩ := vr_vl.mp h
    refine vr_vl.mpr ⟨p, xs, e, ⟨?_, hs.2⟩, VRL.hid hb ht l hl⟩
    have : p ≠ q := fun w => hs.2 (w ▸ hb)
    rcases hs.1 with r | ⟨o, r⟩
    · exact .inl (by rw [upd_ne this]; exact r)
    · exact .inr ⟨o, by rw [upd_ne this]; exact r⟩
  | .sl l, _, h => by
    obtain ⟨p, xs, e, hs, hl⟩ := vr_sl.mp h
    refine vr_sl.mpr ⟨p, xs, e, hs.imp (fun z => ⟨?_, z.2⟩) id, VRL.hid hb ht l hl⟩
    have : p ≠ q := fun w => z.2 (w ▸ hb)
    rcases z.1 with r | ⟨o, r⟩
    · exact .inl (by rw [upd_ne this]; exact r)
    · exact .inr ⟨o, by rw [upd_ne this]; exact r⟩
  | .vd k l, _, h => by
    obtain ⟨p, qs, vs, e, z, hl, h1, h2⟩ := vr_vd.mp h
    refine vr_vd.mpr ⟨p, qs, vs, e, ⟨?_, z.2⟩, hl, VRL.hid hb ht k h1, VRL.hid hb ht l h2⟩
    have : p ≠ q := fun w => z.2 (w ▸ hb)
    rw [upd_ne this]
    exact z.1
  | .ref n, _, h => by
    obtain ⟨p, e, hp⟩ := vr_ref.mp h
    exact vr_ref.mpr ⟨p, e, hp⟩
theorem VRL.hid {q : Addr} {u : HO} (hb : G.B q) (ht : ∀ p xs, Rd H p (.tup xs) → Rd (upd H q u) p (.tup xs)) : ∀ (l : List D) {xs : List V}, VRL F G H l xs → VRL F G (upd H q u) l xs
  | [], _, h => vrl_nil.mpr (vrl_nil.mp h)
  | d :: t, _, h => by
    obtain ⟨v, vr, e, h1, h2⟩ := vrl_cons.mp h
    exact vrl_cons.mpr ⟨v, vr, e, VR.hid hb ht d h1, VRL.hid hb ht t h2⟩
end
theorem HR.hid {q : Addr} {u : HO} (r : HR F G H h) (hb : G.B q) (n : ∀ m, G.α m ≠ some q) (ht : ∀ p xs, Rd H p (.tup xs) → Rd (upd H q u) p (.tup xs)) : HR F G (upd H q u) h where
  obj := fun m o e => by
    obtain ⟨p, e1, w, hw, ho⟩ := r.obj m o e
    exact ⟨p, e1, w, by rw [upd_ne (fun z => n m (by rw [← z]; exact e1))]; exact hw, ho.imp fun l xs z => VRL.hid hb ht l z⟩
  dom := r.dom
  inj := r.inj
  aB := r.aB
  hot := fun a e => let ⟨c, d, h1, h2⟩ := r.hot a e; ⟨c, d, by rw [upd_ne (show a ≠ q from fun z => h2 (by rw [z]; exact hb))]; exact h1, h2⟩
  bt := fun p b => by
    by_cases z : p = q
    · subst z; rw [upd_same]; exact fun z => nomatch z
    · rw [upd_ne z]; exact r.bt p b
theorem lc_imp {m : Bool} {own : List (Str × Nat)} {fi : SD → Hs → R Src} {is : List Nat} {ft : D → SD → Option SD} {g : TG} {fb fe : SD → Hs → R D} {tt : TT} (tok : TgOk F is ft g) (his : ∀ i ∈ is, i ∈ own.map (·.2)) (htt : ∀ σ H Q, lift F W0 relB (fun s h => toB (fb s h)) σ H Q → tt σ H Q)
    {σ : L2.St} {H : Hp} {Q : VK} (hh : lift F W (VR F) (fun s h => (fi s h).bind (lcO m ft fb fe (own.map (·.2)) s)) σ H Q) : tLc (liftI F W fi) g tt (lift F W0 (VR F) fe) (own.map (·.2)) σ H Q := by
  obtain ⟨G, h, s, t, o⟩ := hh
  refine ⟨G, h, s, t, ?_⟩
  dsimp only at o
  cases q : fi s h with
  | stk => rw [q] at o; exact o.elim
  | rs c p h2 => rw [q] at o; exact o
  | ok z h1 =>
    rw [q] at o
    dsimp only [R.bind] at o
    unfold lcO at o
    split at o
    case isFalse => exact o.elim
    rename_i hsz
    intro J G1 H1 T1 r1 y Dl hD
    have t1 := t.step T1 r1
    have o1 : Out F W G1 σ H1 (VR F) Q ((lcL z.c ft fb fe (wipeS s (own.map (·.2))) z.ds h1).bind (newL m)) := Out.later T1 o
    -- the start, with the new list hidden
    have T2 : Step G1 H1 (G1.hide Dl) (upd H1 Dl (.lst [])) := by
      have S : Step G1 H1 G1 (upd H1 Dl (.lst [])) := Step.same (same_upd hD)
      exact ⟨S.ids, S.new, S.keep, S.tup, fun p hp b => b.elim id fun z => (hp (z ▸ hD)).elim, fun p b => .inl b, S.there, S.frz⟩
    have r2 : HR F (G1.hide Dl) (upd H1 Dl (.lst [])) h1 := by
      have S := r1.same (same_upd hD (o := .lst []))
      refine ⟨fun n o e => ?_, S.dom, S.inj, fun n p e => .inl (S.aB n p e), fun p b => ?_, fun a q => let ⟨c, d, h1, h2⟩ := S.hot a q; ⟨c, d, h1, fun z => z.elim h2 fun w => by rw [w, upd_same] at h1; cases h1⟩⟩
      · obtain ⟨p, e1, u, hu, ho⟩ := r1.obj n o e
        exact ⟨p, e1, u, same_upd hD _ _ hu, ho.step T2 r1.aB⟩
      · rcases b with b | rfl
        · exact S.bt p b
        · rw [upd_same]; exact fun z => nomatch z
    refine ⟨fun i k H2 => k = z.ds.length - i ∧ i ≤ z.ds.length ∧ ∃ (G2 : Gh) (h2 : Hs) (acc : List V) (ys : List D), Step G1 H1 G2 H2 ∧ HR F G2 H2 h2 ∧ G2.B Dl ∧ (∀ n, G2.α n ≠ some Dl) ∧ H2 Dl = some (.lst acc) ∧ acc.length ≤ i ∧ VRL F G2 H2 ys acc ∧
        Out F W G1 σ H1 (VR F) Q ((lcL z.c ft fb fe (wipeS s (own.map (·.2))) (z.ds.drop i) h2).bind fun zs h => newL m (ys ++ zs) h),
      ⟨z.ds.length, by simp, Nat.zero_le _, G1.hide Dl, h1, [], [], T2, r2, .inr rfl, fun n e => r1.bt Dl (r1.aB n Dl e) hD, upd_same, Nat.le_refl _, vrl_nil.mpr rfl, o1⟩, ?_⟩
    rintro i k H2 ⟨rfl, hi, G2, h2, acc, ys, T12, r2, bD, nD, hDl, hacc, hy, oA⟩
    by_cases hlt : i < z.ds.length
    · have ed : z.ds[i]? = some z.ds[i] := List.getElem?_eq_getElem hlt
      rw [List.drop_eq_getElem_cons hlt] at oA
      unfold lcL at oA
      split at oA
      case isFalse => exact oA.elim
      rename_i hc
      obtain ⟨go, yl⟩ := y.go G2 H2 h2 T12 r2 hc i _ ed
      refine .inr ⟨go, fun H' => ∃ (G2 : Gh) (h2 : Hs) (acc : List V) (ys : List D), Step G1 H1 G2 H' ∧ HR F G2 H' h2 ∧ G2.B Dl ∧ (∀ n, G2.α n ≠ some Dl) ∧ H' Dl = some (.lst acc) ∧ acc.length ≤ i + 1 ∧ VRL F G2 H' ys acc ∧
        Out F W G1 σ H1 (VR F) Q ((lcL z.c ft fb fe (wipeS s (own.map (·.2))) (z.ds.drop (i + 1)) h2).bind fun zs h => newL m (ys ++ zs) h),
        fun H' a => ⟨z.ds.length - (i + 1), by omega, rfl, hlt, a⟩, fun x H3 hyl => ?_⟩
      obtain ⟨sm, vx⟩ := yl x H3 hyl
      have T23 : Step G2 H2 G2 H3 := Step.same sm
      have r3 := r2.same sm
      have t3 : St F G2 h2 (wipeS s (own.map (·.2))) (L2.wipe σ (own.map (·.2))) H3 := (t1.step (T12.trans T23) r3).wipe _
      cases e : ft z.ds[i] (wipeS s (own.map (·.2))) with
      | none => rw [e] at oA; exact oA.elim
      | some s3 =>
        rw [e] at oA
        dsimp only at oA
        refine tok G2 H3 h2 _ _ x z.ds[i] s3 t3 vx e _ fun ws t3 => ⟨?_, ?_⟩
        · rw [wipe_setAll his, wipe_wipe fun _ h => h]
        · refine htt _ _ _ ⟨G2, h2, s3, t3, ?_⟩
          cases eb : toB (fb s3 h2) with
          | stk => rw [eb] at oA; exact oA.elim
          | rs c p h => rw [eb] at oA; exact oA.elim
          | ok b h4 =>
            rw [eb] at oA
            show Out F W0 G2 _ H3 relB _ (toB (fb s3 h2))
            rw [eb]
            rintro b' G4 H4 T34 r4 rfl
            have T24 := T23.trans T34
            have D4 : H4 Dl = some (.lst acc) := T24.keep _ _ hDl nD
            have B4 : G4.B Dl := T24.bans _ bD
            have N4 : ∀ n, G4.α n ≠ some Dl := fun n e => by
              rcases T24.new n Dl e with z | z
              · exact nD n z
              · rw [hDl] at z; cases z
            have V4 := VRL.step T24 r2.aB _ hy
            cases b with
            | false => exact iteF ⟨G4, h4, acc, ys, T12.trans T24, r4, B4, N4, D4, Nat.le_succ_of_le hacc, V4, oA⟩
            | true =>
              refine iteT ⟨G4, h4, s3, t3.step T34 r4, ?_⟩
              dsimp only [nr, R.bind] at oA
              cases ee : fe s3 h4 with
              | stk => rw [ee] at oA; exact oA.elim
              | rs c p h => rw [ee] at oA; exact oA.elim
              | ok yv h5 =>
                rw [ee] at oA
                intro v G5 H5 T45 r5 vy
                have T25 := T24.trans T45
                have D5 : H5 Dl = some (.lst acc) := T25.keep _ _ hDl nD
                have B5 : G5.B Dl := T25.bans _ bD
                have N5 : ∀ n, G5.α n ≠ some Dl := fun n e => by
                  rcases T25.new n Dl e with z | z
                  · exact nD n z
                  · rw [hDl] at z; cases z
                have ht := Step.hid (u := .lst (acc ++ [v])) ⟨_, D5⟩ N5
                refine ⟨acc, D5, Nat.lt_of_le_of_lt hacc (Nat.lt_of_lt_of_le hlt (by rw [sizeLine_eq]; exact hsz)), G5, h5, acc ++ [v], ys ++ [yv], ?_, r5.hid B5 N5 ht, B5, N5, upd_same, by simp; omega, VRL.append (VRL.hid B5 ht _ (VRL.step T25 r2.aB _ hy)) (vrl_one.mpr (VR.hid B5 ht _ vy)), ?_⟩
                · have T15 := T12.trans T25
                  refine ⟨T15.ids, T15.new, fun p u e na => ?_, fun p xs r => ht p xs (T15.tup p xs r), T15.ban, T15.bans, fun p hp => ?_, fun p o u e => by rw [upd_ne (ne_of_none e hD)]; exact T15.frz p o u e⟩
                  · rw [upd_ne (ne_of_none e hD)]; exact T15.keep p u e na
                  · by_cases w : p = Dl
                    · subst w; rw [upd_same]; exact fun z => nomatch z
                    · rw [upd_ne w]; exact T15.there p hp
                · have oA : Out F W G1 σ H1 (VR F) Q (((lcL z.c ft fb fe (wipeS s (own.map (·.2))) (z.ds.drop (i + 1)) h5).bind fun ys' h3 => R.ok (yv :: ys') h3).bind fun zs h => newL m (ys ++ zs) h) := oA
                  cases er : lcL z.c ft fb fe (wipeS s (own.map (·.2))) (z.ds.drop (i + 1)) h5 with
                  | stk => rw [er] at oA; exact oA.elim
                  | rs c p h => rw [er] at oA; exact oA
                  | ok zs h6 =>
                    rw [er] at oA
                    dsimp only [R.bind] at oA ⊢
                    rw [List.append_assoc]
                    exact oA
    · obtain rfl : i = z.ds.length := by omega
      rw [List.drop_length] at oA
      unfold lcL at oA
      split at oA
      case isFalse => exact oA.elim
      rename_i hc
      refine .inl ⟨y.fin G2 H2 h2 T12 r2 hc _ (Nat.le_refl _), ?_⟩
      have oB : Out F W G1 σ H1 (VR F) Q (newL m (ys ++ []) h2) := oA
      rw [List.append_nil] at oB
      cases m with
      | false =>
        have sm : ∀ n p, G2.α n = some p → (G2.show Dl).α n = some p := fun _ _ e => e
        have bb : ∀ p, (G2.show Dl).B p → G2.B p := fun p b => b.1
        refine oB (.ref Dl) (G2.show Dl) H2 ⟨T12.ids, T12.new, T12.keep, T12.tup, fun p hp b => T12.ban p hp b.1, fun p b => ⟨T12.bans p b, fun e => r1.bt p b (e ▸ hD)⟩, T12.there, T12.frz⟩ ?_ (vr_vl.mpr ⟨Dl, acc, rfl, ⟨.inl hDl, fun b => b.2 rfl⟩, VRL.al (G' := G2.show Dl) sm bb _ hy⟩)
        exact ⟨fun n o e => by
          obtain ⟨p, e1, u, hu, ho⟩ := r2.obj n o e
          exact ⟨p, e1, u, hu, ho.imp fun l xs z => VRL.al (G' := G2.show Dl) sm bb l z⟩, r2.dom, r2.inj, fun n p e => ⟨r2.aB n p e, fun z => nD n (z ▸ e)⟩, fun p b => r2.bt p b.1, fun a q => let ⟨c, d, h1, h2⟩ := r2.hot a q; ⟨c, d, h1, fun z => h2 z.1⟩⟩
      | true =>
        have ids : ∀ n p, G2.α n = some p → (if n = h2.length then some Dl else G2.α n) = some p := fun n p e => by
          have := r2.dom n p e
          rw [if_neg (by omega)]; exact e
        have vr : ∀ l xs, VRL F G2 H2 l xs → VRL F ⟨fun n => if n = h2.length then some Dl else G2.α n, G2.B⟩ H2 l xs := fun l xs hl => VRL.al (G' := ⟨fun n => if n = h2.length then some Dl else G2.α n, G2.B⟩) ids (fun p b => b) l hl
        refine oB (.ref Dl) ⟨fun n => if n = h2.length then some Dl else G2.α n, G2.B⟩ H2 ⟨fun n p e => ids n p (T12.ids n p e), fun n p e => ?_, T12.keep, T12.tup, T12.ban, T12.bans, T12.there, T12.frz⟩ ?_ (vr_ref.mpr ⟨Dl, rfl, by show (if h2.length = h2.length then some Dl else _) = some Dl; rw [if_pos rfl]⟩)
        · have e : (if n = h2.length then some Dl else G2.α n) = some p := e
          split at e
          · injection e with e; subst e; exact .inr hD
          · exact T12.new n p e
        · refine ⟨fun n o e => ?_, fun n p e => ?_, fun a b p e1 e2 => ?_, fun n p e => ?_, r2.bt, r2.hot⟩
          · rcases Nat.lt_trichotomy n h2.length with hn | hn | hn
            · rw [List.getElem?_append_left hn] at e
              obtain ⟨p, e1, u, hu, ho⟩ := r2.obj n o e
              exact ⟨p, ids n p e1, u, hu, ho.imp fun l xs z => vr l xs z⟩
            · subst hn
              rw [List.getElem?_append_right (Nat.le_refl _), Nat.sub_self] at e
              injection e with e
              subst e
              exact ⟨Dl, by show (if h2.length = h2.length then some Dl else _) = some Dl; rw [if_pos rfl], _, hDl, acc, rfl, vr _ _ hy⟩
            · rw [List.getElem?_eq_none (by simp; omega)] at e; cases e
          · have e : (if n = h2.length then some Dl else G2.α n) = some p := e
            split at e
            · simp; omega
            · have := r2.dom n p e; simp; omega
          · have e1 : (if a = h2.length then some Dl else G2.α a) = some p := e1
            have e2 : (if b = h2.length then some Dl else G2.α b) = some p := e2
            split at e1 <;> split at e2
            · omega
            · injection e1 with e1; subst e1; exact (nD b e2).elim
            · injection e2 with e2; subst e2; exact (nD a e1).elim
            · exact r2.inj a b p e1 e2
          · have e : (if n = h2.length then some Dl else G2.α n) = some p := e
            split at e
            · injection e with e; subst e; exact bD
            · exact r2.aB n p e
theorem se_lc (m : Bool) {elt tg iter : Expr} {ifs : List Expr} {scope : Scope} {own : List (Str × Nat)} {pos : Pos} {fi : SD → Hs → R Src} {is : List Nat} {ft : D → SD → Option SD} {g : TG} {fb fe : SD → Hs → R D} {tt : TT}
    (hc : X.calm = true) (hN : X.N.Nodup) (hi : SI X F W tg iter fi) (ok : BlkOk X.N X.env.scope scope own) (hs : ∀ x, foldedSetIterable iter X.env x = pure x)
    (hg : ∀ (s : Shared) (H : Hp) (C : Addr) (cl : List (Str × Addr)) (fp : List Addr), PG (X.blk s H scope (compEnvC scope cl C X.env) fp) tg g) (tok : TgOk F is ft g) (his : ∀ i ∈ is, i ∈ own.map (·.2))
    (ht : ∀ (s : Shared) (H : Hp) (C : Addr) (cl : List (Str × Addr)) (fp : List Addr), PTs (X.blk s H scope (compEnvC scope cl C X.env) fp) ifs tt) (htt : ∀ σ H Q, lift F W0 relB (fun s h => toB (fb s h)) σ H Q → tt σ H Q)
    (he : ∀ (s : Shared) (H : Hp) (C : Addr) (cl : List (Str × Addr)) (fp : List Addr), SE (X.blk s H scope (compEnvC scope cl C X.env) fp) F W0 elt fe) :
    SE X F W (.ListComp elt [⟨tg, iter, ifs, 0⟩] scope pos) (fun s h => (fi s h).bind (lcO m ft fb fe (own.map (·.2)) s)) :=
  PE.imp (pe_lc hc hN hi ok hg ht he hs) fun σ H Q h => lc_imp tok his htt h
/-- name = [..] on one line -/
theorem ss_setLc (m : Bool) {i : Nat} {y : Str} {py spos : Pos} {elt tg iter : Expr} {ifs : List Expr} {scope : Scope} {own : List (Str × Nat)} {pos : Pos} {fi : SD → Hs → R Src} {is : List Nat} {ft : D → SD → Option SD} {g : TG} {fb fe : SD → Hs → R D} {tt : TT}
    (hc : X.calm = true) (hN : X.N.Nodup) (hy : X.N[i]? = some y) (hyl : X.env.scope.names.lookup y = some .local) (hsw : swapsWith (.ListComp elt [⟨tg, iter, ifs, 0⟩] scope pos) (some (.Name y py)) spos.line X.env = pure true)
    (hi : SI X F W tg iter fi) (ok : BlkOk X.N X.env.scope scope own) (hs : ∀ x, foldedSetIterable iter X.env x = pure x)
    (hg : ∀ (s : Shared) (H : Hp) (C : Addr) (cl : List (Str × Addr)) (fp : List Addr), PG (X.blk s H scope (compEnvC scope cl C X.env) fp) tg g) (tok : TgOk F is ft g) (his : ∀ i ∈ is, i ∈ own.map (·.2))
    (ht : ∀ (s : Shared) (H : Hp) (C : Addr) (cl : List (Str × Addr)) (fp : List Addr), PTs (X.blk s H scope (compEnvC scope cl C X.env) fp) ifs tt) (htt : ∀ σ H Q, lift F W0 relB (fun s h => toB (fb s h)) σ H Q → tt σ H Q)
    (he : ∀ (s : Shared) (H : Hp) (C : Addr) (cl : List (Str × Addr)) (fp : List Addr), SE (X.blk s H scope (compEnvC scope cl C X.env) fp) F W0 elt fe) :
    SS X F W (.Assign [.Name y py] (.ListComp elt [⟨tg, iter, ifs, 0⟩] scope pos) spos) (fun s h => ((fi s h).bind (lcO m ft fb fe (own.map (·.2)) s)).thenO s (setO i s)) :=
  PS.imp (ps_setLc hc hN hy hyl hsw hi ok hg ht he hs) fun Dn σ H ⟨G, h, s, t, o⟩ => lc_imp tok his htt (partS (rel := VR F) (Q' := fun x H1 => gName i x σ H1 Dn.nx) (f := fun s h => (fi s h).bind (lcO m ft fb fe (own.map (·.2)) s)) t o fun d v h2 G2 H2 T t2 x o => set_out t2 o x)
end
end Gx

/-! G6: operators, comparisons, displays, subscripts, slices, built-ins. -/
namespace Gx
open PySem L2
theorem le_line {n : Nat} (h : n ≤ 16777216) : n ≤ sizeLine := by rw [sizeLine_eq]; exact h
/-- keys of a dict: numbers and texts -/
def kyD : D → Option Key
  | .int i => some (.inl i)
  | .str x => some (.inr x)
  | _ => none
/-- what stands under a key -/
def dFind (k l : List D) (q : Key) : Option D := ((k.zip l).find? fun p => decide (kyD p.1 = some q)).map (·.2)
/-- the keys and the values of a dict -/
def dicH (h : Hs) : D → Option (List D × List D)
  | .vd k l => some (k, l)
  | .ref n => match h[n]? with
    | some (.dic k l) => some (k, l)
    | some (.fdc k l) => some (k, l)
    | _ => none
  | _ => none
/-- .. that is not locked -/
def dicU (h : Hs) : D → Option (List D × List D)
  | .vd k l => some (k, l)
  | .ref n => match h[n]? with
    | some (.dic k l) => some (k, l)
    | _ => none
  | _ => none
section
variable {F : Fr} {G : Gh} {H : Hp} {h : Hs}
theorem dic_of {d : D} {v : V} {k l : List D} (r : HR F G H h) (x : VR F G H d v) (e : dicH h d = some (k, l)) : ∃ (p : Addr) (qs : List Key) (vs : List V), v = .ref p ∧ Rd H p (.dK (qs.zip vs)) ∧ qs.length = vs.length ∧ VRL F G H k (qs.map kV) ∧ VRL F G H l vs := by
  unfold dicH at e
  split at e
  · injection e with e
    injection e with e1 e2
    subst e1 e2
    obtain ⟨p, qs, vs, e, z, hl, h1, h2⟩ := vr_vd.mp x
    exact ⟨p, qs, vs, e, .inl z.1, hl, h1, h2⟩
  · rename_i n
    split at e
    · rename_i k' l' q
      injection e with e
      injection e with e1 e2
      subst e1 e2
      obtain ⟨p, e, hp⟩ := vr_ref.mp x
      obtain ⟨p', hp', u, hu, qs, vs, rfl, hl, h1, h2⟩ := r.obj n _ q
      rw [hp] at hp'
      injection hp' with hp'
      subst hp'
      exact ⟨p, qs, vs, e, .inl hu, hl, h1, h2⟩
    · rename_i k' l' q
      injection e with e
      injection e with e1 e2
      subst e1 e2
      obtain ⟨p, e, hp⟩ := vr_ref.mp x
      obtain ⟨p', hp', u, hu, od, qs, vs, rfl, hl, h1, h2⟩ := r.obj n _ q
      rw [hp] at hp'
      injection hp' with hp'
      subst hp'
      exact ⟨p, qs, vs, e, .inr ⟨od, hu⟩, hl, h1, h2⟩
    · cases e
  · cases e
theorem dicU_dicH {h : Hs} {d : D} {kl : List D × List D} (e : dicU h d = some kl) : dicH h d = some kl := by
  unfold dicU at e
  unfold dicH
  split at e
  · exact e
  · split at e
    · rename_i n _ _ q
      rw [q]
      exact e
    · cases e
  · cases e
theorem dicU_of {d : D} {v : V} {k l : List D} (r : HR F G H h) (x : VR F G H d v) (e : dicU h d = some (k, l)) : ∃ (p : Addr) (qs : List Key) (vs : List V), v = .ref p ∧ H p = some (.dK (qs.zip vs)) ∧ qs.length = vs.length ∧ VRL F G H k (qs.map kV) ∧ VRL F G H l vs := by
  unfold dicU at e
  split at e
  · injection e with e
    injection e with e1 e2
    subst e1 e2
    obtain ⟨p, qs, vs, e, z, hl, h1, h2⟩ := vr_vd.mp x
    exact ⟨p, qs, vs, e, z.1, hl, h1, h2⟩
  · rename_i n
    split at e
    · rename_i k' l' q
      injection e with e
      injection e with e1 e2
      subst e1 e2
      obtain ⟨p, e, hp⟩ := vr_ref.mp x
      obtain ⟨p', hp', u, hu, qs, vs, rfl, hl, h1, h2⟩ := r.obj n _ q
      rw [hp] at hp'
      injection hp' with hp'
      subst hp'
      exact ⟨p, qs, vs, e, hu, hl, h1, h2⟩
    · cases e
  · cases e
theorem ky_of {d : D} {v : V} {q : Key} (x : VR F G H d v) (e : kyD d = some q) : v = kV q := by
  unfold kyD at e
  split at e
  · injection e with e; subst e; exact vr_int.mp x
  · injection e with e; subst e; exact vr_str.mp x
  · cases e
theorem of_ky {d : D} {q : Key} (x : VR F G H d (kV q)) : kyD d = some q := by
  cases d with
  | non => have := vr_non.mp x; cases q <;> cases this
  | bl b => have := vr_bl.mp x; cases q <;> cases this
  | int i => have := vr_int.mp x; cases q <;> cases this; rfl
  | str z => have := vr_str.mp x; cases q <;> cases this; rfl
  | tup l => obtain ⟨p, xs, e, _⟩ := vr_tup.mp x; cases q <;> cases e
  | vl l => obtain ⟨p, xs, e, _⟩ := vr_vl.mp x; cases q <;> cases e
  | sl l => obtain ⟨p, xs, e, _⟩ := vr_sl.mp x; cases q <;> cases e
  | vd k l => obtain ⟨p, xs, vs, e, _⟩ := vr_vd.mp x; cases q <;> cases e
  | ref n => obtain ⟨p, e, _⟩ := vr_ref.mp x; cases q <;> cases e
  | exc c p => obtain ⟨a, d, e, _⟩ := vr_exc.mp x; cases q <;> cases e
/-- what the kit finds -/
theorem find_vr {q : Key} : ∀ {k l : List D} {qs : List Key} {vs : List V}, VRL F G H k (qs.map kV) → VRL F G H l vs → qs.length = vs.length → (∀ d, dFind k l q = some d → ∃ v, valV (qs.zip vs) q = some v ∧ VR F G H d v) ∧ (dFind k l q = none → valV (qs.zip vs) q = none)
  | [], l, qs, vs, h1, h2, hl => by
    have : qs = [] := by
      have := vrl_nil.mp h1
      simpa using this
    subst this
    exact ⟨fun d e => by simp [dFind] at e, fun _ => by simp [valV]⟩
  | a :: k, l, qs, vs, h1, h2, hl => by
    obtain ⟨v0, vr, e, h3, h4⟩ := vrl_cons.mp h1
    cases qs with
    | nil => cases e
    | cons q0 qs =>
      rw [List.map_cons] at e
      injection e with e1 e2
      subst e1 e2
      cases vs with
      | nil => cases hl
      | cons v vs =>
        cases l with
        | nil => have := vrl_nil.mp h2; cases this
        | cons d l =>
          obtain ⟨v', vr', e, h5, h6⟩ := vrl_cons.mp h2
          injection e with e1 e2
          subst e1 e2
          have ih := find_vr (q := q) h4 h6 (by simpa using hl)
          have ek := of_ky h3
          by_cases z : q0 = q
          · subst z
            refine ⟨fun d' e => ⟨v, ?_, ?_⟩, fun e => ?_⟩
            · simp [valV]
            · simp [dFind, ek] at e
              rw [← e]
              exact h5
            · simp [dFind, ek] at e
          · have f1 : dFind (a :: k) (d :: l) q = dFind k l q := by simp [dFind, ek, z]
            have f2 : valV ((q0 :: qs).zip (v :: vs)) q = valV (qs.zip vs) q := by simp [valV, z]
            rw [f1, f2]
            exact ih
theorem dget_of {d e : D} {v w : V} {k l : List D} {q : Key} (r : HR F G H h) (x : VR F G H d v) (y : VR F G H e w) (hd : dicH h d = some (k, l)) (hk : kyD e = some q) : ∃ p, v = .ref p ∧ (∃ kvs, Rd H p (.dK kvs)) ∧ (∀ z, dFind k l q = some z → ∃ u, DGet H p w (some u) ∧ VR F G H z u) ∧ (dFind k l q = none → DGet H p w none) := by
  obtain ⟨p, qs, vs, rfl, hp, hl, h1, h2⟩ := dic_of r x hd
  obtain rfl := ky_of y hk
  obtain ⟨f1, f2⟩ := find_vr (q := q) h1 h2 hl
  refine ⟨p, rfl, ⟨_, hp⟩, fun z e => ?_, fun e => .inl ⟨_, q, hp, rfl, (f2 e).symm⟩⟩
  obtain ⟨u, e1, e2⟩ := f1 z e
  exact ⟨u, .inl ⟨_, q, hp, rfl, e1.symm⟩, e2⟩
end
/-! ### data without the store -/
mutual
def D.rv (f : Nat → D) : D → D
  | .ref n => f n
  | .tup l => .tup (rvL f l)
  | .vl l => .vl (rvL f l)
  | .sl l => .sl (rvL f l)
  | .non => .non
  | .bl b => .bl b
  | .int i => .int i
  | .str x => .str x
  | .vd k l => .vd k l
  | .exc c p => .exc c p
def rvL (f : Nat → D) : List D → List D
  | [] => []
  | d :: r => d.rv f :: rvL f r
end
def rf : Nat → Hs → Nat → D
  | 0, _, n => .ref n
  | k + 1, h, n => match h[n]? with
    | some (.lst l) => .vl (rvL (rf k h) l)
    | _ => .ref n
def rsv (h : Hs) (d : D) : D := d.rv (rf 3 h)
mutual
theorem D.rv_bel (f : Nat → D) : ∀ d : D, d.bel 0 = true → d.rv f = d
  | .non, _ => rfl
  | .bl _, _ => rfl
  | .int _, _ => rfl
  | .str _, _ => rfl
  | .exc _ _, _ => rfl
  | .vd _ _, _ => rfl
  | .tup l, b => by unfold D.rv; rw [rvL_bel f l (by simpa [D.bel] using b)]
  | .vl l, b => by unfold D.rv; rw [rvL_bel f l (by simpa [D.bel] using b)]
  | .sl l, b => by unfold D.rv; rw [rvL_bel f l (by simpa [D.bel] using b)]
  | .ref n, b => by simp [D.bel] at b
theorem rvL_bel (f : Nat → D) : ∀ l : List D, belL 0 l = true → rvL f l = l
  | [], _ => rfl
  | d :: r, b => by
    have b' : d.bel 0 = true ∧ belL 0 r = true := by simpa [belL] using b
    unfold rvL
    rw [D.rv_bel f d b'.1, rvL_bel f r b'.2]
end
mutual
def D.py : D → PyData
  | .non => .none
  | .bl b => .bool b
  | .int i => .int i
  | .str x => .str x
  | .tup l => .tuple (pyL l)
  | .vl l => .list (pyL l)
  | .sl l => .list (pyL l)
  | .vd _ _ => .dict []
  | .ref _ => .dict []
  | .exc _ _ => .dict []
def pyL : List D → List PyData
  | [] => []
  | d :: r => d.py :: pyL r
end
section
variable {F : Fr} {G : Gh} {H : Hp} {h : Hs}
mutual
theorem VR.dp (f : Nat → D) (hf : ∀ n v, VR F G H (.ref n) v → (f n).py.canLay0 = true → Dp F.K H v (f n).py) : ∀ (d : D) {v : V}, (d.rv f).py.canLay0 = true → VR F G H d v → Dp F.K H v (d.rv f).py
  | .non, _, _, h => by rw [vr_non.mp h]; exact .non
  | .bl b, _, _, h => by rw [vr_bl.mp h]; exact .bl b
  | .int b, _, _, h => by rw [vr_int.mp h]; exact .int b
  | .str b, _, _, h => by rw [vr_str.mp h]; exact .str b
  | .tup l, _, n, h => by
    obtain ⟨p, xs, rfl, hs, hl⟩ := vr_tup.mp h
    exact .tup hs (VRL.dp f hf l (by simpa [D.rv, D.py, PyData.canLay0] using n) hl)
  | .vl l, _, n, h => by
    obtain ⟨p, xs, rfl, hs, hl⟩ := vr_vl.mp h
    exact .lst (.inl hs.1) (VRL.dp f hf l (by simpa [D.rv, D.py, PyData.canLay0] using n) hl)
  | .sl l, _, n, h => by
    obtain ⟨p, xs, rfl, hs, hl⟩ := vr_sl.mp h
    refine .lst ?_ (VRL.dp f hf l (by simpa [D.rv, D.py, PyData.canLay0] using n) hl)
    rcases hs with h1 | h1
    · exact .inl h1.1
    · exact .inr h1
  | .ref n, _, c, h => hf n _ h c
  | .vd _ _, _, n, h => by simp [D.rv, D.py, PyData.canLay0] at n
  | .exc _ _, _, n, h => by simp [D.rv, D.py, PyData.canLay0] at n
theorem VRL.dp (f : Nat → D) (hf : ∀ n v, VR F G H (.ref n) v → (f n).py.canLay0 = true → Dp F.K H v (f n).py) : ∀ (l : List D) {xs : List V}, PyData.canLayAll0 (pyL (rvL f l)) = true → VRL F G H l xs → DpAll F.K H xs (pyL (rvL f l))
  | [], _, _, h => by rw [vrl_nil.mp h]; exact .nil
  | d :: r, _, n, h => by
    obtain ⟨v, vr, rfl, h1, h2⟩ := vrl_cons.mp h
    have n' : (d.rv f).py.canLay0 = true ∧ PyData.canLayAll0 (pyL (rvL f r)) = true := by simpa [rvL, pyL, PyData.canLayAll0] using n
    exact .cons (VR.dp f hf d n'.1 h1) (VRL.dp f hf r n'.2 h2)
end
theorem rf_dp (r : HR F G H h) : ∀ (k n : Nat) (v : V), VR F G H (.ref n) v → (rf k h n).py.canLay0 = true → Dp F.K H v (rf k h n).py
  | 0, n, v, x, c => by simp [rf, D.py, PyData.canLay0] at c
  | k + 1, n, v, x, c => by
    unfold rf at c ⊢
    split at c
    · rename_i l e
      obtain ⟨p, xs, rfl, _, hu, hl⟩ := ref_lst r x e
      exact .lst (.inl (.inl hu)) (VRL.dp _ (rf_dp r k) l (by simpa [D.py, PyData.canLay0] using c) hl)
    · simp [D.py, PyData.canLay0] at c
theorem VR.dps (r : HR F G H h) {d : D} {v : V} (c : (rsv h d).py.canLay0 = true) (x : VR F G H d v) : Dp F.K H v (rsv h d).py := VR.dp _ (rf_dp r 3) d c x
end
theorem pyL_map : ∀ l : List D, pyL l = l.map D.py
  | [] => rfl
  | d :: r => by simp [pyL, pyL_map r]
theorem rvL_map (f : Nat → D) : ∀ l : List D, rvL f l = l.map (D.rv f)
  | [] => rfl
  | d :: r => by simp [rvL, rvL_map f r]
def shp (d : D) : Bool := SeqAt.shaped d.py
def eqD (a b : D) : Bool := PyData.eqv a.py b.py
/-- None and numbers -/
def flN : D → Bool
  | .non => true
  | .int _ => true
  | _ => false
def eqN : D → D → Bool
  | .non, .non => true
  | .int i, .int j => decide (i = j)
  | _, _ => false
/-- each key's value stands in the other dict too -/
def dAll (k' l' : List D) (k l : List D) : Bool := (k.zip l).all fun p => match (kyD p.1).bind (dFind k' l') with
  | some d => eqN p.2 d
  | none => false
/-- dicts are equal (None and numbers in them) -/
def dEq (k l k' l' : List D) : Bool := k.length == k'.length && dAll k' l' k l
def dicP (h : Hs) (a b : D) : Option Bool := match dicU h a, dicU h b with
  | some (k, l), some (k', l') => if l.all flN = true ∧ l'.all flN = true ∧ k.length = l.length ∧ k'.length = l'.length then some (dEq k l k' l') else none
  | _, _ => none
def gEq (h : Hs) (a b : D) : Option D := match dicP h a b with
  | some z => some (.bl z)
  | none => if shp (rsv h a) = true ∧ shp (rsv h b) = true then some (.bl (eqD (rsv h a) (rsv h b))) else none
def gNe (h : Hs) (a b : D) : Option D := match dicP h a b with
  | some z => some (.bl (!z))
  | none => if shp (rsv h a) = true ∧ shp (rsv h b) = true then some (.bl (!eqD (rsv h a) (rsv h b))) else none
def inD (a : D) (l : List D) : Bool := l.any fun z => eqD z a
/-- of a list or a tuple -/
def gIn0 (h : Hs) (a b : D) : Option Bool := match rsv h b with
  | .tup l => if shp (rsv h a) = true ∧ shp (rsv h b) = true then some (inD (rsv h a) l) else none
  | .vl l => if shp (rsv h a) = true ∧ shp (rsv h b) = true then some (inD (rsv h a) l) else none
  | _ => none
def gIn (h : Hs) (a b : D) : Option D := match dicH h b with
  | some (k, l) => (kyD a).map fun q => .bl (dFind k l q).isSome
  | none => (gIn0 h a b).map .bl
def gNotIn (h : Hs) (a b : D) : Option D := match dicH h b with
  | some (k, l) => (kyD a).map fun q => .bl (!(dFind k l q).isSome)
  | none => (gIn0 h a b).map fun k => .bl (!k)
def intsOf : List D → Option (List Int)
  | [] => some []
  | .int i :: r => (intsOf r).map (i :: ·)
  | _ :: _ => none
def blsOf : List D → Option (List Bool)
  | [] => some []
  | .bl b :: r => (blsOf r).map (b :: ·)
  | _ :: _ => none
def strsOf : List D → Option (List Str)
  | [] => some []
  | .str b :: r => (strsOf r).map (b :: ·)
  | _ :: _ => none
theorem intsOf_map : ∀ l : List Int, intsOf (l.map .int) = some l
  | [] => rfl
  | i :: r => by show (intsOf (r.map .int)).map (i :: ·) = _; rw [intsOf_map r]; rfl
theorem blsOf_map : ∀ l : List Bool, blsOf (l.map .bl) = some l
  | [] => rfl
  | i :: r => by show (blsOf (r.map .bl)).map (i :: ·) = _; rw [blsOf_map r]; rfl
theorem strsOf_map : ∀ l : List Str, strsOf (l.map .str) = some l
  | [] => rfl
  | i :: r => by show (strsOf (r.map .str)).map (i :: ·) = _; rw [strsOf_map r]; rfl
theorem intsOf_back : ∀ {l : List D} {ns : List Int}, intsOf l = some ns → l = ns.map .int
  | [], ns, e => by injection e with e; subst e; rfl
  | d :: r, ns, e => by
    cases d <;> first | cases e | skip
    rename_i i
    have e : (intsOf r).map (i :: ·) = some ns := e
    cases q : intsOf r with
    | none => rw [q] at e; cases e
    | some ms => rw [q] at e; injection e with e; subst e; rw [intsOf_back q]; rfl
theorem blsOf_back : ∀ {l : List D} {ns : List Bool}, blsOf l = some ns → l = ns.map .bl
  | [], ns, e => by injection e with e; subst e; rfl
  | d :: r, ns, e => by
    cases d <;> first | cases e | skip
    rename_i i
    have e : (blsOf r).map (i :: ·) = some ns := e
    cases q : blsOf r with
    | none => rw [q] at e; cases e
    | some ms => rw [q] at e; injection e with e; subst e; rw [blsOf_back q]; rfl
theorem strsOf_back : ∀ {l : List D} {ns : List Str}, strsOf l = some ns → l = ns.map .str
  | [], ns, e => by injection e with e; subst e; rfl
  | d :: r, ns, e => by
    cases d <;> first | cases e | skip
    rename_i i
    have e : (strsOf r).map (i :: ·) = some ns := e
    cases q : strsOf r with
    | none => rw [q] at e; cases e
    | some ms => rw [q] at e; injection e with e; subst e; rw [strsOf_back q]; rfl
section
variable {F : Fr} {G : Gh} {H : Hp} {h : Hs}
theorem vrl_bls : ∀ {l : List Bool} {xs : List V}, VRL F G H (l.map .bl) xs → xs = l.map V.bl
  | [], xs, h => vrl_nil.mp h
  | i :: r, xs, h => by
    obtain ⟨v, vr, rfl, h1, h2⟩ := vrl_cons.mp h
    rw [vr_bl.mp h1, vrl_bls h2]; rfl
theorem vrl_strs : ∀ {l : List Str} {xs : List V}, VRL F G H (l.map .str) xs → xs = l.map V.str
  | [], xs, h => vrl_nil.mp h
  | i :: r, xs, h => by
    obtain ⟨v, vr, rfl, h1, h2⟩ := vrl_cons.mp h
    rw [vr_str.mp h1, vrl_strs h2]; rfl
end
/-! ### numbers -/
def gAdd (h : Hs) (a b : D) : Option D := match a, b with
  | .int i, .int j => some (.int (i + j))
  | .str a, .str b => if a.length + b.length ≤ 16777216 then some (.str (a ++ b)) else none
  | .tup l, .tup m => if l.length + m.length ≤ 16777216 then some (.tup (l ++ m)) else none
  | a, b => match lstH h a, lstH h b with
    | some l, some m => if l.length + m.length ≤ 16777216 then some (.vl (l ++ m)) else none
    | _, _ => none
def gSub (_ : Hs) (a b : D) : Option D := match a, b with
  | .int i, .int j => some (.int (i - j))
  | _, _ => none
def big : Nat := 2 ^ 8000
def gMul (h : Hs) (a b : D) : Option D := match a, b with
  | .int i, .int j => if i.natAbs < big ∧ j.natAbs < big then some (.int (i * j)) else none
  | a, .int k => match lstW h a with
    | some l => if k < 2 ^ 63 ∧ -(2 ^ 63) ≤ k ∧ l.length * k.toNat ≤ 16777216 then some (.vl (List.replicate k.toNat l).flatten) else none
    | none => none
  | _, _ => none
def gFdiv (_ : Hs) (a b : D) : Option D := match a, b with
  | .int i, .int j => if 0 < j ∧ j.natAbs < big then some (.int (i / j)) else none
  | _, _ => none
def gMod (_ : Hs) (a b : D) : Option D := match a, b with
  | .int i, .int j => if 0 < j then some (.int (i % j)) else none
  | _, _ => none
def gPow (_ : Hs) (a b : D) : Option D := match a, b with
  | .int i, .int j => if 0 ≤ j ∧ j ≤ 1000000 ∧ i.natAbs < 2 ^ 64 then some (.int (i ^ j.toNat)) else none
  | _, _ => none
def gXor (_ : Hs) (a b : D) : Option D := match a, b with
  | .int i, .int j => some (.int (Builtin.bitXor i j))
  | _, _ => none
def gNeg (_ : Hs) : D → Option D
  | .int i => some (.int (-i))
  | _ => none
def gLt (_ : Hs) (a b : D) : Option D := match a, b with
  | .int i, .int j => some (.bl (decide (i < j)))
  | .tup l, .tup m => match intsOf l, intsOf m with
    | some a, some b => some (.bl (HT.lexLt a b))
    | _, _ => none
  | _, _ => none
def gLe (_ : Hs) (a b : D) : Option D := match a, b with
  | .int i, .int j => some (.bl (decide (i ≤ j)))
  | _, _ => none
def gGt (_ : Hs) (a b : D) : Option D := match a, b with
  | .int i, .int j => some (.bl (decide (j < i)))
  | _, _ => none
def gGe (_ : Hs) (a b : D) : Option D := match a, b with
  | .int i, .int j => some (.bl (decide (j ≤ i)))
  | _, _ => none
/-- is: of truths, or beside None -/
def gIs0 (a b : D) : Option Bool := match a, b with
  | .bl a, .bl b => some (decide (a = b))
  | .non, .non => some true
  | _, .non => some false
  | .int _, .bl _ => none
  | _, _ => none
def gIs (_ : Hs) (a b : D) : Option D := (gIs0 a b).map .bl
def gIsNot (_ : Hs) (a b : D) : Option D := (gIs0 a b).map fun k => .bl (!k)
section
variable {K : PySem.W.Frag}
/-- ys + zs of any lists -/
def rCatL (K : PySem.W.Frag) : R2 := fun x y H Q => ∃ l b xs zs, x = .ref l ∧ y = .ref b ∧ SqL K H l xs ∧ SqL K H b zs ∧ xs.length + zs.length ≤ sizeLine ∧ ∀ p, H p = none → Q (.ref p) (upd H p (.lst (xs ++ zs)))
theorem op_catL {X : Cx} : OpR X (binaryOp .Add) (rCatL X.K) := by
  intro pins s σ H x y v u Q I rx ry h
  obtain ⟨l, b, xs, zs, rfl, rfl, hl, hb, hz, q⟩ := h
  cases rx
  cases ry
  obtain ⟨its, r, ⟨⟨c1, d1, t1, k1⟩, n, e1, e2, e3, e4⟩, _⟩ := I.list hl
  obtain ⟨its2, r2, ⟨⟨c2, d2, t2, k2⟩, n2, g1, g2, g3, g4⟩, _⟩ := I.list hb
  dsimp only at e2 e3 e4 g2 g3 g4
  subst e2 e3 e4 g2 g3 g4
  have hs1 := r.length
  have hs2 := r2.length
  refine PySem.concat_meets ⟨_, e1, rfl⟩ ⟨_, g1, rfl⟩ PySem.noFill_list_add PySem.seq_list_add PySem.F.slot_list_add PySem.F.entry_list_add (PySem.F.args_list_add_2 _ _)
    (PyProof.Rows.list_addW l b its.toArray its2.toArray n n2 none none k1 k2 (by rw [List.size_toArray, List.size_toArray]; omega)) ⟨e1, g1, ?_⟩
  rw [show its.toArray ++ its2.toArray = (its ++ its2).toArray by simp]
  exact ⟨.ref _, _, I.lnew (t' := s.toks) (r.append r2) (by rw [List.length_append]; omega), rfl, q _ I.fresh⟩
/-- xs * k of any list -/
def rRepL : R2 := fun x y H Q => ∃ l k xs, x = .ref l ∧ y = .int k ∧ Rd H l (.lst xs) ∧ -(2 ^ 63) ≤ k ∧ k < 2 ^ 63 ∧ xs.length * k.toNat ≤ sizeLine ∧ ∀ p, H p = none → Q (.ref p) (upd H p (.lst (List.replicate k.toNat xs).flatten))
theorem op_repL {X : Cx} : OpR X (binaryOp .Mult) rRepL := by
  intro pins s σ H x y v u Q I rx ry h
  obtain ⟨l, k, xs, rfl, rfl, hH, h1, h2, hz, q⟩ := h
  cases rx
  obtain ⟨t, rfl⟩ := ry
  obtain ⟨z, its, n, r, e⟩ := hH.ok I.hok
  have hl := r.length
  have hlen : its.toArray.size * k.toNat ≤ sizeLine := by rw [List.size_toArray, ← hl]; exact hz
  have hcap : ¬ its.toArray.size * k.toNat > (2 ^ 63 - 1) / 8 := by
    have : (sizeLine : Nat) ≤ (2 ^ 63 - 1) / 8 := by decide
    omega
  have hfit : ¬ (!Builtin.List.listFitsIndex k) = true := by
    rw [fitsIndex_both h1 h2]
    exact Bool.false_ne_true
  have hlong : ¬ Builtin.List.listTooLong (its.toArray.size * k.toNat) = true := by
    rw [notLongL hlen]
    exact Bool.false_ne_true
  have hnew : List.foldl (fun x1 x2 => x1 ++ x2) #[] (List.replicate (if its.toArray.isEmpty = true then 0 else k.toNat) its.toArray) = (List.replicate k.toNat its).flatten.toArray := by
    have f0 : ∀ m : Nat, List.foldl (fun x1 x2 => x1 ++ x2) #[] (List.replicate m its.toArray) = (List.replicate m its).flatten.toArray := fun m => by
      have := foldl_rep its m []
      rw [List.nil_append] at this
      exact this
    rw [f0]
    cases its with
    | nil => simp
    | cons a r' => rw [if_neg (by simp)]
  refine wpAny_binaryOp_repeat_ref (T := "list") (U := "int") (by decide) ⟨_, e, rfl⟩ (fun s' => typeIs_int s' k t) noFill_list_mul F.fills_int_mul F.slot_int_rmul repeat_list F.slot_int_index.lookup
    (call_meets F.slot_int_rmul (typeIs_int s k t) F.entry_int_rmul (F.args_int_rmul_2 _ _) (int___rmul___int_list k t l its.toArray n)
      ⟨e, rfl, ⟨_, e, rfl⟩, call_meets F.slot_list_mul ⟨_, e, rfl⟩ F.entry_list_mul (F.args_list_mul_2 _ _) (AutoListH.list___mul___list_int_3 l its.toArray n k t hfit hcap hlong) ⟨e, ?_⟩⟩)
  rw [hnew]
  exact ⟨.ref _, _, I.lnew (t' := s.toks) (r.rep k.toNat) (by rw [PyProof.Rows.lm_len_rep_flat, Nat.mul_comm]; exact hz), rfl, q _ I.fresh⟩
/-- in, not in, of a list or a tuple -/
def rInQ (K : PySem.W.Frag) (neg : Bool) : R2 := fun x y H Q => ∃ d ds, Dp K H x d ∧ (Dp K H y (.list ds) ∨ Dp K H y (.tuple ds)) ∧ SeqAt.shaped d = true ∧ SeqAt.shaped (.list ds) = true ∧ Q (.bl (if neg = true then !(ds.any fun z => PyData.eqv z d) else (ds.any fun z => PyData.eqv z d))) H
theorem shaped_lt {ds : List PyData} : SeqAt.shaped (.tuple ds) = SeqAt.shaped (.list ds) := rfl
theorem room_q {d : PyData} {ds : List PyData} {A : Around} (h : SeqAt.shaped d = true) (hu : A.units + 65 < cLine) : A.units + 1 + min (PyData.depthAll ds) d.depth < cLine := by
  have h1 := SeqAt.depth_of_shaped h
  have h2 : min (PyData.depthAll ds) d.depth ≤ d.depth := Nat.min_le_right _ _
  omega
theorem op_inQ {X : Cx} (hu : X.A.units + 65 < cLine) : OpR X (compareOp .In) (rInQ X.K false) := by
  intro pins s σ H x y v u Q I rx ry h
  obtain ⟨d, ds, hd, he, sd, se, q⟩ := h
  obtain ⟨as, r1⟩ := Dp.reads I d x v hd rx
  rcases he with he | he
  · obtain ⟨bs, r2⟩ := Dp.reads I (.list ds) y u he ry
    exact SeqAt.in_list_reads r2 r1 (SeqAt.canLay_of_shaped se) (SeqAt.canLay_of_shaped sd) (room_q sd hu) ⟨.bl _, H, I, rfl, q⟩
  · obtain ⟨bs, r2⟩ := Dp.reads I (.tuple ds) y u he ry
    exact SeqAt.in_tuple_reads r2 r1 (SeqAt.canLay_of_shaped se) (SeqAt.canLay_of_shaped sd) (room_q sd hu) ⟨.bl _, H, I, rfl, q⟩
theorem op_notInQ {X : Cx} (hu : X.A.units + 65 < cLine) : OpR X (compareOp .NotIn) (rInQ X.K true) := by
  intro pins s σ H x y v u Q I rx ry h
  obtain ⟨d, ds, hd, he, sd, se, q⟩ := h
  obtain ⟨as, r1⟩ := Dp.reads I d x v hd rx
  rcases he with he | he
  · obtain ⟨bs, r2⟩ := Dp.reads I (.list ds) y u he ry
    exact SeqAt.notIn_list_reads r2 r1 (SeqAt.canLay_of_shaped se) (SeqAt.canLay_of_shaped sd) (room_q sd hu) ⟨.bl _, H, I, rfl, q⟩
  · obtain ⟨bs, r2⟩ := Dp.reads I (.tuple ds) y u he ry
    exact SeqAt.notIn_tuple_reads r2 r1 (SeqAt.canLay_of_shaped se) (SeqAt.canLay_of_shaped sd) (room_q sd hu) ⟨.bl _, H, I, rfl, q⟩
/-- sum(xs) of a list or a tuple of ints -/
def rSumA (K : PySem.W.Frag) : List V → Hp → VK → Prop := fun vs H Q => ∃ (a : Addr) (ns : List Int), vs = [V.ref a] ∧ (SqL K H a (ns.map V.int) ∨ SqT K H a (ns.map V.int)) ∧ Q (.int ns.sum) H
theorem cr_sumA {X : Cx} (hc : X.calm = true) : CallR X (.builtin "sum") (rSumA X.K) := by
  intro pins s σ H vs us Q I r h
  obtain ⟨a, ns, rfl, hs | hs, q⟩ := h
  · exact cr_sum hc pins s σ H [.ref a] us Q I r ⟨a, ns, rfl, hs, q⟩
  · obtain ⟨its, rv, hl, _⟩ := I.tuple hs
    rw [Vals.ref1 r]
    have hi := rv.ints
    obtain ⟨xs, e⟩ := hi.allInts.items
    have hn : numsOf (intItems xs).toList = ns := by rw [← e]; exact hi.numsOf
    rw [nums_intItems] at hn
    rw [e] at hl
    refine PySem.W.ktm_sumG (I.ok.hd hc) hl fun h' tk t' hk => ⟨.int _, H, I.kept hk, ⟨_, rfl⟩, ?_⟩
    rw [preSum_eq, List.take_of_length_le (by simp), hn]
    exact q
end
def maxL (a : Int) (l : List Int) : Int := l.foldl (fun m x => if x > m then x else m) a
def minL (a : Int) (l : List Int) : Int := l.foldl (fun m x => if x < m then x else m) a
theorem maxL_ok : ∀ (l : List Int) (a : Int), (maxL a l = a ∨ maxL a l ∈ l) ∧ a ≤ maxL a l ∧ ∀ y ∈ l, y ≤ maxL a l
  | [], a => ⟨.inl rfl, Int.le_refl _, fun y h => by cases h⟩
  | x :: r, a => by
    obtain ⟨h1, h2, h3⟩ := maxL_ok r (if x > a then x else a)
    have e : maxL a (x :: r) = maxL (if x > a then x else a) r := rfl
    rw [e]
    refine ⟨?_, ?_, fun y hy => ?_⟩
    · rcases h1 with h1 | h1
      · rw [h1]
        split
        · exact .inr List.mem_cons_self
        · exact .inl rfl
      · exact .inr (List.mem_cons_of_mem _ h1)
    · exact Int.le_trans (by split <;> omega) h2
    · rcases List.mem_cons.mp hy with z | z
      · subst z
        exact Int.le_trans (by split <;> omega) h2
      · exact h3 y z
theorem minL_ok : ∀ (l : List Int) (a : Int), (minL a l = a ∨ minL a l ∈ l) ∧ minL a l ≤ a ∧ ∀ y ∈ l, minL a l ≤ y
  | [], a => ⟨.inl rfl, Int.le_refl _, fun y h => by cases h⟩
  | x :: r, a => by
    obtain ⟨h1, h2, h3⟩ := minL_ok r (if x < a then x else a)
    have e : minL a (x :: r) = minL (if x < a then x else a) r := rfl
    rw [e]
    refine ⟨?_, ?_, fun y hy => ?_⟩
    · rcases h1 with h1 | h1
      · rw [h1]
        split
        · exact .inr List.mem_cons_self
        · exact .inl rfl
      · exact .inr (List.mem_cons_of_mem _ h1)
    · exact Int.le_trans h2 (by split <;> omega)
    · rcases List.mem_cons.mp hy with z | z
      · subst z
        exact Int.le_trans h2 (by split <;> omega)
      · exact h3 y z
theorem max_uniq {a m : Int} {l : List Int} (h : m ∈ a :: l) (k : ∀ y, y ∈ a :: l → y ≤ m) : m = maxL a l := by
  obtain ⟨h1, h2, h3⟩ := maxL_ok l a
  have le1 : maxL a l ≤ m := k _ (h1.elim (fun z => by rw [z]; exact List.mem_cons_self) fun z => List.mem_cons_of_mem _ z)
  have le2 : m ≤ maxL a l := by
    rcases List.mem_cons.mp h with z | z
    · rw [z]; exact h2
    · exact h3 m z
  omega
theorem min_uniq {a m : Int} {l : List Int} (h : m ∈ a :: l) (k : ∀ y, y ∈ a :: l → m ≤ y) : m = minL a l := by
  obtain ⟨h1, h2, h3⟩ := minL_ok l a
  have le1 : m ≤ minL a l := k _ (h1.elim (fun z => by rw [z]; exact List.mem_cons_self) fun z => List.mem_cons_of_mem _ z)
  have le2 : minL a l ≤ m := by
    rcases List.mem_cons.mp h with z | z
    · rw [z]; exact h2
    · exact h3 m z
  omega
section
variable {K : PySem.W.Frag}
def rMaxA (K : PySem.W.Frag) : List V → Hp → VK → Prop := fun vs H Q => (∃ i j, vs = [.int i, .int j] ∧ Q (.int (if j > i then j else i)) H) ∨ ∃ (a : Addr) (i : Int) (ns : List Int), vs = [V.ref a] ∧ SqL K H a ((i :: ns).map V.int) ∧ Q (.int (maxL i ns)) H
def rMinA (K : PySem.W.Frag) : List V → Hp → VK → Prop := fun vs H Q => (∃ i j, vs = [.int i, .int j] ∧ Q (.int (if j < i then j else i)) H) ∨ ∃ (a : Addr) (i : Int) (ns : List Int), vs = [V.ref a] ∧ SqL K H a ((i :: ns).map V.int) ∧ Q (.int (minL i ns)) H
theorem cr_maxA {X : Cx} (hc : X.calm = true) : CallR X (.builtin "max") (rMaxA X.K) := by
  intro pins s σ H vs us Q I r h
  rcases h with h | ⟨a, i, ns, rfl, hs, q⟩
  · exact call_max2 hc pins s σ H vs us Q I r h
  · exact cr_max hc pins s σ H [.ref a] us Q I r ⟨a, i :: ns, rfl, hs, by simp, fun m h1 h2 => by rw [max_uniq h1 h2]; exact q⟩
theorem cr_minA {X : Cx} (hc : X.calm = true) : CallR X (.builtin "min") (rMinA X.K) := by
  intro pins s σ H vs us Q I r h
  rcases h with h | ⟨a, i, ns, rfl, hs, q⟩
  · exact call_min2 hc pins s σ H vs us Q I r h
  · exact cr_min hc pins s σ H [.ref a] us Q I r ⟨a, i :: ns, rfl, hs, by simp, fun m h1 h2 => by rw [min_uniq h1 h2]; exact q⟩
end
section
variable {F : Fr}
theorem ok_add : CallOk F (B2 (fun x y H Q => rI0 (fun i j => .int (i + j)) x y H Q ∨ (∃ i j, x = .str i ∧ y = .str j ∧ i.length + j.length ≤ sizeLine ∧ Q (.str (i ++ j)) H) ∨ rCatA F.K x y H Q ∨ rCatL F.K x y H Q)) (DL (g2 gAdd)) :=
  ok2 fun G H h x y d e z Q eg r r1 r2 k => by
    unfold gAdd at eg
    split at eg
    · injection eg with eg
      subst eg
      obtain rfl := vr_int.mp r1
      obtain rfl := vr_int.mp r2
      exact .inl ⟨_, _, rfl, rfl, k.int r⟩
    · split at eg
      · rename_i hz
        injection eg with eg
        subst eg
        obtain rfl := vr_str.mp r1
        obtain rfl := vr_str.mp r2
        exact .inr (.inl ⟨_, _, rfl, rfl, le_line hz, k.str r⟩)
      · cases eg
    · rename_i l m
      split at eg
      · rename_i hz
        injection eg with eg
        subst eg
        obtain ⟨p, xs, rfl, hs, hl⟩ := vr_tup.mp r1
        obtain ⟨q, ys, rfl, hs2, hl2⟩ := vr_tup.mp r2
        refine .inr (.inr (.inl ⟨p, q, xs, ys, rfl, rfl, hs, hs2, by rw [hl.length, hl2.length]; exact le_line hz, fun ex => ?_, fun _ ey => ?_, fun _ _ w hw => k.newT r hw (hl.append hl2)⟩))
        · subst ex
          have hl0 : l = [] := by cases l with
            | nil => rfl
            | cons a b => have := hl.length; simp at this
          subst hl0
          exact k.val r r2
        · subst ey
          have hl0 : m = [] := by cases m with
            | nil => rfl
            | cons a b => have := hl2.length; simp at this
          subst hl0
          rw [List.append_nil] at k
          exact k.val r r1
      · cases eg
    · split at eg
      · rename_i l m q1 q2
        split at eg
        · rename_i hz
          injection eg with eg
          subst eg
          obtain ⟨p, xs, rfl, hs, hl⟩ := list_of r r1 q1
          obtain ⟨q, ys, rfl, hs2, hl2⟩ := list_of r r2 q2
          exact .inr (.inr (.inr ⟨p, q, xs, ys, rfl, rfl, hs, hs2, by rw [hl.length, hl2.length]; exact le_line hz, fun w hw => k.newL r hw (hl.append hl2)⟩))
        · cases eg
      · cases eg
theorem int2 {g : Hs → D → D → Option D} {r : R2} {P : Int → Int → Prop} {f : Int → Int → Int} (hg : ∀ h d e z, g h d e = some z → ∃ i j, d = .int i ∧ e = .int j ∧ P i j ∧ z = .int (f i j)) (hr : ∀ i j H (Q : VK), P i j → Q (.int (f i j)) H → r (.int i) (.int j) H Q) : CallOk F (B2 r) (DL (g2 g)) :=
  ok2 fun G H h x y d e z Q eg rr r1 r2 k => by
    obtain ⟨i, j, rfl, rfl, p, rfl⟩ := hg h d e z eg
    obtain rfl := vr_int.mp r1
    obtain rfl := vr_int.mp r2
    exact hr i j H Q p (k.int rr)
theorem ok_sub : CallOk F (B2 (rI0 fun i j => .int (i - j))) (DL (g2 gSub)) := int2 (P := fun _ _ => True) (f := fun i j => i - j)
  (fun h d e z q => by unfold gSub at q; split at q <;> first | (injection q with q; exact ⟨_, _, rfl, rfl, trivial, q.symm⟩) | cases q) fun i j H Q _ q => ⟨i, j, rfl, rfl, q⟩
theorem ok_fdiv : CallOk F (B2 (rI CDivW fun i j => .int (i / j))) (DL (g2 gFdiv)) := int2 (P := fun i j => 0 < j ∧ j.natAbs < big) (f := fun i j => i / j)
  (fun h d e z q => by
    unfold gFdiv at q
    split at q
    · split at q
      · rename_i hp; injection q with q; exact ⟨_, _, rfl, rfl, hp, q.symm⟩
      · cases q
    · cases q) fun i j H Q p q => ⟨i, j, rfl, rfl, wide_div p.1 (b := 8000) p.2 (by decide) (by decide), q⟩
theorem ok_mod : CallOk F (B2 (rI (fun _ j => 0 < j) fun i j => .int (i % j))) (DL (g2 gMod)) := int2 (P := fun i j => 0 < j) (f := fun i j => i % j)
  (fun h d e z q => by
    unfold gMod at q
    split at q
    · split at q
      · rename_i hp; injection q with q; exact ⟨_, _, rfl, rfl, hp, q.symm⟩
      · cases q
    · cases q) fun i j H Q p q => ⟨i, j, rfl, rfl, p, q⟩
theorem ok_pow : CallOk F (B2 (rI CPow fun i j => .int (i ^ j.toNat))) (DL (g2 gPow)) := int2 (P := CPow) (f := fun i j => i ^ j.toNat)
  (fun h d e z q => by
    unfold gPow at q
    split at q
    · split at q
      · rename_i hp; injection q with q; exact ⟨_, _, rfl, rfl, hp, q.symm⟩
      · cases q
    · cases q) fun i j H Q p q => ⟨i, j, rfl, rfl, p, q⟩
theorem ok_xor : CallOk F (B2 (rI0 fun i j => .int (Builtin.bitXor i j))) (DL (g2 gXor)) := int2 (P := fun _ _ => True) (f := fun i j => Builtin.bitXor i j)
  (fun h d e z q => by unfold gXor at q; split at q <;> first | (injection q with q; exact ⟨_, _, rfl, rfl, trivial, q.symm⟩) | cases q) fun i j H Q _ q => ⟨i, j, rfl, rfl, q⟩
theorem ok_neg : CallOk F (B1 (rU fun i => .int (-i))) (DL (g1 gNeg)) := ok1 fun G H h x d z Q eg r r1 k => by
  unfold gNeg at eg
  split at eg
  · injection eg with eg
    subst eg
    obtain rfl := vr_int.mp r1
    exact ⟨_, rfl, k.int r⟩
  · cases eg
theorem vrl_rep {G : Gh} {H : Hp} {l : List D} {xs : List V} (hl : VRL F G H l xs) : ∀ n : Nat, VRL F G H (List.replicate n l).flatten (List.replicate n xs).flatten
  | 0 => by simpa using vrl_nil.mpr rfl
  | n + 1 => by
    rw [List.replicate_succ, List.replicate_succ, List.flatten_cons, List.flatten_cons]
    exact VRL.append hl (vrl_rep hl n)
theorem ok_mul : CallOk F (B2 (fun x y H Q => rI CMulW (fun i j => .int (i * j)) x y H Q ∨ rRepL x y H Q)) (DL (g2 gMul)) :=
  ok2 fun G H h x y d e z Q eg r r1 r2 k => by
    unfold gMul at eg
    split at eg
    · split at eg
      · rename_i hp
        injection eg with eg
        subst eg
        obtain rfl := vr_int.mp r1
        obtain rfl := vr_int.mp r2
        exact .inl ⟨_, _, rfl, rfl, wide_mul (a := 8000) (b := 8000) hp.1 hp.2 (by decide) (by decide) (by decide), k.int r⟩
      · cases eg
    · split at eg
      · rename_i l q1
        split at eg
        · rename_i hp
          injection eg with eg
          subst eg
          obtain rfl := vr_int.mp r2
          obtain ⟨p, xs, rfl, hs, hl⟩ := list_ofW r r1 q1
          exact .inr ⟨p, _, xs, rfl, rfl, hs, hp.2.1, hp.1, by rw [hl.length]; exact le_line hp.2.2, fun w hw => k.newL r hw (vrl_rep hl _)⟩
        · cases eg
      · cases eg
    · cases eg
def allV (ls ks : List (Key × V)) : Bool := ks.all fun p => match valV ls p.1 with
  | some v => eqV p.2 v
  | none => false
theorem hits_any {A : Around} {s : Shared} {kvs : List (Key × V)} {vb : List (Key × Value)} (rb : KV kvs vb) (fb : ∀ k v, valV kvs k = some v → flatV v = true) {ks : List (Key × V)} {va : List (Key × Value)} (ra : KV ks va) :
    (∀ p ∈ ks, flatV p.2 = true) → PySem.W.KeqHits A s vb va (allV kvs ks) := by
  unfold KV at ra
  induction ra with
  | nil => intro _; exact .nil
  | @cons p q ps qs h t ih =>
    intro hp
    obtain ⟨h1, h2⟩ := h
    have f := hp p List.mem_cons_self
    have ih := ih fun p' hm => hp p' (List.mem_cons_of_mem _ hm)
    have rr := rb.val p.1
    obtain ⟨k, v⟩ := q
    have h1' : p.1 = k := h1
    show PySem.W.KeqHits A s vb ((k, v) :: qs) (List.all (p :: ps) _)
    rw [List.all_cons]
    cases hv : valV kvs p.1 with
    | none =>
      rw [hv] at rr
      have e := rr.none_of
      rw [h1'] at e
      exact .miss e
    | some x =>
      rw [hv] at rr
      obtain ⟨y, hy, ry⟩ := rr.some_of
      rw [h1'] at hy
      exact .hit hy (eqAt_V h2 ry f (fb _ _ hv)) ih
def rDicP (f : Bool → Bool) : R2 := fun x y H Q => ∃ a b ks ls, x = .ref a ∧ y = .ref b ∧ H a = some (.dK ks) ∧ H b = some (.dK ls) ∧ (∀ k v, valV ls k = some v → flatV v = true) ∧ (∀ p ∈ ks, flatV p.2 = true) ∧ Q (.bl (f (ks.length == ls.length && allV ls ks))) H
theorem op_eq_dicP {X : Cx} (hu : X.A.units < cLine) : OpR X (compareOp .Eq) (rDicP fun z => z) := by
  intro pins s σ H x y v u Q I rx ry h
  obtain ⟨a, b, ks, ls, rfl, rfl, ea, eb, fb, fa, q⟩ := h
  obtain rfl : v = Value.ref a := rx
  obtain rfl : u = Value.ref b := ry
  obtain ⟨_, ya, va, ra, da⟩ := (show ObjOk X.prog X.w H s.heap a (.dK ks) from I.hok a _ ea)
  obtain ⟨_, yb, vb, rb, db⟩ := (show ObjOk X.prog X.w H s.heap b (.dK ls) from I.hok b _ eb)
  exact PySem.W.keq_eq (knd := mixKind X.prog X.w) (r := allV ls ks) ya yb da db hu (fun _ => hits_any rb fb ra fa) (fin_bl I q (by rw [ra.length, rb.length]))
theorem op_ne_dicP {X : Cx} (hu : X.A.units < cLine) : OpR X (compareOp .NotEq) (rDicP fun z => !z) := by
  intro pins s σ H x y v u Q I rx ry h
  obtain ⟨a, b, ks, ls, rfl, rfl, ea, eb, fb, fa, q⟩ := h
  obtain rfl : v = Value.ref a := rx
  obtain rfl : u = Value.ref b := ry
  obtain ⟨_, ya, va, ra, da⟩ := (show ObjOk X.prog X.w H s.heap a (.dK ks) from I.hok a _ ea)
  obtain ⟨_, yb, vb, rb, db⟩ := (show ObjOk X.prog X.w H s.heap b (.dK ls) from I.hok b _ eb)
  exact PySem.W.keq_ne (knd := mixKind X.prog X.w) (r := allV ls ks) ya yb da db hu (fun _ => hits_any rb fb ra fa) (fin_bl I q (by rw [ra.length, rb.length]))
section
variable {G : Gh} {H : Hp} {h : Hs}
theorem fl_of {d : D} {v : V} (x : VR F G H d v) (f : flN d = true) : flatV v = true := by
  cases d <;> first | (cases f; done) | skip
  · rw [vr_non.mp x]; rfl
  · rw [vr_int.mp x]; rfl
theorem eqN_of {d e : D} {v w : V} (x : VR F G H d v) (y : VR F G H e w) (f : flN d = true) (g : flN e = true) : eqV v w = eqN d e := by
  cases d <;> first | (cases f; done) | skip
  · rw [vr_non.mp x]
    cases e <;> first | (cases g; done) | skip
    · rw [vr_non.mp y]; rfl
    · rw [vr_int.mp y]; rfl
  · rw [vr_int.mp x]
    cases e <;> first | (cases g; done) | skip
    · rw [vr_non.mp y]; rfl
    · rw [vr_int.mp y]
      show (_ == _) = decide _
      rw [Bool.eq_iff_iff]
      simp
theorem dFind_mem {k l : List D} {q : Key} {d : D} (e : dFind k l q = some d) : d ∈ l := by
  unfold dFind at e
  obtain ⟨p, hp, rfl⟩ := Option.map_eq_some_iff.mp e
  exact (List.of_mem_zip (List.mem_of_find?_eq_some hp)).2
theorem dAll_of {k' l' : List D} {qs' : List Key} {vs' : List V} (h1' : VRL F G H k' (qs'.map kV)) (h2' : VRL F G H l' vs') (hl' : qs'.length = vs'.length) (f' : ∀ d ∈ l', flN d = true) :
    ∀ {k l : List D} {qs : List Key} {vs : List V}, VRL F G H k (qs.map kV) → VRL F G H l vs → qs.length = vs.length → (∀ d ∈ l, flN d = true) → (∀ p ∈ qs.zip vs, flatV p.2 = true) ∧ allV (qs'.zip vs') (qs.zip vs) = dAll k' l' k l
  | [], l, qs, vs, h1, h2, hl, f => by
    have : qs = [] := by
      have := vrl_nil.mp h1
      cases qs <;> first | rfl | cases this
    subst this
    exact ⟨fun p hp => by simp at hp, by simp [allV, dAll]⟩
  | a :: k, l, qs, vs, h1, h2, hl, f => by
    obtain ⟨v, vr, e, x, y⟩ := vrl_cons.mp h1
    cases qs with
    | nil => cases e
    | cons q qs =>
      cases vs with
      | nil => cases hl
      | cons w ws =>
        rw [List.map_cons] at e
        injection e with e1 e2
        subst e1 e2
        cases l with
        | nil => have := vrl_nil.mp h2; cases this
        | cons d l =>
          obtain ⟨w', ws', e, x2, y2⟩ := vrl_cons.mp h2
          injection e with e1 e2
          subst e1 e2
          obtain ⟨i1, i2⟩ := dAll_of h1' h2' hl' f' y y2 (by simpa using hl) fun d' hd => f d' (List.mem_cons_of_mem _ hd)
          have fd := f d List.mem_cons_self
          refine ⟨fun p hp => ?_, ?_⟩
          · rw [List.zip_cons_cons] at hp
            rcases List.mem_cons.mp hp with rfl | hp
            · exact fl_of x2 fd
            · exact i1 p hp
          · unfold allV dAll at i2 ⊢
            rw [List.zip_cons_cons, List.zip_cons_cons, List.all_cons, List.all_cons, i2]
            congr 1
            obtain ⟨f1, f2⟩ := find_vr (q := q) h1' h2' hl'
            simp only [of_ky x, Option.bind_some]
            cases hf : dFind k' l' q with
            | none => rw [f2 hf]
            | some d' =>
              obtain ⟨v', e', x'⟩ := f1 d' hf
              rw [e']
              exact eqN_of x2 x' fd (f' d' (dFind_mem hf))
theorem valV_flat {k' l' : List D} {qs' : List Key} {vs' : List V} (h1' : VRL F G H k' (qs'.map kV)) (h2' : VRL F G H l' vs') (hl' : qs'.length = vs'.length) (f' : ∀ d ∈ l', flN d = true) (q : Key) (v : V) (e : valV (qs'.zip vs') q = some v) : flatV v = true := by
  obtain ⟨f1, f2⟩ := find_vr (q := q) h1' h2' hl'
  cases hf : dFind k' l' q with
  | none => rw [f2 hf] at e; cases e
  | some d' =>
    obtain ⟨v', e', x'⟩ := f1 d' hf
    rw [e] at e'
    injection e' with e'
    subst e'
    exact fl_of x' (f' d' (dFind_mem hf))
theorem dicP_core {x y : V} {d e : D} {z : Bool} (f : Bool → Bool) {Q : VK} (r : HR F G H h) (r1 : VR F G H d x) (r2 : VR F G H e y) (eg : dicP h d e = some z) (q : Q (.bl (f z)) H) : rDicP f x y H Q := by
  unfold dicP at eg
  split at eg
  · rename_i k l k' l' ed ee
    split at eg
    · rename_i hh
      injection eg with eg
      obtain ⟨p, qs, vs, rfl, u, hl, h1, h2⟩ := dicU_of r r1 ed
      obtain ⟨p', qs', vs', rfl, u', hl', h1', h2'⟩ := dicU_of r r2 ee
      have fa := List.all_eq_true.mp hh.1
      have fb := List.all_eq_true.mp hh.2.1
      obtain ⟨w1, w2⟩ := dAll_of h1' h2' hl' fb h1 h2 hl fa
      refine ⟨p, p', _, _, rfl, rfl, u, u', fun k v => valV_flat h1' h2' hl' fb k v, w1, ?_⟩
      have n1 : k.length = qs.length := by have := h1.length; simp at this; omega
      have n2 : k'.length = qs'.length := by have := h1'.length; simp at this; omega
      have m1 : (qs.zip vs).length = k.length := by rw [List.length_zip, ← hl, Nat.min_self, n1]
      have m2 : (qs'.zip vs').length = k'.length := by rw [List.length_zip, ← hl', Nat.min_self, n2]
      rw [w2, m1, m2]
      unfold dEq at eg
      rw [eg]
      exact q
    · cases eg
  · cases eg
end
theorem ok_eq : CallOk F (B2 (fun x y H Q => rEqD F.K x y H Q ∨ rDicP (fun z => z) x y H Q)) (DL (g2 gEq)) := ok2 fun G H h x y d e z Q eg r r1 r2 k => by
  unfold gEq at eg
  split at eg
  · rename_i b hb
    injection eg with eg
    subst eg
    exact .inr (dicP_core _ r r1 r2 hb (k.bl r))
  · split at eg
    · rename_i hh
      injection eg with eg
      subst eg
      exact .inl ⟨_, _, VR.dps r (SeqAt.canLay_of_shaped hh.1) r1, VR.dps r (SeqAt.canLay_of_shaped hh.2) r2, hh.1, hh.2, k.bl r⟩
    · cases eg
theorem ok_ne : CallOk F (B2 (fun x y H Q => rNeD F.K x y H Q ∨ rDicP (fun z => !z) x y H Q)) (DL (g2 gNe)) := ok2 fun G H h x y d e z Q eg r r1 r2 k => by
  unfold gNe at eg
  split at eg
  · rename_i b hb
    injection eg with eg
    subst eg
    exact .inr (dicP_core _ r r1 r2 hb (k.bl r))
  · split at eg
    · rename_i hh
      injection eg with eg
      subst eg
      exact .inl ⟨_, _, VR.dps r (SeqAt.canLay_of_shaped hh.1) r1, VR.dps r (SeqAt.canLay_of_shaped hh.2) r2, hh.1, hh.2, k.bl r⟩
    · cases eg
theorem inD_py {a : D} {l : List D} : ((pyL l).any fun z => PyData.eqv z a.py) = inD a l := by
  unfold inD
  rw [pyL_map, List.any_map]
  rfl
theorem in_core {G : Gh} {H : Hp} {h : Hs} {x y : V} {d e : D} {b : Bool} (r : HR F G H h) (r1 : VR F G H d x) (r2 : VR F G H e y) (eg : gIn0 h d e = some b) :
    ∃ ds, Dp F.K H x (rsv h d).py ∧ (Dp F.K H y (.list ds) ∨ Dp F.K H y (.tuple ds)) ∧ SeqAt.shaped (rsv h d).py = true ∧ SeqAt.shaped (.list ds) = true ∧ (ds.any fun z => PyData.eqv z (rsv h d).py) = b := by
  unfold gIn0 at eg
  split at eg
  · rename_i l q
    split at eg
    · rename_i hh
      injection eg with eg
      have k := VR.dps r (SeqAt.canLay_of_shaped hh.2) r2
      have s2 := hh.2
      unfold shp at s2
      rw [q] at k s2
      exact ⟨pyL l, VR.dps r (SeqAt.canLay_of_shaped hh.1) r1, .inr k, hh.1, s2, by rw [inD_py]; exact eg⟩
    · cases eg
  · rename_i l q
    split at eg
    · rename_i hh
      injection eg with eg
      have k := VR.dps r (SeqAt.canLay_of_shaped hh.2) r2
      have s2 := hh.2
      unfold shp at s2
      rw [q] at k s2
      exact ⟨pyL l, VR.dps r (SeqAt.canLay_of_shaped hh.1) r1, .inl k, hh.1, s2, by rw [inD_py]; exact eg⟩
    · cases eg
  · cases eg
def rDIn : R2 := fun y x H Q => ∃ a o, x = .ref a ∧ DGet H a y o ∧ Q (.bl o.isSome) H
def rDNotIn : R2 := fun y x H Q => ∃ a o, x = .ref a ∧ DGet H a y o ∧ Q (.bl (!o.isSome)) H
theorem op_dIn {X : Cx} (hu : X.A.units + 1 < cLine) : OpR X (compareOp .In) rDIn := by
  intro pins s σ H y x v u Q I ry rx h
  obtain ⟨a, o, rfl, g, q⟩ := h
  obtain rfl : u = Value.ref a := rx
  exact d_in hu I g ry fun s' I' => ⟨.bl o.isSome, H, I', rfl, q⟩
theorem op_dNotIn {X : Cx} (hu : X.A.units + 1 < cLine) : OpR X (compareOp .NotIn) rDNotIn := by
  intro pins s σ H y x v u Q I ry rx h
  obtain ⟨a, o, rfl, g, q⟩ := h
  obtain rfl : u = Value.ref a := rx
  exact d_notIn hu I g ry fun s' I' => ⟨.bl (!o.isSome), H, I', rfl, q⟩
theorem ok_in : CallOk F (B2 (fun x y H Q => rInQ F.K false x y H Q ∨ rDIn x y H Q)) (DL (g2 gIn)) := ok2 fun G H h x y d e z Q eg r r1 r2 k => by
  unfold gIn at eg
  split at eg
  · rename_i kk ll hd
    cases hq : kyD d with
    | none => rw [hq] at eg; cases eg
    | some q =>
      rw [hq] at eg
      injection eg with eg
      subst eg
      obtain ⟨p, rfl, _, f1, f2⟩ := dget_of r r2 r1 hd hq
      dsimp only at k
      cases hf : dFind kk ll q with
      | none => rw [hf] at k; exact .inr ⟨p, none, rfl, f2 hf, k.bl r⟩
      | some w =>
        rw [hf] at k
        obtain ⟨u, g1, _⟩ := f1 w hf
        exact .inr ⟨p, some u, rfl, g1, k.bl r⟩
  · cases q : gIn0 h d e with
    | none => rw [q] at eg; cases eg
    | some b =>
      rw [q] at eg
      injection eg with eg
      subst eg
      obtain ⟨ds, a1, a2, a3, a4, a5⟩ := in_core r r1 r2 q
      exact .inl ⟨_, ds, a1, a2, a3, a4, by rw [if_neg Bool.false_ne_true, a5]; exact k.bl r⟩
theorem ok_notIn : CallOk F (B2 (fun x y H Q => rInQ F.K true x y H Q ∨ rDNotIn x y H Q)) (DL (g2 gNotIn)) := ok2 fun G H h x y d e z Q eg r r1 r2 k => by
  unfold gNotIn at eg
  split at eg
  · rename_i kk ll hd
    cases hq : kyD d with
    | none => rw [hq] at eg; cases eg
    | some q =>
      rw [hq] at eg
      injection eg with eg
      subst eg
      obtain ⟨p, rfl, _, f1, f2⟩ := dget_of r r2 r1 hd hq
      dsimp only at k
      cases hf : dFind kk ll q with
      | none => rw [hf] at k; exact .inr ⟨p, none, rfl, f2 hf, k.bl r⟩
      | some w =>
        rw [hf] at k
        obtain ⟨u, g1, _⟩ := f1 w hf
        exact .inr ⟨p, some u, rfl, g1, k.bl r⟩
  · cases q : gIn0 h d e with
    | none => rw [q] at eg; cases eg
    | some b =>
      rw [q] at eg
      injection eg with eg
      subst eg
      obtain ⟨ds, a1, a2, a3, a4, a5⟩ := in_core r r1 r2 q
      exact .inl ⟨_, ds, a1, a2, a3, a4, by rw [if_pos rfl, a5]; exact k.bl r⟩
theorem ok_lt : CallOk F (B2 (fun x y H Q => rI0 (fun i j => .bl (decide (i < j))) x y H Q ∨ rLtT F.K x y H Q)) (DL (g2 gLt)) := ok2 fun G H h x y d e z Q eg r r1 r2 k => by
  unfold gLt at eg
  split at eg
  · injection eg with eg
    subst eg
    obtain rfl := vr_int.mp r1
    obtain rfl := vr_int.mp r2
    exact .inl ⟨_, _, rfl, rfl, k.bl r⟩
  · rename_i l m
    split at eg
    · rename_i a b ea eb
      injection eg with eg
      subst eg
      obtain ⟨p, xs, rfl, hs, hl⟩ := vr_tup.mp r1
      obtain ⟨q, ys, rfl, hs2, hl2⟩ := vr_tup.mp r2
      rw [intsOf_back ea] at hl
      rw [intsOf_back eb] at hl2
      rw [vrl_ints hl] at hs
      rw [vrl_ints hl2] at hs2
      exact .inr ⟨p, q, a, b, rfl, rfl, hs, hs2, k.bl r⟩
    · cases eg
  · cases eg
theorem intB {g : Hs → D → D → Option D} {f : Int → Int → Bool} (hg : ∀ h d e z, g h d e = some z → ∃ i j, d = .int i ∧ e = .int j ∧ z = .bl (f i j)) : CallOk F (B2 (rI0 fun i j => .bl (f i j))) (DL (g2 g)) :=
  ok2 fun G H h x y d e z Q eg r r1 r2 k => by
    obtain ⟨i, j, rfl, rfl, rfl⟩ := hg h d e z eg
    obtain rfl := vr_int.mp r1
    obtain rfl := vr_int.mp r2
    exact ⟨i, j, rfl, rfl, k.bl r⟩
theorem ok_le : CallOk F (B2 (rI0 fun i j => .bl (decide (i ≤ j)))) (DL (g2 gLe)) := intB fun h d e z q => by unfold gLe at q; split at q <;> first | (injection q with q; exact ⟨_, _, rfl, rfl, q.symm⟩) | cases q
theorem ok_gt : CallOk F (B2 (rI0 fun i j => .bl (decide (j < i)))) (DL (g2 gGt)) := intB fun h d e z q => by unfold gGt at q; split at q <;> first | (injection q with q; exact ⟨_, _, rfl, rfl, q.symm⟩) | cases q
theorem ok_ge : CallOk F (B2 (rI0 fun i j => .bl (decide (j ≤ i)))) (DL (g2 gGe)) := intB fun h d e z q => by unfold gGe at q; split at q <;> first | (injection q with q; exact ⟨_, _, rfl, rfl, q.symm⟩) | cases q
theorem ref_or {G : Gh} {H : Hp} {d : D} {v : V} (x : VR F G H d v) (n1 : d ≠ .non) : v ≠ .non := by
  cases d with
  | non => exact (n1 rfl).elim
  | bl b => rw [vr_bl.mp x]; exact fun z => nomatch z
  | int b => rw [vr_int.mp x]; exact fun z => nomatch z
  | str b => rw [vr_str.mp x]; exact fun z => nomatch z
  | tup l => obtain ⟨p, _, rfl, _⟩ := vr_tup.mp x; exact fun z => nomatch z
  | vl l => obtain ⟨p, _, rfl, _⟩ := vr_vl.mp x; exact fun z => nomatch z
  | sl l => obtain ⟨p, _, rfl, _⟩ := vr_sl.mp x; exact fun z => nomatch z
  | vd k l => obtain ⟨p, _, _, rfl, _⟩ := vr_vd.mp x; exact fun z => nomatch z
  | ref n => obtain ⟨p, rfl, _⟩ := vr_ref.mp x; exact fun z => nomatch z
  | exc c p => obtain ⟨a, _, rfl, _⟩ := vr_exc.mp x; exact fun z => nomatch z
theorem is_core {G : Gh} {H : Hp} {x y : V} {d e : D} {b : Bool} (eg : gIs0 d e = some b) (r1 : VR F G H d x) (r2 : VR F G H e y) : (∃ a c : Bool, x = .bl a ∧ y = .bl c ∧ b = decide (a = c)) ∨ (y = .non ∧ b = decide (x = .non)) := by
  unfold gIs0 at eg
  split at eg
  · injection eg with eg
    exact .inl ⟨_, _, vr_bl.mp r1, vr_bl.mp r2, eg.symm⟩
  · injection eg with eg
    exact .inr ⟨vr_non.mp r2, by rw [vr_non.mp r1, ← eg]; rfl⟩
  · rename_i n1
    injection eg with eg
    refine .inr ⟨vr_non.mp r2, ?_⟩
    rw [← eg, decide_eq_false (ref_or r1 (fun z => n1 z))]
  · cases eg
  · cases eg
theorem ok_is : CallOk F (B2 (fun x y H Q => rIsB x y H Q ∨ (y = .non ∧ Q (.bl (decide (x = .non))) H))) (DL (g2 gIs)) := ok2 fun G H h x y d e z Q eg r r1 r2 k => by
  unfold gIs at eg
  cases q : gIs0 d e with
  | none => rw [q] at eg; cases eg
  | some b =>
    rw [q] at eg
    injection eg with eg
    subst eg
    rcases is_core q r1 r2 with ⟨a, c, rfl, rfl, rfl⟩ | ⟨rfl, rfl⟩
    · exact .inl ⟨a, c, rfl, rfl, k.bl r⟩
    · exact .inr ⟨rfl, k.bl r⟩
theorem ok_isNot : CallOk F (B2 (fun x y H Q => rNotB x y H Q ∨ (y = .non ∧ Q (.bl (!decide (x = .non))) H))) (DL (g2 gIsNot)) := ok2 fun G H h x y d e z Q eg r r1 r2 k => by
  unfold gIsNot at eg
  cases q : gIs0 d e with
  | none => rw [q] at eg; cases eg
  | some b =>
    rw [q] at eg
    injection eg with eg
    subst eg
    rcases is_core q r1 r2 with ⟨a, c, rfl, rfl, rfl⟩ | ⟨rfl, rfl⟩
    · exact .inl ⟨a, c, rfl, rfl, k.bl r⟩
    · exact .inr ⟨rfl, k.bl r⟩
end
end Gx

/-! G7: displays, subscripts, slices, built-ins, isinstance, lists changed. -/
namespace HT
open PySem PySem.Spec PyProof.Rows
section
variable {prog : Program} {w : World} {A : Around} {E : Value → Shared → Prop} {s : Shared}
theorem adjust_rev (n : Nat) : Builtin.Slice.sliceAdjust none none (-1) (n : Int) = ((n : Int) - 1, -1) := by
  unfold Builtin.Slice.sliceAdjust
  simp
theorem places_rev (n : Nat) : Builtin.Slice.slicePlaces ((n : Int) - 1) (-1) (-1) = n := by
  unfold Builtin.Slice.slicePlaces
  have h1 : ¬ ((-1 : Int) > 0) := by omega
  rw [if_neg h1]
  by_cases h : (n : Int) - 1 > -1
  · rw [if_pos h, show (-(-1 : Int)) = 1 by decide, Int.ediv_one]
    omega
  · rw [if_neg h]
    omega
theorem sliceApplied_rev {sl : Addr} {vs : Value} {n : Nat} {Q : Int × Int × Nat → Shared → Prop} (hs : s.heap.IsSliceOf sl .none .none vs) (ps : IsPart vs (some (-1)))
    (h : Q ((n : Int) - 1, -1, n) s) : wpAny (model prog w) A (Builtin.Slice.sliceApplied (.ref sl) (pure (n : Int))) Q E s := by
  obtain ⟨os, hos, hcs, hds⟩ := id hs
  unfold Builtin.Slice.sliceApplied Builtin.Slice.sliceFields
  refine wpAny_bind (wpAny_bind (wpAny_field hos hds (x := .none) rfl (wpAny_bind (wpAny_field hos hds (x := .none) rfl (wpAny_bind (wpAny_field hos hds (x := vs) rfl (wpAny_pure ?_)))))))
  refine wpAny_bind (slicePart_ ps ?_)
  show wpAny _ _ (if ((-1 : Int) == 0) = true then _ else _) _ _ s
  rw [if_neg (by decide)]
  refine wpAny_bind (slicePart_none (wpAny_bind (slicePart_none (wpAny_bind (wpAny_pure ?_)))))
  show wpAny _ _ (match Builtin.Slice.sliceAdjust none none (-1) (n : Int) with | (lo, hi) => pure (lo, (-1 : Int), Builtin.Slice.slicePlaces lo hi (-1))) _ _ s
  rw [adjust_rev n]
  show wpAny _ _ (pure ((n : Int) - 1, (-1 : Int), Builtin.Slice.slicePlaces ((n : Int) - 1) (-1) (-1))) _ _ s
  rw [places_rev]
  exact wpAny_pure h
theorem fm_congr {α β : Type} {f g : α → Option β} : ∀ {l : List α}, (∀ a ∈ l, f a = g a) → l.filterMap f = l.filterMap g
  | [], _ => rfl
  | a :: r, h => by
    rw [List.filterMap_cons, List.filterMap_cons, h a List.mem_cons_self, fm_congr fun b hb => h b (List.mem_cons_of_mem _ hb)]
theorem pick_rev (xs : Array Value) : ((List.range xs.size).filterMap fun (m : Nat) => xs[((xs.size : Int) - 1 + (m : Int) * (-1)).toNat]?).toArray = xs.toList.reverse.toArray := by
  have e : (List.range xs.size).filterMap (fun (m : Nat) => xs[((xs.size : Int) - 1 + (m : Int) * (-1)).toNat]?) = xs.toList.reverse := by
    have e1 : ∀ m ∈ List.range xs.size, xs[((xs.size : Int) - 1 + (m : Int) * (-1)).toNat]? = some ((xs.toList.reverse)[m]?.getD .none) := fun m hm => by
      have hm := List.mem_range.mp hm
      have : ((xs.size : Int) - 1 + (m : Int) * (-1)).toNat = xs.size - 1 - m := by omega
      rw [this, Array.getElem?_eq_getElem (by omega), List.getElem?_reverse (by simpa using hm)]
      simp [List.getElem?_eq_getElem (show xs.size - 1 - m < xs.toList.length by simp; omega)]
    rw [fm_congr e1]
    refine List.ext_getElem (by simp) fun i h1 h2 => ?_
    simp at h1 h2
    simp [h2]
  rw [e]
theorem getItem_tuple_rev {t sl : Addr} {items : Array Value} {vs : Value} {Q : Value → Shared → Prop} (ht : IsTup s.heap t items) (hs : s.heap.IsSliceOf sl .none .none vs) (ps : IsPart vs (some (-1)))
    (h : Q (.ref s.heap.objs.size) { s with heap := s.heap.push { cls := .type "tuple", data := .seq items.toList.reverse.toArray } })
    (hsz : items.size ≤ sizeLine) : wpAny (model prog w) A (getItem (.ref t) (.ref sl)) Q E s := by
  have htake : sizeOk (.seq items.toList.reverse.toArray) := by
    show items.toList.reverse.toArray.size ≤ sizeLine
    rw [List.size_toArray, List.length_reverse, Array.length_toList]
    exact hsz
  obtain ⟨os, hos, hcs, hds⟩ := id hs
  have hTs : s.TypeIs (.ref sl) "slice" := ⟨os, hos, hcs⟩
  unfold getItem
  try with_reducible refine wpAny_holding ?_
  first | refine wpAny_bind (wpAny_pure ?_) | skip
  refine wpAny_bind (wpAny_sequenceKey ht.typeIs (by decide) ?_)
  refine wpAny_bind (wpAny_callSpecial?_slot (name := Str.ofString "__getitem__") ht.typeIs PyProof.Rows.slot_tuple_getitem
    (wpAny_call_entry PyProof.Rows.slot_tuple_getitem ht.typeIs entry_tuple_getitem ?_ (args_tuple_getitem _ _)))
  show wpAny _ _ (Builtin.Tuple.tupleItemsOf (.ref t) >>= _) _ _ s
  refine wpAny_bind (tupleItemsOf_ ht ?_)
  refine wpAny_bind (wpAny_typeOf hTs ?_)
  rw [if_pos (by decide)]
  refine wpAny_bind (sliceApplied_rev hs ps ?_)
  have hno : ¬ ((((items.size : Int) - 1) == 0 && (-1 : Int) == 1 && items.size == items.size) = true) := by
    intro q
    rw [Bool.and_eq_true, Bool.and_eq_true] at q
    have q1 : (-1 : Int) = 1 := eq_of_beq q.1.2
    omega
  show wpAny _ _ (if (((items.size : Int) - 1) == 0 && (-1 : Int) == 1 && items.size == items.size) = true then _ else _) _ _ s
  rw [if_neg hno, pick_rev]
  first
    | exact wpAny_bind (m := Builtin.Tuple.tupleExact _) (wpAny_newObj_type (wpAny_pure ⟨_, rfl, wpAny_pure h⟩) htake)
    | exact wpAny_bind (m := Builtin.Tuple.tupleExact _) (wpAny_newObj_type (wpAny_bind (wpAny_pure (wpAny_pure ⟨_, rfl, wpAny_pure h⟩))) htake)
    | exact wpAny_bind (wpAny_bind (m := Builtin.Tuple.tupleExact _) (wpAny_newObj_type (wpAny_pure (wpAny_pure ⟨_, rfl, wpAny_pure h⟩)) htake))
    | exact wpAny_bind (wpAny_bind (m := Builtin.Tuple.tupleExact _) (wpAny_newObj_type (wpAny_pure ⟨_, rfl, wpAny_pure h⟩) htake))
end
end HT
namespace L2
open PySem PySem.Spec PyProof.Rows
/-- e[::-1], a list or a tuple -/
def tRevLT (K : PySem.W.Frag) (te : TE) : TE := fun σ H Q => te σ H fun x H1 => (∃ a xs, x = .ref a ∧ SqL K H1 a xs ∧ ∀ p, H1 p = none → Q (.ref p) (upd H1 p (.lst xs.reverse))) ∨ ∃ a xs, x = .ref a ∧ SqT K H1 a xs ∧ ∀ p, H1 p = none → Q (.ref p) (upd H1 p (.tup xs.reverse))
theorem pe_revLT {X : Cx} {e : Expr} {te : TE} {k : Nat} {p1 p2 p3 pos : Pos} (he : PE X e te) : PE X (.Subscript e (.Slice none none (some (.UnaryOp .USub (.Constant (.int 1) k p1) p2)) p3) pos) (tRevLT X.K te) := by
  refine ⟨fun pins s σ H Q I h => ?_⟩
  refine Subscript_ (thn (he.run pins s σ H _ I h) fun v s1 ⟨x, H1, I1, r1, q1⟩ => ?_)
  have hst : PO X (some (.UnaryOp .USub (.Constant (.int 1) k p1) p2)) (tPart (tUn (rU fun i => .int (-i)) (tC (.int 1)))) := po_some (pe_un un_neg pe_int)
  refine wpAny_Slice (thn (po_none.run pins s1 σ H1 (fun o H2 => o = none ∧ H2 = H1) I1 ⟨rfl, rfl⟩) fun vl s2 ⟨l, H2, I2, pl, el, e2⟩ => ?_)
  subst el e2
  refine thn (po_none.run pins s2 σ H2 (fun o H3 => o = none ∧ H3 = H2) I2 ⟨rfl, rfl⟩) fun vu s3 ⟨u, H3, I3, pu, eu, e3⟩ => ?_
  subst eu e3
  refine thn (hst.run pins s3 σ H3 (fun o H4 => o = some (-1) ∧ H4 = H3) I3 ⟨1, rfl, -1, rfl, rfl, rfl⟩) fun vs s4 ⟨o, H4, I4, ps, eo, e4⟩ => ?_
  subst eo e4
  have I5 : Inv X pins σ H4 { s4 with heap := s4.heap.push { cls := .type "slice", data := .fields #[vl, vu, vs] } } := I4.kept (t' := s4.toks) fun b ob q => Heap.get?_push_of_some _ q
  rcases q1 with ⟨a, xs, ex, hx, q⟩ | ⟨a, xs, ex, hx, q⟩
  · subst ex
    cases r1
    obtain ⟨its, r, ht, hz⟩ := I5.list hx
    have hlen := r.length
    show wpAny (model X.prog X.w) X.A (subscriptTail e (.Slice none none (some (.UnaryOp .USub (.Constant (.int 1) k p1) p2)) p3) (.ref a) (.ref s4.heap.objs.size)) (EP X pins σ Q) X.xe { s4 with heap := s4.heap.push { cls := .type "slice", data := .fields #[vl, vu, vs] } }
    refine tail_any (ops := [.ref a, .ref s4.heap.objs.size]) ht.isList.typeIs (PySem.slot_list_getitem.lookup) ?_ (by with_unfolding_all rfl)
    refine wpAny_getItem_list_slice ht.isList (Heap.IsSliceOf.new _ vl vu vs) pl pu ps (by decide) ?_ (by rw [List.size_toArray]; omega)
    rw [PySem.W.krv_pick]
    refine ⟨.ref _, _, I5.laid (t' := s4.toks) (o := .lst xs.reverse) (fun b ob q => Heap.get?_push_of_some _ q) (Nat.le_refl _) ?_, rfl, q _ (I5.hok.fresh (Nat.le_refl _))⟩
    exact ⟨by rw [List.length_reverse]; exact hz, _, 0, r.reverse, Heap.get?_push_size _ rfl⟩
  · subst ex
    cases r1
    obtain ⟨its, r, ht, hz⟩ := I5.tuple hx
    have hlen := r.length
    cases pl
    cases pu
    show wpAny (model X.prog X.w) X.A (subscriptTail e (.Slice none none (some (.UnaryOp .USub (.Constant (.int 1) k p1) p2)) p3) (.ref a) (.ref s4.heap.objs.size)) (EP X pins σ Q) X.xe { s4 with heap := s4.heap.push { cls := .type "slice", data := .fields #[.none, .none, vs] } }
    refine tail_any (ops := [.ref a, .ref s4.heap.objs.size]) ht.typeIs (PyProof.Rows.slot_tuple_getitem.lookup) ?_ (by with_unfolding_all rfl)
    refine HT.getItem_tuple_rev ht (Heap.IsSliceOf.new _ .none .none vs) ps ?_ (by rw [List.size_toArray]; omega)
    refine ⟨.ref _, _, I5.laid (t' := s4.toks) (o := .tup xs.reverse) (fun b ob q => Heap.get?_push_of_some _ q) (Nat.le_refl _) ?_, rfl, q _ (I5.hok.fresh (Nat.le_refl _))⟩
    exact ⟨by rw [List.length_reverse]; exact hz, _, r.reverse, IsTup.new _ _⟩
def rIxG : R2 := fun x y H Q => ∃ a v, x = .ref a ∧ DGet H a y (some v) ∧ Q v H
theorem ix_dget {X : Cx} (hu : X.A.units + 1 < cLine) : IxR X rIxG := by
  intro value slice pins s σ H x y v u Q I rx ry h hs
  obtain ⟨p, r, rfl, g, q⟩ := h
  obtain rfl : v = Value.ref p := rx
  exact tail_any (dict_typeIs I g) PySem.F.slot_dict_getitem.lookup (d_getItem hu I g ry fun w' s' I' r' => ⟨r, H, I', r', q⟩) hs
end L2
namespace Gx
open PySem L2
def gTup (_ : Hs) (l : List D) : Option D := if l.length ≤ 16777216 then some (.tup l) else none
def mkL (m : Bool) (l : List D) (h : Hs) : R D := if l.length ≤ 16777216 then newL m l h else .stk
/-- t[i], xs[i], d[k] -/
def gIx (h : Hs) (a b : D) : Option D := match a, b with
  | .tup l, .int i => atI l i
  | .str z, .int i => if z.length ≤ 16777216 then (atI z.cps.toList i).map fun c => .str ⟨#[c]⟩ else none
  | a, b => match dicH h a with
    | some (k, l) => (kyD b).bind fun q => dFind k l q
    | none => match b with
      | .int i => (lstH h a).bind fun l => atI l i
      | _ => none
def cutD (l : List D) (lo hi : Option Int) : List D := (l.drop (HT.sIx l.length 0 lo)).take (HT.sIx l.length l.length hi - HT.sIx l.length 0 lo)
def slG (m : Bool) (lo hi : Option Int) (d : D) (h : Hs) : R D := match d with
  | .tup l => .ok (.tup (cutD l lo hi)) h
  | d => match lstH h d with
    | some l => newL m (cutD l lo hi) h
    | none => .stk
def revG (m : Bool) (d : D) (h : Hs) : R D := match d with
  | .tup l => .ok (.tup l.reverse) h
  | d => match lstH h d with
    | some l => newL m l.reverse h
    | none => .stk
section
variable {X : Cx} {F : Fr} {W : WX} {G G' G1 G2 : Gh} {H H' H1 H2 : Hp} {σ : L2.St} {s : SD} {h h1 h2 h' : Hs}
/-- a new list, as a value or as an object -/
theorem newL_go {m : Bool} {l : List D} {Q : VK} {xs : List V} {p : Addr} {z : D} (e : newL m l h = .ok z h') (k : KO F G H h' z Q) (r : HR F G H h) (hp : H p = none) (hl : VRL F G H l xs) : Q (.ref p) (upd H p (.lst xs)) := by
  cases m with
  | false =>
    injection e with e1 e2
    subst e1 e2
    exact k.newL r hp hl
  | true =>
    injection e with e1 e2
    subst e1 e2
    exact KO.newO (o := .lst l) k r hp ⟨xs, rfl, hl⟩
theorem newL_nrs {m : Bool} {l : List D} {h : Hs} {c p h'} : newL m l h ≠ .rs c p h' := by cases m <;> exact fun z => nomatch z
theorem ok_tup : CallOk F (fun vs H Q => vs.length ≤ sizeLine ∧ ∀ p, H p = none → Q (.ref p) (upd H p (.tup vs))) (DL gTup) := okL fun G H h vs ds z Q e r rl k => by
  unfold gTup at e
  split at e
  · rename_i hh
    injection e with e
    subst e
    exact ⟨by rw [rl.length]; exact le_line hh, fun p hp => k.newT r hp rl⟩
  · cases e
theorem ok_lst (m : Bool) : CallOk F (fun vs H Q => vs.length ≤ sizeLine ∧ ∀ p, H p = none → Q (.ref p) (upd H p (.lst vs))) (mkL m) := by
  intro G H h vs ds z h' Q r rl e k
  unfold mkL at e
  split at e
  · rename_i hh
    exact ⟨by rw [rl.length]; exact le_line hh, fun p hp => newL_go e k r hp rl⟩
  · cases e
theorem mkL_nrs {m : Bool} : NoRs (mkL m) := fun ds h c p h' e => by
  unfold mkL at e
  split at e
  · exact newL_nrs e
  · cases e
theorem se_tup {es : List Expr} {fs : SD → Hs → R (List D)} {k : Nat} {pos : Pos} (hh : SA X F W es fs) : SE X F W (.Tuple es k pos) (fun s h => (fs s h).bind (DL gTup)) := by
  refine PE.imp (pe_tup hh) fun σ H Q ⟨G, h, s, t, o⟩ => ?_
  exact part t o fun ds vs h2 G2 H2 T t2 x o => call_go ok_tup nrsL t2.hr x o
theorem se_lst (m : Bool) {es : List Expr} {fs : SD → Hs → R (List D)} {pos : Pos} (hh : SA X F W es fs) : SE X F W (.List es pos) (fun s h => (fs s h).bind (mkL m)) := by
  refine PE.imp (pe_lst hh) fun σ H Q ⟨G, h, s, t, o⟩ => ?_
  exact part t o fun ds vs h2 G2 H2 T t2 x o => call_go (ok_lst m) mkL_nrs t2.hr x o
theorem atI_vr {l : List D} {xs : List V} {i : Int} {d : D} (hl : VRL F G H l xs) (e : atI l i = some d) : ∃ v, atI xs i = some v ∧ VR F G H d v := by
  unfold atI at e ⊢
  rw [hl.length]
  cases q : ixN l.length i with
  | none => rw [q] at e; cases e
  | some j =>
    rw [q] at e
    exact VRL.get hl e
theorem ok_ix : CallOk F (B2 (fun x y H Q => (rIxL F.K x y H Q ∨ rIxT F.K x y H Q ∨ rIxS x y H Q) ∨ rIxG x y H Q)) (DL (g2 gIx)) := ok2 fun G H h x y d e z Q eg r r1 r2 k => by
  unfold gIx at eg
  split at eg
  · obtain rfl := vr_int.mp r2
    obtain ⟨p, xs, rfl, hs, hl⟩ := vr_tup.mp r1
    obtain ⟨v, q1, q2⟩ := atI_vr hl eg
    exact .inl (.inr (.inl ⟨p, xs, _, v, rfl, rfl, hs, q1, k.val r q2⟩))
  · rename_i w i
    obtain rfl := vr_int.mp r2
    obtain rfl := vr_str.mp r1
    split at eg
    · rename_i hz
      cases q : atI w.cps.toList i with
      | none => rw [q] at eg; cases eg
      | some c =>
        rw [q] at eg
        injection eg with eg
        subst eg
        exact .inl (.inr (.inr ⟨w, i, c, rfl, rfl, le_line hz, q, k.str r⟩))
    · cases eg
  · split at eg
    · rename_i kk ll hd
      cases hq : kyD e with
      | none => rw [hq] at eg; cases eg
      | some q =>
        rw [hq] at eg
        obtain ⟨p, rfl, _, f1, _⟩ := dget_of r r1 r2 hd hq
        obtain ⟨u, g1, g2⟩ := f1 _ eg
        exact .inr ⟨p, u, rfl, g1, k.val r g2⟩
    · split at eg
      · obtain rfl := vr_int.mp r2
        cases q : lstH h d with
        | none => rw [q] at eg; cases eg
        | some l =>
          rw [q] at eg
          obtain ⟨p, xs, rfl, hs, hl⟩ := list_of r r1 q
          obtain ⟨v, q1, q2⟩ := atI_vr hl eg
          exact .inl (.inl ⟨p, xs, _, v, rfl, rfl, hs, q1, k.val r q2⟩)
      · cases eg
theorem se_ix {a b : Expr} {fa fb : SD → Hs → R D} {pos : Pos} (hu : X.A.units + 1 < cLine) (hK : X.K = F.K) (hs : PlainIx b) (ha : SE X F W a fa) (hb : SE X F W b fb) : SE X F W (.Subscript a b pos) (bin2 gIx fa fb) :=
  se_bin (fun ta tb h1 h2 => by have := pe_ix (X := X) (ix_seq.or (ix_dget hu)) h1 h2 hs (pos := pos); rw [hK] at this; exact this) ok_ix ha hb
theorem vrl_cut {l : List D} {xs : List V} {lo hi : Option Int} (hl : VRL F G H l xs) : VRL F G H (cutD l lo hi) (cutV xs lo hi) := by
  unfold cutV cutD
  rw [hl.length]
  exact (hl.drop _).take _
def slR (m : Bool) (x : R D) (lo hi : Hs → R (Option Int)) : R D := x.bind fun d h1 => (lo h1).bind fun i h2 => (hi h2).bind fun j h3 => slG m i j d h3
theorem se_slice (m : Bool) {e : Expr} {lo hi : Option Expr} {fe : SD → Hs → R D} {fl fh : SD → Hs → R (Option Int)} {p2 pos : Pos} (hK : X.K = F.K) (he : SE X F W e fe) (hl : SO X F W lo fl) (hh : SO X F W hi fh) : SE X F W (.Subscript e (.Slice lo hi none p2) pos) (fun s h => slR m (fe s h) (fl s) (fh s)) := by
  refine PE.imp (pe_slice (sl_list.or sl_tupA) he hl hh) fun σ H Q ⟨G, h, s, t, o⟩ => ?_
  refine part t o fun d x h1 G1 H1 T1 t1 vx o1 => ?_
  refine part t1 o1 fun i i' h2 G2 H2 T2 t2 ei o2 => ?_
  obtain rfl : i = i' := ei
  refine part t2 o2 fun j j' h3 G3 H3 T3 t3 ej o3 => ?_
  clear o o1 o2
  obtain rfl : j = j' := ej
  replace vx := VR.step (T2.trans T3) t1.hr.aB d vx
  rw [hK]
  have o := o3
  clear o3
  unfold slG at o
  split at o
  · rename_i l
    obtain ⟨p, xs, rfl, hs, hl⟩ := vr_tup.mp vx
    refine .inr ⟨p, xs, rfl, hs, fun w => ?_, fun _ q hq => KO.newT o t3.hr hq (vrl_cut hl)⟩
    rw [hl.length] at w
    have : cutD l i j = l := by unfold cutD; rw [w.1, w.2]; simp
    rw [this] at o
    exact KO.val o t3.hr vx
  · split at o
    · rename_i l ql
      obtain ⟨p, xs, rfl, hs, hl⟩ := list_of t3.hr vx ql
      refine .inl ⟨p, xs, rfl, hs, fun q hq => ?_⟩
      cases e : newL m (cutD l i j) h3 with
      | ok z h' => rw [e] at o; exact newL_go e o t3.hr hq (vrl_cut hl)
      | rs c p h' => exact (newL_nrs e).elim
      | stk => rw [e] at o; exact o.elim
    · exact o.elim
theorem se_rev (m : Bool) {e : Expr} {fe : SD → Hs → R D} {k : Nat} {p1 p2 p3 pos : Pos} (hK : X.K = F.K) (he : SE X F W e fe) : SE X F W (.Subscript e (.Slice none none (some (.UnaryOp .USub (.Constant (.int 1) k p1) p2)) p3) pos) (fun s h => (fe s h).bind (revG m)) := by
  refine PE.imp (pe_revLT he) fun σ H Q ⟨G, h, s, t, o⟩ => ?_
  refine part t o fun d x h1 G1 H1 T1 t1 vx o => ?_
  unfold revG at o
  split at o
  · rename_i l
    obtain ⟨p, xs, rfl, hs, hl⟩ := vr_tup.mp vx
    rw [hK]
    exact .inr ⟨p, xs, rfl, hs, fun q hq => KO.newT o t1.hr hq hl.reverse⟩
  · split at o
    · rename_i l ql
      obtain ⟨p, xs, rfl, hs, hl⟩ := list_of t1.hr vx ql
      rw [hK]
      refine .inl ⟨p, xs, rfl, hs, fun q hq => ?_⟩
      cases e : newL m l.reverse h1 with
      | ok z h' => rw [e] at o; exact newL_go e o t1.hr hq hl.reverse
      | rs c p h' => exact (newL_nrs e).elim
      | stk => rw [e] at o; exact o.elim
    · exact o.elim
/-! ### built-ins -/
def gLen (h : Hs) (ds : List D) : Option D := match ds with
  | [.tup l] => some (.int (l.length : Nat))
  | [.str z] => if z.length ≤ 16777216 then some (.int (z.length : Nat)) else none
  | [d] => match dicH h d with
    | some (k, _) => some (.int (k.length : Nat))
    | none => (lstH h d).map fun l => .int (l.length : Nat)
  | _ => none
/-- the items of a list or a tuple -/
def seqH (h : Hs) (d : D) : Option (List D) := match d with
  | .tup l => some l
  | d => lstH h d
def gSum (h : Hs) (ds : List D) : Option D := match ds with
  | [d] => (seqH h d).bind fun l => (intsOf l).map fun ns => .int ns.sum
  | _ => none
def gAll (h : Hs) (ds : List D) : Option D := match ds with
  | [d] => (lstH h d).bind fun l => (blsOf l).map fun bs => .bl (bs.all id)
  | _ => none
def gAny (h : Hs) (ds : List D) : Option D := match ds with
  | [d] => (lstH h d).bind fun l => (blsOf l).map fun bs => .bl (bs.any id)
  | _ => none
def gTupleF (h : Hs) (ds : List D) : Option D := match ds with
  | [d] => (seqH h d).map .tup
  | _ => none
def gListF (m : Bool) (ds : List D) (h : Hs) : R D := match ds with
  | [d] => match seqH h d with
    | some l => newL m l h
    | none => .stk
  | _ => .stk
def gAbs (_ : Hs) (ds : List D) : Option D := match ds with
  | [.int i] => some (.int (if i < 0 then -i else i))
  | _ => none
def gMax (h : Hs) (ds : List D) : Option D := match ds with
  | [.int i, .int j] => some (.int (if j > i then j else i))
  | [d] => match (lstH h d).bind intsOf with
    | some (a :: r) => some (.int (maxL a r))
    | _ => none
  | _ => none
def gMin (h : Hs) (ds : List D) : Option D := match ds with
  | [.int i, .int j] => some (.int (if j < i then j else i))
  | [d] => match (lstH h d).bind intsOf with
    | some (a :: r) => some (.int (minL a r))
    | _ => none
  | _ => none
def sortI (l : List Int) : List Int := l.mergeSort (fun a b => decide (a ≤ b))
/-- tuples of whole numbers -/
def tupsOf : List D → Option (List (List Int))
  | [] => some []
  | .tup l :: r => (intsOf l).bind fun a => (tupsOf r).map (a :: ·)
  | _ :: _ => none
def bigB : Int := 2 ^ 64
def tupD (ns : List Int) : D := .tup (ns.map .int)
def sortT (L : List (List Int)) : List (List Int) := L.mergeSort fun a b => decide (TS.code bigB a ≤ TS.code bigB b)
/-- all of one length, of numbers that are not too great, not too many -/
def okT (d : Nat) (L : List (List Int)) : Prop := 1 ≤ d ∧ L.length < 64 ∧ ∀ a ∈ L, a.length = d ∧ TS.Bd bigB a
open Classical in
noncomputable def gSort (m : Bool) (ds : List D) (h : Hs) : R D := match ds with
  | [d] => match (lstH h d).bind intsOf with
    | some ns => newL m ((sortI ns).map .int) h
    | none => match (lstH h d).bind tupsOf with
      | some L => if ∃ d, okT d L then newL m ((sortT L).map tupD) h else .stk
      | none => .stk
  | _ => .stk
theorem sort_uniq {l m : List Int} (p : l.Perm m) (hl : l.Pairwise (· ≤ ·)) (hm : m.Pairwise (· ≤ ·)) : l = m :=
  List.Perm.eq_of_pairwise (fun a b _ _ h1 h2 => by omega) hl hm p
theorem sortI_perm (l : List Int) : (sortI l).Perm l := List.mergeSort_perm l _
theorem sortI_le (l : List Int) : (sortI l).Pairwise (· ≤ ·) := by
  have := List.pairwise_mergeSort (le := fun a b : Int => decide (a ≤ b)) (fun a b c h1 h2 => by simp at *; omega) (fun a b => by simp; omega) l
  exact this.imp fun h => by simpa using h
theorem seq_of {d : D} {v : V} {l : List D} (r : HR F G H h) (x : VR F G H d v) (e : seqH h d = some l) : ∃ p xs, v = .ref p ∧ VRL F G H l xs ∧ ((SqT F.K H p xs ∧ d = .tup l) ∨ SqL F.K H p xs) := by
  unfold seqH at e
  split at e
  · injection e with e
    subst e
    obtain ⟨p, xs, rfl, hs, hl⟩ := vr_tup.mp x
    exact ⟨p, xs, rfl, hl, .inl ⟨hs, rfl⟩⟩
  · obtain ⟨p, xs, rfl, hs, hl⟩ := list_of r x e
    exact ⟨p, xs, rfl, hl, .inr hs⟩
def rLenA (K : PySem.W.Frag) : List V → Hp → VK → Prop := fun xs H Q => (∃ x n, xs = [x] ∧ LenV K x H n ∧ Q (.int (n : Nat)) H) ∨ ∃ a kvs, xs = [V.ref a] ∧ Rd H a (.dK kvs) ∧ Q (.int (kvs.length : Nat)) H
theorem call_lenA : CallR X (.builtin "len") (rLenA X.K) := by
  intro pins s σ H xs us Q I r h
  rcases h with h | ⟨a, kvs, rfl, ha, q⟩
  · exact call_len pins s σ H xs us Q I r h
  · obtain ⟨u, rfl, ru⟩ := vals1 r
    cases ru
    exact d_len I ha fun t s' I' => ⟨.int kvs.length, H, I', ⟨t, rfl⟩, q⟩
theorem ok_len : CallOk F (rLenA F.K) (DL gLen) := okL fun G H h vs ds z Q e r rl k => by
  unfold gLen at e
  split at e
  · rename_i l
    injection e with e
    subst e
    obtain ⟨x, rfl, r1⟩ := vrl_onev rl
    obtain ⟨p, xs, rfl, hs, hl⟩ := vr_tup.mp r1
    exact .inl ⟨.ref p, l.length, rfl, .inr ⟨xs, hs, hl.length.symm⟩, k.int r⟩
  · rename_i w
    split at e
    · rename_i hz
      injection e with e
      subst e
      obtain ⟨x, rfl, r1⟩ := vrl_onev rl
      obtain rfl := vr_str.mp r1
      exact .inl ⟨.str w, w.length, rfl, ⟨le_line hz, rfl⟩, k.int r⟩
    · cases e
  · rename_i d _ _
    split at e
    · rename_i kk ll q
      injection e with e
      subst e
      obtain ⟨x, rfl, r1⟩ := vrl_onev rl
      obtain ⟨p, qs, vs, rfl, hp, hl, h1, h2⟩ := dic_of r r1 q
      refine .inr ⟨p, _, rfl, hp, ?_⟩
      have e1 := h1.length
      rw [List.length_map] at e1
      have e2 : (qs.zip vs).length = kk.length := by rw [List.length_zip]; omega
      rw [e2]
      exact k.int r
    · cases q : lstH h d with
      | none => rw [q] at e; cases e
      | some l =>
        rw [q] at e
        injection e with e
        subst e
        obtain ⟨x, rfl, r1⟩ := vrl_onev rl
        obtain ⟨p, xs, rfl, hs, hl⟩ := list_of r r1 q
        exact .inl ⟨.ref p, l.length, rfl, .inl ⟨xs, hs, hl.length.symm⟩, k.int r⟩
  · cases e
theorem ok_sum : CallOk F (rSumA F.K) (DL gSum) := okL fun G H h vs ds z Q e r rl k => by
  unfold gSum at e
  split at e
  · rename_i d
    cases q : seqH h d with
    | none => rw [q] at e; cases e
    | some l =>
      rw [q] at e
      have e : (intsOf l).map (fun ns => D.int ns.sum) = some z := e
      cases q2 : intsOf l with
      | none => rw [q2] at e; cases e
      | some ns =>
        rw [q2] at e
        injection e with e
        subst e
        obtain ⟨x, rfl, r1⟩ := vrl_onev rl
        obtain ⟨p, xs, rfl, hl, hs⟩ := seq_of r r1 q
        rw [intsOf_back q2] at hl
        rw [vrl_ints hl] at hs
        exact ⟨p, ns, rfl, hs.symm.imp id fun z => z.1, k.int r⟩
  · cases e
theorem ok_all : CallOk F (rAll F.K) (DL gAll) := okL fun G H h vs ds z Q e r rl k => by
  unfold gAll at e
  split at e
  · rename_i d
    cases q : lstH h d with
    | none => rw [q] at e; cases e
    | some l =>
      rw [q] at e
      have e : (blsOf l).map (fun bs => D.bl (bs.all id)) = some z := e
      cases q2 : blsOf l with
      | none => rw [q2] at e; cases e
      | some ns =>
        rw [q2] at e
        injection e with e
        subst e
        obtain ⟨x, rfl, r1⟩ := vrl_onev rl
        obtain ⟨p, xs, rfl, hs, hl⟩ := list_of r r1 q
        rw [blsOf_back q2] at hl
        rw [vrl_bls hl] at hs
        exact ⟨p, ns, rfl, hs, k.bl r⟩
  · cases e
theorem ok_any : CallOk F (rAny F.K) (DL gAny) := okL fun G H h vs ds z Q e r rl k => by
  unfold gAny at e
  split at e
  · rename_i d
    cases q : lstH h d with
    | none => rw [q] at e; cases e
    | some l =>
      rw [q] at e
      have e : (blsOf l).map (fun bs => D.bl (bs.any id)) = some z := e
      cases q2 : blsOf l with
      | none => rw [q2] at e; cases e
      | some ns =>
        rw [q2] at e
        injection e with e
        subst e
        obtain ⟨x, rfl, r1⟩ := vrl_onev rl
        obtain ⟨p, xs, rfl, hs, hl⟩ := list_of r r1 q
        rw [blsOf_back q2] at hl
        rw [vrl_bls hl] at hs
        exact ⟨p, ns, rfl, hs, k.bl r⟩
  · cases e
theorem ok_tupleF : CallOk F (fun xs H Q => ∃ p ys, xs = [.ref p] ∧ ((SqL F.K H p ys ∧ ∀ l, H l = none → Q (.ref l) (upd H l (.tup ys))) ∨ (SqT F.K H p ys ∧ Q (.ref p) H))) (DL gTupleF) := okL fun G H h vs ds z Q e r rl k => by
  unfold gTupleF at e
  split at e
  · rename_i d
    cases q : seqH h d with
    | none => rw [q] at e; cases e
    | some l =>
      rw [q] at e
      injection e with e
      subst e
      obtain ⟨x, rfl, r1⟩ := vrl_onev rl
      obtain ⟨p, xs, rfl, hl, hs⟩ := seq_of r r1 q
      rcases hs with ⟨hs, rfl⟩ | hs
      · exact ⟨p, xs, rfl, .inr ⟨hs, k.val r r1⟩⟩
      · exact ⟨p, xs, rfl, .inl ⟨hs, fun w hw => k.newT r hw hl⟩⟩
  · cases e
theorem ok_listF (m : Bool) : CallOk F (fun xs H Q => ∃ p ys, xs = [.ref p] ∧ (SqL F.K H p ys ∨ SqT F.K H p ys) ∧ ∀ l, H l = none → Q (.ref l) (upd H l (.lst ys))) (gListF m) := by
  intro G H h vs ds z h' Q r rl e k
  unfold gListF at e
  split at e
  · split at e
    · rename_i l q
      obtain ⟨x, rfl, r1⟩ := vrl_onev rl
      obtain ⟨p, xs, rfl, hl, hs⟩ := seq_of r r1 q
      exact ⟨p, xs, rfl, hs.symm.imp id fun z => z.1, fun w hw => newL_go e k r hw hl⟩
    · cases e
  · cases e
theorem listF_nrs {m : Bool} : NoRs (gListF m) := fun ds h c p h' e => by
  unfold gListF at e
  split at e
  · split at e
    · exact newL_nrs e
    · cases e
  · cases e
theorem tupsOf_back : ∀ {l : List D} {L : List (List Int)}, tupsOf l = some L → l = L.map tupD
  | [], L, h => by injection h with h; subst h; rfl
  | d :: r, L, h => by
    cases d with
    | tup l =>
      have h : ((intsOf l).bind fun a => (tupsOf r).map (a :: ·)) = some L := h
      cases q : intsOf l with
      | none => rw [q] at h; cases h
      | some a =>
        rw [q] at h
        have h : (tupsOf r).map (a :: ·) = some L := h
        cases q2 : tupsOf r with
        | none => rw [q2] at h; cases h
        | some L' =>
          rw [q2] at h
          injection h with h
          subst h
          rw [List.map_cons, ← tupsOf_back q2, intsOf_back q]
          rfl
    | _ => cases h
theorem tupsOf_map : ∀ {L : List (List Int)}, tupsOf (L.map tupD) = some L
  | [] => rfl
  | a :: r => by
    show ((intsOf (a.map .int)).bind fun a => (tupsOf (r.map tupD)).map (a :: ·)) = _
    rw [intsOf_map, tupsOf_map]
    rfl
theorem code_inj {B : Int} : ∀ {a b : List Int}, a.length = b.length → TS.Bd B a → TS.Bd B b → TS.code B a = TS.code B b → a = b
  | [], [], _, _, _, _ => rfl
  | [], b :: q, l, _, _, _ => by cases l
  | a :: r, [], l, _, _, _ => by cases l
  | a :: r, b :: q, l, h1, h2, e => by
    have l' : r.length = q.length := by simpa using l
    rcases Int.lt_trichotomy a b with z | z | z
    · have := TS.code_lt l' h1.tail h2.tail z
      omega
    · subst z
      have e2 : a * B ^ r.length + TS.code B r = a * B ^ q.length + TS.code B q := e
      rw [l'] at e2
      rw [code_inj l' h1.tail h2.tail (by omega)]
    · have := TS.code_lt l'.symm h2.tail h1.tail z
      omega
theorem map_inj_on {α β : Type} {f : α → β} : ∀ {l m : List α}, (∀ a ∈ l, ∀ b ∈ m, f a = f b → a = b) → l.map f = m.map f → l = m
  | [], [], _, _ => rfl
  | [], b :: m, _, e => by cases e
  | a :: l, [], _, e => by cases e
  | a :: l, b :: m, h, e => by
    rw [List.map_cons, List.map_cons] at e
    injection e with e1 e2
    rw [h a List.mem_cons_self b List.mem_cons_self e1, map_inj_on (fun a ha b hb => h a (List.mem_cons_of_mem _ ha) b (List.mem_cons_of_mem _ hb)) e2]
theorem sortT_perm (L : List (List Int)) : (sortT L).Perm L := List.mergeSort_perm L _
theorem sortT_le (L : List (List Int)) : (sortT L).Pairwise fun a b => TS.code bigB a ≤ TS.code bigB b := by
  have := List.pairwise_mergeSort (le := fun a b : List Int => decide (TS.code bigB a ≤ TS.code bigB b)) (fun a b c h1 h2 => by simp at h1 h2 ⊢; omega) (fun a b => by simp; omega) L
  exact this.imp fun h => of_decide_eq_true h
theorem sortT_uniq {d : Nat} {L M : List (List Int)} (ok : okT d L) (p : M.Perm L) (s : M.Pairwise fun a b => TS.code bigB a ≤ TS.code bigB b) : M = sortT L := by
  have hm : ∀ a ∈ M, a.length = d ∧ TS.Bd bigB a := fun a ha => ok.2.2 a (p.mem_iff.mp ha)
  have hs : ∀ a ∈ sortT L, a.length = d ∧ TS.Bd bigB a := fun a ha => ok.2.2 a ((sortT_perm L).mem_iff.mp ha)
  refine map_inj_on (f := TS.code bigB) (fun a ha b hb e => code_inj ((hm a ha).1.trans (hs b hb).1.symm) (hm a ha).2 (hs b hb).2 e) ?_
  refine sort_uniq ((p.trans (sortT_perm L).symm).map _) ?_ ?_
  · rw [List.pairwise_map]; exact s
  · rw [List.pairwise_map]; exact sortT_le L
/-- values in another order stand for data in that order -/
theorem VRL.perm {xs ys : List V} (p : ys.Perm xs) : ∀ {l : List D}, VRL F G H l xs → ∃ l', l'.Perm l ∧ VRL F G H l' ys := by
  induction p with
  | nil => intro l h; exact ⟨l, List.Perm.refl _, h⟩
  | @cons x l1 l2 _ ih =>
    intro l h
    cases l with
    | nil => have := vrl_nil.mp h; cases this
    | cons d r =>
      obtain ⟨v, vr, e, h1, h2⟩ := vrl_cons.mp h
      injection e with e1 e2
      subst e1 e2
      obtain ⟨l', p', h3⟩ := ih h2
      exact ⟨d :: l', p'.cons d, vrl_cons.mpr ⟨_, _, rfl, h1, h3⟩⟩
  | swap x y l1 =>
    intro l h
    cases l with
    | nil => have := vrl_nil.mp h; cases this
    | cons d r =>
      obtain ⟨v, vr, e, h1, h2⟩ := vrl_cons.mp h
      injection e with e1 e2
      subst e1 e2
      cases r with
      | nil => have := vrl_nil.mp h2; cases this
      | cons d2 r =>
        obtain ⟨v2, vr2, e, h3, h4⟩ := vrl_cons.mp h2
        injection e with e1 e2
        subst e1 e2
        exact ⟨d2 :: d :: r, List.Perm.swap _ _ _, vrl_cons.mpr ⟨_, _, rfl, h3, vrl_cons.mpr ⟨_, _, rfl, h1, h4⟩⟩⟩
  | trans _ _ ih1 ih2 =>
    intro l h
    obtain ⟨l1, p1, h1⟩ := ih2 h
    obtain ⟨l2, p2, h2⟩ := ih1 h1
    exact ⟨l2, p2.trans p1, h2⟩
def rSortA (K : PySem.W.Frag) : List V → Hp → VK → Prop := fun vs H Q => rSortedI K vs H Q ∨ ∃ d, 1 ≤ d ∧ rSortU K d bigB vs H Q
theorem cr_sortA : CallR X (.builtin "sorted") (rSortA X.K) := by
  intro pins s σ H vs us Q I r h
  rcases h with h | ⟨d, hd, h⟩
  · exact cr_sortedI pins s σ H vs us Q I r h
  · exact cr_sortT hd pins s σ H vs us Q I r h
theorem vr_tupI {a : List Int} {v : V} (x : VR F G H (tupD a) v) : TupI F.K H v a := by
  obtain ⟨p, xs, rfl, hs, hl⟩ := vr_tup.mp x
  rw [vrl_ints hl] at hs
  exact ⟨p, rfl, hs⟩
theorem vrl_tups {ys : List V} : ∀ {L : List (List Int)}, VRL F G H (L.map tupD) ys → ∀ x ∈ ys, ∃ a ∈ L, TupI F.K H x a
  | [], h, x, hx => by rw [vrl_nil.mp h] at hx; cases hx
  | a :: r, h, x, hx => by
    obtain ⟨v, vr, rfl, h1, h2⟩ := vrl_cons.mp h
    rcases List.mem_cons.mp hx with z | z
    · exact ⟨a, List.mem_cons_self, by rw [z]; exact vr_tupI h1⟩
    · obtain ⟨b, hb, q⟩ := vrl_tups h2 x z
      exact ⟨b, List.mem_cons_of_mem _ hb, q⟩
theorem pair_tups : ∀ {zs : List V} {L : List (List Int)}, VRL F G H (L.map tupD) zs → zs.Pairwise (fun x y => ∀ n m, TupI F.K H x n → TupI F.K H y m → TS.code bigB n ≤ TS.code bigB m) → L.Pairwise fun a b => TS.code bigB a ≤ TS.code bigB b
  | zs, [], h, p => List.Pairwise.nil
  | zs, a :: r, h, p => by
    obtain ⟨v, vr, rfl, h1, h2⟩ := vrl_cons.mp h
    obtain ⟨p1, p2⟩ := List.pairwise_cons.mp p
    refine List.pairwise_cons.mpr ⟨fun b hb => ?_, pair_tups h2 p2⟩
    obtain ⟨i, hi, e⟩ := List.getElem_of_mem hb
    obtain ⟨w, w1, w2⟩ := VRL.get (i := i) (d := tupD b) h2 (by rw [List.getElem?_map, List.getElem?_eq_getElem hi, e]; rfl)
    exact p1 w (List.mem_of_getElem? w1) a b (vr_tupI h1) (vr_tupI w2)
theorem ok_sort (m : Bool) : CallOk F (rSortA F.K) (gSort m) := by
  intro G H h vs ds z h' Q r rl e k
  unfold gSort at e
  split at e
  · rename_i d
    split at e
    · rename_i ns q
      cases q1 : lstH h d with
      | none => rw [q1] at q; cases q
      | some l =>
        rw [q1] at q
        have q : intsOf l = some ns := q
        obtain ⟨x, rfl, r1⟩ := vrl_onev rl
        obtain ⟨p, xs, rfl, hs, hl⟩ := list_of r r1 q1
        rw [intsOf_back q] at hl
        rw [vrl_ints hl] at hs
        refine .inl ⟨p, ns, rfl, hs, fun ns' w pm pw hw => ?_⟩
        have : ns' = sortI ns := sort_uniq (pm.trans (sortI_perm ns).symm) pw (sortI_le ns)
        subst this
        exact newL_go e k r hw vrl_of_ints
    · split at e
      · rename_i L q
        split at e
        · rename_i hok
          obtain ⟨dd, ok⟩ := hok
          cases q1 : lstH h d with
          | none => rw [q1] at q; cases q
          | some l =>
            rw [q1] at q
            have q : tupsOf l = some L := q
            obtain ⟨x, rfl, r1⟩ := vrl_onev rl
            obtain ⟨p, xs, rfl, hs, hl⟩ := list_of r r1 q1
            rw [tupsOf_back q] at hl
            refine .inr ⟨dd, ok.1, p, xs, rfl, hs, by rw [hl.length, List.length_map]; exact ok.2.1, fun x hx => ?_, fun ys w pm pw hw => ?_⟩
            · obtain ⟨a, ha, ta⟩ := vrl_tups hl x hx
              exact ⟨a, ta, ok.2.2 a ha⟩
            · obtain ⟨l', p', hl'⟩ := VRL.perm pm hl
              obtain ⟨L', rfl⟩ : ∃ L' : List (List Int), l' = L'.map tupD := by
                have : ∀ d ∈ l', ∃ a, d = tupD a := fun d hd => by
                  obtain ⟨a, _, e⟩ := List.mem_map.mp (p'.mem_iff.mp hd)
                  exact ⟨a, e.symm⟩
                clear p'
                clear hl'
                induction l' with
                | nil => exact ⟨[], rfl⟩
                | cons d r ih =>
                  obtain ⟨a, rfl⟩ := this d List.mem_cons_self
                  obtain ⟨L', rfl⟩ := ih fun d hd => this d (List.mem_cons_of_mem _ hd)
                  exact ⟨a :: L', rfl⟩
              have pL : L'.Perm L := by
                have inj : ∀ {A B : List (List Int)}, (A.map tupD).Perm (B.map tupD) → A.Perm B := fun {A B} h => by
                  have h1 := h.map (fun d => (match d with | .tup l => (intsOf l).getD [] | _ => []))
                  simp only [List.map_map] at h1
                  have e1 : ∀ (C : List (List Int)), C.map ((fun d => (match d with | .tup l => (intsOf l).getD [] | _ => [])) ∘ tupD) = C := fun C => by
                    refine (List.map_congr_left fun a _ => ?_).trans (List.map_id C)
                    show (intsOf (a.map .int)).getD [] = a
                    rw [intsOf_map]
                    rfl
                  rw [e1, e1] at h1
                  exact h1
                exact inj p'
              have eL := sortT_uniq ok pL (pair_tups hl' pw)
              subst eL
              exact newL_go e k r hw hl'
        · cases e
      · cases e
  · cases e
theorem sort_nrs {m : Bool} : NoRs (gSort m) := fun ds h c p h' e => by
  unfold gSort at e
  split at e
  · split at e
    · exact newL_nrs e
    · split at e
      · split at e
        · exact newL_nrs e
        · cases e
      · cases e
  · cases e
theorem ok_max : CallOk F (rMaxA F.K) (DL gMax) := okL fun G H h vs ds z Q e r rl k => by
  unfold gMax at e
  split at e
  · injection e with e
    subst e
    rw [vals_int2 rl]
    exact .inl ⟨_, _, rfl, k.int r⟩
  · rename_i d
    split at e
    · rename_i a t q
      injection e with e
      subst e
      cases q1 : lstH h d with
      | none => rw [q1] at q; cases q
      | some l =>
        rw [q1] at q
        have q : intsOf l = some (a :: t) := q
        obtain ⟨x, rfl, r1⟩ := vrl_onev rl
        obtain ⟨p, xs, rfl, hs, hl⟩ := list_of r r1 q1
        rw [intsOf_back q] at hl
        rw [vrl_ints hl] at hs
        exact .inr ⟨p, a, t, rfl, hs, k.int r⟩
    · cases e
  · cases e
theorem ok_min : CallOk F (rMinA F.K) (DL gMin) := okL fun G H h vs ds z Q e r rl k => by
  unfold gMin at e
  split at e
  · injection e with e
    subst e
    rw [vals_int2 rl]
    exact .inl ⟨_, _, rfl, k.int r⟩
  · rename_i d
    split at e
    · rename_i a t q
      injection e with e
      subst e
      cases q1 : lstH h d with
      | none => rw [q1] at q; cases q
      | some l =>
        rw [q1] at q
        have q : intsOf l = some (a :: t) := q
        obtain ⟨x, rfl, r1⟩ := vrl_onev rl
        obtain ⟨p, xs, rfl, hs, hl⟩ := list_of r r1 q1
        rw [intsOf_back q] at hl
        rw [vrl_ints hl] at hs
        exact .inr ⟨p, a, t, rfl, hs, k.int r⟩
    · cases e
  · cases e
theorem ok_abs : CallOk F (fun xs H Q => ∃ i, xs = [.int i] ∧ Q (.int (if i < 0 then -i else i)) H) (DL gAbs) := okL fun G H h vs ds z Q e r rl k => by
  unfold gAbs at e
  split at e
  · injection e with e
    subst e
    rw [vals_int1 rl]
    exact ⟨_, rfl, k.int r⟩
  · cases e
/-! ### isinstance of built-in classes -/
def tyOf (h : Hs) : D → Option String
  | .non => some "NoneType"
  | .bl _ => some "bool"
  | .int _ => some "int"
  | .str _ => some "str"
  | .tup _ => some "tuple"
  | .vl _ => some "list"
  | .sl _ => some "list"
  | .vd _ _ => some "dict"
  | .ref n => match h[n]? with
    | some (.lst _) => some "list"
    | some (.dic _ _) => some "dict"
    | some (.fdc _ _) => some "dict"
    | some (.dit _ _) => some "dict"
    | _ => none
  | .exc _ _ => none
theorem VR.tyX (r : HR F G H h) {d : D} {v : V} {T : String} (x : VR F G H d v) (e : tyOf h d = some T) : TyX F.K H v (.type T) := by
  unfold tyOf at e
  split at e
  · injection e with e; subst e; rw [vr_non.mp x]; exact .base .non
  · injection e with e; subst e; rw [vr_bl.mp x]; exact .base (.bl _)
  · injection e with e; subst e; rw [vr_int.mp x]; exact .base (.int _)
  · injection e with e; subst e; rw [vr_str.mp x]; exact .base (.str _)
  · injection e with e
    subst e
    obtain ⟨p, xs, rfl, hs, hl⟩ := vr_tup.mp x
    rcases hs with (hs | ⟨o, hs⟩) | ⟨o, its, n, h1, h2, _⟩
    · exact .base (.tup hs)
    · exact .fTuple hs
    · exact .kTuple h1 h2
  · injection e with e
    subst e
    obtain ⟨p, xs, rfl, hs, hl⟩ := vr_vl.mp x
    rcases hs.1 with hs | ⟨o, hs⟩
    · exact .base (.lst hs)
    · exact .base (.frz hs)
  · injection e with e
    subst e
    obtain ⟨p, xs, rfl, hs, hl⟩ := vr_sl.mp x
    rcases hs with ⟨hs | ⟨o, hs⟩, _⟩ | ⟨o, its, n, h1, h2, _⟩
    · exact .base (.lst hs)
    · exact .base (.frz hs)
    · exact .kList h1 h2
  · injection e with e
    subst e
    obtain ⟨p, ks, vs, rfl, hs, _⟩ := vr_vd.mp x
    exact .base (.dK hs.1)
  · rename_i n
    obtain ⟨p, rfl, hp⟩ := vr_ref.mp x
    split at e
    · rename_i l q
      injection e with e
      subst e
      obtain ⟨q', hq, u, hu, xs, rfl, hl⟩ := r.obj n _ q
      rw [hp] at hq
      injection hq with hq
      subst hq
      exact .base (.lst hu)
    · rename_i k l q
      injection e with e
      subst e
      obtain ⟨q', hq, u, hu, qs, vs, rfl, _⟩ := r.obj n _ q
      rw [hp] at hq
      injection hq with hq
      subst hq
      exact .base (.dK hu)
    · rename_i k l q
      injection e with e
      subst e
      obtain ⟨q', hq, u, hu, od, qs, vs, rfl, _⟩ := r.obj n _ q
      rw [hp] at hq
      injection hq with hq
      subst hq
      exact .fDict hu
    · rename_i k l q
      injection e with e
      subst e
      obtain ⟨q', hq, u, hu, vs, rfl, _⟩ := r.obj n _ q
      rw [hp] at hq
      injection hq with hq
      subst hq
      exact .base (.dT hu)
    · cases e
  · cases e
def isiG (T : String) (d : D) (h : Hs) : R D := match (tyOf h d).bind fun t => kitB t T with
  | some b => .ok (.bl b) h
  | none => .stk
theorem se_isi {e : Expr} {f : SD → Hs → R D} {T : String} {x : Str} {px p pos : Pos} (hK : X.K = F.K) (hg : Gl X "isinstance") (hm : X.mg "isinstance" = none) (hgT : Gl X x) (hmT : X.mg x = none) (hv : bootBuiltins x = some (.type T)) (hn : x ≠ "__name__") (hd : (x == ("__debug__" : Str)) = false)
    (hs : starEach [e, .Name x px] X.env = (false, eval e X.env) :: starEach [.Name x px] X.env) (hpl : (backTo pos (starEach [.Name x px] X.env)).any (·.1) = false) (hh : SE X F W e f) :
    SE X F W (.Call (.Name "isinstance" p) [e, .Name x px] [] pos) (fun s h => (f s h).bind (isiG T)) := by
  have hb : bootBuiltins "isinstance" = some (.builtin "isinstance") := by decide +kernel
  refine PE.imp (pe_callB call_isi hg hm hb (pa_cons hh (pa_cons (pe_bltn (v := .ty T) hgT hmT hv rfl hn hd) pa_nil) hs) (he := hs)) fun σ H Q ⟨G, h, s, t, o⟩ => ?_
  refine part t o fun d v h1 G1 H1 T1 t1 x o => ?_
  unfold isiG at o
  cases q : tyOf h1 d with
  | none => rw [q] at o; exact o.elim
  | some u =>
    rw [q] at o
    dsimp only [Option.bind] at o
    cases q2 : kitB u T with
    | none => rw [q2] at o; exact o.elim
    | some b =>
      rw [q2] at o
      rw [hK]
      exact ⟨v, .ty T, .type u, .type T, b, rfl, .ty T, VR.tyX t1.hr x q, kit_ty q2, KO.bl o t1.hr⟩
/-! ### a place of a list stored -/
/-- an object's content changed, if nothing younger comes into it -/
def putH (n : Nat) (o : HO') (h : Hs) : Option Hs := some (h.set n o)
/-- d[q] = v -/
def dPut (k l : List D) (q : Key) (v : D) : List D × List D :=
  if (k.any fun a => decide (kyD a = some q)) = true then (k, (k.zip l).map fun p => if kyD p.1 = some q then v else p.2) else (k ++ [kD q], l ++ [v])
def storeG (o i v : D) (h : Hs) : Option Hs := match o with
  | .ref n => match h[n]? with
    | some (.lst l) => (match i with
      | .int k => (ixN l.length k).bind fun j => putH n (.lst (l.set j v)) h
      | _ => none)
    | some (.dic k l) => (kyD i).bind fun q => if k.length < 16777216 then putH n (.dic (dPut k l q v).1 (dPut k l q v).2) h else none
    | _ => none
  | _ => none
theorem put_map {q : Key} {v : V} : ∀ {qs : List Key} {vs : List V}, qs.length = vs.length → (qs.zip vs).map (fun kv => if kv.1 = q then (kv.1, v) else kv) = qs.zip ((qs.zip vs).map fun kv => if kv.1 = q then v else kv.2)
  | [], vs, _ => rfl
  | a :: qs, [], h => by cases h
  | a :: qs, b :: vs, h => by
    simp only [List.zip_cons_cons, List.map_cons]
    rw [put_map (by simpa using h)]
    by_cases z : a = q
    · simp [z]
    · simp [z]
theorem put_vr {q : Key} {y : D} {v : V} (hv : VR F G H y v) : ∀ {k l : List D} {qs : List Key} {vs : List V}, VRL F G H k (qs.map kV) → VRL F G H l vs → qs.length = vs.length → VRL F G H ((k.zip l).map fun p => if kyD p.1 = some q then y else p.2) ((qs.zip vs).map fun kv => if kv.1 = q then v else kv.2) ∧ (k.any fun a => decide (kyD a = some q)) = (qs.zip vs).any fun kv => decide (kv.1 = q)
  | [], l, qs, vs, h1, h2, hl => by
    have : qs = [] := by
      have := vrl_nil.mp h1
      simpa using this
    subst this
    exact ⟨by simpa using vrl_nil.mpr rfl, rfl⟩
  | a :: k, l, qs, vs, h1, h2, hl => by
    obtain ⟨v0, vr, e, h3, h4⟩ := vrl_cons.mp h1
    cases qs with
    | nil => cases e
    | cons q0 qs =>
      rw [List.map_cons] at e
      injection e with e1 e2
      subst e1 e2
      cases vs with
      | nil => cases hl
      | cons v1 vs =>
        cases l with
        | nil => have := vrl_nil.mp h2; cases this
        | cons d l =>
          obtain ⟨v', vr', e, h5, h6⟩ := vrl_cons.mp h2
          injection e with e1 e2
          subst e1 e2
          obtain ⟨i1, i2⟩ := put_vr (q := q) hv h4 h6 (by simpa using hl)
          have ek := of_ky h3
          simp only [List.zip_cons_cons, List.map_cons, List.any_cons, ek, i2]
          by_cases z : q0 = q
          · subst z
            simp only [if_pos, if_true]
            exact ⟨vrl_cons.mpr ⟨v, _, rfl, hv, i1⟩, by simp⟩
          · have z' : ¬ (some q0 = some q) := fun w => z (Option.some.inj w)
            simp only [if_neg z, if_neg z']
            exact ⟨vrl_cons.mpr ⟨v1, _, rfl, h5, i1⟩, by simp [z]⟩
theorem dPut_vr {q : Key} {y : D} {v : V} (hv : VR F G H y v) {k l : List D} {qs : List Key} {vs : List V} (h1 : VRL F G H k (qs.map kV)) (h2 : VRL F G H l vs) (hl : qs.length = vs.length) : ∃ (qs' : List Key) (vs' : List V), putK (qs.zip vs) q v = qs'.zip vs' ∧ qs'.length = vs'.length ∧ VRL F G H (dPut k l q y).1 (qs'.map kV) ∧ VRL F G H (dPut k l q y).2 vs' := by
  obtain ⟨i1, i2⟩ := put_vr (q := q) hv h1 h2 hl
  unfold putK dPut
  rw [i2]
  split
  · exact ⟨qs, _, put_map hl, by simp [hl], h1, i1⟩
  · refine ⟨qs ++ [q], vs ++ [v], by rw [List.zip_append hl]; rfl, by simp [hl], ?_, h2.append (vrl_one.mpr hv)⟩
    rw [List.map_append]
    refine h1.append ?_
    cases q with
    | inl i => exact vrl_one.mpr (vr_int.mpr rfl)
    | inr i => exact vrl_one.mpr (vr_str.mpr rfl)
def storeO (fe fo fi : SD → Hs → R D) (s : SD) (h : Hs) : O := (fe s h).thenO s fun v h1 => (fo s h1).thenO s fun o h2 => (fi s h2).thenO s fun i h3 => match storeG o i v h3 with
  | some h4 => .nx s h4
  | none => .stk
theorem put_go {n : Nat} {p : Addr} {o : HO'} {u : HO} (t : St F G h s σ H) (e : putH n o h = some h') (hp : G.α n = some p) (nf : ∀ o u, H p ≠ some (.frz o u)) (ho : ON F G H u o) : Step G H G (upd H p u) ∧ St F G h' s σ (upd H p u) := by
  unfold putH at e
  injection e with e
  subst e
  exact ⟨Step.write t.hr hp nf, t.step (Step.write t.hr hp nf) (t.hr.write hp nf ho)⟩
def rSetA : TSet := fun o i v H Q => rSetL o i v H Q ∨ rSetD o i v H Q
theorem set_any (hu : X.A.units + 1 < cLine) : PSet X rSetA := by
  intro pins s σ H o i v ov iv u Q I ro ri rv h
  rcases h with h | h
  · exact set_list pins s σ H o i v ov iv u Q I ro ri rv h
  · exact set_dict hu pins s σ H o i v ov iv u Q I ro ri rv h
theorem store_go {fe fo fi : SD → Hs → R D} {Dn : Ends} (t : St F G h s σ H) (o : OutS F W Dn G H (storeO fe fo fi s h)) : tAsg (lift F W (VR F) fe) (L2.gSub (lift F W (VR F) fo) (lift F W (VR F) fi) rSetA) Dn σ H := by
  unfold storeO at o
  refine partS t o fun v x h1 G1 H1 T1 t1 vx o1 => ?_
  refine partS t1 o1 fun ob y h2 G2 H2 T2 t2 vy o2 => ?_
  refine partS t2 o2 fun i w h3 G3 H3 T3 t3 vw o3 => ?_
  have ho := o3
  clear o o1 o2 o3
  replace vx := VR.step (T2.trans T3) t1.hr.aB v vx
  replace vy := VR.step T3 t2.hr.aB ob vy
  split at ho
  · rename_i h4 e
    unfold storeG at e
    split at e
    · rename_i n
      split at e
      · rename_i l q
        split at e
        · rename_i k
          cases q2 : ixN l.length k with
          | none => rw [q2] at e; cases e
          | some j =>
            rw [q2] at e
            have e : putH n (.lst (l.set j v)) h3 = some h4 := e
            obtain ⟨p, xs, rfl, hp, hu, hl⟩ := ref_lst t3.hr vy q
            obtain rfl := vr_int.mp vw
            obtain ⟨T4, t4⟩ := put_go (u := .lst (xs.set j x)) t3 e hp (fun _ _ z => by rw [hu] at z; cases z) ⟨_, rfl, hl.set j vx⟩
            exact .inl ⟨p, xs, k, j, rfl, rfl, hu, by rw [hl.length]; exact q2, ho G3 σ _ T4 t4⟩
        · cases e
      · rename_i kk ll q
        cases q2 : kyD i with
        | none => rw [q2] at e; cases e
        | some ky =>
          rw [q2] at e
          dsimp only [Option.bind] at e
          split at e
          · rename_i hlen
            obtain ⟨p, rfl, hp⟩ := vr_ref.mp vy
            obtain ⟨p', hp', u, hu, qs, vs, rfl, hl, h1, h2⟩ := t3.hr.obj n _ q
            rw [hp] at hp'
            injection hp' with hp'
            subst hp'
            obtain rfl := ky_of vw q2
            obtain ⟨qs', vs', ep, hl', a1, a2⟩ := dPut_vr (q := ky) vx h1 h2 hl
            have e1 := h1.length
            rw [List.length_map] at e1
            obtain ⟨T4, t4⟩ := put_go (u := .dK (putK (qs.zip vs) ky x)) t3 e hp (fun _ _ z => by rw [hu] at z; cases z) ⟨qs', vs', by rw [ep], hl', a1, a2⟩
            exact .inr ⟨p, _, rfl, .inl ⟨_, ky, hu, rfl, by rw [List.length_zip, sizeLine_eq]; omega, rfl⟩, ho G3 σ _ T4 t4⟩
          · cases e
      · cases e
    · cases e
  · exact ho.elim
/-! ### methods of built-in types -/
/-- how a method answers one on data -/
def MthOk (F : Fr) (r : V → List V → Hp → VK → Prop) (g : D → List D → Hs → R D) : Prop := ∀ (G : Gh) (H : Hp) (h : Hs) (x : V) (d : D) (vs : List V) (ds : List D) (z : D) (h' : Hs) (Q : VK), HR F G H h → VR F G H d x → VRL F G H ds vs → g d ds h = .ok z h' → KO F G H h' z Q → r x vs H Q
/-- the receiver's type -/
def TyOk (F : Fr) (T : String) (c : Hs → D → Bool) : Prop := ∀ (G : Gh) (H : Hp) (h : Hs) (x : V) (d : D), HR F G H h → VR F G H d x → c h d = true → tyV F.K T x H
def isLst (h : Hs) (d : D) : Bool := (lstH h d).isSome
theorem ty_list : TyOk F "list" isLst := fun G H h x d r v c => by
  obtain ⟨l, e⟩ := Option.isSome_iff_exists.mp c
  obtain ⟨p, xs, rfl, hs, _⟩ := list_of r v e
  exact .inl ⟨rfl, xs, hs⟩
def isStr (_ : Hs) : D → Bool
  | .str _ => true
  | _ => false
theorem ty_str : TyOk F "str" isStr := fun G H h x d r v c => by
  cases d with
  | str z => rw [vr_str.mp v]; rfl
  | _ => cases c
def mthR (c : Hs → D → Bool) (g : D → List D → Hs → R D) (fo : SD → Hs → R D) (fs : SD → Hs → R (List D)) (s : SD) (h : Hs) : R D := (fo s h).bind fun d h1 => if c h1 d = true then (fs s h1).bind fun ds h2 => g d ds h2 else .stk
theorem mth_go {T : String} {c : Hs → D → Bool} {r : V → List V → Hp → VK → Prop} {g : D → List D → Hs → R D} {fo : SD → Hs → R D} {fs : SD → Hs → R (List D)} {Q : VK} (hT : TyOk F T c) (ok : MthOk F r g) (nr : ∀ d ds h c p h', g d ds h ≠ .rs c p h') (t : St F G h s σ H) (o : Out F W G σ H (VR F) Q (mthR c g fo fs s h)) :
    tBM F.K T r (lift F W (VR F) fo) (lift F W (VRL F) fs) σ H Q := by
  unfold mthR at o
  refine part t o fun d x h1 G1 H1 T1 t1 vx o => ?_
  split at o
  · rename_i hc
    refine ⟨hT G1 H1 h1 x d t1.hr vx hc, part t1 o fun ds vs h2 G2 H2 T2 t2 vy o => ?_⟩
    have vx := VR.step T2 t1.hr.aB d vx
    cases e : g d ds h2 with
    | ok z h' => rw [e] at o; exact ok G2 H2 h2 x d vs ds z h' Q t2.hr vx vy e o
    | rs cc p h' => exact (nr d ds h2 cc p h' e).elim
    | stk => rw [e] at o; exact o.elim
  · exact o.elim
theorem mth0_go {T : String} {c : Hs → D → Bool} {r : V → List V → Hp → VK → Prop} {g : D → List D → Hs → R D} {fo : SD → Hs → R D} {Q : VK} (hT : TyOk F T c) (ok : MthOk F r g) (nr : ∀ d ds h c p h', g d ds h ≠ .rs c p h') (t : St F G h s σ H) (o : Out F W G σ H (VR F) Q (mthR c g fo (fun _ h => .ok [] h) s h)) :
    tBM0 F.K T r (lift F W (VR F) fo) σ H Q := by
  unfold mthR at o
  refine part t o fun d x h1 G1 H1 T1 t1 vx o => ?_
  split at o
  · rename_i hc
    refine ⟨hT G1 H1 h1 x d t1.hr vx hc, ?_⟩
    have o : Out F W G1 σ H1 (VR F) Q (g d [] h1) := o
    cases e : g d [] h1 with
    | ok z h' => rw [e] at o; exact ok G1 H1 h1 x d [] [] z h' Q t1.hr vx (vrl_nil.mpr rfl) e o
    | rs cc p h' => exact (nr d [] h1 cc p h' e).elim
    | stk => rw [e] at o; exact o.elim
  · exact o.elim
/-- a method that changes a list and hands back a value -/
def lstM (g : Hs → List D → List D → Option (List D × D)) (d : D) (ds : List D) (h : Hs) : R D := match d with
  | .ref n => match h[n]? with
    | some (.lst l) => match g h l ds with
      | some (l', z) => match putH n (.lst l') h with
        | some h' => .ok z h'
        | none => .stk
      | none => .stk
    | _ => .stk
  | _ => .stk
theorem lstM_nrs {g : Hs → List D → List D → Option (List D × D)} : ∀ d ds h c p h', lstM g d ds h ≠ .rs c p h' := fun d ds h c p h' e => by
  unfold lstM at e
  split at e <;> first | (cases e; done) | skip
  split at e <;> first | (cases e; done) | skip
  split at e <;> first | (cases e; done) | skip
  all_goals (split at e <;> cases e)
/-- to be shown of such a method -/
theorem lstM_ok {g : Hs → List D → List D → Option (List D × D)} {r : V → List V → Hp → VK → Prop} (hh : ∀ (G : Gh) (H : Hp) (h : Hs) (p : Addr) (xs : List V) (l ds l' : List D) (vs : List V) (z : D) (Q : VK), HR F G H h → H p = some (.lst xs) → VRL F G H l xs → VRL F G H ds vs → g h l ds = some (l', z) →
    (∀ xs' v, VRL F G H l' xs' → VR F G H z v → Q v (upd H p (.lst xs'))) → r (.ref p) vs H Q) : MthOk F r (lstM g) := by
  intro G H h x d vs ds z h' Q rr vx vy e k
  unfold lstM at e
  split at e <;> first | (cases e; done) | skip
  rename_i n
  split at e <;> first | (cases e; done) | skip
  rename_i l q
  split at e <;> first | (cases e; done) | skip
  rename_i l' z' q2
  split at e <;> first | (cases e; done) | skip
  rename_i h2 q3
  injection e with e1 e2
  subst e1 e2
  obtain ⟨p, xs, rfl, hp, hu, hl⟩ := ref_lst rr vx q
  refine hh G H h p xs l ds l' vs z' Q rr hu hl vy q2 fun xs' v hx hv => ?_
  unfold putH at q3
  injection q3 with q3
  subst q3
  have nf : ∀ o u, H p ≠ some (.frz o u) := fun _ _ z => by rw [hu] at z; cases z
  have T := Step.write (u := .lst xs') rr hp nf
  exact k v G _ T (rr.write hp nf ⟨xs', rfl, hx⟩) (VR.step T rr.aB _ hv)
def txAppend (_ : Hs) (l ds : List D) : Option (List D × D) := match ds with
  | [d] => if l.length < 16777216 then some (l ++ [d], .non) else none
  | _ => none
def txExtend (h : Hs) (l ds : List D) : Option (List D × D) := match ds with
  | [d] => match lstW h d with
    | some m => if l.length + m.length ≤ 16777216 then some (l ++ m, .non) else none
    | none => none
  | _ => none
def txPopAt (_ : Hs) (l ds : List D) : Option (List D × D) := match ds with
  | [.int i] => if -(2 ^ 63) ≤ i ∧ i < 2 ^ 63 then (match ixN l.length i with
    | some j => (l[j]?).map fun z => (l.eraseIdx j, z)
    | none => none) else none
  | _ => none
def txPop (_ : Hs) (l ds : List D) : Option (List D × D) := match ds with
  | [] => (l[l.length - 1]?).map fun z => (l.dropLast, z)
  | _ => none
def txInsert (_ : Hs) (l ds : List D) : Option (List D × D) := match ds with
  | [.int i, d] => if l.length < 16777216 ∧ 0 ≤ i ∧ i < 2 ^ 63 then some (l.take i.toNat ++ [d] ++ l.drop i.toNat, .non) else none
  | _ => none
def rExtendR : V → List V → Hp → VK → Prop := fun x vs H Q => ∃ l b xs zs, x = .ref l ∧ vs = [.ref b] ∧ H l = some (.lst xs) ∧ Rd H b (.lst zs) ∧ xs.length + zs.length ≤ sizeLine ∧ Q .non (upd H l (.lst (xs ++ zs)))
theorem mt_extendR : MtM X "list.extend" rExtendR := by
  intro pins s σ H x vs v us Q I rx rv h
  obtain ⟨l, b, xs, zs, rfl, rfl, hH, hB, hz, q⟩ := h
  cases rx
  obtain ⟨u, rfl, ru⟩ := rv.one
  cases ru
  obtain ⟨z, its, n, r, hl, e⟩ := I.lstM hH
  obtain ⟨z2, its2, n2, r2, e2⟩ := hB.ok I.hok
  have hl2 := r2.length
  have hsz : its.toArray.size + its2.toArray.size ≤ sizeLine := by rw [List.size_toArray, List.size_toArray]; omega
  have hlong : ¬ (!its.toArray.isEmpty && Builtin.List.listTooLong (its.toArray.size + its2.toArray.size)) = true := by
    rw [notLongL hsz, Bool.and_false]
    exact Bool.false_ne_true
  refine call_meets F.slot_list_extend ⟨_, e, rfl⟩ F.entry_list_extend (F.args_list_extend_2 _ _)
    (AutoSeq1.list_extend_list_list_0 l its.toArray n b its2.toArray n2 hlong (by rw [List.size_toArray]; omega) (by omega)) ⟨e, e2, ?_⟩
  refine ⟨.non, _, I.lset (its' := its ++ its2) hH e (by simp) (r.append r2) ?_, rfl, q⟩
  rw [List.length_append]
  omega
theorem mok_append : MthOk F rAppend (lstM txAppend) := lstM_ok fun G H h p xs l ds l' vs z Q rr hu hl vy e k => by
  unfold txAppend at e
  split at e
  · split at e
    · rename_i hh
      injection e with e
      injection e with e1 e2
      subst e1 e2
      obtain ⟨y, rfl, r1⟩ := vrl_onev vy
      exact ⟨p, xs, y, rfl, rfl, hu, by rw [hl.length, sizeLine_eq]; exact hh, k _ _ (hl.append vy) (vr_non.mpr rfl)⟩
    · cases e
  · cases e
theorem mok_extend : MthOk F rExtendR (lstM txExtend) := lstM_ok fun G H h p xs l ds l' vs z Q rr hu hl vy e k => by
  unfold txExtend at e
  split at e
  · split at e
    · rename_i m q
      split at e
      · rename_i hh
        injection e with e
        injection e with e1 e2
        subst e1 e2
        obtain ⟨y, rfl, r1⟩ := vrl_onev vy
        obtain ⟨b, zs, rfl, hb, hm⟩ := list_ofW rr r1 q
        exact ⟨p, b, xs, zs, rfl, rfl, hu, hb, by rw [hl.length, hm.length]; exact le_line hh, k _ _ (hl.append hm) (vr_non.mpr rfl)⟩
      · cases e
    · cases e
  · cases e
theorem VRL.erase : ∀ {l : List D} {xs : List V} (j : Nat), VRL F G H l xs → VRL F G H (l.eraseIdx j) (xs.eraseIdx j)
  | [], xs, j, h => by rw [vrl_nil.mp h]; simpa using vrl_nil.mpr rfl
  | d :: r, xs, 0, h => by
    obtain ⟨v, vr, rfl, h1, h2⟩ := vrl_cons.mp h
    simpa using h2
  | d :: r, xs, j + 1, h => by
    obtain ⟨v, vr, rfl, h1, h2⟩ := vrl_cons.mp h
    simpa using vrl_cons.mpr ⟨v, _, rfl, h1, VRL.erase j h2⟩
theorem VRL.dropLast {l : List D} {xs : List V} (h : VRL F G H l xs) : VRL F G H l.dropLast xs.dropLast := by
  rw [List.dropLast_eq_take, List.dropLast_eq_take, h.length]
  exact h.take _
theorem mok_popAt : MthOk F rPopAt (lstM txPopAt) := lstM_ok fun G H h p xs l ds l' vs z Q rr hu hl vy e k => by
  unfold txPopAt at e
  split at e
  · rename_i i
    split at e
    · rename_i hh
      split at e
      · rename_i j hj
        cases q : l[j]? with
        | none => rw [q] at e; cases e
        | some z0 =>
          rw [q] at e
          injection e with e
          injection e with e1 e2
          subst e1 e2
          rw [vals_int1 vy]
          obtain ⟨h1, h2, _, _⟩ := ixN_seq hj
          obtain ⟨v, hv, hz⟩ := VRL.get hl q
          exact ⟨p, xs, i, j, v, rfl, rfl, hu, hh.1, hh.2, by rw [hl.length]; exact h1, hv, k _ _ (hl.erase j) hz⟩
      · cases e
    · cases e
  · cases e
theorem mok_pop : MthOk F rPop (lstM txPop) := lstM_ok fun G H h p xs l ds l' vs z Q rr hu hl vy e k => by
  unfold txPop at e
  split at e
  · cases q : l[l.length - 1]? with
    | none => rw [q] at e; cases e
    | some z0 =>
      rw [q] at e
      injection e with e
      injection e with e1 e2
      subst e1 e2
      rw [vrl_nil.mp vy]
      obtain ⟨v, hv, hz⟩ := VRL.get hl q
      exact ⟨p, xs, v, rfl, rfl, hu, by rw [hl.length]; exact hv, k _ _ hl.dropLast hz⟩
  · cases e
def rInsert : V → List V → Hp → VK → Prop := fun x vs H Q => ∃ (l : Addr) (xs : List V) (i : Int) (y : V), x = .ref l ∧ vs = [.int i, y] ∧ H l = some (.lst xs) ∧ xs.length < sizeLine ∧ 0 ≤ i ∧ i < 2 ^ 63 ∧
    Q .non (upd H l (.lst (xs.take i.toNat ++ [y] ++ xs.drop i.toNat)))
theorem mok_insert : MthOk F rInsert (lstM txInsert) := lstM_ok fun G H h p xs l ds l' vs z Q rr hu hl vy e k => by
  unfold txInsert at e
  split at e
  · rename_i i d
    split at e
    · rename_i hh
      injection e with e
      injection e with e1 e2
      subst e1 e2
      obtain ⟨x, y, rfl, r1, r2⟩ := vrl_two vy
      obtain rfl := vr_int.mp r1
      exact ⟨p, xs, i, y, rfl, rfl, hu, by rw [hl.length, sizeLine_eq]; exact hh.1, hh.2.1, hh.2.2, k _ _ (((hl.take _).append (vrl_one.mpr r2)).append (hl.drop _)) (vr_non.mpr rfl)⟩
    · cases e
  · cases e
/-! ### x op= e of ints -/
def augO (i : Nat) (g : Hs → D → D → Option D) (fe : SD → Hs → R D) (s : SD) (h : Hs) : O := match s[i]? with
  | some (some (.int a)) => (fe s h).thenO s fun y h1 => match g h1 (.int a) y with
    | some z => setO i s z h1
    | none => .stk
  | _ => .stk
theorem aug_go {i : Nat} {f : Int → Int → Int} {g : Hs → D → D → Option D} {fe : SD → Hs → R D} {Dn : Ends} (hg : ∀ h a y z, g h (.int a) y = some z → ∃ b, y = .int b ∧ z = .int (f a b)) (t : St F G h s σ H) (o : OutS F W Dn G H (augO i g fe s h)) : tAug i (lift F W (VR F) fe) (ipI f) Dn σ H := by
  unfold augO at o
  split at o
  · rename_i a e
    obtain ⟨v, h1, h2⟩ := t.slot i _ e
    obtain rfl := vr_int.mp h2
    refine ⟨.int a, h1, partS t o fun y w h1 G1 H1 T1 t1 vy o => ?_⟩
    split at o
    · rename_i z q
      obtain ⟨b, rfl, rfl⟩ := hg _ a y z q
      exact ⟨a, b, rfl, vr_int.mp vy, set_out t1 o (vr_int.mpr rfl)⟩
    · exact o.elim
  · exact o.elim
end
end Gx

/-! G75: exceptions of own classes: raise, try, isinstance, a field. -/
namespace Gx
open PySem L2
/-- all classes stand right below WharfError -/
def subX (c y : Str) : Bool := decide (y = c) || decide (y = "WharfError") || decide (y = "ValueError")
/-- a class that may be raised, with its text alone -/
structure RsOk (K : PySem.W.Frag) (mg : Str → Option Value) (x : Str) (C : Addr) : Prop where
  gC : mg x = some (.ref C)
  kC : PySem.W.keepIn K (.ref C) = true
  xC : PySem.W.excIn K C [.type "ValueError", .type "Exception", .type "BaseException", .type "object"] "ValueError.__new__" = true
  bC : PySem.W.subIn K (.ref C) (.type "BaseException") = some true
  tC : PySem.W.typeIn K (.ref C) = some (.type "type")
/-- what is asked of a class -/
structure AskOk (F : Fr) (mg : Str → Option Value) (exs : List Str) (y : Str) : Prop where
  own : (∃ D, mg y = some (.ref D) ∧ ∀ x ∈ exs, PySem.W.kitOne F.K (F.cls x) (.ref D) = some (subX x y) ∧ PySem.W.exmOne F.K (F.cls x) (.ref D) = some (subX x y)) ∨
    (mg y = none ∧ y = "ValueError" ∧ ∀ x ∈ exs, PySem.W.kitOne F.K (F.cls x) (.type "ValueError") = some true)
structure ExcT (F : Fr) (mg : Str → Option Value) (exs ask : List Str) : Prop where
  ec : ∀ x ∈ exs, ∃ C, F.cls x = .ref C ∧ ExcC F.K C
  ask : ∀ y ∈ ask, AskOk F mg exs y
  rs : ∀ x ∈ exs, x ≠ "Short" → ∃ C, F.cls x = .ref C ∧ RsOk F.K mg x C
  sh : ("Short" : Str) ∈ exs → ∃ C fI, F.cls "Short" = .ref C ∧ PySem.ShortX.ShortTxt F.K mg C fI
def isEG (cs : List Str) (y : Str) (d : D) (h : Hs) : R D := match d with
  | .exc c _ => if c ∈ cs then .ok (.bl (subX c y)) h else .stk
  | _ => .stk
def hadG (cs : List Str) (d : D) (h : Hs) : R D := match d with
  | .exc c (some i) => if c = "Short" ∧ c ∈ cs then .ok (.int i) h else .stk
  | _ => .stk
section
variable {X : Cx} {F : Fr} {W : WX} {G : Gh} {H : Hp} {σ : L2.St} {s : SD} {h : Hs} {exs ask : List Str}
theorem se_isE {e : Expr} {f : SD → Hs → R D} {y : Str} {px p pos : Pos} (T : ExcT F X.mg exs ask) (hy : y ∈ ask) (hK : X.K = F.K) (hg : Gl X "isinstance") (hm : X.mg "isinstance" = none) (hgT : Gl X y) (hn : y ≠ "__name__") (hd : (y == ("__debug__" : Str)) = false)
    (hs : starEach [e, .Name y px] X.env = (false, eval e X.env) :: starEach [.Name y px] X.env) (hpl : (backTo pos (starEach [.Name y px] X.env)).any (·.1) = false) (hh : SE X F W e f) :
    SE X F W (.Call (.Name "isinstance" p) [e, .Name y px] [] pos) (fun s h => (f s h).bind (isEG exs y)) := by
  have hb : bootBuiltins "isinstance" = some (.builtin "isinstance") := by decide +kernel
  have go : ∀ {d : D} {h1 : Hs} {v : V} {cv : V} {cu : Value} {G1 : Gh} {H1 : Hp} {Q : VK} {s : SD} {σ : L2.St}, St F G1 h1 s σ H1 → VR F G1 H1 d v → Out F W G1 σ H1 (VR F) Q (isEG exs y d h1) → (∀ u, RelV cv u → u = cu) → (∀ x ∈ exs, PySem.W.kitOne F.K (F.cls x) cu = some (subX x y)) → rIsT X.K [v, cv] H1 Q := by
    intro d h1 v cv cu G1 H1 Q s σ t1 x o hcv hk
    unfold isEG at o
    split at o
    · rename_i c q
      split at o
      · rename_i hc
        obtain ⟨C, eC, EC⟩ := T.ec c hc
        obtain ⟨a, dd, rfl, ⟨ha, _⟩, hp⟩ := vr_exc.mp x
        rw [eC] at ha
        have k1 := hk c hc
        rw [eC] at k1
        exact ⟨a, C, dd, cv, cu, subX c y, rfl, ha, hp.dc, by rw [hK]; exact EC, hcv, by rw [hK]; exact k1, KO.bl o t1.hr⟩
      · exact o.elim
    · exact o.elim
  rcases (T.ask y hy).own with ⟨D, hmD, hD⟩ | ⟨hmn, rfl, hD⟩
  · refine PE.imp (pe_callB call_isT hg hm hb (pa_cons hh (pa_cons (pe_glob (v := .ref D) hgT hmD rfl hd) pa_nil) hs) (he := hs)) fun σ H Q ⟨G, h, s, t, o⟩ => ?_
    refine part t o fun d v h1 G1 H1 T1 t1 x o => ?_
    exact go t1 x o (fun u r => r) fun x hx => (hD x hx).1
  · refine PE.imp (pe_callB call_isT hg hm hb (pa_cons hh (pa_cons (pe_bltn (v := .ty "ValueError") hgT hmn (by decide +kernel) rfl hn hd) pa_nil) hs) (he := hs)) fun σ H Q ⟨G, h, s, t, o⟩ => ?_
    refine part t o fun d v h1 G1 H1 T1 t1 x o => ?_
    exact go t1 x o (fun u r => r) fun x hx => by rw [hD x hx]; simp [subX]
theorem se_had {e : Expr} {f : SD → Hs → R D} {pos : Pos} (T : ExcT F X.mg exs ask) (hK : X.K = F.K) (hh : SE X F W e f) (hb : attributeBase e "had" X.env (eval e X.env) = eval e X.env) : SE X F W (.Attribute e "had" pos) (fun s h => (f s h).bind (hadG exs)) := by
  refine PE.imp (pe_xt hh hb) fun σ H Q ⟨G, h, s, t, o⟩ => ?_
  refine part t o fun d v h1 G1 H1 T1 t1 x o => ?_
  unfold hadG at o
  split at o
  · rename_i c i
    split at o
    · rename_i hc
      obtain ⟨rfl, hc⟩ := hc
      obtain ⟨C, fI, eC, S⟩ := T.sh hc
      obtain ⟨a, dd, rfl, ⟨ha, _⟩, hp⟩ := vr_exc.mp x
      rw [eC] at ha
      cases dd with
      | none => exact hp.elim
      | some d0 =>
        rw [hK]
        exact ⟨a, C, d0, _, .int i, rfl, ha, ⟨S.ga, S.gg, S.exC, S.hdC⟩, S.noN, hp.1, by simp [List.lookup], KO.int o t1.hr⟩
    · exact o.elim
  · exact o.elim
end
/-! ### raise, try -/
def rsVO (s : SD) (d : D) (h : Hs) : O := match d with
  | .int i => .rs "Short" (some i) s h
  | _ => .stk
def bindS (i : Option Nat) (d : D) (s : SD) : SD := match i with
  | some i => s.set i (some d)
  | none => s
/-- behind a suite: the name is gone -/
def goneS (i : Option Nat) (s : SD) : SD := match i with
  | some i => s.set i none
  | none => s
def endI (i : Option Nat) : O → O
  | .nx s h => .nx (goneS i s) h
  | .bk s h => .bk (goneS i s) h
  | .ct s h => .ct (goneS i s) h
  | .rt d h => .rt d h
  | _ => .stk
def trO (cs : List Str) (y : Str) (i : Option Nat) (fb fs : SD → Hs → O) (s : SD) (h : Hs) : O := match fb s h with
  | .rs c p s1 h1 => if c ∈ cs then (if subX c y = true then endI i (fs (bindS i (.exc c p) s1) h1) else .rs c p s1 h1) else .stk
  | o => o
section
variable {X : Cx} {F : Fr} {W : WX} {exs ask : List Str}
theorem ss_raise {x m : Str} {j : Nat} {p p2 pos pos' : Pos} (T : ExcT F X.mg exs ask) (hx : x ∈ exs) (hs : x ≠ "Short") (hK : X.K = F.K) (hc : X.calm = true) (tk : Takes X W) (hg : Gl X x) (hdb : (x == ("__debug__" : Str)) = false) :
    SS X F W (.Raise (some (.Call (.Name x p) [.Constant (.str m) j p2] [] pos)) none pos') (fun s h => .rs x none s h) := by
  obtain ⟨C, eC, r⟩ := T.rs x hx hs
  have xC := r.xC
  have kC := r.kC
  have bC := r.bC
  have tC := r.tC
  rw [← hK] at xC kC bC tC
  refine PS.imp (L2N.ps_raise hc tk (L2N.pmk_own PySem.F.excBase_ValueError xC r.gC kC (raises_own bC tC) hg hdb)) fun Dn σ H ⟨G, h, s, t, o⟩ => ?_
  have := o G σ H none (Step.refl G H) t trivial
  rw [eC] at this
  exact this
theorem ss_raiseS {e : Expr} {f : SD → Hs → R D} {k : Nat} {p pos pos' : Pos} (T : ExcT F X.mg exs ask) (hx : ("Short" : Str) ∈ exs) (hK : X.K = F.K) (hc : X.calm = true) (hr : Room k X.A) (tk : Takes X W) (hg : Gl X "Short")
    (hs : starEach [e] X.env = (false, eval e X.env) :: starEach [] X.env) (hh : SE X F W e f) : SS X F W (.Raise (some (.Call (.Name "Short" p) [e] [] pos)) none pos') (fun s h => (f s h).thenO s (rsVO s)) := by
  obtain ⟨C, fI, eC, r⟩ := T.sh hx
  rw [← hK] at r
  refine PS.imp (L2N.ps_raise hc tk (pmk_short r hr (pa_cons hh pa_nil hs) hg hs rfl)) fun Dn σ H ⟨G, h, s, t, o⟩ => ?_
  show lift F W (VR F) f σ H _
  refine partS t o fun d v h2 G2 H2 T2 t2 x o2 => ?_
  unfold rsVO at o2
  split at o2
  · rename_i i
    obtain rfl := vr_int.mp x
    refine ⟨_, rfl, fun dd hd => ?_⟩
    have := o2 G2 σ _ (some dd) (Step.same (same_upd hd)) (t2.step (Step.same (same_upd hd)) (t2.hr.same (same_upd hd))) ⟨upd_same, fun z => t2.hr.bt dd z hd⟩
    rw [eC] at this
    exact this
  · exact o2.elim
theorem St.unset {G : Gh} {H : Hp} {σ : L2.St} {s : SD} {h : Hs} (i : Nat) (t : St F G h s σ H) : St F G h (s.set i none) (σ.set i none) H :=
  ⟨fun j d e => by
    by_cases z : i = j
    · subst z
      by_cases hl : i < s.length
      · rw [List.getElem?_set_self hl] at e; cases e
      · rw [List.getElem?_eq_none (by rw [List.length_set]; omega)] at e; cases e
    · rw [List.getElem?_set_ne z] at e
      obtain ⟨v, h1, h2⟩ := t.slot j d e
      exact ⟨v, by rw [List.getElem?_set_ne z]; exact h1, h2⟩, t.hr, by simp [t.len]⟩
theorem St.set' {G : Gh} {H : Hp} {σ : L2.St} {s : SD} {h : Hs} {i : Nat} {v : V} {d : D} (t : St F G h s σ H) (x : VR F G H d v) : St F G h (s.set i (some d)) (σ.set i (some v)) H := by
  by_cases hi : i < s.length
  · exact t.set hi x
  · rw [List.set_eq_of_length_le (by omega), List.set_eq_of_length_le (by rw [← t.len]; omega)]
    exact t

theorem ss_try {y n : Str} {i : Nat} {body suite : List Stmt} {b₀ : Stmt} {np pos pos' : Pos} {fb fs : SD → Hs → O} (T : ExcT F X.mg exs ask) (hy : y ∈ ask) (hv : y ≠ "ValueError") (hK : X.K = F.K) (hgl : Gl X y) (hdb : (y == ("__debug__" : Str)) = false)
    (hs : X.stack = X.env :: X.outer) (hf : X.env.frame = some X.env.locals) (hN : X.N.Nodup) (hi : X.N[i]? = some n) (hln : X.env.kindOf n = some .local) (tk : Takes X W)
    (hb : ∀ (W' : WX) (pn : List (Addr × Obj)) (xe : Value → Shared → Prop), Takes (X.tr pn xe) W' → PassesOwn (model X.prog X.w) X.A X.env xe → SB (X.tr pn xe) F W' body fb)
    (hsu : ∀ (a : Addr) (pn : List (Addr × Obj)), SB (X.suite a pn) (F.with (some a)) W0 (b₀ :: suite) fs) :
    SS X F W (.Try body [.ExceptHandler (some (.Name y np)) (some n) (b₀ :: suite) pos'] [] [] pos) (trO exs y (some i) fb fs) := by
  obtain ⟨D, hmD, hD⟩ : ∃ D, X.mg y = some (.ref D) ∧ ∀ x ∈ exs, PySem.W.kitOne F.K (F.cls x) (.ref D) = some (subX x y) ∧ PySem.W.exmOne F.K (F.cls x) (.ref D) = some (subX x y) := by
    rcases (T.ask y hy).own with h | h
    · exact h
    · exact (hv h.2.1).elim
  refine PS.imp (ps_try_tr hs hf hN hi hln ⟨hgl, hdb, .inl hmD⟩ tk (tb := fun W' => liftS F W' fb) (ts := fun a _ _ => liftS (F.with (some a)) W0 fs) (Wout := W) hb fun a cls d pn => hsu a pn) fun Dn σ H ⟨G, h, s, t, o⟩ => ⟨G, h, s, t, ?_⟩
  unfold trO at o
  cases q : fb s h with
  | nx s1 h1 => rw [q] at o; exact o
  | bk s1 h1 => rw [q] at o; exact o
  | ct s1 h1 => rw [q] at o; exact o
  | rt d h1 => rw [q] at o; exact o
  | stk => rw [q] at o; exact o
  | rs c p s1 h1 =>
    rw [q] at o
    dsimp only at o
    intro G' σ' H' dct T1 t1 pp
    split at o
    · rename_i hc
      refine ⟨subX c y, by rw [hK]; exact (hD c hc).2, fun hb' a na => ?_, fun hb' => ?_⟩
      · rw [if_pos hb'] at o
        have st : Step G' H' G' (upd H' a (exV (F.cls c) dct a)) := Step.same (same_upd na)
        have t2 : St F G' h1 s1 σ' (upd H' a (exV (F.cls c) dct a)) := t1.step st (t1.hr.same (same_upd na))
        have vx : VR F G' (upd H' a (exV (F.cls c) dct a)) (.exc c p) (.ref a) := vr_exc.mpr ⟨a, dct, rfl, ⟨upd_same, fun z => t1.hr.bt a z na⟩, pp.step st t1.hr.aB⟩
        have t3 : St F G' h1 (bindS (some i) (.exc c p) s1) (bindI σ' a (some i)) (upd H' a (exV (F.cls c) dct a)) := t2.set' vx
        have hh : ∀ b, (F.with (some a)).hot = some b → ∃ cls d, upd H' a (exV (F.cls c) dct a) b = some (exV cls d b) ∧ ¬ G'.B b := fun b q => by
          obtain rfl := Option.some.inj (show some a = some b from q)
          exact ⟨_, _, upd_same, fun z => t1.hr.bt a z na⟩
        refine ⟨G', h1, _, St.fr (F := F) (F' := F.with (some a)) rfl rfl t3 hh, ?_⟩
        have ho : ∀ {G2 H2}, Step G' (upd H' a (exV (F.cls c) dct a)) G2 H2 → ∀ b, F.hot = some b → ∃ cls d, H2 b = some (exV cls d b) ∧ ¬ G2.B b := fun T2 => t2.hr.hotS T2
        generalize bindS (some i) (.exc c p) s1 = s2 at o
        have TT := T1.trans st
        cases q2 : fs s2 h1 with
        | nx s3 h3 => rw [q2] at o; exact fun G2 σ2 H2 T2 t4 => o G2 _ H2 (TT.trans T2) ((St.fr (F := F.with (some a)) (F' := F) rfl rfl t4 (ho T2)).unset i)
        | bk s3 h3 => rw [q2] at o; exact fun G2 σ2 H2 T2 t4 => o G2 _ H2 (TT.trans T2) ((St.fr (F := F.with (some a)) (F' := F) rfl rfl t4 (ho T2)).unset i)
        | ct s3 h3 => rw [q2] at o; exact fun G2 σ2 H2 T2 t4 => o G2 _ H2 (TT.trans T2) ((St.fr (F := F.with (some a)) (F' := F) rfl rfl t4 (ho T2)).unset i)
        | rt d h3 => rw [q2] at o; exact fun v G2 H2 T2 r2 x2 => o v G2 H2 (TT.trans T2) (HR.fr (F := F.with (some a)) (F' := F) rfl rfl r2 (ho T2)) (VR.fr (F := F.with (some a)) (F' := F) rfl rfl _ x2)
        | rs c2 p2 s3 h3 => rw [q2] at o; exact o.elim
        | stk => rw [q2] at o; exact o.elim
      · rw [hb', if_neg (by simp)] at o
        exact o G' σ' H' dct T1 t1 pp
    · exact o.elim

theorem ss_try0 {y : Str} {body suite : List Stmt} {b₀ : Stmt} {np pos pos' : Pos} {fb fs : SD → Hs → O} (T : ExcT F X.mg exs ask) (hy : y ∈ ask) (hv : y ≠ "ValueError") (hK : X.K = F.K) (hgl : Gl X y) (hdb : (y == ("__debug__" : Str)) = false)
    (hs : X.stack = X.env :: X.outer) (hf : X.env.frame = some X.env.locals) (tk : Takes X W)
    (hb : ∀ (W' : WX) (pn : List (Addr × Obj)) (xe : Value → Shared → Prop), Takes (X.tr pn xe) W' → PassesOwn (model X.prog X.w) X.A X.env xe → SB (X.tr pn xe) F W' body fb)
    (hsu : ∀ (a : Addr) (pn : List (Addr × Obj)), SB (X.suite a pn) (F.with (some a)) W0 (b₀ :: suite) fs) :
    SS X F W (.Try body [.ExceptHandler (some (.Name y np)) none (b₀ :: suite) pos'] [] [] pos) (trO exs y none fb fs) := by
  obtain ⟨D, hmD, hD⟩ : ∃ D, X.mg y = some (.ref D) ∧ ∀ x ∈ exs, PySem.W.kitOne F.K (F.cls x) (.ref D) = some (subX x y) ∧ PySem.W.exmOne F.K (F.cls x) (.ref D) = some (subX x y) := by
    rcases (T.ask y hy).own with h | h
    · exact h
    · exact (hv h.2.1).elim
  refine PS.imp (ps_try_tr0 hs hf ⟨hgl, hdb, .inl hmD⟩ tk (tb := fun W' => liftS F W' fb) (ts := fun a _ _ => liftS (F.with (some a)) W0 fs) (Wout := W) hb fun a cls d pn => hsu a pn) fun Dn σ H ⟨G, h, s, t, o⟩ => ⟨G, h, s, t, ?_⟩
  unfold trO at o
  cases q : fb s h with
  | nx s1 h1 => rw [q] at o; exact o
  | bk s1 h1 => rw [q] at o; exact o
  | ct s1 h1 => rw [q] at o; exact o
  | rt d h1 => rw [q] at o; exact o
  | stk => rw [q] at o; exact o
  | rs c p s1 h1 =>
    rw [q] at o
    dsimp only at o
    intro G' σ' H' dct T1 t1 pp
    split at o
    · rename_i hc
      refine ⟨subX c y, by rw [hK]; exact (hD c hc).2, fun hb' a na => ?_, fun hb' => ?_⟩
      · rw [if_pos hb'] at o
        have st : Step G' H' G' (upd H' a (exV (F.cls c) dct a)) := Step.same (same_upd na)
        have t2 : St F G' h1 s1 σ' (upd H' a (exV (F.cls c) dct a)) := t1.step st (t1.hr.same (same_upd na))
        have vx : VR F G' (upd H' a (exV (F.cls c) dct a)) (.exc c p) (.ref a) := vr_exc.mpr ⟨a, dct, rfl, ⟨upd_same, fun z => t1.hr.bt a z na⟩, pp.step st t1.hr.aB⟩
        have t3 : St F G' h1 (bindS none (.exc c p) s1) (bindI σ' a none) (upd H' a (exV (F.cls c) dct a)) := t2
        have hh : ∀ b, (F.with (some a)).hot = some b → ∃ cls d, upd H' a (exV (F.cls c) dct a) b = some (exV cls d b) ∧ ¬ G'.B b := fun b q => by
          obtain rfl := Option.some.inj (show some a = some b from q)
          exact ⟨_, _, upd_same, fun z => t1.hr.bt a z na⟩
        refine ⟨G', h1, _, St.fr (F := F) (F' := F.with (some a)) rfl rfl t3 hh, ?_⟩
        have ho : ∀ {G2 H2}, Step G' (upd H' a (exV (F.cls c) dct a)) G2 H2 → ∀ b, F.hot = some b → ∃ cls d, H2 b = some (exV cls d b) ∧ ¬ G2.B b := fun T2 => t2.hr.hotS T2
        generalize bindS none (.exc c p) s1 = s2 at o
        have TT := T1.trans st
        cases q2 : fs s2 h1 with
        | nx s3 h3 => rw [q2] at o; exact fun G2 σ2 H2 T2 t4 => o G2 _ H2 (TT.trans T2) (St.fr (F := F.with (some a)) (F' := F) rfl rfl t4 (ho T2))
        | bk s3 h3 => rw [q2] at o; exact fun G2 σ2 H2 T2 t4 => o G2 _ H2 (TT.trans T2) (St.fr (F := F.with (some a)) (F' := F) rfl rfl t4 (ho T2))
        | ct s3 h3 => rw [q2] at o; exact fun G2 σ2 H2 T2 t4 => o G2 _ H2 (TT.trans T2) (St.fr (F := F.with (some a)) (F' := F) rfl rfl t4 (ho T2))
        | rt d h3 => rw [q2] at o; exact fun v G2 H2 T2 r2 x2 => o v G2 H2 (TT.trans T2) (HR.fr (F := F.with (some a)) (F' := F) rfl rfl r2 (ho T2)) (VR.fr (F := F.with (some a)) (F' := F) rfl rfl _ x2)
        | rs c2 p2 s3 h3 => rw [q2] at o; exact o.elim
        | stk => rw [q2] at o; exact o.elim
      · rw [hb', if_neg (by simp)] at o
        exact o G' σ' H' dct T1 t1 pp
    · exact o.elim
end
/-! ### a list made by + or *, as an object -/
def ownO (cat : Bool) (a b : D) (h : Hs) : R D := match cat with
  | true => match lstH h a, lstH h b with
    | some l, some k => if l.length + k.length ≤ 16777216 then newL true (l ++ k) h else .stk
    | _, _ => .stk
  | false => match lstW h a, b with
    | some l, .int k => if k < 2 ^ 63 ∧ -(2 ^ 63) ≤ k ∧ l.length * k.toNat ≤ 16777216 then newL true (List.replicate k.toNat l).flatten h else .stk
    | _, _ => .stk
section
variable {X : Cx} {F : Fr} {W : WX}
theorem se_own {cat : Bool} {op : Operator} {a b : Expr} {fa fb : SD → Hs → R D} {pos : Pos} (ho : op = if cat = true then .Add else .Mult) (hK : X.K = F.K) (ha : SE X F W a fa) (hb : SE X F W b fb) :
    SE X F W (.BinOp a op b pos) (fun s h => (fa s h).bind fun x h1 => (fb s h1).bind fun y h2 => ownO cat x y h2) := by
  cases cat with
  | true =>
    obtain rfl : op = .Add := ho
    refine PE.imp (pe_op op_catL ha hb) fun σ H Q ⟨G, h, s, t, o⟩ => ?_
    refine part t o fun d x h1 G1 H1 T1 t1 vx o => ?_
    refine part t1 o fun d' y h2 G2 H2 T2 t2 vy o => ?_
    have vx' := VR.step T2 t1.hr.aB d vx
    unfold ownO at o
    dsimp only at o
    split at o
    · rename_i l k q1 q2
      split at o
      · rename_i hl
        obtain ⟨p, xs, rfl, h1', l1⟩ := list_of t2.hr vx' q1
        obtain ⟨q, ys, rfl, h2', l2⟩ := list_of t2.hr vy q2
        rw [hK]
        refine ⟨p, q, xs, ys, rfl, rfl, h1', h2', by rw [l1.length, l2.length]; exact le_line hl, fun w hw => ?_⟩
        exact newL_go (m := true) (h := h2) rfl o t2.hr hw (l1.append l2)
      · exact o.elim
    · exact o.elim
  | false =>
    obtain rfl : op = .Mult := ho
    refine PE.imp (pe_op op_repL ha hb) fun σ H Q ⟨G, h, s, t, o⟩ => ?_
    refine part t o fun d x h1 G1 H1 T1 t1 vx o => ?_
    refine part t1 o fun d' y h2 G2 H2 T2 t2 vy o => ?_
    have vx' := VR.step T2 t1.hr.aB d vx
    unfold ownO at o
    dsimp only at o
    split at o
    · rename_i l k q1
      split at o
      · rename_i hl
        obtain ⟨p, xs, rfl, h1', l1⟩ := list_ofW t2.hr vx' q1
        obtain rfl := vr_int.mp vy
        refine ⟨p, k, xs, rfl, rfl, h1', hl.2.1, hl.1, by rw [l1.length]; exact le_line hl.2.2, fun w hw => ?_⟩
        exact newL_go (m := true) (h := h2) rfl o t2.hr hw (vrl_rep l1 _)
      · exact o.elim
    · exact o.elim
end
end Gx

/-! G76: count and index of lists of flat items; len(set(ints)); tuple(range(..)); enumerate. -/
/-! ### set(xs) of a list of numbers -/
namespace L2
open PySem PySem.Spec PyProof.Rows
abbrev nSet (w : World) : Obj := { cls := .type "set", dict := none, data := .set #[] 0 (.fresh 0 0 (!w.params.followText "set-order")) }
section
variable {P : Program} {w : World} {A : Around} {E : Value → Shared → Prop} {s : Shared}
/-- what the set's making leaves -/
def Made (w : World) (ns : List Int) (s s2 : Shared) : Prop := ∃ h' tk c, s2 = { s with heap := h', toks := tk } ∧ SetR w h' s.heap.objs.size (fun j => decide (j ∈ ns)) c ∧ c ≤ ns.length ∧ ∀ b o, s.heap.get? b = some o → h'.get? b = some o
/-- the walk that fills it -/
theorem fill_list {l : Addr} {items : Array Value} {ns : List Int} {R : Result → Shared → Prop} (hh : A.handled = none) (hl : s.heap.IsList l items) (hi : IntsAre items.toList ns) (hb : ns.length + 1 < scanBound)
    (h : ∀ s2, Made w ns s s2 → R (.ok (.ret .none)) s2) :
    codeAny (model P w) A (.builtin "set.update.loop" ⟨[.ref s.heap.objs.size, .ref (s.heap.push (nSet w)).objs.size], []⟩) R { s with heap := (s.heap.push (nSet w)).push { cls := .type "list_iterator", data := .fields #[.ref l, .int 0 0] } } := by
  have sz : items.size = ns.length := by
    have q := IntsAre.length hi
    rwa [Array.length_toList] at q
  have hl1 : (s.heap.push (nSet w)).IsList l items := by
    obtain ⟨o, e, r⟩ := hl
    exact ⟨o, Heap.get?_push_of_some _ e, r⟩
  have lt : l < s.heap.objs.size := by
    obtain ⟨o, e, r⟩ := hl
    exact Heap.lt_size e
  have hS : (s.heap.push (nSet w)).get? s.heap.objs.size = some (nSet w) := Heap.get?_push_size _ rfl
  have ez : (s.heap.push (nSet w)).objs.size = s.heap.objs.size + 1 := Heap.size_push ..
  refine set_update_ints ((Walks.list (by simp [hh]) (s.heap.push (nSet w)).objs.size l (by rw [ez]; exact Nat.ne_of_lt (Nat.lt_succ_of_lt lt)) items).toS) s.heap.objs.size (by rw [ez]; simp only [List.mem_cons, List.not_mem_nil, or_false, not_or]; exact ⟨Nat.ne_of_lt (Nat.lt_succ_self _), Nat.ne_of_gt lt⟩) ns sz hb (fun i v hv => ?_) (items.size - 0) 0 _ (by omega) (Nat.zero_le _) ⟨⟨_, Heap.get?_push_size _ rfl, rfl, rfl⟩, hl1.push _⟩ ⟨0, Nat.le_refl 0, setR_new_at (Heap.get?_push_of_some _ hS)⟩ fun s' c m hc hS' => ?_
  · have lt : i < ns.length := by rw [← sz]; exact (Array.getElem?_eq_some_iff.mp hv).1
    obtain ⟨t, e⟩ := IntsAre.int_at hi i v (by rw [Array.getElem?_toList]; exact hv)
    exact ⟨ns[i], t, List.getElem?_eq_getElem lt, by rw [e, List.getD_eq_getElem?_getD, List.getElem?_eq_getElem lt] <;> rfl⟩
  · obtain ⟨h', g, d, tk, os⟩ := s'
    have eg : g = s.gens := m.gens
    have ed : d = s.drawn := m.drawn
    have eo : os = s.os := m.os
    subst eg ed eo
    refine h _ ⟨h', tk, c, rfl, hS', by omega, fun b o e => ?_⟩
    have lb := Heap.lt_size e
    exact m.heap b o (by rw [ez]; simp only [List.mem_cons, List.not_mem_nil, or_false, not_or]; exact ⟨Nat.ne_of_lt lb, Nat.ne_of_lt (Nat.lt_succ_of_lt lb)⟩) (Heap.get?_push_of_some _ (Heap.get?_push_of_some _ e))
theorem set_list_ints {l : Addr} {items : Array Value} {ns : List Int} {Q : Value → Shared → Prop} (hh : A.handled = none) (hl : s.heap.IsList l items) (hi : IntsAre items.toList ns) (hb : ns.length + 1 < scanBound)
    (h : ∀ s2, Made w ns s s2 → Q (.ref s.heap.objs.size) s2) : wpAny (model P w) A (call (.type "set") [.ref l]) Q E s := by
  obtain ⟨c, tl, hmro⟩ := F.called_set.mro
  have h1 := F.called_set.made
  have h2 := F.called_set.sub
  have h3 := F.called_set.notType
  have h4 := F.called_set.canCreate
  have h5 := F.typeCall_set_1 (.ref l)
  refine wpAny_call (codeAny_of_tree ?_)
  show wpAny _ _ (callAny (.type "set") _) _ _ _
  refine wpAny_pure ⟨Code.quiet_builtin _ (by decide +kernel), codeAny_builtin F.entry_type_call ?_⟩
  rw [Around.under_plain (weight_type_call_type "set" [.ref l] []) rfl]
  repeat (any_goals (first | assumption | wp_step))
  refine codeAny_mono (code_set_led1 (.ref l) (E := E) (Q₁ := fun o s1 => o = .ref s.heap.objs.size ∧ s1 = { s with heap := s.heap.push (nSet w) }) ⟨rfl, rfl⟩) fun r s1 hr => ?_
  rcases r with e | fl
  · exact hr
  cases fl <;> first | exact hr.elim | skip
  obtain ⟨rfl, rfl⟩ := hr
  have hT : Shared.TypeIs { s with heap := s.heap.push (nSet w) } (.ref s.heap.objs.size) "set" := ⟨_, Heap.get?_push_size _ rfl, rfl⟩
  have h6 := F.called_set.init.lookup
  have h7 := F.called_set.init.bind (.ref s.heap.objs.size)
  repeat (any_goals (first | assumption | wp_step))
  refine codeAny_mono (codeAny_call_builtin (R := wants (fun r s2 => r = .none ∧ Made w ns s s2) E) F.called_set.init.plain F.entry_set_init (check_set_init_1 hT ?_)) fun r s2 hr => ?_
  · have hl1 : (s.heap.push (nSet w)).IsList l items := by
      obtain ⟨o, e, r⟩ := hl
      exact ⟨o, Heap.get?_push_of_some _ e, r⟩
    have hl2 := hl1
    obtain ⟨⟨ocls, odict, odata, oslots⟩, ho, hcl, n, hd⟩ := hl2
    simp only at hcl hd
    subst hcl hd
    have g1 := F.sub_list_set
    have g2 := F.sub_list_frozenset
    have g3 : (Value.type "list" == Value.type "dict") = false := by decide
    unfold Builtin.«set.__init__» noKeywords Builtin.Frozenset.updateFrom
    generalize hp : pyIter = PI
    wp_walk
    subst hp
    refine wpAny_pyIter_list hl1 (wpAny_bind (wpAny_runValue ?_))
    refine fill_list (by simp [hh]) hl hi hb fun s2 m => ?_
    show wpAny _ _ _ _ _ _
    refine wpAny_pure ?_
    show wpAny _ _ (ret Value.none) _ _ _
    exact wpAny_pure ⟨rfl, m⟩
  · rcases r with e | fl
    · exact hr
    cases fl <;> first | exact hr.elim | skip
    obtain ⟨rfl, m⟩ := hr
    repeat (any_goals (first | assumption | wp_step))
    exact h _ m
end
end L2
namespace Gx
open PySem L2
/-! ### flat items -/
def flV : D → Option V
  | .non => some .non
  | .bl b => some (.bl b)
  | .int i => some (.int i)
  | .str x => some (.str x)
  | _ => none
def eqF (a b : D) : Bool := match flV a, flV b with
  | some x, some y => eqV x y
  | _, _ => false
def flD (d : D) : Bool := (flV d).isSome
section
variable {X : Cx} {F : Fr} {W : WX} {G G' : Gh} {H H' : Hp} {σ : L2.St} {s : SD} {h h' : Hs}
theorem vr_fl {d : D} {v w : V} (r : VR F G H d v) (e : flV d = some w) : v = w ∧ flatV w = true := by
  cases d with
  | non => injection e with e; subst e; exact ⟨vr_non.mp r, rfl⟩
  | bl b => injection e with e; subst e; exact ⟨vr_bl.mp r, rfl⟩
  | int i => injection e with e; subst e; exact ⟨vr_int.mp r, rfl⟩
  | str x => injection e with e; subst e; exact ⟨vr_str.mp r, rfl⟩
  | _ => cases e
theorem fl_some {d : D} (e : flD d = true) : ∃ w, flV d = some w := Option.isSome_iff_exists.mp e
theorem vrl_fl {y : D} {w : V} (ey : flV y = some w) : ∀ {l : List D} {xs : List V}, VRL F G H l xs → l.all flD = true → xs.all flatV = true ∧ (∀ z : V → Bool, True) ∧ xs.map (fun z => eqV z w) = l.map fun z => eqF z y
  | [], xs, r, _ => by rw [vrl_nil.mp r]; exact ⟨rfl, fun _ => trivial, rfl⟩
  | d :: l, xs, r, f => by
    obtain ⟨v, vr, rfl, r1, r2⟩ := vrl_cons.mp r
    rw [List.all_cons, Bool.and_eq_true] at f
    obtain ⟨u, eu⟩ := fl_some f.1
    obtain ⟨rfl, fu⟩ := vr_fl r1 eu
    obtain ⟨i1, _, i2⟩ := vrl_fl ey r2 f.2
    refine ⟨by rw [List.all_cons, fu, i1]; rfl, fun _ => trivial, ?_⟩
    rw [List.map_cons, List.map_cons, i2]
    congr 1
    unfold eqF
    rw [eu, ey]
def valM (g : List D → List D → Option D) (d : D) (ds : List D) (h : Hs) : R D := match lstH h d with
  | some l => match g l ds with
    | some z => .ok z h
    | none => .stk
  | none => .stk
theorem valM_nrs {g : List D → List D → Option D} : ∀ d ds h c p h', valM g d ds h ≠ .rs c p h' := fun d ds h c p h' e => by
  unfold valM at e
  split at e <;> first | (cases e; done) | skip
  split at e <;> cases e
def txCount (l ds : List D) : Option D := match ds with
  | [y] => if flD y = true ∧ l.all flD = true then some (.int (l.countP fun z => eqF z y : Nat)) else none
  | _ => none
def txIndex (l ds : List D) : Option D := match ds with
  | [y] => if flD y = true ∧ l.all flD = true then (l.findIdx? fun z => eqF z y).map fun (j : Nat) => .int j else none
  | _ => none
def rCount (K : PySem.W.Frag) : V → List V → Hp → VK → Prop := fun x xs H Q => ∃ (a : Addr) (ys : List V) (y : V), x = V.ref a ∧ xs = [y] ∧ SqL K H a ys ∧ flatV y = true ∧ ys.all flatV = true ∧ Q (.int (ys.countP fun z => eqV z y : Nat)) H
theorem countP_eqU {x : V} : ∀ {xs : List V} {us : List Value}, Vals xs us → xs.all flatV = true → us.countP (eqU x) = xs.countP fun y => eqV y x
  | _, _, .nil, _ => rfl
  | _, _, .cons r t, f => by
    rw [List.all_cons, Bool.and_eq_true] at f
    rw [List.countP_cons, List.countP_cons, countP_eqU t f.2, eqU_of r f.1]
theorem mt_count : MtR X "list.count" (rCount X.K) := by
  intro pins s σ H x xs v us Q I rx rxs h
  obtain ⟨a, ys, y, rfl, rfl, hs, fy, fys, q⟩ := h
  cases rx
  obtain ⟨u, rfl, ru⟩ := rxs.one
  obtain ⟨its, rv, ⟨⟨cls, dd, data, sl⟩, n, ho, hc, hdn, hd⟩, hlen⟩ := I.list hs
  simp only at hc hd
  subst hc hd
  refine call_meets PySem.F.slot_list_count ⟨_, ho, rfl⟩ PySem.F.entry_list_count (PySem.F.args_list_count_2 _ _)
    (SeqAt.list_countAt a its.toArray n dd sl u (eqU y)) ⟨ho, fun u' hu' => mem_eqAt ru fy rv fys u' (by simpa using hu'), ?_⟩
  have ec : its.toArray.toList.countP (eqU y) = ys.countP fun z => eqV z y := by
    rw [List.toList_toArray]
    exact countP_eqU rv fys
  refine ⟨.int (ys.countP fun z => eqV z y : Nat), H, I.tok _, ⟨s.toks, ?_⟩, q⟩
  show Value.int ((its.toArray.toList.countP (eqU y) : Nat) : Int) s.toks = Value.int ((ys.countP fun z => eqV z y : Nat) : Int) s.toks
  rw [ec]
theorem mok_count : MthOk F (rCount F.K) (valM txCount) := by
  intro G H h x d vs ds z h' Q rr vx vy e k
  unfold valM at e
  split at e <;> first | (cases e; done) | skip
  rename_i l ql
  split at e <;> first | (cases e; done) | skip
  rename_i z' qz
  injection e with e1 e2
  subst e1 e2
  obtain ⟨p, xs, rfl, hs, hl⟩ := list_of rr vx ql
  unfold txCount at qz
  split at qz
  · rename_i y
    split at qz
    · rename_i hh
      injection qz with qz
      subst qz
      obtain ⟨w, ew⟩ := fl_some hh.1
      obtain ⟨v, rfl, r1⟩ := vrl_onev vy
      obtain ⟨rfl, fw⟩ := vr_fl r1 ew
      obtain ⟨i1, _, i2⟩ := vrl_fl ew hl hh.2
      have ec : xs.countP (fun z => eqV z v) = l.countP fun z => eqF z y := by
        have e1 : xs.countP (fun z => eqV z v) = (xs.map fun z => eqV z v).countP id := by rw [List.countP_map]; rfl
        have e2 : l.countP (fun z => eqF z y) = (l.map fun z => eqF z y).countP id := by rw [List.countP_map]; rfl
        rw [e1, e2, i2]
      exact ⟨p, xs, v, rfl, rfl, hs, fw, i1, k _ G H (Step.refl _ _) rr (vr_int.mpr (by rw [ec]))⟩
    · cases qz
  · cases qz
theorem mok_index : MthOk F (rIndex F.K) (valM txIndex) := by
  intro G H h x d vs ds z h' Q rr vx vy e k
  unfold valM at e
  split at e <;> first | (cases e; done) | skip
  rename_i l ql
  split at e <;> first | (cases e; done) | skip
  rename_i z' qz
  injection e with e1 e2
  subst e1 e2
  obtain ⟨p, xs, rfl, hs, hl⟩ := list_of rr vx ql
  unfold txIndex at qz
  split at qz
  · rename_i y
    split at qz
    · rename_i hh
      obtain ⟨w, ew⟩ := fl_some hh.1
      obtain ⟨v, rfl, r1⟩ := vrl_onev vy
      obtain ⟨rfl, fw⟩ := vr_fl r1 ew
      obtain ⟨i1, _, i2⟩ := vrl_fl ew hl hh.2
      cases qj : l.findIdx? fun z => eqF z y with
      | none => rw [qj] at qz; cases qz
      | some j =>
        rw [qj] at qz
        injection qz with qz
        subst qz
        obtain ⟨h1, h2, h3⟩ := List.findIdx?_eq_some_iff_getElem.mp qj
        have len : xs.length = l.length := hl.length
        have at' : ∀ (m : Nat) (hm : m < l.length), eqV (xs[m]'(by omega)) v = eqF l[m] y := fun m hm => by
          have := congrArg (fun q => q[m]?) i2
          simp only [List.getElem?_map] at this
          rw [List.getElem?_eq_getElem (by omega), List.getElem?_eq_getElem hm] at this
          simpa using this
        refine ⟨p, xs, v, j, xs[j]'(by omega), rfl, rfl, hs, fw, i1, List.getElem?_eq_getElem (by omega), by rw [at' j h1]; exact h2, fun m z' hm ez => ?_, k _ G H (Step.refl _ _) rr (vr_int.mpr rfl)⟩
        obtain ⟨hm2, ez⟩ := List.getElem?_eq_some_iff.mp ez
        have := h3 m hm
        rw [← ez, at' m (by omega)]
        simpa using this
    · cases qz
  · cases qz
/-! ### len(set(xs)) -/
def setLen (ns : List Int) : Nat := (PyProof.Rows.firstMet (fun i => ns.getD i 0) ns.length).length
def tLS (K : PySem.W.Frag) (ta : TE) : TE := fun σ H Q => ta σ H fun x H1 => ∃ (l : Addr) (ns : List Int), x = V.ref l ∧ SqL K H1 l (ns.map V.int) ∧ ns.length < 4000 ∧ Q (.int (setLen ns)) H1
theorem pe_lenSetG {a : Expr} {ta : TE} {p p2 q pos : Pos} (hc : X.calm = true) (hg : Gl X "len") (hm : X.mg "len" = none) (hg2 : Gl X "set") (hm2 : X.mg "set" = none) (ha : PE X a ta)
    (na : starEach [a] X.env = (false, eval a X.env) :: starEach [] X.env) : PE X (.Call (.Name "len" p) [.Call (.Name "set" p2) [a] [] q] [] pos) (tLS X.K ta) := by
  refine ⟨fun pins s σ H Q I h => ?_⟩
  refine PyProof.Rows.Call_ (ld_blt I hg hm PySem.boot_len ?_)
  refine PyProof.Rows.callWith_builtin1 (PyProof.Rows.args_cons ?_ rfl) rfl rfl
  refine PyProof.Rows.Call_ (ld_blt I hg2 hm2 PyProof.Rows.boot_set ?_)
  refine PyProof.Rows.callWith_type1 (PyProof.Rows.args_cons (thn (ha.run pins s σ H _ I h) fun v s1 ⟨x, H1, I1, r1, q1⟩ => PyProof.Rows.args_nil ?_) na) na rfl
  obtain ⟨l, ns, rfl, hq, h1, q1⟩ := q1
  cases r1
  obtain ⟨its, r, pl, hz⟩ := I1.list hq
  have hl : its.toArray.size = ns.length := by rw [List.size_toArray, ← r.length, List.length_map]
  refine call_set_list (I1.ok.hd hc) pl.isList (ns := ns) (by simpa using r.ints) (by unfold scanBound; omega) fun h' tk hS hk => ?_
  rw [hl] at hS
  refine PyProof.Rows.args_nil ?_
  obtain ⟨o, es, ep, t, ho, hex, hd, _, _, _, hf, hn⟩ := hS
  have I2 : Inv X pins σ H1 { s1 with heap := h', toks := tk } := I1.kept fun b o e => hk b o (Heap.lt_size e) e
  have hb : (PyProof.Rows.firstMet (fun i => ns.getD i 0) ns.length).length ≤ ns.length := PyProof.Rows.firstMet_length_le _ _
  refine call_len_set ho hex hd hf (by rw [hn] <;> omega) ⟨.int (setLen ns), H1, I2.tok _, ⟨_, by unfold setLen; rw [hn]⟩, q1⟩
def lenSetO (ds : List D) (h : Hs) : R D := match ds with
  | [d] => match lstH h d with
    | some l => match intsOf l with
      | some ns => if ns.length < 4000 then .ok (.int (setLen ns)) h else .stk
      | none => .stk
    | none => .stk
  | _ => .stk
/-! ### sorted(set(xs)) -/
def tSS (K : PySem.W.Frag) (ta : TE) : TE := fun σ H Q => ta σ H fun x H1 => ∃ (l : Addr) (ns : List Int), x = V.ref l ∧ SqL K H1 l (ns.map V.int) ∧ ns.length < 64 ∧ ∀ (ms : List Int) (p : Addr), ms.Pairwise (· < ·) → (∀ k, k ∈ ms ↔ k ∈ ns) → H1 p = none → Q (.ref p) (upd H1 p (.lst (ms.map V.int)))
theorem pe_srtSetG {a : Expr} {ta : TE} {p p2 q pos : Pos} (hc : X.calm = true) (hg : Gl X "sorted") (hm : X.mg "sorted" = none) (hg2 : Gl X "set") (hm2 : X.mg "set" = none) (ha : PE X a ta)
    (na : starEach [a] X.env = (false, eval a X.env) :: starEach [] X.env) : PE X (.Call (.Name "sorted" p) [.Call (.Name "set" p2) [a] [] q] [] pos) (tSS X.K ta) := by
  refine ⟨fun pins s σ H Q I h => ?_⟩
  refine PyProof.Rows.Call_ (ld_blt I hg hm PyProof.Rows.boot_sorted ?_)
  refine PyProof.Rows.callWith_builtin1 (PyProof.Rows.args_cons ?_ rfl) rfl rfl
  refine PyProof.Rows.Call_ (ld_blt I hg2 hm2 PyProof.Rows.boot_set ?_)
  refine PyProof.Rows.callWith_type1 (PyProof.Rows.args_cons (thn (ha.run pins s σ H _ I h) fun v s1 ⟨x, H1, I1, r1, q1⟩ => PyProof.Rows.args_nil ?_) na) na rfl
  obtain ⟨l, ns, rfl, hq, h1, q1⟩ := q1
  cases r1
  obtain ⟨its, r, pl, hz⟩ := I1.list hq
  refine set_list_ints (I1.ok.hd hc) pl.isList (ns := ns) (by simpa using r.ints) (by unfold scanBound; omega) fun s2 ⟨h', tk, c, es, R, lc, hk⟩ => ?_
  refine PyProof.Rows.args_nil ?_
  have I2 : Inv X pins σ H1 s2 := by rw [es]; exact I1.kept fun b o e => hk b o e
  have R : SetR X.w s2.heap s1.heap.objs.size (fun j => decide (j ∈ ns)) c := by rw [es]; exact R
  clear es
  refine sorted_set R (I2.ok.hd hc) (by omega) fun s' p out c' ms k g o hp hg hi hs hm hl => ?_
  have hlen : (ms.map V.int).length ≤ sizeLine := by rw [List.length_map, hl, sizeLine_eq]; omega
  have hn : H1 p = none := I2.hok.fresh hp
  have J : Inv X pins σ (upd H1 p (.lst (ms.map V.int))) { s2 with heap := s'.heap, gens := s'.gens, drawn := s'.drawn, toks := s'.toks } :=
    I2.call (ch := []) (Un.laid k hp hn) (I2.hok.laid k hp ⟨hlen, out.toList, c', vals_of_ints hi, hg⟩) (by rw [g]; exact I2.bare) (fun _ z => nomatch z)
  have e : s' = { s2 with heap := s'.heap, gens := s'.gens, drawn := s'.drawn, toks := s'.toks } := by
    cases s'
    cases s2
    cases o
    rfl
  rw [e]
  exact ⟨.ref p, _, J, rfl, q1 ms p hs (fun k => by rw [hm k]; simp) hn⟩
def dedI : List Int → List Int
  | [] => []
  | a :: r => if a ∈ dedI r then dedI r else a :: dedI r
theorem dedI_mem {k : Int} : ∀ {l : List Int}, k ∈ dedI l ↔ k ∈ l
  | [] => Iff.rfl
  | a :: r => by
    have ih := dedI_mem (k := k) (l := r)
    unfold dedI
    split
    · rename_i z
      rw [ih, List.mem_cons]
      exact ⟨.inr, fun w => w.elim (fun e => by rw [e]; exact dedI_mem.mp z) id⟩
    · rw [List.mem_cons, List.mem_cons, ih]
theorem dedI_nd : ∀ l : List Int, (dedI l).Nodup
  | [] => List.Pairwise.nil
  | a :: r => by
    unfold dedI
    split
    · exact dedI_nd r
    · rename_i z
      exact List.nodup_cons.mpr ⟨z, dedI_nd r⟩
theorem nd_perm : ∀ {l m : List Int}, l.Nodup → m.Nodup → (∀ k, k ∈ l ↔ k ∈ m) → l.Perm m
  | [], m, _, _, h => by
    cases m with
    | nil => exact List.Perm.nil
    | cons b r => exact absurd ((h b).mpr List.mem_cons_self) List.not_mem_nil
  | a :: r, m, h1, h2, h => by
    obtain ⟨z, h1⟩ := List.nodup_cons.mp h1
    have hm := (h a).mp List.mem_cons_self
    refine ((nd_perm h1 (h2.erase a) fun k => ?_).cons a).trans (List.perm_cons_erase hm).symm
    rw [h2.mem_erase_iff, ← h k, List.mem_cons]
    exact ⟨fun w => ⟨fun e => z (e ▸ w), .inr w⟩, fun w => w.2.resolve_left w.1⟩
def sortU (ns : List Int) : List Int := sortI (dedI ns)
theorem sortU_uniq {ms ns : List Int} (h : ms.Pairwise (· < ·)) (e : ∀ k, k ∈ ms ↔ k ∈ ns) : ms = sortU ns :=
  sort_uniq ((nd_perm (h.imp fun w => by omega) (dedI_nd ns) fun k => by rw [e k, dedI_mem]).trans (sortI_perm _).symm) (h.imp fun w => by omega) (sortI_le _)
theorem sortU_mem {ns : List Int} {k : Int} : k ∈ sortU ns ↔ k ∈ ns := by
  unfold sortU
  rw [(sortI_perm _).mem_iff, dedI_mem]
def srtSetO (ds : List D) (h : Hs) : R D := match ds with
  | [d] => match lstH h d with
    | some l => match intsOf l with
      | some ns => if ns.length < 64 then .ok (.vl ((sortU ns).map .int)) h else .stk
      | none => .stk
    | none => .stk
  | _ => .stk
/-! ### tuple(range(..)) -/
def trG (k : Nat) (ds : List D) (h : Hs) : R D := match k, ds with
  | 1, [.int b] => if 0 ≤ b ∧ b ≤ 16777216 then .ok (.tup (rngD 0 b.toNat)) h else .stk
  | 2, [.int a, .int b] => if 0 ≤ a ∧ a ≤ 16777216 ∧ 0 ≤ b ∧ b ≤ 16777216 then .ok (.tup (rngD a (b - a).toNat)) h else .stk
  | _, _ => .stk
inductive Xf where
  | lenSet | trng (k : Nat) | srtSet
  deriving DecidableEq
def Xf.g : Xf → List D → Hs → R D
  | .lenSet => lenSetO
  | .trng k => trG k
  | .srtSet => srtSetO
/-! ### enumerate -/
def enumO (ds : List D) (h : Hs) : R Src := match ds with
  | [a] => match lstH h a with
    | some l => .ok ⟨l.zipIdx.map fun p => .tup [.int (p.2 : Nat), p.1], stays a l⟩ h
    | none => .stk
  | _ => .stk
theorem enum_get {l : List D} {xs : List V} (h1 : VRL F G H l xs) {i : Nat} {d : D} (e : (l.zipIdx.map fun p => D.tup [.int (p.2 : Nat), p.1])[i]? = some d) (rr : HR F G H h) :
    ∃ x, xs[i]? = some x ∧ ∀ T, H T = none → VR F G (upd H T (.tup [.int (i : Nat), x])) d (.ref T) := by
  rw [List.getElem?_map, List.getElem?_zipIdx] at e
  cases q : l[i]? with
  | none => rw [q] at e; cases e
  | some y =>
    rw [q] at e
    injection e with e
    subst e
    obtain ⟨x, x1, x2⟩ := VRL.get h1 q
    refine ⟨x, x1, fun T hT => ?_⟩
    have S : Step G H G (upd H T (.tup [.int (i : Nat), x])) := Step.same (same_upd hT)
    refine vr_tup.mpr ⟨T, [.int (i : Nat), x], rfl, .inl (.inl upd_same), vrl_cons.mpr ⟨.int (i : Nat), [x], rfl, vr_int.mpr ?_, vrl_one.mpr (VR.step S rr.aB _ x2)⟩⟩
    simp
theorem si_enum {e : Expr} {elts : List Expr} {kk : Nat} {f : SD → Hs → R (List D)} {p pos tpos : Pos} (hK : X.K = F.K) (hg : Gl X "enumerate") (hm : X.mg "enumerate" = none) (hs : starEach [e] X.env = [(false, eval e X.env)]) (ha : SA X F W [e] f) :
    SI X F W (.Tuple elts kk tpos) (.Call (.Name "enumerate" p) [e] [] pos) (fun s h => (f s h).bind enumO) :=
  ⟨fun pins s' σ H R0 I ⟨G, h, s, t, o⟩ => (pi_enum hg hm ha hs).run pins s' σ H R0 I (partI t o fun d v h1 G1 H1 T1 t1 x o => by
    unfold enumO at o
    split at o
    · rename_i a
      split at o
      · rename_i l qa
        obtain ⟨va, rfl, ra⟩ := vrl_onev x
        obtain ⟨pa, rfl, ka⟩ := list_stays t1.hr ra qa
        obtain ⟨pa', xs, e1, hsa, _⟩ := list_of t1.hr ra qa
        injection e1 with e1
        subst e1
        refine ⟨pa, xs, rfl, by rw [hK]; exact hsa, o _ G1 H1 (Step.refl _ _) t1.hr ?_⟩
        rw [hK]
        refine ⟨fun G2 H2 h2 T r cc i hi => ?_, fun G2 H2 h2 T r cc i d e => ?_⟩
        · obtain ⟨xs2, a1, a2⟩ := ka G2 H2 h2 T r cc
          refine ⟨xs2, a1, ?_⟩
          rw [List.length_map, List.length_zipIdx] at hi
          rw [a2.length]
          exact hi
        · obtain ⟨xs2, a1, a2⟩ := ka G2 H2 h2 T r cc
          obtain ⟨x, hx, k⟩ := enum_get a2 e r
          refine ⟨⟨_, x, a1, hx⟩, fun v H3 hh => ?_⟩
          obtain ⟨T, x', rfl, hT, rfl, f1⟩ := hh
          have e1 := Option.some.inj (hx.symm.trans (f1 _ a1))
          subst e1
          exact ⟨same_upd hT, k T hT⟩
      · exact o.elim
    · exact o.elim)⟩
end
end Gx

/-! G77: any(xs) where an exception is handled. -/
namespace PySem
theorem pyNext_list_end_hot {prog : Program} {w : World} {A : Around} {E : Value → Shared → Prop} {s : Shared} {it l x1 : Addr} {i : Nat} {items : Array Value} {Q : Option Value → Shared → Prop} (hot : HotX.HotAt A x1 s.heap) (hne : it ≠ x1)
    (hit : s.heap.IsListIter it l i) (hl : s.heap.IsList l items) (hx : items[i]? = none)
    (hQ : ∀ h', Heap.ExtBut it s.heap h' → Q none { s with heap := h' }) : wpAny (model prog w) A (pyNext (.ref it)) Q E s := by
  obtain ⟨hh, o1, vs1, h1, d1, c1⟩ := hot
  obtain ⟨o, ho, hc, hd⟩ := id hit
  obtain ⟨ol, hol, _, nl, hdl⟩ := hl
  unfold pyNext
  refine wpAny_bind (wpAny_attempt (wpAny_callSpecial?_slot (name := Str.ofString "__next__") hit.typeIs slot_listiter_next
    (wpAny_call_entry slot_listiter_next hit.typeIs entry_listiter_next ?_ (args_listiter_next _))))
  show wpAny _ _ (field (.ref it) 0 >>= _) _ _ s
  refine wpAny_bind (wpAny_field ho hd (x := .ref l) rfl ?_)
  show wpAny _ _ (if (Value.ref l == Value.none) = true then _ else _) _ _ s
  rw [if_neg (show ¬ ((Value.ref l == Value.none) = true) from Bool.false_ne_true)]
  show wpAny _ _ (field (.ref it) 1 >>= _) _ _ s
  refine wpAny_bind (wpAny_field ho hd (x := .int i 0) rfl ?_)
  show wpAny _ _ (seqItems? (.ref l) >>= _) _ _ s
  refine wpAny_bind (wpAny_seqItems hol hdl ?_)
  simp only [Int.toNat_natCast, hx]
  refine wpAny_bind (wpAny_rule (wpAny_bind (wpAny_setField ho hd (by simp) ?_)))
  show wpAny _ _ (newExc (.type "StopIteration") [] >>= _) _ _ _
  refine wpAny_bind ?_
  simp only [newExc, newTuple]
  refine wpAny_bind (wpAny_newObj_type ?_ (by size_fits))
  refine wpAny_bind (m := firstArgMember _ _) (wpAny_of_eq (a := Value.none) (by first | rfl | (simp only [firstArgMember]; rfl)) ?_)
  refine wpAny_newObj_type ?_ (by size_fits)
  refine HotX.raiseNew_hot ⟨hh, o1, vs1, Heap.get?_push_of_some _ (Heap.get?_push_of_some _ ((Heap.get?_update_other _ _ hne).trans h1)), d1, c1⟩ (Nat.ne_of_lt (Heap.lt_size (Heap.get?_push_of_some _ ((Heap.get?_update_other _ _ hne).trans h1)))) (Heap.get?_push_size _ rfl) rfl (by first | (simp; done) | (simp; omega) | (simp only [Array.size_append]; simp; omega)) ?_
  refine wpAny_bind (wpAny_isInstance (T := "StopIteration") (b := true) ⟨_, Heap.get?_update_self _ (Heap.get?_push_size _ rfl) rfl, rfl⟩ isSubtype_stop ?_)
  refine wpAny_pure (hQ _ fun b o' hb e => ?_)
  have e2 := Heap.get?_push_of_some { cls := .type "tuple", data := .seq #[] } ((Heap.get?_update_other s.heap (Obj.mapFields (·.setIfInBounds 0 .none)) (Ne.symm hb)).trans e)
  first
  | (rw [Heap.get?_update_other _ _ (Nat.ne_of_gt (Heap.lt_size (Heap.get?_push_of_some _ ((Heap.get?_update_other _ _ (Ne.symm hb)).trans e))))]
     exact Heap.get?_push_of_some _ (Heap.get?_push_of_some _ ((Heap.get?_update_other _ _ (Ne.symm hb)).trans e)))
/-- the walk of a list, x1's exception being handled -/
theorem Walks.listHot {prog : Program} {w : World} {A : Around} {x1 : Addr} (hh : A.handled = some (.ref x1)) (I ax : Addr) (hne : ax ≠ I) (hne1 : I ≠ x1) (items : Array Value) :
    Walks prog w A I [I, ax, x1] [I] items.size (fun i v => items[i]? = some v) (fun i h => (h.IsListIter I ax i ∧ h.IsList ax items) ∧ ∃ (o : Obj) (vs : Array Value), h.get? x1 = some o ∧ o.data = .fields vs ∧ vs[2]? = some .none) where
  sub := fun b hb => by simp at hb; simp [hb]
  frame := fun _ _ _ st hk => ⟨⟨st.1.1.at fun o e => hk I (by simp) o e, st.1.2.at fun o e => hk ax (by simp) o e⟩, let ⟨o, vs, h1, h2, h3⟩ := st.2; ⟨o, vs, hk x1 (by simp) o h1, h2, h3⟩⟩
  item := fun i s Q E hi st hQ => by
    refine wpAny_pyNext_list_item st.1.1 st.1.2 (x := items[i]) (by simp [hi]) fun h' hit' hs' => ?_
    refine hQ _ h' s.toks (by simp [hi]) ⟨⟨hit', st.1.2.extBut hs'.extBut hne⟩, ?_⟩ fun b o hb e => hs'.extBut b o (fun h => hb (by simp [h])) e
    obtain ⟨o, vs, h1, h2, h3⟩ := st.2
    exact ⟨o, vs, hs'.extBut x1 o (Ne.symm hne1) h1, h2, h3⟩
  done := fun s Q E st hQ => pyNext_list_end_hot ⟨hh, st.2⟩ hne1 st.1.1 st.1.2 (by simp) fun h' he' => hQ h' s.toks fun b o hb e => he' b o (fun h => hb (by simp [h])) e
  self := fun _ _ _ _ st hQ => wpAny_pyIter_listiter st.1.1 hQ
end PySem
namespace Gx
open PySem PySem.Spec PyProof.Rows L2
def rAnyH (K : PySem.W.Frag) (x1 : Addr) : List V → Hp → VK → Prop := fun vs H Q => (∃ cls d, H x1 = some (exV cls d x1)) ∧ rAny K vs H Q
theorem cr_anyH {X : Cx} {x1 : Addr} (hh : X.A.handled = some (.ref x1)) : CallR X (.builtin "any") (rAnyH X.K x1) := by
  intro pins s σ H vs us Q I r h
  obtain ⟨⟨cls, d, hx⟩, a, bs, rfl, hs, q⟩ := h
  obtain ⟨oe, vs, g1, g2, g3⟩ := exV_at I.hok hx
  obtain ⟨its, rv, hl, _⟩ := I.list hs
  rw [Vals.ref1 r]
  have hb := rv.bls
  refine call_any_walk (iter_any hl.isList fun s₂ e2 st hne => ?_)
  subst e2
  have n1 : s.heap.objs.size ≠ x1 := fun z => by
    have := Heap.lt_size g1
    rw [← z] at this
    exact Nat.lt_irrefl _ this
  refine ⟨_, _, _, _, _, _, _, rfl, Walks.listHot (A := X.A.in1) hh _ a hne n1 its.toArray, ⟨st, oe, vs, Heap.get?_push_of_some _ g1, g3, g2.2.2 vs g3⟩, truth_bools hb, fun h' tk hk => ?_⟩
  refine ⟨.bl _, H, I.kept fun b o eo => hk b o (fun hmem => ?_) (Heap.get?_push_of_some _ eo), ?_, q⟩
  · rcases List.mem_cons.mp hmem with e1 | hmem
    · exact absurd (e1 ▸ Heap.lt_size eo) (Nat.lt_irrefl _)
    · cases hmem
  · show Value.bool _ = Value.bool _
    rw [← L2.any_range, hb, List.size_toArray, List.length_map]
theorem ok_anyH {F : Fr} {x1 : Addr} (hf : F.hot = some x1) : CallOk F (rAnyH F.K x1) (DL gAny) := by
  intro G H h vs ds z h' Q rr x e k
  obtain ⟨c, d, h1, _⟩ := rr.hot x1 hf
  exact ⟨⟨c, d, h1⟩, ok_any G H h vs ds z h' Q rr x e k⟩
end Gx

/-! G78: dicts: d.get, displays as values. -/
namespace Gx
open PySem PySem.Spec PyProof.Rows L2
section
variable {X : Cx} {F : Fr} {W : WX} {G G' : Gh} {H H' : Hp} {σ : L2.St} {s : SD} {h h' : Hs}
def isDic (h : Hs) (d : D) : Bool := (dicU h d).isSome
theorem ty_dict : TyOk F "dict" isDic := fun G H h x d r v c => by
  unfold isDic at c
  obtain ⟨⟨k, l⟩, e⟩ := Option.isSome_iff_exists.mp c
  obtain ⟨p, qs, vs, rfl, hp, _⟩ := dicU_of r v e
  exact .inr (.inr (.inl ⟨rfl, .inl ⟨_, hp⟩⟩))
def getM (d : D) (ds : List D) (h : Hs) : R D := match dicU h d with
  | some kl => match ds with
    | [y] => match kyD y with
      | some q => .ok ((dFind kl.1 kl.2 q).getD .non) h
      | none => .stk
    | [y, z] => match kyD y with
      | some q => .ok ((dFind kl.1 kl.2 q).getD z) h
      | none => .stk
    | _ => .stk
  | none => .stk
theorem getM_nrs : ∀ d ds h c p h', getM d ds h ≠ .rs c p h' := fun d ds h c p h' e => by
  unfold getM at e
  split at e <;> first | (cases e; done) | skip
  split at e <;> first | (cases e; done) | skip
  all_goals (split at e <;> cases e)
/-- d.clear() of a dict that is an object -/
def clrM (d : D) (ds : List D) (h : Hs) : R D := match d, ds with
  | .ref n, [] => match h[n]? with
    | some (.dic _ _) => match putH n (.dic [] []) h with
      | some h' => .ok .non h'
      | none => .stk
    | _ => .stk
  | _, _ => .stk
theorem clrM_nrs : ∀ d ds h c p h', clrM d ds h ≠ .rs c p h' := fun d ds h c p h' e => by
  unfold clrM at e
  split at e <;> first | (cases e; done) | skip
  split at e <;> first | (cases e; done) | skip
  all_goals (split at e <;> cases e)
theorem mok_clr : MthOk F rDClear clrM := by
  intro G H h x d vs ds z h' Q rr vx vy e k
  unfold clrM at e
  split at e <;> first | (cases e; done) | skip
  rename_i n
  split at e <;> first | (cases e; done) | skip
  rename_i k0 l0 q
  split at e <;> first | (cases e; done) | skip
  rename_i h2 q3
  injection e with e1 e2
  subst e1 e2
  obtain ⟨p, rfl, hp⟩ := vr_ref.mp vx
  obtain ⟨p', hp', u, hu, qs, ws, rfl, hl, h1, h2'⟩ := rr.obj n _ q
  rw [hp] at hp'
  injection hp' with hp'
  subst hp'
  rw [vrl_nil.mp vy]
  refine ⟨p, _, rfl, rfl, hu, ?_⟩
  unfold putH at q3
  injection q3 with q3
  subst q3
  have nf : ∀ o u, H p ≠ some (.frz o u) := fun _ _ z => by rw [hu] at z; cases z
  have T := Step.write (u := .dK []) rr hp nf
  exact k .non G _ T (rr.write hp nf ⟨[], [], rfl, rfl, vrl_nil.mpr rfl, vrl_nil.mpr rfl⟩) (vr_non.mpr rfl)
def rGet : V → List V → Hp → VK → Prop := fun x xs H Q => ∃ a, x = .ref a ∧ ((∃ y o, xs = [y] ∧ DGet H a y o ∧ Q (o.getD .non) H) ∨ ∃ y z o, xs = [y, z] ∧ DGet H a y o ∧ Q (o.getD z) H)
theorem mt_get (hu : X.A.units + 1 < cLine) : MtR X "dict.get" rGet := by
  intro pins s σ H x xs v us Q I rx rxs h
  obtain ⟨a, rfl, h⟩ := h
  obtain rfl : v = Value.ref a := rx
  rcases h with ⟨y, o, rfl, g, q⟩ | ⟨y, z, o, rfl, g, q⟩
  · cases rxs with
    | cons r1 rr =>
      cases rr
      exact d_get1 hu I g r1 fun w' s' I' r' => ⟨_, H, I', r', q⟩
  · cases rxs with
    | cons r1 rr =>
      cases rr with
      | cons r2 rr =>
        cases rr
        exact d_get2 hu I g r1 r2 fun w' s' I' r' => ⟨_, H, I', r', q⟩
theorem mok_get : MthOk F rGet getM := by
  intro G H h x d vs ds z h' Q rr vx vy e k
  unfold getM at e
  split at e <;> first | (cases e; done) | skip
  rename_i kl hd
  obtain ⟨kk, ll⟩ := kl
  have hd := dicU_dicH hd
  dsimp only at e
  split at e <;> first | (cases e; done) | skip
  · rename_i y
    obtain ⟨w, rfl, ry⟩ := vrl_onev vy
    cases hq : kyD y with
    | none => rw [hq] at e; cases e
    | some q =>
      rw [hq] at e
      injection e with e1 e2
      subst e1 e2
      obtain ⟨p, rfl, _, f1, f2⟩ := dget_of rr vx ry hd hq
      cases hf : dFind kk ll q with
      | none => rw [hf] at k; exact ⟨p, rfl, .inl ⟨w, none, rfl, f2 hf, k _ G H (Step.refl _ _) rr (vr_non.mpr rfl)⟩⟩
      | some u =>
        rw [hf] at k
        obtain ⟨u', g1, g2⟩ := f1 _ hf
        exact ⟨p, rfl, .inl ⟨w, some u', rfl, g1, k _ G H (Step.refl _ _) rr g2⟩⟩
  · rename_i y y2
    obtain ⟨w, ws, rfl, ry, hr⟩ := vrl_cons.mp vy
    obtain ⟨w2, rfl, ry2⟩ := vrl_onev hr
    cases hq : kyD y with
    | none => rw [hq] at e; cases e
    | some q =>
      rw [hq] at e
      injection e with e1 e2
      subst e1 e2
      obtain ⟨p, rfl, _, f1, f2⟩ := dget_of rr vx ry hd hq
      cases hf : dFind kk ll q with
      | none => rw [hf] at k; exact ⟨p, rfl, .inr ⟨w, w2, none, rfl, f2 hf, k _ G H (Step.refl _ _) rr ry2⟩⟩
      | some u =>
        rw [hf] at k
        obtain ⟨u', g1, g2⟩ := f1 _ hf
        exact ⟨p, rfl, .inr ⟨w, w2, some u', rfl, g1, k _ G H (Step.refl _ _) rr g2⟩⟩
/-! ### displays -/
def dspO (qs : List Key) (l : List D) (h : Hs) : R D := .ok (.vd (qs.map kD) l) h
def keyE : Option Expr → Option Key
  | some (.Constant (.int i) _ _) => some (.inl i)
  | some (.Constant (.str x) _ _) => some (.inr x)
  | _ => none
def evF : List (SD → Hs → R D) → SD → Hs → R (List D)
  | [], _, h => .ok [] h
  | f :: r, s, h => (f s h).bind fun d h1 => (evF r s h1).bind fun ds h2 => .ok (d :: ds) h2
inductive SEs (X : Cx) (F : Fr) (W : WX) : List Expr → List (SD → Hs → R D) → Prop
  | nil : SEs X F W [] []
  | cons {e : Expr} {es : List Expr} {f : SD → Hs → R D} {fs : List (SD → Hs → R D)} : SE X F W e f → SEs X F W es fs → SEs X F W (e :: es) (f :: fs)
theorem key_pe {k : Expr} {q : Key} (e : keyE (some k) = some q) : PE X k (tC (kV q)) := by
  unfold keyE at e
  split at e
  · rename_i h2
    injection h2 with h2
    injection e with e
    subst h2 e
    exact pe_int
  · rename_i h2
    injection h2 with h2
    injection e with e
    subst h2 e
    exact pe_str
  · cases e
theorem pps_of {pos : Pos} : ∀ {ks : List (Option Expr)} {qs : List Key} {vs : List Expr} {fs : List (SD → Hs → R D)}, ks.map keyE = qs.map some → SEs X F W vs fs → ks.length = vs.length →
    ∃ trs, PPs X pos ks vs trs ∧ ∀ (R' : List (V × V) → Hp → Prop) (σ : L2.St) (G : Gh) (H : Hp) (h : Hs) (s : SD), St F G h s σ H → Out F W G σ H (VRL F) (fun ws H' => ws.length = qs.length → R' ((qs.zip ws).map fun kv => (kV kv.1, kv.2)) H') (evF fs s h) → tPairs trs σ H R'
  | [], qs, vs, fs, hk, hv, hl => by
    cases hv with
    | cons _ _ => cases hl
    | nil =>
      cases qs with
      | cons _ _ => cases hk
      | nil =>
        refine ⟨[], pps_nil, fun R' σ G H h s t o => ?_⟩
        exact o [] G H (Step.refl _ _) t.hr (vrl_nil.mpr rfl) rfl
  | k :: ks, qs, vs, fs, hk, hv, hl => by
    cases hv with
    | nil => cases hl
    | @cons e es f fs he hes =>
      cases qs with
      | nil => cases hk
      | cons q qs =>
        rw [List.map_cons, List.map_cons] at hk
        injection hk with hk1 hk2
        cases k with
        | none => cases hk1
        | some k =>
          obtain ⟨trs, P, T⟩ := pps_of (pos := pos) hk2 hes (by simpa using hl)
          refine ⟨(tC (kV q), lift F W (VR F) f) :: trs, pps_cons (key_pe hk1) he P, fun R' σ G H h s t o => ?_⟩
          show lift F W (VR F) f σ H _
          refine part t o fun d v h1 G1 H1 T1 t1 vx o => ?_
          refine T _ σ G1 H1 h1 s t1 ?_
          cases hq : evF fs s h1 with
          | ok ds h2 =>
            rw [hq] at o
            exact fun ws G2 H2 T2 r2 hw hlen => by
              have := o (v :: ws) G2 H2 T2 r2 (vrl_cons.mpr ⟨v, ws, rfl, VR.step T2 t1.hr.aB d vx, hw⟩) (by simp [hlen])
              simpa using this
          | rs c p h2 => rw [hq] at o; exact o
          | stk => rw [hq] at o; exact o
theorem merge_nd : ∀ (more kvs : List (Key × V)), ((kvs ++ more).map (·.1)).Nodup → mergeK kvs more = kvs ++ more
  | [], kvs, _ => by simp [mergeK]
  | p :: r, kvs, h => by
    have e : mergeK kvs (p :: r) = mergeK (putK kvs p.1 p.2) r := rfl
    have hn : valV kvs p.1 = none := by
      cases q : valV kvs p.1 with
      | none => rfl
      | some v =>
        have m := valV_in q
        rw [List.map_append, List.nodup_append] at h
        exact (h.2.2 p.1 m p.1 (by simp) rfl).elim
    rw [e, putK_new _ hn]
    have := merge_nd r (kvs ++ [(p.1, p.2)]) (by simpa using h)
    rw [this]
    simp
theorem vrl_keys : ∀ (qs : List Key), VRL F G H (qs.map kD) (qs.map kV)
  | [] => vrl_nil.mpr rfl
  | q :: r => by
    rw [List.map_cons, List.map_cons]
    refine vrl_cons.mpr ⟨kV q, r.map kV, rfl, ?_, vrl_keys r⟩
    cases q with
    | inl i => exact vr_int.mpr rfl
    | inr x => exact vr_str.mpr rfl
theorem se_dsp {ks : List (Option Expr)} {qs : List Key} {vs : List Expr} {fs : List (SD → Hs → R D)} {pos : Pos} (hk : ks.map keyE = qs.map some) (hv : SEs X F W vs fs) (hl : ks.length = vs.length) (nd : qs.Nodup) (h0 : ks ≠ []) (h15 : ks.length ≤ 15) : SE X F W (.Dict ks vs pos) (fun s h => (evF fs s h).bind (dspO qs)) := by
  obtain ⟨trs, P, T⟩ := pps_of (pos := pos) hk hv hl
  have hall : ks.all (·.isSome) = true := by
    refine List.all_eq_true.mpr fun k hm => ?_
    have : keyE k ∈ ks.map keyE := List.mem_map.mpr ⟨k, hm, rfl⟩
    rw [hk] at this
    obtain ⟨q, _, e⟩ := List.mem_map.mp this
    cases k with
    | none => cases e
    | some _ => rfl
  have lq : qs.length = ks.length := by
    have := congrArg List.length hk
    simpa using this.symm
  refine PE.imp (pe_disp P hall hl h0 h15) fun σ H Q ⟨G, h, s, t, o⟩ => fun p hp => ?_
  have r := t.hr
  have np : ∀ m, G.α m ≠ some p := fun m e => r.bt p (r.aB m p e) hp
  have T2 : Step G H (G.hide p) (upd H p (.dK [])) := by
    have S : Step G H G (upd H p (.dK [])) := Step.same (same_upd hp)
    exact ⟨S.ids, S.new, S.keep, S.tup, fun q hq b => b.elim id fun z => (hq (z ▸ hp)).elim, fun q b => .inl b, S.there, S.frz⟩
  have r2 : HR F (G.hide p) (upd H p (.dK [])) h := by
    have S := r.same (same_upd hp (o := .dK []))
    refine ⟨fun n o e => ?_, S.dom, S.inj, fun n p e => .inl (S.aB n p e), fun q b => ?_, fun a q => let ⟨c, d, h1, h2⟩ := S.hot a q; ⟨c, d, h1, fun z => z.elim h2 fun w => by rw [w, upd_same] at h1; cases h1⟩⟩
    · obtain ⟨q, e1, u, hu, ho⟩ := r.obj n o e
      exact ⟨q, e1, u, same_upd hp _ _ hu, ho.step T2 r.aB⟩
    · rcases b with b | rfl
      · exact S.bt q b
      · rw [upd_same]; exact fun z => nomatch z
  refine T _ σ (G.hide p) (upd H p (.dK [])) h s (t.step T2 r2) ?_
  dsimp only at o
  cases hq : evF fs s h with
  | stk => rw [hq] at o; exact o.elim
  | rs c p' h2 =>
    rw [hq] at o
    exact fun G' H' dct T3 r3 pp => o G' H' dct (T2.trans T3) r3 pp
  | ok ds h2 =>
    rw [hq] at o
    intro ws G' H' T3 r3 hw hlen
    have hp' : H' p = some (.dK []) := T3.keep p _ upd_same np
    have hb : G'.B p := T3.bans p (.inr rfl)
    have hn : ∀ m, G'.α m ≠ some p := fun m e => by
      rcases T3.new m p e with z | z
      · exact np m z
      · rw [upd_same] at z; cases z
    have ht : ∀ q xs, Rd H' q (.tup xs) → Rd (upd H' p (.dK (qs.zip ws))) q (.tup xs) := fun q xs z => by
      have : q ≠ p := fun w => by
        subst w
        rcases z with z | ⟨o, z⟩ <;> (rw [hp'] at z; cases z)
      rcases z with z | ⟨o, z⟩
      · exact .inl (by rw [upd_ne this]; exact z)
      · exact .inr ⟨o, by rw [upd_ne this]; exact z⟩
    have lz : (qs.zip ws).length ≤ 15 := by
      rw [List.length_zip]
      omega
    refine ⟨hp', qs.zip ws, rfl, lz, ?_⟩
    have em : mergeK [] (qs.zip ws) = qs.zip ws := by
      rw [merge_nd _ [] ?_, List.nil_append]
      rw [List.nil_append, List.map_fst_zip (by omega)]
      exact nd
    rw [em]
    have T4 := T2.trans T3
    have r4 := r3.hid (u := .dK (qs.zip ws)) hb hn ht
    have sm : ∀ n p', G'.α n = some p' → (G'.show p).α n = some p' := fun _ _ e => e
    have bb : ∀ p', (G'.show p).B p' → G'.B p' := fun _ b => b.1
    refine o (.ref p) (G'.show p) (upd H' p (.dK (qs.zip ws))) ⟨T4.ids, T4.new, fun q u e na => ?_, fun q xs e => ht q xs (T4.tup q xs e), fun q e b => T4.ban q e b.1, fun q b => ⟨T4.bans q b, fun w => r.bt q b (by rw [w]; exact hp)⟩, fun q e => ?_, fun q o' u' e => by rw [upd_ne (ne_of_none e hp)]; exact T4.frz q o' u' e⟩ ?_ (vr_vd.mpr ⟨p, qs, ws, rfl, ⟨upd_same, fun b => b.2 rfl⟩, hlen.symm, vrl_keys qs, VRL.al sm bb _ (VRL.hid hb ht ds hw)⟩)
    · have : q ≠ p := fun w => by rw [w, hp] at e; cases e
      rw [upd_ne this]
      exact T4.keep q u e na
    · have : q ≠ p := fun w => e (by rw [w]; exact hp)
      rw [upd_ne this]
      exact T4.there q e
    · exact ⟨fun n o e => by
        obtain ⟨q, e1, u, hu, ho⟩ := r4.obj n o e
        exact ⟨q, e1, u, hu, ho.imp fun l xs z => VRL.al sm bb l z⟩, r4.dom, r4.inj, fun n q e => ⟨r4.aB n q e, fun w => hn n (by rw [← w]; exact e)⟩, fun q b => r4.bt q b.1, fun a q => let ⟨c, d, h1, h2⟩ := r4.hot a q; ⟨c, d, h1, fun z => h2 z.1⟩⟩
end
end Gx

/-! G79: dicts as objects: made, walked under a lock. -/
namespace Gx
open PySem L2
section
variable {X : Cx} {F : Fr} {W : WX} {G G' G1 G2 : Gh} {H H' H1 H2 : Hp} {σ : L2.St} {s : SD} {h h1 h2 h' : Hs}
/-! ### a hidden thing becomes an object -/
theorem reveal {p : Addr} {u : HO} {o : HO'} (r2 : HR F G2 H2 h2) (bD : G2.B p) (nD : ∀ m, G2.α m ≠ some p) (hDl : H2 p = some u) (ho : ON F G2 H2 u o) :
    HR F ⟨fun n => if n = h2.length then some p else G2.α n, G2.B⟩ H2 (h2 ++ [o]) := by
  have ids : ∀ n q, G2.α n = some q → (if n = h2.length then some p else G2.α n) = some q := fun n q e => by
    have := r2.dom n q e
    rw [if_neg (by omega)]; exact e
  have vr : ∀ l xs, VRL F G2 H2 l xs → VRL F ⟨fun n => if n = h2.length then some p else G2.α n, G2.B⟩ H2 l xs := fun l xs hl => VRL.al (G' := ⟨fun n => if n = h2.length then some p else G2.α n, G2.B⟩) ids (fun p b => b) l hl
  refine ⟨fun n o e => ?_, fun n q e => ?_, fun a b q e1 e2 => ?_, fun n q e => ?_, r2.bt, r2.hot⟩
  · rcases Nat.lt_trichotomy n h2.length with hn | hn | hn
    · rw [List.getElem?_append_left hn] at e
      obtain ⟨q, e1, u, hu, ho⟩ := r2.obj n o e
      exact ⟨q, ids n q e1, u, hu, ho.imp fun l xs z => vr l xs z⟩
    · subst hn
      rw [List.getElem?_append_right (Nat.le_refl _), Nat.sub_self] at e
      injection e with e
      subst e
      exact ⟨p, by show (if h2.length = h2.length then some p else _) = some p; rw [if_pos rfl], _, hDl, ho.imp fun l xs z => vr l xs z⟩
    · rw [List.getElem?_eq_none (by simp; omega)] at e; cases e
  · have e : (if n = h2.length then some p else G2.α n) = some q := e
    split at e
    · simp; omega
    · have := r2.dom n q e; simp; omega
  · have e1 : (if a = h2.length then some p else G2.α a) = some q := e1
    have e2 : (if b = h2.length then some p else G2.α b) = some q := e2
    split at e1 <;> split at e2
    · omega
    · injection e1 with e1; subst e1; exact (nD b e2).elim
    · injection e2 with e2; subst e2; exact (nD a e1).elim
    · exact r2.inj a b q e1 e2
  · have e : (if n = h2.length then some p else G2.α n) = some q := e
    split at e
    · injection e with e; subst e; exact bD
    · exact r2.aB n q e
/-! ### {}, {k: v} -/
def dnwO (m : Bool) (h : Hs) : R D := match m with
  | true => .ok (.ref h.length) (h ++ [.dic [] []])
  | false => .ok (.vd [] []) h
theorem se_dnw (m : Bool) {pos : Pos} : SE X F W (.Dict [] [] pos) (fun _ h => dnwO m h) := by
  refine PE.imp pe_dnewK fun σ H Q ⟨G, h, s, t, o⟩ => fun p hp => ?_
  cases m with
  | true => exact KO.newO (o := .dic [] []) o t.hr hp ⟨[], [], rfl, rfl, vrl_nil.mpr rfl, vrl_nil.mpr rfl⟩
  | false => exact o (.ref p) G (upd H p (.dK [])) (Step.same (same_upd hp)) (t.hr.same (same_upd hp)) (vr_vd.mpr ⟨p, [], [], rfl, ⟨upd_same, fun b => t.hr.bt p b hp⟩, rfl, vrl_nil.mpr rfl, vrl_nil.mpr rfl⟩)
/-- {k: v}, as an object -/
def d1O (a b : D) (h : Hs) : R D := match kyD a with
  | some q => .ok (.ref h.length) (h ++ [.dic [kD q] [b]])
  | none => .stk
theorem se_d1 {k v : Expr} {fk fv : SD → Hs → R D} {pos : Pos} (hk : SE X F W k fk) (hv : SE X F W v fv) : SE X F W (.Dict [some k] [v] pos) (fun s h => (fk s h).bind fun a h1 => (fv s h1).bind fun b h2 => d1O a b h2) := by
  refine PE.imp (pe_disp (pps_cons hk hv pps_nil) rfl rfl (fun z => by cases z) (by simp)) fun σ H Q ⟨G, h, s, t, o⟩ => fun p hp => ?_
  have r := t.hr
  have np : ∀ m, G.α m ≠ some p := fun m e => r.bt p (r.aB m p e) hp
  have T2 : Step G H (G.hide p) (upd H p (.dK [])) := by
    have S : Step G H G (upd H p (.dK [])) := Step.same (same_upd hp)
    exact ⟨S.ids, S.new, S.keep, S.tup, fun q hq b => b.elim id fun z => (hq (z ▸ hp)).elim, fun q b => .inl b, S.there, S.frz⟩
  have r2 : HR F (G.hide p) (upd H p (.dK [])) h := by
    have S := r.same (same_upd hp (o := .dK []))
    refine ⟨fun n o e => ?_, S.dom, S.inj, fun n p e => .inl (S.aB n p e), fun q b => ?_, fun a q => let ⟨c, d, h1, h2⟩ := S.hot a q; ⟨c, d, h1, fun z => z.elim h2 fun w => by rw [w, upd_same] at h1; cases h1⟩⟩
    · obtain ⟨q, e1, u, hu, ho⟩ := r.obj n o e
      exact ⟨q, e1, u, same_upd hp _ _ hu, ho.step T2 r.aB⟩
    · rcases b with b | rfl
      · exact S.bt q b
      · rw [upd_same]; exact fun z => nomatch z
  have t2 : St F (G.hide p) h s σ (upd H p (.dK [])) := t.step T2 r2
  dsimp only at o
  show tPairs [(_, _)] σ (upd H p (.dK [])) _
  refine ⟨G.hide p, h, s, t2, ?_⟩
  cases ea : fk s h with
  | stk => rw [ea] at o; exact o.elim
  | rs c q h3 => rw [ea] at o; exact fun G' H' dct T3 r3 pp => o G' H' dct (T2.trans T3) r3 pp
  | ok a h3 =>
  rw [ea] at o
  intro x G3 H3 T3 r3 vx
  refine ⟨G3, h3, s, t2.step T3 r3, ?_⟩
  dsimp only [R.bind] at o
  cases eb : fv s h3 with
  | stk => rw [eb] at o; exact o.elim
  | rs c q h4 => rw [eb] at o; exact fun G' H' dct T4 r4 pp => o G' H' dct (T2.trans (T3.trans T4)) r4 pp
  | ok b h4 =>
  rw [eb] at o
  intro y G4 H4 T4 r4' vy
  have T34 := T3.trans T4
  have hp' : H4 p = some (.dK []) := T34.keep p _ upd_same np
  have hb : G4.B p := T34.bans p (.inr rfl)
  have hn : ∀ m, G4.α m ≠ some p := fun m e => by
    rcases T34.new m p e with z | z
    · exact np m z
    · rw [upd_same] at z; cases z
  dsimp only at o
  unfold d1O at o
  cases hq : kyD a with
  | none => rw [hq] at o; exact o.elim
  | some q =>
    rw [hq] at o
    have vx := VR.step T4 r3.aB a vx
    obtain rfl := ky_of vx hq
    have ht : ∀ q' xs, Rd H4 q' (.tup xs) → Rd (upd H4 p (.dK [(q, y)])) q' (.tup xs) := fun q' xs z => by
      have : q' ≠ p := fun w => by
        subst w
        rcases z with z | ⟨o, z⟩ <;> (rw [hp'] at z; cases z)
      rcases z with z | ⟨o, z⟩
      · exact .inl (by rw [upd_ne this]; exact z)
      · exact .inr ⟨o, by rw [upd_ne this]; exact z⟩
    refine ⟨hp', [(q, y)], rfl, by simp, ?_⟩
    have r4 := r4'.hid (u := .dK [(q, y)]) hb hn ht
    have vkd : VR F G4 (upd H4 p (.dK [(q, y)])) (kD q) (kV q) := by
      cases q with
      | inl i => exact vr_int.mpr rfl
      | inr x => exact vr_str.mpr rfl
    have rv := reveal r4 hb hn upd_same (o := .dic [kD q] [b]) ⟨[q], [y], rfl, rfl, vrl_one.mpr vkd, vrl_one.mpr (VR.hid hb ht b vy)⟩
    have T0 := T2.trans T34
    have ids : ∀ n q', G4.α n = some q' → (if n = h4.length then some p else G4.α n) = some q' := fun n q' e => by
      have := r4'.dom n q' e
      rw [if_neg (by omega)]; exact e
    have mk : mergeK [] [(q, y)] = [(q, y)] := rfl
    rw [mk]
    refine o (.ref p) ⟨fun n => if n = h4.length then some p else G4.α n, G4.B⟩ (upd H4 p (.dK [(q, y)])) ⟨fun n q' e => ids n q' (T0.ids n q' e), fun n q' e => ?_, fun q' u e na => ?_, fun q' xs e => ht q' xs (T0.tup q' xs e), T0.ban, T0.bans, fun q' e => ?_, fun q' o u e => by rw [upd_ne (ne_of_none e hp)]; exact T0.frz q' o u e⟩ rv (vr_ref.mpr ⟨p, rfl, by show (if h4.length = h4.length then some p else _) = some p; rw [if_pos rfl]⟩)
    · have e : (if n = h4.length then some p else G4.α n) = some q' := e
      split at e
      · injection e with e; subst e; exact .inr hp
      · exact T0.new n q' e
    · rw [upd_ne (ne_of_none e hp)]; exact T0.keep q' u e na
    · by_cases w : q' = p
      · subst w; rw [upd_same]; exact fun z => nomatch z
      · rw [upd_ne w]; exact T0.there q' e
/-! ### dicts walked -/
def dlpI (kd : Nat) (k l : List D) : List D := match kd with
  | 0 => k
  | _ => (k.zip l).map fun p => .tup [p.1, p.2]
/-- of a locked dict -/
def lckO (kd : Nat) (d : D) (h : Hs) : R Src := match d with
  | .ref n => match h[n]? with
    | some (.fdc k l) => .ok (src0 (dlpI kd k l)) h
    | _ => .stk
  | _ => .stk
theorem si_keys {tg e : Expr} {f : SD → Hs → R D} (he : SE X F W e f) : SI X F W tg e (fun s h => (f s h).bind (lckO 0)) :=
  ⟨fun pins s' σ H R0 I ⟨G, h, s, t, o⟩ => (pi_keys he).run pins s' σ H R0 I (partI t o fun d v h2 G2 H2 T2 t2 x o => by
    unfold lckO at o
    split at o
    · rename_i n
      split at o
      · rename_i k l q
        obtain ⟨p, rfl, hp⟩ := vr_ref.mp x
        obtain ⟨p', hp', u, hu, od, qs, vs, rfl, hl, h1, h2⟩ := t2.hr.obj n _ q
        rw [hp] at hp'
        injection hp' with hp'
        subst hp'
        have lk := h1.length
        rw [List.length_map] at lk
        refine ⟨p, od, rfl, .inl ⟨qs.zip vs, hu, o _ G2 H2 (Step.refl _ _) t2.hr ?_⟩⟩
        refine ⟨fun G3 H3 h3 T3 r3 _ i hi => ⟨T3.frz _ _ _ hu, ?_⟩, fun G3 H3 h3 T3 r3 _ i d e => ?_⟩
        · have hi : k.length ≤ i := hi
          rw [List.length_zip]
          omega
        · have e : k[i]? = some d := e
          obtain ⟨v, e1, e2⟩ := VRL.get (VRL.step T3 t2.hr.aB k h1) e
          rw [List.getElem?_map] at e1
          cases eq : qs[i]? with
          | none => rw [eq] at e1; cases e1
          | some qy =>
            rw [eq] at e1
            injection e1 with e1
            have hi := (List.getElem?_eq_some_iff.mp eq).1
            refine ⟨⟨T3.frz _ _ _ hu, by rw [List.length_zip]; omega⟩, fun x H4 hy => ?_⟩
            obtain ⟨rfl, ky, w, e3, rfl⟩ := hy
            obtain ⟨e4, _⟩ := List.getElem?_zip_eq_some.mp e3
            rw [eq] at e4
            injection e4 with e4
            subst e4
            exact ⟨Same.refl _, by rw [e1]; exact e2⟩
      · exact o.elim
    · exact o.elim)⟩
theorem si_items {e : Expr} {elts : List Expr} {kk : Nat} {tpos apos cpos : Pos} {f : SD → Hs → R D} (he : SE X F W e f) (hbase : attributeBase e "items" X.env (eval e X.env) = eval e X.env) (hline : (apos.endLine == cpos.line) = true) :
    SI X F W (.Tuple elts kk tpos) (.Call (.Attribute e "items" apos) [] [] cpos) (fun s h => (f s h).bind (lckO 1)) :=
  ⟨fun pins s' σ H R0 I ⟨G, h, s, t, o⟩ => (pi_items he hbase hline).run pins s' σ H R0 I (partI t o fun d v h2 G2 H2 T2 t2 x o => by
    unfold lckO at o
    split at o
    · rename_i n
      split at o
      · rename_i k l q
        obtain ⟨p, rfl, hp⟩ := vr_ref.mp x
        obtain ⟨p', hp', u, hu, od, qs, vs, rfl, hl, h1, h2⟩ := t2.hr.obj n _ q
        rw [hp] at hp'
        injection hp' with hp'
        subst hp'
        have lk := h1.length
        have ll := h2.length
        rw [List.length_map] at lk
        refine ⟨p, od, qs.zip vs, rfl, hu, o _ G2 H2 (Step.refl _ _) t2.hr ?_⟩
        refine ⟨fun G3 H3 h3 T3 r3 _ i hi => ⟨T3.frz _ _ _ hu, ?_⟩, fun G3 H3 h3 T3 r3 _ i d e => ?_⟩
        · have hi : ((k.zip l).map fun p => D.tup [p.1, p.2]).length ≤ i := hi
          rw [List.length_map, List.length_zip] at hi
          rw [List.length_zip]
          omega
        · have e : ((k.zip l).map fun p => D.tup [p.1, p.2])[i]? = some d := e
          obtain ⟨a, b, e1, e2, e3⟩ := zip_get (VRL.step T3 t2.hr.aB k h1) (VRL.step T3 t2.hr.aB l h2) e r3
          rw [List.getElem?_map] at e1
          cases eq : qs[i]? with
          | none => rw [eq] at e1; cases e1
          | some qy =>
            rw [eq] at e1
            injection e1 with e1
            have hi := (List.getElem?_eq_some_iff.mp eq).1
            refine ⟨⟨T3.frz _ _ _ hu, by rw [List.length_zip]; omega⟩, fun x H4 hy => ?_⟩
            obtain ⟨T, ky, w, e5, rfl, hT, rfl⟩ := hy
            obtain ⟨e6, e7⟩ := List.getElem?_zip_eq_some.mp e5
            rw [eq] at e6
            injection e6 with e6
            rw [e2] at e7
            injection e7 with e7
            subst e6 e7
            refine ⟨same_upd hT, ?_⟩
            have := e3 T hT
            rw [← e1] at this
            exact this
      · exact o.elim
    · exact o.elim)⟩
/-- the lock taken off -/
theorem HR.unlock {n : Nat} {p : Addr} {u : HO} {o' : HO'} (r : HR F G H h) (hp : G.α n = some p) (ht : ∀ q xs, Rd H q (.tup xs) → Rd (upd H p u) q (.tup xs)) (ho : ON F G H u o') : HR F G (upd H p u) (h.set n o') := by
  have hn := r.dom n p hp
  have hb := r.aB n p hp
  refine ⟨fun m o e => ?_, fun m q e => by rw [List.length_set]; exact r.dom m q e, r.inj, r.aB, fun q z => ?_, fun a q => let ⟨c, d, h1, h2⟩ := r.hot a q; ⟨c, d, by rw [upd_ne (show a ≠ p from fun z => h2 (by rw [z]; exact hb))]; exact h1, h2⟩⟩
  · by_cases z : n = m
    · subst z
      rw [List.getElem?_set_self hn] at e
      injection e with e
      subst e
      exact ⟨p, hp, u, upd_same, ho.imp fun l xs z => VRL.hid hb ht l z⟩
    · rw [List.getElem?_set_ne z] at e
      obtain ⟨q, e1, w, hw, h1⟩ := r.obj m o e
      refine ⟨q, e1, w, ?_, h1.imp fun l xs z => VRL.hid hb ht l z⟩
      rw [upd_ne]
      · exact hw
      · intro w'
        subst w'
        exact z (r.inj n m q hp e1)
  · by_cases w : q = p
    · subst w; rw [upd_same]; exact fun z => nomatch z
    · rw [upd_ne w]; exact r.bt q z
def unlH (n : Nat) (h : Hs) : Option Hs := match h[n]? with
  | some (.fdc k l) => some (h.set n (.dic k l))
  | _ => none
def unlO (n : Nat) : O → O
  | .nx s h => match unlH n h with
    | some h' => .nx s h'
    | none => .stk
  | .bk s h => match unlH n h with
    | some h' => .bk s h'
    | none => .stk
  | .ct s h => match unlH n h with
    | some h' => .ct s h'
    | none => .stk
  | .rt d h => match unlH n h with
    | some h' => .rt d h'
    | none => .stk
  | .rs _ _ _ _ => .stk
  | .stk => .stk
/-- a loop over a dict, which is locked meanwhile -/
noncomputable def dlpO (kd i : Nat) (f : D → SD → Hs → O) (s : SD) (h : Hs) : O := match s[i]? with
  | some (some (.ref n)) => match h[n]? with
    | some (.dic k l) => unlO n (forC (fun _ => True) f (dlpI kd k l) s (h.set n (.fdc k l)))
    | _ => .stk
  | _ => .stk
theorem unl_core {n : Nat} {p : Addr} {od : Obj} {kvs : List (Key × V)} (hp : G.α n = some p) (hu : H p = some (.dK kvs)) (T : Step G (upd H p (.frz od (.dK kvs))) G' H') (r : HR F G' H' h') (e : unlH n h' = some h2) :
    H' p = some (.frz od (.dK kvs)) ∧ Step G H G' (upd H' p (.dK kvs)) ∧ HR F G' (upd H' p (.dK kvs)) h2 ∧ (∀ d v, VR F G' H' d v → VR F G' (upd H' p (.dK kvs)) d v) := by
  have q : H' p = some (.frz od (.dK kvs)) := T.frz p od _ upd_same
  have hp' := T.ids n p hp
  have hb := r.aB n p hp'
  have ht : ∀ q xs, Rd H' q (.tup xs) → Rd (upd H' p (.dK kvs)) q (.tup xs) := fun z xs w => by
    have : z ≠ p := fun y => by
      subst y
      rcases w with w | ⟨o, w⟩ <;> (rw [q] at w; cases w)
    rcases w with w | ⟨o, w⟩
    · exact .inl (by rw [upd_ne this]; exact w)
    · exact .inr ⟨o, by rw [upd_ne this]; exact w⟩
  have up : ∀ z, z ≠ p → upd H p (.frz od (.dK kvs)) z = H z := fun z w => upd_ne w
  refine ⟨q, ⟨T.ids, fun m z e => ?_, fun z o e na => ?_, fun z xs w => ?_, fun z e b => T.ban z ?_ b, T.bans, fun z e => ?_, fun z o u e => ?_⟩, ?_, fun d v w => VR.hid hb ht d w⟩
  · rcases T.new m z e with w | w
    · exact .inl w
    · by_cases y : z = p
      · rw [y, upd_same] at w; cases w
      · rw [up z y] at w; exact .inr w
  · have y : z ≠ p := fun y => na n (by rw [y]; exact hp)
    rw [upd_ne y]
    exact T.keep z o (by rw [up z y]; exact e) na
  · have y : z ≠ p := fun y => by
      subst y
      rcases w with w | ⟨o, w⟩ <;> (rw [hu] at w; cases w)
    refine ht z xs (T.tup z xs ?_)
    rcases w with w | ⟨o, w⟩
    · exact .inl (by rw [up z y]; exact w)
    · exact .inr ⟨o, by rw [up z y]; exact w⟩
  · by_cases y : z = p
    · rw [y, upd_same]; exact fun w => nomatch w
    · rw [up z y]; exact e
  · by_cases y : z = p
    · rw [y, upd_same]; exact fun w => nomatch w
    · rw [upd_ne y]; exact T.there z (by rw [up z y]; exact e)
  · have y : z ≠ p := fun y => by rw [y, hu] at e; cases e
    rw [upd_ne y]
    exact T.frz z o u (by rw [up z y]; exact e)
  · unfold unlH at e
    split at e
    · rename_i k l qh
      injection e with e
      subst e
      obtain ⟨p2, hp2, u, hu2, od2, qs, vs, rfl, hl, h1, h2⟩ := r.obj n _ qh
      rw [hp'] at hp2
      injection hp2 with hp2
      subst hp2
      rw [q] at hu2
      injection hu2 with hu2
      injection hu2 with _ hu2
      injection hu2 with hu2
      exact r.unlock hp' ht ⟨qs, vs, by rw [hu2], hl, h1, h2⟩
    · cases e
theorem ss_dlp {kd i : Nat} {st : Stmt} {ft : D → SD → Option SD} {fb : SD → Hs → O} (hh : SS X F W st (fun s h => ((getS s i h).bind (lckO kd)).thenO s fun z h => forC z.c (turnO ft fb) z.ds s h)) : SS X F W st (dlpO kd i (turnO ft fb)) :=
  PS.imp (ps_lock hh) fun Dn σ H ⟨G, h, s, t, o⟩ => by
    unfold dlpO at o
    split at o
    case h_2 => exact o.elim
    rename_i n hs
    split at o
    case h_2 => exact o.elim
    rename_i k l qh
    obtain ⟨p, hp, u, hu, qs, vs, rfl, hl, h1, h2⟩ := t.hr.obj n _ qh
    have nf : ∀ o u, H p ≠ some (.frz o u) := fun o u z => by rw [hu] at z; cases z
    refine ⟨p, _, hu, trivial, fun od => ?_⟩
    have ho : ON F G H (.frz od (.dK (qs.zip vs))) (.fdc k l) := ⟨od, qs, vs, rfl, hl, h1, h2⟩
    have T1 : Step G H G (upd H p (.frz od (.dK (qs.zip vs)))) := Step.write t.hr hp nf
    have t1 : St F G (h.set n (.fdc k l)) s σ (upd H p (.frz od (.dK (qs.zip vs)))) := t.step T1 (t.hr.write hp nf ho)
    refine ⟨G, h.set n (.fdc k l), s, t1, ?_⟩
    have hn := t.hr.dom n p hp
    have e1 : getS s i (h.set n (.fdc k l)) = .ok (.ref n) (h.set n (.fdc k l)) := by unfold getS; rw [hs]
    have e2 : (h.set n (HO'.fdc k l))[n]? = some (.fdc k l) := List.getElem?_set_self hn
    have e3 : ((getS s i (h.set n (.fdc k l))).bind (lckO kd)).thenO s (fun z h => forC z.c (turnO ft fb) z.ds s h) = forC (fun _ => True) (turnO ft fb) (dlpI kd k l) s (h.set n (.fdc k l)) := by
      rw [e1]
      show (lckO kd (.ref n) (h.set n (.fdc k l))).thenO s _ = _
      unfold lckO
      dsimp only
      rw [e2]
      rfl
    dsimp only
    rw [e3]
    generalize forC (fun _ => True) (turnO ft fb) (dlpI kd k l) s (h.set n (.fdc k l)) = oo at o
    cases oo with
    | stk => exact o.elim
    | rs c q s' h' => exact o.elim
    | nx s' h' =>
      unfold unlO at o
      dsimp only at o
      cases eu : unlH n h' with
      | none => rw [eu] at o; exact o.elim
      | some h2' =>
        rw [eu] at o
        intro G' σ' H' T t'
        obtain ⟨a1, a2, a3, a4⟩ := unl_core hp hu T t'.hr eu
        exact ⟨a1, o G' σ' _ a2 ⟨fun j d e => let ⟨v, b1, b2⟩ := t'.slot j d e; ⟨v, b1, a4 d v b2⟩, a3, t'.len⟩⟩
    | bk s' h' =>
      unfold unlO at o
      dsimp only at o
      cases eu : unlH n h' with
      | none => rw [eu] at o; exact o.elim
      | some h2' =>
        rw [eu] at o
        intro G' σ' H' T t'
        obtain ⟨a1, a2, a3, a4⟩ := unl_core hp hu T t'.hr eu
        exact ⟨a1, o G' σ' _ a2 ⟨fun j d e => let ⟨v, b1, b2⟩ := t'.slot j d e; ⟨v, b1, a4 d v b2⟩, a3, t'.len⟩⟩
    | ct s' h' =>
      unfold unlO at o
      dsimp only at o
      cases eu : unlH n h' with
      | none => rw [eu] at o; exact o.elim
      | some h2' =>
        rw [eu] at o
        intro G' σ' H' T t'
        obtain ⟨a1, a2, a3, a4⟩ := unl_core hp hu T t'.hr eu
        exact ⟨a1, o G' σ' _ a2 ⟨fun j d e => let ⟨v, b1, b2⟩ := t'.slot j d e; ⟨v, b1, a4 d v b2⟩, a3, t'.len⟩⟩
    | rt d h' =>
      unfold unlO at o
      dsimp only at o
      cases eu : unlH n h' with
      | none => rw [eu] at o; exact o.elim
      | some h2' =>
        rw [eu] at o
        intro v G' H' T r' vd
        obtain ⟨a1, a2, a3, a4⟩ := unl_core hp hu T r' eu
        exact ⟨a1, o v G' _ a2 a3 (a4 d v vd)⟩
end
end Gx

/-! G8: what a def promises; expressions and statements as a small tongue of their own. -/
namespace Gx
open PySem L2
/-- called with values that stand for ds it does what m says -/
def spOf (F : Fr) (n : Nat) (m : List D → Hs → R D) : Sp := fun vs H Q E => ∃ (G : Gh) (h : Hs) (ds : List D), ds.length = n ∧ HR F G H h ∧ VRL F G H ds vs ∧
  match m ds h with
  | .ok d h' => ∀ v G' H', Step G H G' H' → HR F G' H' h' → VR F G' H' d v → Q v H'
  | .rs c p h' => ∀ G' H' dct, Step G H G' H' → HR F G' H' h' → Pay G' H' dct p → E (F.cls c) dct H'
  | .stk => False
inductive Op where
  | add | sub | mul | fdiv | mod | pow | xor | eq | ne | lt | le | gt | ge | isIn | notIn | is | isNot
  deriving DecidableEq
def Op.g : Op → Hs → D → D → Option D
  | .add => gAdd | .sub => gSub | .mul => gMul | .fdiv => gFdiv | .mod => gMod | .pow => gPow | .xor => gXor | .eq => gEq | .ne => gNe | .lt => gLt | .le => gLe | .gt => gGt | .ge => gGe
  | .isIn => gIn | .notIn => gNotIn | .is => gIs | .isNot => gIsNot
/-- of ints alone, for chains -/
def Op.p : Op → Option (Int → Int → Bool)
  | .le => some fun i j => decide (i ≤ j)
  | .gt => some fun i j => decide (j < i)
  | .ge => some fun i j => decide (j ≤ i)
  | .lt => some fun i j => decide (i < j)
  | _ => none
inductive Bi where
  | len | sum | all | any | tuple | list (m : Bool) | abs | max | min | sorted (m : Bool)
  deriving DecidableEq
noncomputable def Bi.g : Bi → List D → Hs → R D
  | .len => DL gLen | .sum => DL gSum | .all => DL gAll | .any => DL gAny | .tuple => DL gTupleF | .list m => gListF m | .abs => DL gAbs | .max => DL gMax | .min => DL gMin | .sorted m => gSort m
def biOf (m : Bool) (x : Str) : Option (Str × Bi) :=
  if x = "len" then some ("len", .len) else if x = "sum" then some ("sum", .sum) else if x = "all" then some ("all", .all) else if x = "any" then some ("any", .any) else if x = "tuple" then some ("tuple", .tuple)
  else if x = "list" then some ("list", .list m) else if x = "abs" then some ("abs", .abs) else if x = "max" then some ("max", .max) else if x = "min" then some ("min", .min) else if x = "sorted" then some ("sorted", .sorted m) else none
inductive Me where
  | append | extend | popAt | pop | insert | count | index | get | clr
  deriving DecidableEq
def Me.c : Me → Hs → D → Bool
  | .get => isDic
  | .clr => isDic
  | _ => isLst
def Me.g : Me → D → List D → Hs → R D
  | .append => lstM txAppend | .extend => lstM txExtend | .popAt => lstM txPopAt | .pop => lstM txPop | .insert => lstM txInsert | .count => valM txCount | .index => valM txIndex | .get => getM | .clr => clrM
def meOf (x : Str) (n : Nat) : Option Me := if x = "append" then some .append else if x = "extend" then some .extend else if x = "pop" then (if n = 0 then some .pop else some .popAt) else if x = "insert" then some .insert else if x = "count" then some .count else if x = "index" then some .index else if x = "get" then some .get else if x = "clear" then some .clr else none
inductive E where
  | var (i : Nat) | int (i : Int) | bl (b : Bool) | str (x : Str) | non | cst (d : D)
  | op (o : Op) (a b : E) | neg (a : E) | not (a : E) | and (a b : E) | or (a b : E) | ite (c a b : E) | ch (o o' : Op) (a b c : E)
  | tup (es : List E) | lst (m : Bool) (es : List E)
  | ix (a b : E) | sl (m : Bool) (a : E) (lo hi : List E) | rev (m : Bool) (a : E)
  | bi (b : Bi) (es : List E) | isi (T : String) (e : E) | lrng (m : Bool) (k : Nat) (es : List E)
  | call (j : Nat) (es : List E) | mth (me : Me) (o : E) (es : List E)
  | xf (x : Xf) (es : List E) | dsp (qs : List Key) (es : List E) | dnw (m : Bool) | d1 (a b : E)
  | own (cat : Bool) (a b : E) | isE (cs : List Str) (y : Str) (e : E) | had (cs : List Str) (e : E)
  | lc (m : Bool) (k : Nat) (src : List E) (tp : Bool) (is : List Nat) (tst : List E) (elt : E) (vs : List Nat)
def tgF (tp : Bool) (is : List Nat) : D → SD → Option SD := match tp with
  | true => setT is
  | false => match is with
    | [i] => setN i
    | _ => fun _ _ => none
def itG : Nat → List D → Hs → R Src
  | 0, [d], h => srcOf d h
  | 1, ds, h => rngO1 ds h
  | 2, ds, h => rngO2 ds h
  | 3, ds, h => zipO ds h
  | 4, ds, h => enumO ds h
  | _, _, _ => .stk
/-- list(range(..)), as a value or as an object -/
def lrG (m : Bool) (k : Nat) (ds : List D) (h : Hs) : R D := match k, ds with
  | 1, [.int b] => if 0 ≤ b ∧ b ≤ 16777216 then newL m (rngD 0 b.toNat) h else .stk
  | 2, [.int a, .int b] => if 0 ≤ a ∧ a ≤ 16777216 ∧ 0 ≤ b ∧ b ≤ 16777216 then newL m (rngD a (b - a).toNat) h else .stk
  | _, _ => .stk
abbrev Mir := Nat → Nat × (List D → Hs → R D)
def callR (Γ : Mir) (j : Nat) (ds : List D) (h : Hs) : R D := if ds.length = (Γ j).1 then (Γ j).2 ds h else .stk
section
variable (Γ : Mir)
mutual
noncomputable def E.ev : E → SD → Hs → R D
  | .var i, s, h => getS s i h
  | .int i, _, h => .ok (.int i) h
  | .bl b, _, h => .ok (.bl b) h
  | .str x, _, h => .ok (.str x) h
  | .non, _, h => .ok .non h
  | .cst d, _, h => .ok d h
  | .op o a b, s, h => bin2 o.g a.ev b.ev s h
  | .neg a, s, h => un1 gNeg a.ev s h
  | .not a, s, h => notR (a.ev s h)
  | .and a b, s, h => andR (a.ev s h) (b.ev s)
  | .or a b, s, h => orR (a.ev s h) (b.ev s)
  | .ite c a b, s, h => iteR (c.ev s h) (a.ev s) (b.ev s)
  | .ch o o' a b c, s, h => match o.p, o'.p with
    | some p, some p' => chR p p' (a.ev s h) (b.ev s) (c.ev s)
    | _, _ => .stk
  | .tup es, s, h => (E.evs es s h).bind (DL gTup)
  | .lst m es, s, h => (E.evs es s h).bind (mkL m)
  | .ix a b, s, h => bin2 gIx a.ev b.ev s h
  | .sl m a lo hi, s, h => slR m (a.ev s h) (E.evO lo s) (E.evO hi s)
  | .rev m a, s, h => (a.ev s h).bind (revG m)
  | .bi b es, s, h => (E.evs es s h).bind b.g
  | .isi T e, s, h => (e.ev s h).bind (isiG T)
  | .own cat a b, s, h => (a.ev s h).bind fun x h1 => (b.ev s h1).bind fun y h2 => ownO cat x y h2
  | .isE cs y e, s, h => (e.ev s h).bind (isEG cs y)
  | .had cs e, s, h => (e.ev s h).bind (hadG cs)
  | .lrng m k es, s, h => (E.evs es s h).bind (lrG m k)
  | .xf x es, s, h => (E.evs es s h).bind x.g
  | .dsp qs es, s, h => (E.evs es s h).bind (dspO qs)
  | .dnw m, _, h => dnwO m h
  | .d1 a b, s, h => (a.ev s h).bind fun x h1 => (b.ev s h1).bind fun y h2 => d1O x y h2
  | .call j es, s, h => (E.evs es s h).bind (callR Γ j)
  | .mth me o es, s, h => mthR me.c me.g o.ev (E.evs es) s h
  | .lc m k src tp is tst elt vs, s, h => ((E.evs src s h).bind (itG k)).bind (lcO m (tgF tp is) (E.evT tst) elt.ev vs s)
noncomputable def E.evs : List E → SD → Hs → R (List D)
  | [], _, h => .ok [] h
  | e :: r, s, h => (e.ev s h).bind fun d h1 => (E.evs r s h1).bind fun ds h2 => .ok (d :: ds) h2
/-- a test that may lack -/
noncomputable def E.evT : List E → SD → Hs → R D
  | [], _, h => .ok (.bl true) h
  | e :: _, s, h => e.ev s h
/-- a slice's end that may lack -/
noncomputable def E.evO : List E → SD → Hs → R (Option Int)
  | [], _, h => .ok none h
  | e :: _, s, h => ixR (e.ev s h)
end
end
/-! ### reading off -/
structure Cfg where
  N : List Str
  sc : Scope
  blt : List Str
  fid : List (Str × Nat)
  cst : List (Str × D)
  md : List (Nat × Nat)
  ct : List (Nat × Nat)
  calm : Bool
  exs : List Str
  ask : List Str
def Cfg.m (c : Cfg) (p : Pos) : Bool := c.md.contains (p.line, p.col)
def ixOf (N : List Str) (x : Str) : Option Nat := N.findIdx? (· == x)
def Cfg.own (c : Cfg) (scope : Scope) : List (Str × Nat) := scope.names.filterMap fun (x, k) => if k == .local || k == .cell then (ixOf c.N x).map fun i => (x, i) else none
def visC (sc : Scope) (x : Str) : Bool := match sc.names.lookup x with
  | some .local => true
  | some .cell => true
  | some .free => true
  | _ => false
def stoC (sc : Scope) (x : Str) : Bool := match sc.names.lookup x with
  | some .local => true
  | some .cell => true
  | _ => false
def glC (sc : Scope) (x : Str) : Bool := match sc.names.lookup x with
  | some .globalImplicit => true
  | _ => false
def plainName (x : Str) : Bool := !(x == ("__debug__" : Str)) && !(x == ("__classdict__" : Str)) && !(x == ("__name__" : Str))
def mapO {α β : Type} (f : α → Option β) : List α → Option (List β)
  | [] => some []
  | a :: r => (f a).bind fun b => (mapO f r).map (b :: ·)
def binOp : Operator → Option Op
  | .Add => some .add | .Sub => some .sub | .Mult => some .mul | .FloorDiv => some .fdiv | .Mod => some .mod | .Pow => some .pow | .BitXor => some .xor
  | _ => none
def cmpOp : CmpOp → Option Op
  | .Eq => some .eq | .NotEq => some .ne | .Lt => some .lt | .LtE => some .le | .Gt => some .gt | .GtE => some .ge | .In => some .isIn | .NotIn => some .notIn | .Is => some .is | .IsNot => some .isNot
def tyName (x : Str) : Option String :=
  if x = "int" then some "int" else if x = "bool" then some "bool" else if x = "tuple" then some "tuple" else if x = "list" then some "list" else if x = "str" then some "str" else if x = "dict" then some "dict" else none
def foldB (g : E → E → E) : List E → Option E
  | [] => none
  | [a] => some a
  | a :: r => (foldB g r).map (g a)
/-- a target's slots; true: a tuple of names -/
def nameIx (c : Cfg) : Expr → Option Nat
  | .Name x _ => if stoC c.sc x = true then ixOf c.N x else none
  | _ => none
def compG (c : Cfg) : Expr → Option (Bool × List Nat)
  | .Name x p => (nameIx c (.Name x p)).map fun i => (false, [i])
  | .Tuple es _ _ => if c.calm = true then (mapO (nameIx c) es).map fun is => (true, is) else none
  | _ => none
/-- a receiver that is no name of a module, no literal -/
def rcvOk : Expr → Bool
  | .Name _ _ => true
  | .Subscript _ _ _ => true
  | .List _ _ => true
  | _ => false
/-- the shape of what is walked: the kind, the parts -/
def iterK (c : Cfg) (iter : Expr) : Nat × List Expr := match iter with
  | .Call (.Name x _) [a] [] _ => if x = "range" ∧ glC c.sc x = true ∧ x ∈ c.blt then (1, [a]) else if x = "enumerate" ∧ glC c.sc x = true ∧ x ∈ c.blt then (4, [a]) else (0, [iter])
  | .Call (.Name x _) [a, b] [] _ => if x = "range" ∧ glC c.sc x = true ∧ x ∈ c.blt then (2, [a, b]) else if x = "zip" ∧ glC c.sc x = true ∧ x ∈ c.blt then (3, [a, b]) else (0, [iter])
  | _ => (0, [iter])
def compI (f : Expr → Option E) (c : Cfg) (iter : Expr) : Option (Nat × List E) := (mapO f (iterK c iter).2).map fun src => ((iterK c iter).1, src)
/-- list(range(..)): its parts -/
def lrngK (c : Cfg) (f : Str) (es : List Expr) : Option (Nat × List Expr) := match es with
  | [.Call (.Name x _) [a] [] _] => if f = "list" ∧ f ∈ c.blt ∧ x = "range" ∧ glC c.sc x = true ∧ x ∈ c.blt then some (1, [a]) else none
  | [.Call (.Name x _) [a, b] [] _] => if f = "list" ∧ f ∈ c.blt ∧ x = "range" ∧ glC c.sc x = true ∧ x ∈ c.blt then some (2, [a, b]) else none
  | _ => none
/-- other calls of a shape of their own -/
def xK (c : Cfg) (f : Str) (es : List Expr) : Option (Xf × List Expr) := match es with
  | [.Call (.Name x _) [a] [] _] => if f = "len" ∧ f ∈ c.blt ∧ x = "set" ∧ glC c.sc x = true ∧ x ∈ c.blt then some (.lenSet, [a]) else if f = "tuple" ∧ f ∈ c.blt ∧ x = "range" ∧ glC c.sc x = true ∧ x ∈ c.blt then some (.trng 1, [a]) else if f = "sorted" ∧ f ∈ c.blt ∧ x = "set" ∧ glC c.sc x = true ∧ x ∈ c.blt then some (.srtSet, [a]) else none
  | [.Call (.Name x _) [a, b] [] _] => if f = "tuple" ∧ f ∈ c.blt ∧ x = "range" ∧ glC c.sc x = true ∧ x ∈ c.blt then some (.trng 2, [a, b]) else none
  | _ => none
/-- what is walked with a tuple of names alone -/
def tupK (k : Nat) : Bool := k == 3 || k == 4
/-- a display of one entry, to be an object -/
def d1K (c : Cfg) (p : Pos) : List (Option Expr) → List Expr → Option (Expr × Expr)
  | [some k], [v] => if c.m p = true then some (k, v) else none
  | _, _ => none
/-- a walk over a dict -/
def dlK (c : Cfg) (p : Pos) : Expr → Option (Nat × Expr)
  | .Name x px => if c.md.contains (p.line, p.col + 2000) then some (0, .Name x px) else none
  | .Call (.Attribute (.Name x px) a apos) [] [] cpos => if a = "items" ∧ (apos.endLine == cpos.line) = true then some (1, .Name x px) else none
  | _ => none
/-- [::-1] -/
def revE : Expr → Bool
  | .Slice none none (some (.UnaryOp .USub (.Constant (.int i) _ _) _)) _ => i == 1
  | _ => false
def compE : Nat → Cfg → Expr → Option E
  | 0, _, _ => none
  | n + 1, c, e => match e with
    | .Name x _ => if plainName x then (if visC c.sc x then (ixOf c.N x).map E.var else if glC c.sc x then (c.cst.lookup x).map E.cst else none) else none
    | .Constant (.int i) _ _ => some (.int i)
    | .Constant (.bool i) _ _ => some (.bl i)
    | .Constant (.str i) _ _ => some (.str i)
    | .Constant .none _ _ => some .non
    | .BinOp a op b p => (binOp op).bind fun o => (compE n c a).bind fun x => (compE n c b).map fun y => if c.m p = true then (if o = .add then .own true x y else if o = .mul then .own false x y else .op o x y) else .op o x y
    | .UnaryOp .USub a _ => (compE n c a).map E.neg
    | .UnaryOp .Not a _ => (compE n c a).map E.not
    | .BoolOp .And es _ => (mapO (compE n c) es).bind (foldB E.and)
    | .BoolOp .Or es _ => (mapO (compE n c) es).bind (foldB E.or)
    | .IfExp t a b _ => (compE n c t).bind fun x => (compE n c a).bind fun y => (compE n c b).map fun z => .ite x y z
    | .Compare a [op] [b] _ => (cmpOp op).bind fun o => (compE n c a).bind fun x => (compE n c b).map fun y => .op o x y
    | .Compare a [op, op'] [b, d] _ => (cmpOp op).bind fun o => (cmpOp op').bind fun o' => (compE n c a).bind fun x => (compE n c b).bind fun y => (compE n c d).bind fun z => if o.p.isSome && o'.p.isSome then some (.ch o o' x y z) else none
    | .Tuple es _ _ => (mapO (compE n c) es).map E.tup
    | .List es p => (mapO (compE n c) es).map (E.lst (c.m p))
    | .Dict [] [] p => some (.dnw (c.m p))
    | .Dict ks vs p => match d1K c p ks vs with
      | some kv => (compE n c kv.1).bind fun x => (compE n c kv.2).map fun y => .d1 x y
      | none => (mapO keyE ks).bind fun qs => if qs.Nodup ∧ ks ≠ [] ∧ ks.length ≤ 15 ∧ ks.length = vs.length then (mapO (compE n c) vs).map (E.dsp qs) else none
    | .Subscript a (.Slice none none (some (.UnaryOp .USub (.Constant (.int 1) _ _) _)) _) p => (compE n c a).map (E.rev (c.m p))
    | .Subscript a (.Slice lo hi none _) p => (compE n c a).bind fun x => (mapO (compE n c) lo.toList).bind fun l => (mapO (compE n c) hi.toList).map fun h => .sl (c.m p) x l h
    | .Subscript a b _ => (compE n c a).bind fun x => (compE n c b).map fun y => .ix x y
    | .Call (.Attribute o a apos) es [] cpos => if rcvOk o && (apos.endLine == cpos.line) && decide (es.length < 20) then
        (meOf a es.length).bind fun me => (compE n c o).bind fun x => (mapO (compE n c) es).map fun l => .mth me x l
      else none
    | .Call (.Name f _) (e :: es) [] p =>
      if glC c.sc f && plainName f then
        if f = "isinstance" then (match es with
          | [.Name T _] => if decide (f ∈ c.blt) && glC c.sc T && plainName T then (if T ∈ c.ask then (compE n c e).map (E.isE c.exs T) else if T ∈ c.blt then (tyName T).bind fun t => (compE n c e).map (E.isi t) else none) else none
          | _ => none)
        else if c.calm = true then match lrngK c f (e :: es) with
        | some ks => (mapO (compE n c) ks.2).map (E.lrng (c.m p) ks.1)
        | none => match xK c f (e :: es) with
        | some ks => (mapO (compE n c) ks.2).map (E.xf ks.1)
        | none => match biOf (c.m p) f with
          | some b => if decide (f ∈ c.blt) then (mapO (compE n c) (e :: es)).map (E.bi b.2) else none
          | none => (c.fid.lookup f).bind fun j => (mapO (compE n c) (e :: es)).map (E.call j)
        else if f = "any" ∧ f ∈ c.blt then (mapO (compE n c) (e :: es)).map (E.bi .any)
        else none
      else none
    | .Attribute (.Name x p) a _ => if a = "had" then (compE n c (.Name x p)).map (E.had c.exs) else none
    | .ListComp elt [⟨tg, iter, ifs, az⟩] scope p =>
      if az = 0 ∧ blkC c.N c.sc scope (c.own scope) = true ∧ c.calm = true then
        (compI (compE n c) c iter).bind fun ks => (compG { c with sc := scope } tg).bind fun g =>
          if ifs.length < 2 && (!tupK ks.1 || g.1) && g.2.all (fun i => decide (i ∈ (c.own scope).map (·.2))) then
            (mapO (compE n { c with sc := scope }) ifs).bind fun t => (compE n { c with sc := scope } elt).map fun x => E.lc (c.m p) ks.1 ks.2 g.1 g.2 t x ((c.own scope).map (·.2))
          else none
      else none
    | _ => none
inductive S where
  | set (i : Nat) (e : E) | tset (tp : Bool) (is : List Nat) (e : E) | store (o i e : E) | aug (i : Nat) (o : Op) (e : E)
  | ret (e : E) | retN | expr (e : E)
  | iff (c : E) (a b : List S) | loop (ct : Bool) (k : Nat) (src : List E) (tp : Bool) (is : List Nat) (body : List S) | whl (ct : Bool) (c : E) (body : List S)
  | pass | brk | cont | no
  | dlp (ct : Bool) (kd i : Nat) (tp : Bool) (is : List Nat) (body : List S)
  | rs (x : Str) | rsS (e : E) | tr (cs : List Str) (y : Str) (i : Option Nat) (body suite : List S)
def tsetO (tp : Bool) (is : List Nat) (s : SD) (d : D) (h : Hs) : O := match tgF tp is d s with
  | some s' => .nx s' h
  | none => .stk
noncomputable def cutB (ct : Bool) (f : SD → Hs → O) (s : SD) (h : Hs) : O := match ct with
  | true => (f s h).cut h
  | false => f s h
section
variable (Γ : Mir) (n : Nat)
mutual
noncomputable def S.ev : S → SD → Hs → O
  | .set i e, s, h => (e.ev Γ s h).thenO s (setO i s)
  | .tset tp is e, s, h => (e.ev Γ s h).thenO s (tsetO tp is s)
  | .store o i e, s, h => storeO (e.ev Γ) (o.ev Γ) (i.ev Γ) s h
  | .aug i o e, s, h => augO i o.g (e.ev Γ) s h
  | .ret e, s, h => (e.ev Γ s h).thenO s .rt
  | .retN, _, h => .rt .non h
  | .expr e, s, h => (e.ev Γ s h).thenO s fun _ h => .nx s h
  | .iff c a b, s, h => (c.ev Γ s h).thenO s (ifO s (S.evs a) (S.evs b))
  | .loop ct k src tp is body, s, h => ((E.evs Γ src s h).bind (itG k)).thenO s fun z h => forC z.c (turnO (tgF tp is) (cutB ct (S.evs body))) z.ds s h
  | .dlp ct kd i tp is body, s, h => dlpO kd i (turnO (tgF tp is) (cutB ct (S.evs body))) s h
  | .whl ct c body, s, h => whL (c.ev Γ) (cutB ct (S.evs body)) n s h
  | .pass, s, h => .nx s h
  | .brk, s, h => .bk s h
  | .cont, s, h => .ct s h
  | .no, _, _ => .stk
  | .rs x, s, h => .rs x none s h
  | .rsS e, s, h => (e.ev Γ s h).thenO s (rsVO s)
  | .tr cs y i body suite, s, h => trO cs y i (S.evs body) (S.evs suite) s h
noncomputable def S.evs : List S → SD → Hs → O
  | [], s, h => .nx s h
  | a :: r, s, h => (a.ev s h).seq (S.evs r)
end
end
def isComp : Expr → Bool
  | .ListComp _ _ _ _ => true
  | .SetComp _ _ _ _ => true
  | .DictComp _ _ _ _ _ => true
  | _ => false
def isTupE : Expr → Bool
  | .Tuple _ _ _ => true
  | _ => false
def Cfg.cut (c : Cfg) (p : Pos) : Bool := c.ct.contains (p.line, p.col)
def compS (m : Nat) (c : Cfg) : Nat → Stmt → Option S
  | 0, _ => none
  | n + 1, st => match st with
    | .Assign [.Name y py] e _ => if stoC c.sc y then (ixOf c.N y).bind fun i => (compE m c e).map fun x => .set i x else none
    | .Assign [.Tuple es kt pt] e _ => if isTupE e || isComp e then none else (compG c (.Tuple es kt pt)).bind fun g => (compE m c e).map fun x => .tset g.1 g.2 x
    | .Assign [.Subscript o i _] e _ => if isComp e then none else (compE m c o).bind fun x => (compE m c i).bind fun k => (compE m c e).map fun y => .store x k y
    | .AugAssign (.Name y _) op e _ => if plainName y && stoC c.sc y then (ixOf c.N y).bind fun i => (compE m c e).bind fun x => match op with
      | .Add => some (.aug i .add x)
      | .Sub => some (.aug i .sub x)
      | _ => none
      else none
    | .Return none _ => some .retN
    | .Return (some e) _ => (compE m c e).map .ret
    | .If t a b _ => (compE m c t).bind fun x => (mapO (compS m c n) a).bind fun y => (mapO (compS m c n) b).map fun z => .iff x y z
    | .For tg iter body [] p => match dlK c p iter with
      | some kx => (match compE m c kx.2 with
        | some (.var i) => (compG c tg).bind fun g => if ((kx.1 == 0 || g.1) && c.calm) = true then (mapO (compS m c n) body).map fun b => .dlp (c.cut p) kx.1 i g.1 g.2 b else none
        | _ => none)
      | none => (compI (compE m c) c iter).bind fun ks => (compG c tg).bind fun g => if ((!tupK ks.1 || g.1) && c.calm) = true then (mapO (compS m c n) body).map fun b => .loop (c.cut p) ks.1 ks.2 g.1 g.2 b else none
    | .While t body [] p => (compE m c t).bind fun x => (mapO (compS m c n) body).map fun b => .whl (c.cut p) x b
    | .Expr (.Call f es kws cpos) _ => (compE m c (.Call f es kws cpos)).map S.expr
    | .Pass _ => some .pass
    | .Break _ => some .brk
    | .Continue _ => some .cont
    | .Raise (some (.Call (.Name x _) [e] [] _)) none _ => if (c.calm && decide (x ∈ c.exs) && glC c.sc x && plainName x) = true then (if x = "Short" then (compE m c e).map S.rsS else match e with
        | .Constant (.str _) _ _ => some (.rs x)
        | _ => none) else some .no
    | .Raise _ _ _ => some .no
    | .Try body [.ExceptHandler (some (.Name y _)) none (b₀ :: suite) _] [] [] _ => if (decide (y ∈ c.ask) && decide (y ≠ "ValueError") && glC c.sc y && plainName y) = true then
        (mapO (compS m c n) body).bind fun b => (mapO (compS m { c with calm := false } n) (b₀ :: suite)).map fun s => .tr c.exs y none b s
      else none
    | .Try body [.ExceptHandler (some (.Name y _)) (some x) (b₀ :: suite) _] [] [] _ => if (decide (y ∈ c.ask) && decide (y ≠ "ValueError") && glC c.sc y && plainName y && (c.sc.names.lookup x == some .local)) = true then
        (ixOf c.N x).bind fun i => (mapO (compS m c n) body).bind fun b => (mapO (compS m { c with calm := false } n) (b₀ :: suite)).map fun s => .tr c.exs y (some i) b s
      else none
    | _ => none
end Gx

/-! G9: what is read off an expression is right. -/
namespace Gx
open PySem L2
/-! ### what is read off is right -/
structure Good (X : Cx) (F : Fr) (W : WX) (Γ : Mir) (c : Cfg) (k : Nat) : Prop where
  N : X.N = c.N
  nd : c.N.Nodup
  K : X.K = F.K
  calm : c.calm = true → X.calm = true
  vis : ∀ x, visC c.sc x = true → Vis X.env.scope x
  fr : ∀ x, c.sc.names.lookup x = some .cell ∨ c.sc.names.lookup x = some .free → X.env.scope.names.lookup x = some .cell ∨ X.env.scope.names.lookup x = some .free
  sto : ∀ x, stoC c.sc x = true → Loc X.env.scope x ∧ (X.fn x = true ∨ X.env.scope.names.lookup x = some .local)
  gl : ∀ x, glC c.sc x = true → Gl X x
  blt : ∀ x ∈ c.blt, X.mg x = none
  room : c.calm = true → Room k X.A
  u65 : X.A.units + 65 < cLine
  hot : c.calm = false → ∃ a, X.A.handled = some (.ref a) ∧ F.hot = some a
  fns : c.calm = true → ∀ x j, c.fid.lookup x = some j → ∃ f fd ps, X.mg x = some (.ref f) ∧ PySem.W.keepIn X.K (.ref f) = true ∧ Binds X.K fd ps [] ∧ FnOk X.prog X.w X.K X.mg X.base (L2N.CX X.prog X.w) k f fd ps (spOf F (Γ j).1 (Γ j).2)
  tk : Takes X W
  exc : ExcT F X.mg c.exs c.ask
  cst : ∀ x d, c.cst.lookup x = some d → ∃ u v, X.mg x = some u ∧ RelV v u ∧ ∀ G H, VR F G H d v
section
variable {X : Cx} {F : Fr} {W : WX} {Γ : Mir} {c : Cfg} {k : Nat}
theorem lookup_relabel {env : Env} : ∀ {names : List (Str × NameKind)} {x : Str} {kd : NameKind}, names.lookup x = some kd →
    (names.map fun (n, k) => if (k == NameKind.free && env.scope.kind == .function && env.kindOf n == some .cell) = true then (n, NameKind.cell) else (n, k)).lookup x = some kd ∨ (kd = .free ∧ (names.map fun (n, k) => if (k == NameKind.free && env.scope.kind == .function && env.kindOf n == some .cell) = true then (n, NameKind.cell) else (n, k)).lookup x = some .cell)
  | [], _, _, h => by simp at h
  | (n, k') :: r, x, kd, h => by
    have ih := @lookup_relabel env r x kd
    rw [List.map_cons]
    cases hx : x == n with
    | true =>
      simp only [List.lookup_cons, hx] at h
      injection h with h
      subst h
      dsimp only
      split
      · rename_i hc
        have h1 : k' = .free := by
          rw [Bool.and_eq_true, Bool.and_eq_true] at hc
          cases k' <;> first | rfl | exact absurd hc.1.1 (by decide)
        exact .inr ⟨h1, by simp [List.lookup_cons, hx]⟩
      · exact .inl (by simp [List.lookup_cons, hx])
    | false =>
      simp only [List.lookup_cons, hx] at h
      dsimp only
      split
      · simp only [List.lookup_cons, hx]; exact ih h
      · simp only [List.lookup_cons, hx]; exact ih h
theorem Good.blk (g : Good X F W Γ c k) (scope : Scope) (s : Shared) (H : Hp) (C : Addr) (cl : List (Str × Addr)) (fp : List Addr) : Good (X.blk s H scope (compEnvC scope cl C X.env) fp) F W0 Γ { c with sc := scope } k where
  N := g.N
  nd := g.nd
  K := g.K
  calm := g.calm
  vis := fun x h => by
    unfold visC at h
    show Vis (relabel scope X.env) x
    have lk : ∀ kd, scope.names.lookup x = some kd → (relabel scope X.env).names.lookup x = some kd ∨ (kd = .free ∧ (relabel scope X.env).names.lookup x = some .cell) := fun kd e => lookup_relabel e
    split at h
    · rename_i e; exact (lk _ e).elim .inl fun z => nomatch z.1
    · rename_i e; exact (lk _ e).elim (fun z => .inr (.inl z)) fun z => nomatch z.1
    · rename_i e; exact (lk _ e).elim (fun z => .inr (.inr z)) fun z => .inr (.inl z.2)
    · cases h
  fr := fun x h => by
    have lk : ∀ kd, scope.names.lookup x = some kd → (relabel scope X.env).names.lookup x = some kd ∨ (kd = .free ∧ (relabel scope X.env).names.lookup x = some .cell) := fun kd e => lookup_relabel e
    show (relabel scope X.env).names.lookup x = _ ∨ (relabel scope X.env).names.lookup x = _
    rcases h with h | h
    · exact (lk _ h).elim .inl fun z => nomatch z.1
    · exact (lk _ h).elim .inr fun z => .inl z.2
  sto := fun x h => by
    unfold stoC at h
    have lk : ∀ kd, scope.names.lookup x = some kd → (relabel scope X.env).names.lookup x = some kd ∨ (kd = .free ∧ (relabel scope X.env).names.lookup x = some .cell) := fun kd e => lookup_relabel e
    show Loc (relabel scope X.env) x ∧ ((scope.names.lookup x == some NameKind.cell) = true ∨ (relabel scope X.env).names.lookup x = some .local)
    split at h
    · rename_i e
      have e' : (relabel scope X.env).names.lookup x = some .local := (lk _ e).elim id fun z => nomatch z.1
      exact ⟨.inl e', .inr e'⟩
    · rename_i e
      have e' : (relabel scope X.env).names.lookup x = some .cell := (lk _ e).elim id fun z => nomatch z.1
      exact ⟨.inr e', .inl (by rw [e]; rfl)⟩
    · cases h
  gl := fun x h => by
    unfold glC at h
    split at h
    · rename_i e
      show (relabel scope X.env).names.lookup x = some .globalImplicit
      exact (lookup_relabel (env := X.env) e).elim id fun z => nomatch z.1
    · cases h
  blt := g.blt
  room := g.room
  u65 := g.u65
  hot := g.hot
  fns := g.fns
  tk := takes0
  exc := g.exc
  cst := g.cst
theorem ixOf_get {N : List Str} {x : Str} {i : Nat} (h : ixOf N x = some i) : N[i]? = some x := by
  unfold ixOf at h
  rw [List.findIdx?_eq_some_iff_getElem] at h
  obtain ⟨hi, h1, _⟩ := h
  rw [List.getElem?_eq_getElem hi]
  rw [eq_of_beq h1]
theorem plain_of {x : Str} (h : plainName x = true) : (x == ("__debug__" : Str)) = false ∧ (x == ("__classdict__" : Str)) = false ∧ x ≠ "__name__" := by
  unfold plainName at h
  simp only [Bool.and_eq_true, Bool.not_eq_true'] at h
  exact ⟨h.1.1, h.1.2, fun e => by rw [e] at h; simp at h⟩
/-- both an expression and a test -/
structure Snd (Γ : Mir) (k : Nat) (c : Cfg) (e : Expr) (ir : E) : Prop where
  se : ∀ X F W, Good X F W Γ c k → SE X F W e (ir.ev Γ)
  st : ∀ X F W, Good X F W Γ c k → ST X F W e (ir.ev Γ)
theorem snd_plain {e : Expr} {ir : E} (he : ∀ env whole, isTrue e env whole = (do let v ← whole; standAt e.pos; holding [v] (truthy v))) (h : ∀ X F W, Good X F W Γ c k → SE X F W e (ir.ev Γ)) : Snd Γ k c e ir :=
  ⟨h, fun X F W g => st_val (fun wh => he X.env wh) (h X F W g)⟩
def notStar : Expr → Bool
  | .Starred _ _ => false
  | _ => true
theorem star_each {e : Expr} {es : List Expr} {env : Env} (h : notStar e = true) : starEach (e :: es) env = (false, eval e env) :: starEach es env := by
  cases e <;> first | rfl | cases h
theorem plain_args {pos : Pos} {env : Env} : ∀ {es : List Expr}, (∀ e ∈ es, notStar e = true) → (backTo pos (starEach es env)).any (·.1) = false
  | [], _ => rfl
  | e :: es, h => by
    rw [star_each (h e List.mem_cons_self)]
    show (false || (backTo pos (starEach es env)).any (·.1)) = false
    rw [plain_args fun e he => h e (List.mem_cons_of_mem _ he)]
    rfl
theorem compE_star {n : Nat} {e : Expr} {ir : E} (h : compE n c e = some ir) : notStar e = true := by
  cases n with
  | zero => cases h
  | succ n => cases e <;> first | rfl | (simp only [compE] at h; cases h)
theorem hu_room (g : Good X F W Γ c k) : X.A.units + 64 < cLine := by have := g.u65; omega
theorem snd_bin {op : Operator} {o : Op} {a b : Expr} {x y : E} {pos : Pos} (ho : binOp op = some o) (ha : Snd Γ k c a x) (hb : Snd Γ k c b y) : Snd Γ k c (.BinOp a op b pos) (.op o x y) := by
  refine snd_plain (fun _ _ => rfl) fun X F W g => ?_
  have h1 := ha.se X F W g
  have h2 := hb.se X F W g
  cases op <;> (first | (cases ho; done) | skip) <;> (injection ho with ho; subst ho)
  · exact se_bin (fun ta tb p q => pe_op (op_add.or (op_add_str.or (op_catA.or op_catL))) p q) (by rw [g.K]; exact ok_add) h1 h2
  · exact se_bin (fun ta tb p q => pe_op op_sub p q) ok_sub h1 h2
  · exact se_bin (fun ta tb p q => pe_op (op_mulW.or op_repL) p q) ok_mul h1 h2
  · exact se_bin (fun ta tb p q => pe_op op_mod p q) ok_mod h1 h2
  · exact se_bin (fun ta tb p q => pe_op op_pow p q) ok_pow h1 h2
  · exact se_bin (fun ta tb p q => pe_op op_xor p q) ok_xor h1 h2
  · exact se_bin (fun ta tb p q => pe_op op_fdivW p q) ok_fdiv h1 h2
theorem cmp_rule {op : CmpOp} {o : Op} (hK : X.K = F.K) (hu : X.A.units + 65 < cLine) (ho : cmpOp op = some o) : ∃ r, OpR X (compareOp op) r ∧ CallOk F (B2 r) (DL (g2 o.g)) := by
  cases op <;> (injection ho with ho; subst ho)
  · exact ⟨_, (op_eqD (by omega)).or (op_eq_dicP (by omega)), by rw [hK]; exact ok_eq⟩
  · exact ⟨_, (op_neD (by omega)).or (op_ne_dicP (by omega)), by rw [hK]; exact ok_ne⟩
  · exact ⟨_, op_lt.or (op_ltT (by omega)), by rw [hK]; exact ok_lt⟩
  · exact ⟨_, op_le, ok_le⟩
  · exact ⟨_, op_gt, ok_gt⟩
  · exact ⟨_, op_ge, ok_ge⟩
  · exact ⟨_, op_isBl.or op_isN, ok_is⟩
  · exact ⟨_, op_notBl.or op_notN, ok_isNot⟩
  · exact ⟨_, (op_inQ hu).or (op_dIn (by omega)), by rw [hK]; exact ok_in⟩
  · exact ⟨_, (op_notInQ hu).or (op_dNotIn (by omega)), by rw [hK]; exact ok_notIn⟩
theorem notSet_mark {op : CmpOp} {n : Nat} {b : Expr} {y : E} (h : compE n c b = some y) : behindInMarks op b = false := by
  cases n with
  | zero => cases h
  | succ n => cases b <;> first | rfl | (simp only [compE] at h; cases h)
theorem snd_cmp {op : CmpOp} {o : Op} {a b : Expr} {x y : E} {pos : Pos} (ho : cmpOp op = some o) (hm : behindInMarks op b = false) (ha : Snd Γ k c a x) (hb : Snd Γ k c b y) : Snd Γ k c (.Compare a [op] [b] pos) (.op o x y) := by
  refine ⟨fun X F W g => ?_, fun X F W g => ?_⟩
  · obtain ⟨r, h1, h2⟩ := cmp_rule (X := X) (F := F) g.K g.u65 ho
    exact se_bin (fun ta tb p q => pe_cmpR h1 p q hm) h2 (ha.se X F W g) (hb.se X F W g)
  · obtain ⟨r, h1, h2⟩ := cmp_rule (X := X) (F := F) g.K g.u65 ho
    exact st_bin (fun ta tb p q => pt_cmpR h1 p q hm) h2 (ha.se X F W g) (hb.se X F W g)
theorem chain_rule {op : CmpOp} {o : Op} {p : Int → Int → Bool} (ho : cmpOp op = some o) (hp : o.p = some p) : OpR X (compareOp op) (rI0 fun i j => .bl (p i j)) := by
  cases op <;> (injection ho with ho; subst ho) <;> first | (cases hp; done) | (injection hp with hp; subst hp)
  · exact op_lt
  · exact op_le
  · exact op_gt
  · exact op_ge
theorem snd_chain {op op' : CmpOp} {o o' : Op} {a b d : Expr} {x y z : E} {pos : Pos} (ho : cmpOp op = some o) (ho' : cmpOp op' = some o') (hp : (o.p.isSome && o'.p.isSome) = true) (hm : lastMarks [op, op'] [b, d] = false) (ha : Snd Γ k c a x) (hb : Snd Γ k c b y) (hd : Snd Γ k c d z) :
    Snd Γ k c (.Compare a [op, op'] [b, d] pos) (.ch o o' x y z) := by
  rw [Bool.and_eq_true] at hp
  obtain ⟨p, e1⟩ := Option.isSome_iff_exists.mp hp.1
  obtain ⟨p', e2⟩ := Option.isSome_iff_exists.mp hp.2
  have ev : E.ev Γ (.ch o o' x y z) = fun s h => chR p p' (x.ev Γ s h) (y.ev Γ s) (z.ev Γ s) := by
    funext s h
    simp only [E.ev, e1, e2]
  refine ⟨fun X F W g => ?_, fun X F W g => ?_⟩
  · rw [ev]
    exact se_chain (chain_rule ho e1) (chain_rule ho' e2) hm (ha.se X F W g) (hb.se X F W g) (hd.se X F W g)
  · rw [ev]
    exact st_chain (chain_rule ho e1) (chain_rule ho' e2) hm (ha.se X F W g) (hb.se X F W g) (hd.se X F W g)
/-! lists of expressions -/
theorem mapO_cons {α β : Type} {f : α → Option β} {a : α} {r : List α} {l : List β} (h : mapO f (a :: r) = some l) : ∃ b l', f a = some b ∧ mapO f r = some l' ∧ l = b :: l' := by
  unfold mapO at h
  cases q : f a with
  | none => rw [q] at h; cases h
  | some b =>
    rw [q] at h
    have h' : (mapO f r).map (b :: ·) = some l := h
    cases q2 : mapO f r with
    | none => rw [q2] at h'; cases h'
    | some l' =>
      rw [q2] at h'
      injection h' with h'
      exact ⟨b, l', rfl, rfl, h'.symm⟩
theorem sa_map {n : Nat} (ih : ∀ e ir, compE n c e = some ir → Snd Γ k c e ir) : ∀ {es : List Expr} {irs : List E}, mapO (compE n c) es = some irs → (∀ X F W, Good X F W Γ c k → SA X F W es (E.evs Γ irs)) ∧ (∀ e ∈ es, notStar e = true) ∧ irs.length = es.length
  | [], irs, h => by
    injection h with h
    subst h
    exact ⟨fun X F W g => by show SA X F W [] (fun s h => E.evs Γ [] s h); simp only [E.evs]; exact sa_nil, fun _ h => (nomatch h), rfl⟩
  | e :: es, irs, h => by
    obtain ⟨x, l, h1, h2, rfl⟩ := mapO_cons h
    obtain ⟨a1, a2, a3⟩ := sa_map ih h2
    refine ⟨fun X F W g => ?_, fun e' he => ?_, by simp [a3]⟩
    · show SA X F W (e :: es) (fun s h => E.evs Γ (x :: l) s h)
      simp only [E.evs]
      exact sa_cons (star_each (compE_star h1)) ((ih e x h1).se X F W g) (a1 X F W g)
    · rcases List.mem_cons.mp he with rfl | he
      · exact compE_star h1
      · exact a2 e' he
theorem evF_map {irs : List E} : evF (irs.map fun x => E.ev Γ x) = fun s h => E.evs Γ irs s h := by
  funext s h
  induction irs generalizing h with
  | nil => simp only [List.map_nil, evF, E.evs]
  | cons x r ih =>
    simp only [List.map_cons, evF, E.evs]
    congr 1
    funext d h1
    rw [ih]
theorem ses_map {n : Nat} (ih : ∀ e ir, compE n c e = some ir → Snd Γ k c e ir) {X : Cx} {F : Fr} {W : WX} (g : Good X F W Γ c k) : ∀ {es : List Expr} {irs : List E}, mapO (compE n c) es = some irs → SEs X F W es (irs.map fun x => E.ev Γ x)
  | [], irs, h => by
    injection h with h
    subst h
    exact .nil
  | e :: es, irs, h => by
    obtain ⟨x, l, h1, h2, rfl⟩ := mapO_cons h
    exact .cons ((ih e x h1).se X F W g) (ses_map ih g h2)
theorem mapO_some {α β : Type} {f : α → Option β} : ∀ {l : List α} {m : List β}, mapO f l = some m → l.map f = m.map some
  | [], m, h => by
    injection h with h
    subst h
    rfl
  | a :: r, m, h => by
    obtain ⟨x, l, h1, h2, rfl⟩ := mapO_cons h
    rw [List.map_cons, List.map_cons, h1, mapO_some h2]
theorem snd_and {n : Nat} {pos : Pos} (ih : ∀ e ir, compE n c e = some ir → Snd Γ k c e ir) : ∀ {es : List Expr} {irs : List E} {ir : E}, mapO (compE n c) es = some irs → foldB E.and irs = some ir →
    ∀ X F W, Good X F W Γ c k → SE X F W (.BoolOp .And es pos) (ir.ev Γ) ∧ SW X F W (.BoolOp .And es pos) (ir.ev Γ)
  | [], irs, ir, h, h2 => by
    injection h with h
    subst h
    cases h2
  | [e], irs, ir, h, h2 => by
    obtain ⟨x, l, h1, h3, rfl⟩ := mapO_cons h
    injection h3 with h3
    subst h3
    injection h2 with h2
    subst h2
    exact fun X F W g => ⟨se_one ((ih e x h1).se X F W g), sw_and1 ((ih e x h1).st X F W g)⟩
  | e :: e2 :: es, irs, ir, h, h2 => by
    obtain ⟨x, l, h1, h3, rfl⟩ := mapO_cons h
    obtain ⟨x2, l2, h4, h5, rfl⟩ := mapO_cons h3
    have h2' : (foldB E.and (x2 :: l2)).map (E.and x) = some ir := h2
    cases q : foldB E.and (x2 :: l2) with
    | none => rw [q] at h2'; cases h2'
    | some y =>
      rw [q] at h2'
      injection h2' with h2'
      subst h2'
      intro X F W g
      obtain ⟨r1, r2⟩ := snd_and ih h3 q X F W g
      have ev : E.ev Γ (.and x y) = fun s h => andR (x.ev Γ s h) (y.ev Γ s) := by funext s h; simp only [E.ev]
      rw [ev]
      exact ⟨se_and ((ih e x h1).se X F W g) r1, sw_and ((ih e x h1).st X F W g) r2⟩
theorem snd_or {n : Nat} {pos : Pos} (ih : ∀ e ir, compE n c e = some ir → Snd Γ k c e ir) : ∀ {es : List Expr} {irs : List E} {ir : E}, mapO (compE n c) es = some irs → foldB E.or irs = some ir →
    ∀ X F W, Good X F W Γ c k → SE X F W (.BoolOp .Or es pos) (ir.ev Γ) ∧ SW X F W (.BoolOp .Or es pos) (ir.ev Γ)
  | [], irs, ir, h, h2 => by
    injection h with h
    subst h
    cases h2
  | [e], irs, ir, h, h2 => by
    obtain ⟨x, l, h1, h3, rfl⟩ := mapO_cons h
    injection h3 with h3
    subst h3
    injection h2 with h2
    subst h2
    exact fun X F W g => ⟨se_one ((ih e x h1).se X F W g), sw_or1 ((ih e x h1).st X F W g)⟩
  | e :: e2 :: es, irs, ir, h, h2 => by
    obtain ⟨x, l, h1, h3, rfl⟩ := mapO_cons h
    obtain ⟨x2, l2, h4, h5, rfl⟩ := mapO_cons h3
    have h2' : (foldB E.or (x2 :: l2)).map (E.or x) = some ir := h2
    cases q : foldB E.or (x2 :: l2) with
    | none => rw [q] at h2'; cases h2'
    | some y =>
      rw [q] at h2'
      injection h2' with h2'
      subst h2'
      intro X F W g
      obtain ⟨r1, r2⟩ := snd_or ih h3 q X F W g
      have ev : E.ev Γ (.or x y) = fun s h => orR (x.ev Γ s h) (y.ev Γ s) := by funext s h; simp only [E.ev]
      rw [ev]
      exact ⟨se_or ((ih e x h1).se X F W g) r1, sw_or ((ih e x h1).st X F W g) r2⟩
/-! built-ins -/
theorem bi_ok (hcal : c.calm = true) {m : Bool} {x : Str} {b : Str × Bi} {e : Expr} {es : List Expr} {fs : SD → Hs → R (List D)} {p pos : Pos} (hb : biOf m x = some b) (g : Good X F W Γ c k) (hg : Gl X x) (hm : X.mg x = none) (hst : ∀ e' ∈ e :: es, notStar e' = true) (h : SA X F W (e :: es) fs) :
    SE X F W (.Call (.Name x p) (e :: es) [] pos) (fun s h => (fs s h).bind b.2.g) := by
  have he : starEach (e :: es) X.env = (false, eval e X.env) :: starEach es X.env := star_each (hst e List.mem_cons_self)
  have hp : (backTo pos (starEach es X.env)).any (·.1) = false := plain_args fun e' h' => hst e' (List.mem_cons_of_mem _ h')
  have hK := g.K
  unfold biOf at hb
  split at hb
  · rename_i ex; injection hb with hb; subst hb ex
    exact se_call (fun ta h => pe_callB call_lenA hg hm (by decide +kernel) h (by decide +kernel) (by decide +kernel) he hp) (by rw [hK]; exact ok_len) nrsL h
  split at hb
  · rename_i ex; injection hb with hb; subst hb ex
    exact se_call (fun ta h => pe_callB (cr_sumA (g.calm hcal)) hg hm (by decide +kernel) h (by decide +kernel) (by decide +kernel) he hp) (by rw [hK]; exact ok_sum) nrsL h
  split at hb
  · rename_i ex; injection hb with hb; subst hb ex
    exact se_call (fun ta h => pe_callB (cr_all (g.calm hcal)) hg hm (by decide +kernel) h (by decide +kernel) (by decide +kernel) he hp) (by rw [hK]; exact ok_all) nrsL h
  split at hb
  · rename_i ex; injection hb with hb; subst hb ex
    exact se_call (fun ta h => pe_callB (cr_any (g.calm hcal)) hg hm (by decide +kernel) h (by decide +kernel) (by decide +kernel) he hp) (by rw [hK]; exact ok_any) nrsL h
  split at hb
  · rename_i ex; injection hb with hb; subst hb ex
    exact se_call (fun ta h => pe_callTy call_tuple_of hg hm (by decide +kernel) h (by decide +kernel) (by decide +kernel) he hp) (by rw [hK]; exact ok_tupleF) nrsL h
  split at hb
  · rename_i ex; injection hb with hb; subst hb ex
    exact se_call (fun ta h => pe_callTy call_list_of hg hm (by decide +kernel) h (by decide +kernel) (by decide +kernel) he hp) (by rw [hK]; exact ok_listF m) listF_nrs h
  split at hb
  · rename_i ex; injection hb with hb; subst hb ex
    exact se_call (fun ta h => pe_callB call_abs hg hm (by decide +kernel) h (by decide +kernel) (by decide +kernel) he hp) ok_abs nrsL h
  split at hb
  · rename_i ex; injection hb with hb; subst hb ex
    exact se_call (fun ta h => pe_callB (cr_maxA (g.calm hcal)) hg hm (by decide +kernel) h (by decide +kernel) (by decide +kernel) he hp) (by rw [hK]; exact ok_max) nrsL h
  split at hb
  · rename_i ex; injection hb with hb; subst hb ex
    exact se_call (fun ta h => pe_callB (cr_minA (g.calm hcal)) hg hm (by decide +kernel) h (by decide +kernel) (by decide +kernel) he hp) (by rw [hK]; exact ok_min) nrsL h
  split at hb
  · rename_i ex; injection hb with hb; subst hb ex
    exact se_call (fun ta h => pe_callB cr_sortA hg hm (by decide +kernel) h (by decide +kernel) (by decide +kernel) he hp) (by rw [hK]; exact ok_sort m) sort_nrs h
  · cases hb
theorem any_ok (hcal : c.calm = false) {e : Expr} {es : List Expr} {fs : SD → Hs → R (List D)} {p pos : Pos} (g : Good X F W Γ c k) (hg : Gl X "any") (hm : X.mg "any" = none) (hst : ∀ e' ∈ e :: es, notStar e' = true) (h : SA X F W (e :: es) fs) :
    SE X F W (.Call (.Name "any" p) (e :: es) [] pos) (fun s h => (fs s h).bind (DL gAny)) := by
  have he : starEach (e :: es) X.env = (false, eval e X.env) :: starEach es X.env := star_each (hst e List.mem_cons_self)
  have hp : (backTo pos (starEach es X.env)).any (·.1) = false := plain_args fun e' h' => hst e' (List.mem_cons_of_mem _ h')
  obtain ⟨a, h1, h2⟩ := g.hot hcal
  have hK := g.K
  exact se_call (fun ta h => pe_callB (cr_anyH h1) hg hm (by decide +kernel) h (by decide +kernel) (by decide +kernel) he hp) (by rw [hK]; exact ok_anyH h2) nrsL h
theorem tyName_boot {x : Str} {T : String} (h : tyName x = some T) : bootBuiltins x = some (.type T) := by
  unfold tyName at h
  split at h
  · rename_i e; injection h with h; subst h e; decide +kernel
  split at h
  · rename_i e; injection h with h; subst h e; decide +kernel
  split at h
  · rename_i e; injection h with h; subst h e; decide +kernel
  split at h
  · rename_i e; injection h with h; subst h e; decide +kernel
  split at h
  · rename_i e; injection h with h; subst h e; decide +kernel
  split at h
  · rename_i e; injection h with h; subst h e; decide +kernel
  · cases h
/-! calls of defs -/
theorem se_callU (hcal : c.calm = true) {x : Str} {j : Nat} {e : Expr} {es : List Expr} {fs : SD → Hs → R (List D)} {p pos : Pos} (g : Good X F W Γ c k) (hg : Gl X x) (hj : c.fid.lookup x = some j) (hd : (x == ("__debug__" : Str)) = false) (hst : ∀ e' ∈ e :: es, notStar e' = true) (h : SA X F W (e :: es) fs) :
    SE X F W (.Call (.Name x p) (e :: es) [] pos) (fun s h => (fs s h).bind (callR Γ j)) := by
  obtain ⟨f, fd, ps, hm, hk, hb, hF⟩ := g.fns hcal x j hj
  have he : starEach (e :: es) X.env = (false, eval e X.env) :: starEach es X.env := star_each (hst e List.mem_cons_self)
  have hp : (backTo pos (starEach es X.env)).any (·.1) = false := plain_args fun e' h' => hst e' (List.mem_cons_of_mem _ h')
  refine PE.imp (pe_callS hF (g.room hcal) hg hm hk hb (fun σ => L2N.passAt g.tk σ) h hd he hp) fun σ H Q ⟨G, h, s, t, o⟩ => ?_
  refine part t o fun ds vs h1 G1 H1 T1 t1 x o => ?_
  unfold callR at o
  split at o
  · rename_i hl
    refine ⟨G1, h1, ds, hl, t1.hr, x, ?_⟩
    cases q : (Γ j).2 ds h1 with
    | stk => rw [q] at o; exact o.elim
    | rs cc pp h2 => rw [q] at o; exact o
    | ok d h2 => rw [q] at o; exact o
  · exact o.elim
/-! targets -/
theorem nameTup {pos : Pos} (g : Good X F W Γ c k) : ∀ {es : List Expr} {is : List Nat}, mapO (nameIx c) es = some is → ∃ gs, PGs X es gs ∧ TgsOk F is gs ∧ (assignEach es X.env).findIdx? (·.1) = none ∧ (assignEach es X.env).length = is.length ∧ gs = is.foldr (fun i r => gCons (gName i) r) gNil
  | [], is, h => by
    injection h with h
    subst h
    exact ⟨gNil, pgs_nil, tgs_nil, rfl, rfl, rfl⟩
  | e :: es, is, h => by
    obtain ⟨i, l, h1, h2, rfl⟩ := mapO_cons h
    obtain ⟨gs, a1, a2, a3, a4, a5⟩ := nameTup (pos := pos) g h2
    cases e with
    | Name x p =>
      have h1 : (if stoC c.sc x = true then ixOf c.N x else none) = some i := h1
      split at h1
      · rename_i hs
        have hi := ixOf_get h1
        obtain ⟨k1, k2⟩ := g.sto x hs
        refine ⟨gCons (gName i) gs, pgs_cons (pg_name (by rw [g.N]; exact g.nd) (by rw [g.N]; exact hi) k1 k2) a1 rfl, tgs_cons a2, ?_, ?_, by rw [a5]; rfl⟩
        · show List.findIdx? (·.1) ((false, _) :: assignEach es X.env) = none
          rw [List.findIdx?_cons]
          simp [a3]
        · show ((false, _) :: assignEach es X.env).length = _
          simp [a4]
      · cases h1
    | _ => cases h1
def tgG (K : PySem.W.Frag) (tp : Bool) (is : List Nat) : TG := match tp with
  | true => L2.gTup K is.length (is.foldr (fun i r => gCons (gName i) r) gNil)
  | false => match is with
    | [i] => gName i
    | _ => fun _ _ _ _ => False
theorem comp_tg {tg : Expr} {gt : Bool × List Nat} (h : compG c tg = some gt) : (∀ X F W, Good X F W Γ c k → PG X tg (tgG F.K gt.1 gt.2)) ∧ ∀ F, TgOk F gt.2 (tgF gt.1 gt.2) (tgG F.K gt.1 gt.2) := by
  unfold compG at h
  split at h
  · rename_i x p
    have h : (if stoC c.sc x = true then ixOf c.N x else none).map (fun i => (false, [i])) = some gt := h
    split at h
    · rename_i hs
      cases q : ixOf c.N x with
      | none => rw [q] at h; cases h
      | some i =>
        rw [q] at h
        injection h with h
        subst h
        exact ⟨fun X F W g => pg_name (by rw [g.N]; exact g.nd) (by rw [g.N]; exact ixOf_get q) (g.sto x hs).1 (g.sto x hs).2, fun F => tg_name⟩
    · cases h
  · rename_i es kk p
    split at h
    rotate_left
    · cases h
    rename_i hcal
    cases q : mapO (nameIx c) es with
    | none => rw [q] at h; cases h
    | some is =>
      rw [q] at h
      injection h with h
      subst h
      refine ⟨fun X F W g => ?_, fun F => ?_⟩
      · obtain ⟨gs, a1, a2, a3, a4, a5⟩ := nameTup (pos := p) g q
        have := pg_tup (pos := p) (k := kk) (g.calm hcal) a1 a4 a3
        rw [g.K, a5] at this
        exact this
      · have hg : TgsOk F is (is.foldr (fun i r => gCons (gName i) r) gNil) := by
          clear q
          induction is with
          | nil => exact tgs_nil
          | cons i is ih => exact tgs_cons ih
        exact tg_tup hg
  · cases h
end
end Gx

/-! G10: what is read off any expression is right. -/
namespace Gx
open PySem L2
section
variable {X : Cx} {F : Fr} {W : WX} {G : Gh} {H H' H1 : Hp} {σ : L2.St} {s : SD}
/-- a if t else b, as a test -/
theorem st_ite {c a b : Expr} {fc fa fb : SD → Hs → R D} {pos : Pos} (hc : ST X F W c fc) (ha : ST X F W a fa) (hb : ST X F W b fb) : ST X F W (.IfExp c a b pos) (fun s h => iteR (fc s h) (fa s) (fb s)) := by
  refine ⟨fun pins s' σ H Q I ⟨G, h, s, t, o⟩ => ?_⟩
  refine PyProof.Rows.isTrue_IfExp (thn (hc.run pins s' σ H (fun b H1 => if b = true then lift F W relB (fun s h => toB (fa s h)) σ H1 Q else lift F W relB (fun s h => toB (fb s h)) σ H1 Q) I ?_) fun d s1 ⟨H1, I1, q1⟩ => ?_)
  · dsimp only at o
    have e : toB (iteR (fc s h) (fa s) (fb s)) = (toB (fc s h)).bind fun b h1 => toB (match b with | true => fa s h1 | false => fb s h1) := by
      rw [iteR_toB]
      cases toB (fc s h) with
      | ok b h => cases b <;> rfl
      | rs c p h => rfl
      | stk => rfl
    rw [e] at o
    refine part (f := fun s h => toB (fc s h)) t o fun b v h1 G1 H1 T1 t1 vx o => ?_
    obtain rfl : b = v := vx
    cases b with
    | true => exact iteT ⟨G1, h1, s, t1, o⟩
    | false => exact iteF ⟨G1, h1, s, t1, o⟩
  · cases d with
    | true =>
      have q1 : lift F W relB (fun s h => toB (fa s h)) σ H1 Q := q1
      exact ha.run pins s1 σ H1 Q I1 q1
    | false =>
      have q1 : lift F W relB (fun s h => toB (fb s h)) σ H1 Q := q1
      exact hb.run pins s1 σ H1 Q I1 q1
end
section
variable {Γ : Mir} {k : Nat}
theorem map_some {α β : Type} {f : α → β} {o : Option α} {b : β} (h : o.map f = some b) : ∃ a, o = some a ∧ b = f a := by
  cases o with
  | none => cases h
  | some a => injection h with h; exact ⟨a, rfl, h.symm⟩
theorem bind_some {α β : Type} {f : α → Option β} {o : Option α} {b : β} (h : o.bind f = some b) : ∃ a, o = some a ∧ f a = some b := by
  cases o with
  | none => cases h
  | some a => exact ⟨a, rfl, h⟩
theorem noSl_of {n : Nat} {c : Cfg} {b : Expr} {y : E} (h : compE n c b = some y) : PlainIx b := by
  cases n with
  | zero => cases h
  | succ n => cases b <;> first | exact fun _ _ => rfl | (simp only [compE] at h; cases h)
theorem noSet_of {n : Nat} {c : Cfg} {b : Expr} {y : E} (h : compE n c b = some y) {env : Env} : ∀ x, foldedSetIterable b env x = pure x := by
  cases n with
  | zero => cases h
  | succ n => cases b <;> first | exact fun _ => rfl | (simp only [compE] at h; cases h)
theorem lastMark_of {n : Nat} {c : Cfg} {b d : Expr} {op op' : CmpOp} {y : E} (h : compE n c d = some y) : lastMarks [op, op'] [b, d] = false := by
  have e := notSet_mark (op := op') h
  show lastMarks [op'] [d] = false
  show behindInMarks op' d = false
  exact e
theorem evs_one {x : E} {s : SD} {h : Hs} : ((E.evs Γ [x] s h).bind (itG 0)) = (x.ev Γ s h).bind srcOf := by
  simp only [E.evs]
  cases x.ev Γ s h <;> rfl
theorem ev1 {a : Expr} {n : Nat} {c : Cfg} {src : List E} (h1 : mapO (compE n c) [a] = some src) : ∃ x, compE n c a = some x ∧ src = [x] := by
  obtain ⟨x, l, e1, e2, rfl⟩ := mapO_cons h1
  injection e2 with e2
  subst e2
  exact ⟨x, e1, rfl⟩
theorem compI_ok {n : Nat} {c : Cfg} (ih : ∀ e ir, compE n c e = some ir → Snd Γ k c e ir) {iter : Expr} {ks : Nat × List E} (h : compI (compE n c) c iter = some ks) {X : Cx} {F : Fr} {W : WX} (g : Good X F W Γ c k) (tg : Expr) (htg : tupK ks.1 = true → ∃ es kk tp, tg = .Tuple es kk tp) :
    SI X F W tg iter (fun s h => (E.evs Γ ks.2 s h).bind (itG ks.1)) ∧ ∀ x, foldedSetIterable iter X.env x = pure x := by
  unfold compI at h
  obtain ⟨src, h1, rfl⟩ := map_some h
  have gen : ∀ {it : Expr}, mapO (compE n c) [it] = some src → SI X F W tg it (fun s h => (E.evs Γ src s h).bind (itG 0)) ∧ ∀ x, foldedSetIterable it X.env x = pure x := by
    intro it q1
    obtain ⟨x, q2, rfl⟩ := ev1 q1
    have := se_iter (tg := tg) g.K ((ih it x q2).se X F W g)
    refine ⟨?_, noSet_of q2⟩
    have ev : (fun s h => (E.evs Γ [x] s h).bind (itG 0)) = fun s h => (x.ev Γ s h).bind srcOf := by funext s h; exact evs_one
    rw [ev]
    exact this
  clear h
  revert h1 htg
  dsimp only
  unfold iterK
  split
  · rename_i x p a pos
    split
    · rename_i hx
      obtain ⟨rfl, hg, hb⟩ := hx
      intro h1 htg
      obtain ⟨a1, a2, a3⟩ := sa_map ih h1
      refine ⟨?_, fun _ => rfl⟩
      have ev : (fun s h => (E.evs Γ src s h).bind (itG 1)) = fun s h => (E.evs Γ src s h).bind rngO1 := by
        funext s h
        cases E.evs Γ src s h <;> rfl
      show SI X F W tg _ (fun s h => (E.evs Γ src s h).bind (itG 1))
      rw [ev]
      exact si_range1 (g.gl _ hg) (g.blt _ hb) (by rw [star_each (a2 a List.mem_cons_self)]; rfl) (a1 X F W g)
    · split
      · rename_i hx
        obtain ⟨rfl, hg, hb⟩ := hx
        intro h1 htg
        obtain ⟨a1, a2, a3⟩ := sa_map ih h1
        refine ⟨?_, fun _ => rfl⟩
        have ev : (fun s h => (E.evs Γ src s h).bind (itG 4)) = fun s h => (E.evs Γ src s h).bind enumO := by
          funext s h
          cases E.evs Γ src s h <;> rfl
        obtain ⟨es, kk, tp, rfl⟩ := htg rfl
        show SI X F W _ _ (fun s h => (E.evs Γ src s h).bind (itG 4))
        rw [ev]
        exact si_enum g.K (g.gl _ hg) (g.blt _ hb) (by rw [star_each (a2 a List.mem_cons_self)]; rfl) (a1 X F W g)
      · exact fun h1 _ => gen h1
  · rename_i x p a b pos
    split
    · rename_i hx
      obtain ⟨rfl, hg, hb⟩ := hx
      intro h1 htg
      obtain ⟨a1, a2, a3⟩ := sa_map ih h1
      refine ⟨?_, fun _ => rfl⟩
      have ev : (fun s h => (E.evs Γ src s h).bind (itG 2)) = fun s h => (E.evs Γ src s h).bind rngO2 := by
        funext s h
        cases E.evs Γ src s h <;> rfl
      show SI X F W tg _ (fun s h => (E.evs Γ src s h).bind (itG 2))
      rw [ev]
      have e2 : starEach [b] X.env = [(false, eval b X.env)] := by rw [star_each (a2 b (List.mem_cons_of_mem _ List.mem_cons_self))]; rfl
      exact si_range2 (g.gl _ hg) (g.blt _ hb) (by rw [star_each (a2 a List.mem_cons_self), e2]) e2 (a1 X F W g)
    · split
      · rename_i hx
        obtain ⟨rfl, hg, hb⟩ := hx
        intro h1 htg
        obtain ⟨a1, a2, a3⟩ := sa_map ih h1
        refine ⟨?_, fun _ => rfl⟩
        have ev : (fun s h => (E.evs Γ src s h).bind (itG 3)) = fun s h => (E.evs Γ src s h).bind zipO := by
          funext s h
          cases E.evs Γ src s h <;> rfl
        obtain ⟨es, kk, tp, rfl⟩ := htg rfl
        show SI X F W _ _ (fun s h => (E.evs Γ src s h).bind (itG 3))
        rw [ev]
        have e2 : starEach [b] X.env = [(false, eval b X.env)] := by rw [star_each (a2 b (List.mem_cons_of_mem _ List.mem_cons_self))]; rfl
        exact si_zip g.K (g.gl _ hg) (g.blt _ hb) (star_each (a2 a List.mem_cons_self)) (plain_args fun e' h' => a2 e' (List.mem_cons_of_mem _ h')) (a1 X F W g)
      · exact fun h1 _ => gen h1
  · exact fun h1 _ => gen h1
theorem zip_tup {kk : Nat} {c : Cfg} {tg : Expr} {gt : Bool × List Nat} (h : (!tupK kk || gt.1) = true) (h2 : compG c tg = some gt) : tupK kk = true → ∃ es k tp, tg = .Tuple es k tp := by
  intro e
  have h : gt.1 = true := by simpa [e] using h
  unfold compG at h2
  split at h2
  · obtain ⟨i, _, rfl⟩ := map_some h2
    cases h
  · exact ⟨_, _, _, rfl⟩
  · cases h2
theorem tst_ok {n : Nat} {c : Cfg} (ih : ∀ e ir, compE n c e = some ir → Snd Γ k c e ir) : ∀ {ifs : List Expr} {t : List E}, mapO (compE n c) ifs = some t → ifs.length < 2 → ∃ tt : Fr → TT, (∀ X F, Good X F W0 Γ c k → PTs X ifs (tt F)) ∧ ∀ F σ H Q, lift F W0 relB (fun s h => toB (E.evT Γ t s h)) σ H Q → tt F σ H Q
  | [], t, h, _ => by
    injection h with h
    subst h
    refine ⟨fun _ => tYes, fun X F g => pts_nil, fun F σ H Q ⟨G, h, s, t, o⟩ => ?_⟩
    dsimp only at o
    have : E.evT Γ [] s h = .ok (.bl true) h := by simp only [E.evT]
    rw [this] at o
    exact o true G H (Step.refl _ _) t.hr rfl
  | [e], t, h, _ => by
    obtain ⟨x, l, h1, h2, rfl⟩ := mapO_cons h
    injection h2 with h2
    subst h2
    have : E.evT Γ [x] = x.ev Γ := by funext s h; simp only [E.evT]
    exact ⟨fun F => lift F W0 relB (fun s h => toB (E.evT Γ [x] s h)), fun X F g => pts_one (by rw [this]; exact (ih e x h1).st X F W0 g), fun F σ H Q o => o⟩
  | _ :: _ :: _, _, _, hl => by simp at hl; omega
theorem own_ok {c : Cfg} {scope : Scope} (h : blkC c.N c.sc scope (c.own scope) = true) {X : Cx} {F : Fr} {W : WX} (g : Good X F W Γ c k) : BlkOk X.N X.env.scope scope (c.own scope) := by
  have b := blkOk_by h
  exact ⟨b.kind, b.uniq, by rw [g.N]; exact b.ix, fun y hy e => g.fr y.1 (b.free y hy e), by rw [g.N]; exact b.own⟩
/-- a comprehension's parts -/
structure LcOk (Γ : Mir) (k : Nat) (c : Cfg) (elt tg iter : Expr) (ifs : List Expr) (scope : Scope) (ir : E) : Prop where
  ex : ∃ m kk src tp is tst x, ir = .lc m kk src tp is tst x ((c.own scope).map (·.2)) ∧ c.calm = true ∧ blkC c.N c.sc scope (c.own scope) = true ∧ (∀ i ∈ is, i ∈ (c.own scope).map (·.2)) ∧
    (∀ X F W, Good X F W Γ c k → SI X F W tg iter (fun s h => (E.evs Γ src s h).bind (itG kk)) ∧ ∀ x, foldedSetIterable iter X.env x = pure x) ∧
    (∀ X F W, Good X F W Γ { c with sc := scope } k → PG X tg (tgG F.K tp is)) ∧ (∀ F, TgOk F is (tgF tp is) (tgG F.K tp is)) ∧
    (∃ tt : Fr → TT, (∀ X F, Good X F W0 Γ { c with sc := scope } k → PTs X ifs (tt F)) ∧ ∀ F σ H Q, lift F W0 relB (fun s h => toB (E.evT Γ tst s h)) σ H Q → tt F σ H Q) ∧
    ∀ X F, Good X F W0 Γ { c with sc := scope } k → SE X F W0 elt (x.ev Γ)
theorem lc_parts {n : Nat} {c : Cfg} {elt tg iter : Expr} {ifs : List Expr} {scope : Scope} {pos : Pos} {ir : E} (ih : ∀ c e ir, compE n c e = some ir → Snd Γ k c e ir) (h : compE (n + 1) c (.ListComp elt [⟨tg, iter, ifs, 0⟩] scope pos) = some ir) : LcOk Γ k c elt tg iter ifs scope ir := by
  simp only [compE] at h
  split at h
  · rename_i hb
    have hcal := hb.2.2
    have hb := hb.2.1
    obtain ⟨ks, h1, h⟩ := bind_some h
    obtain ⟨gt, h2, h⟩ := bind_some h
    split at h
    · rename_i hl
      rw [Bool.and_eq_true, Bool.and_eq_true] at hl
      obtain ⟨t, h3, h⟩ := bind_some h
      obtain ⟨x, h4, rfl⟩ := map_some h
      obtain ⟨g1, g2⟩ := comp_tg (Γ := Γ) (k := k) h2
      refine ⟨c.m pos, ks.1, ks.2, gt.1, gt.2, t, x, rfl, hcal, hb, fun i hi => ?_, fun X F W g => compI_ok (ih c) h1 g tg (zip_tup hl.1.2 h2), g1, g2, tst_ok (ih _) h3 (of_decide_eq_true hl.1.1), fun X F g => (ih _ elt x h4).se X F W0 g⟩
      exact of_decide_eq_true (List.all_eq_true.mp hl.2 i hi)
    · cases h
  · cases h
theorem lc_se {c : Cfg} {elt tg iter : Expr} {ifs : List Expr} {scope : Scope} {pos : Pos} {ir : E} (h : LcOk Γ k c elt tg iter ifs scope ir) {X : Cx} {F : Fr} {W : WX} (g : Good X F W Γ c k) : SE X F W (.ListComp elt [⟨tg, iter, ifs, 0⟩] scope pos) (ir.ev Γ) := by
  obtain ⟨m, kk, src, tp, is, tst, x, rfl, hcal, hb, his, hi, hg, htg, ⟨tt, ht1, ht2⟩, he⟩ := h.ex
  have ev : E.ev Γ (.lc m kk src tp is tst x ((c.own scope).map (·.2))) = fun s h => ((E.evs Γ src s h).bind (itG kk)).bind (lcO m (tgF tp is) (E.evT Γ tst) (x.ev Γ) ((c.own scope).map (·.2)) s) := by funext s h; simp only [E.ev]
  rw [ev]
  obtain ⟨i1, i2⟩ := hi X F W g
  exact se_lc m (g.calm hcal) (by rw [g.N]; exact g.nd) i1 (own_ok hb g) i2 (fun s H C cl fp => hg _ F W0 (g.blk scope s H C cl fp)) (htg F) his (fun s H C cl fp => ht1 _ F (g.blk scope s H C cl fp)) (ht2 F) (fun s H C cl fp => he _ F (g.blk scope s H C cl fp))
theorem lc_set {c : Cfg} {elt tg iter : Expr} {ifs : List Expr} {scope : Scope} {pos py spos : Pos} {ir : E} {y : Str} {i : Nat} (h : LcOk Γ k c elt tg iter ifs scope ir) {X : Cx} {F : Fr} {W : WX} (g : Good X F W Γ c k) (hy : X.N[i]? = some y) (hyl : X.env.scope.names.lookup y = some .local)
    (hsw : swapsWith (.ListComp elt [⟨tg, iter, ifs, 0⟩] scope pos) (some (.Name y py)) spos.line X.env = pure true) : SS X F W (.Assign [.Name y py] (.ListComp elt [⟨tg, iter, ifs, 0⟩] scope pos) spos) (fun s h => (ir.ev Γ s h).thenO s (setO i s)) := by
  obtain ⟨m, kk, src, tp, is, tst, x, rfl, hcal, hb, his, hi, hg, htg, ⟨tt, ht1, ht2⟩, he⟩ := h.ex
  have ev : ∀ s h, E.ev Γ (.lc m kk src tp is tst x ((c.own scope).map (·.2))) s h = ((E.evs Γ src s h).bind (itG kk)).bind (lcO m (tgF tp is) (E.evT Γ tst) (x.ev Γ) ((c.own scope).map (·.2)) s) := fun s h => by simp only [E.ev]
  simp only [ev]
  obtain ⟨i1, i2⟩ := hi X F W g
  exact ss_setLc m (g.calm hcal) (by rw [g.N]; exact g.nd) hy hyl hsw i1 (own_ok hb g) i2 (fun s H C cl fp => hg _ F W0 (g.blk scope s H C cl fp)) (htg F) his (fun s H C cl fp => ht1 _ F (g.blk scope s H C cl fp)) (ht2 F) (fun s H C cl fp => he _ F (g.blk scope s H C cl fp))
theorem so_map {n : Nat} {c : Cfg} (ih : ∀ e ir, compE n c e = some ir → Snd Γ k c e ir) {o : Option Expr} {l : List E} (h : mapO (compE n c) o.toList = some l) {X : Cx} {F : Fr} {W : WX} (g : Good X F W Γ c k) : SO X F W o (E.evO Γ l) := by
  cases o with
  | none =>
    injection h with h
    subst h
    have ev : E.evO Γ [] = fun _ h => .ok none h := by funext s h; simp only [E.evO]
    rw [ev]
    exact so_none
  | some e =>
    obtain ⟨x, l', h1, h2, rfl⟩ := mapO_cons h
    injection h2 with h2
    subst h2
    have ev : E.evO Γ [x] = fun s h => ixR (x.ev Γ s h) := by funext s h; simp only [E.evO]
    rw [ev]
    exact so_some ((ih e x h1).se X F W g)
theorem all_plain {es : List Expr} {X : Cx} {cpos : Pos} (hst : ∀ e' ∈ es, notStar e' = true) (hl : es.length < 21) : ((backTo cpos (starEach es X.env)).all (fun x => !x.1) && (backToKw cpos (keywordEach [] X.env)).all (fun x => x.1.isSome)
      && decide (es.length + ([] : List Keyword).length + (if ([] : List Keyword).isEmpty then 0 else 1) < 30)) = true := by
  have hall : (backTo cpos (starEach es X.env)).all (fun x => !x.1) = true := by
    have := plain_args (pos := cpos) (env := X.env) hst
    rw [List.all_eq_not_any_not]
    simpa using this
  rw [hall]
  show (true && true && decide _) = true
  simp
  omega
/-- a method's call -/
theorem se_mth {c : Cfg} {me : Me} {a : Str} {o : Expr} {es : List Expr} {fo : SD → Hs → R D} {fs : SD → Hs → R (List D)} {apos cpos : Pos} {X : Cx} {F : Fr} {W : WX} (g : Good X F W Γ c k) (hme : meOf a es.length = some me) (ho : rcvOk o = true) (hline : (apos.endLine == cpos.line) = true) (hlen : es.length < 20)
    (hst : ∀ e' ∈ es, notStar e' = true) (hp : SE X F W o fo) (ha : SA X F W es fs) (h0 : es = [] → fs = fun _ h => .ok [] h) : SE X F W (.Call (.Attribute o a apos) es [] cpos) (mthR me.c me.g fo fs) := by
  have hb : attributeBase o a X.env (eval o X.env) = eval o X.env := by cases o <;> first | rfl | cases ho
  have hK := g.K
  have hfew := all_plain (X := X) (cpos := cpos) hst (by omega)
  have key : ∀ {T name id : String} {r : V → List V → Hp → VK → Prop} {cc : Hs → D → Bool} {gg : D → List D → Hs → R D} (pa : PlainAttrs T) (slot : Slot T a id) (hty : typeOf (.builtin id) = pure (.type "method_descriptor")) (hm : MtR X id r) (hT : TyOk F T cc) (ok : MthOk F r gg) (nr : ∀ d ds h c p h', gg d ds h ≠ .rs c p h'),
      SE X F W (.Call (.Attribute o a apos) es [] cpos) (mthR cc gg fo fs) := by
    intro T name id r cc gg pa slot hty hm hT ok nr
    cases es with
    | nil =>
      obtain rfl := h0 rfl
      refine PE.imp (pe_bm0 pa slot hty hm hp hb hline) fun σ H Q ⟨G, h, s, t, o⟩ => ?_
      rw [hK]
      exact mth0_go hT ok nr t o
    | cons e es =>
      refine PE.imp (pe_bm pa slot hty hm hp ha hb hfew hline (star_each (hst e List.mem_cons_self)) (plain_args fun e' h' => hst e' (List.mem_cons_of_mem _ h'))) fun σ H Q ⟨G, h, s, t, o⟩ => ?_
      rw [hK]
      exact mth_go hT ok nr t o
  unfold meOf at hme
  split at hme
  · rename_i e0
    injection hme with hme
    subst hme e0
    exact key (name := "") PySem.F.plainAttrs_list PySem.F.slot_list_append PySem.F.type_list_append mt_append ty_list mok_append lstM_nrs
  split at hme
  · rename_i e0
    injection hme with hme
    subst hme e0
    exact key (name := "") PySem.F.plainAttrs_list PySem.F.slot_list_extend PySem.F.type_list_extend mt_extendR ty_list mok_extend lstM_nrs
  split at hme
  · rename_i e0
    subst e0
    split at hme
    · injection hme with hme
      subst hme
      exact key (name := "") PySem.F.plainAttrs_list PySem.F.slot_list_pop PySem.F.type_list_pop mt_pop ty_list mok_pop lstM_nrs
    · injection hme with hme
      subst hme
      exact key (name := "") PySem.F.plainAttrs_list PySem.F.slot_list_pop PySem.F.type_list_pop mt_popAt ty_list mok_popAt lstM_nrs
  split at hme
  · rename_i e0
    injection hme with hme
    subst hme e0
    exact key (name := "") PySem.F.plainAttrs_list PySem.F.slot_list_insert PySem.F.type_list_insert mt_insert ty_list mok_insert lstM_nrs
  split at hme
  · rename_i e0
    injection hme with hme
    subst hme e0
    exact key (name := "") PySem.F.plainAttrs_list PySem.F.slot_list_count PySem.F.type_list_count mt_count ty_list (by rw [hK]; exact mok_count) valM_nrs
  split at hme
  · rename_i e0
    injection hme with hme
    subst hme e0
    exact key (name := "") PySem.F.plainAttrs_list PySem.F.slot_list_index PySem.F.type_list_index mt_index ty_list (by rw [hK]; exact mok_index) valM_nrs
  split at hme
  · rename_i e0
    injection hme with hme
    subst hme e0
    exact key (name := "") PySem.F.plainAttrs_dict PySem.F.slot_dict_get PySem.F.type_dict_get (mt_get (by have := g.u65; omega)) ty_dict mok_get getM_nrs
  split at hme
  · rename_i e0
    injection hme with hme
    subst hme e0
    exact key (name := "") PySem.F.plainAttrs_dict PySem.F.slot_dict_clear PySem.F.type_dict_clear mtd_clear ty_dict mok_clr clrM_nrs
  · cases hme
end
end Gx

/-! G11: what is read off any expression is right. -/
namespace Gx
open PySem L2
section
variable {Γ : Mir} {k : Nat}
theorem rg_vals {F : Fr} {G : Gh} {H : Hp} {a b : Int} : VRL F G H (rngD a (b - a).toNat) (rgV a b) := by
  unfold rngD rgV
  induction (List.range (b - a).toNat) with
  | nil => exact vrl_nil.mpr rfl
  | cons i r ih => exact vrl_cons.mpr ⟨_, _, rfl, vr_int.mpr rfl, ih⟩
theorem lrng_ok {n : Nat} {c : Cfg} (hcal : c.calm = true) (ih : ∀ e ir, compE n c e = some ir → Snd Γ k c e ir) {X : Cx} {F : Fr} {W : WX} (g : Good X F W Γ c k) {f : Str} {es : List Expr} {ks : Nat × List Expr} {l : List E} {m : Bool} {px p : Pos} (hf : glC c.sc f = true) (hks : lrngK c f es = some ks) (h1 : mapO (compE n c) ks.2 = some l) :
    SE X F W (.Call (.Name f px) es [] p) (fun s h => (E.evs Γ l s h).bind (lrG m ks.1)) := by
  have nr : ∀ {a : Expr}, notStar a = true → starEach [a] X.env = (false, eval a X.env) :: starEach [] X.env := fun h => star_each h
  unfold lrngK at hks
  split at hks
  · rename_i x px2 a p2
    split at hks
    · rename_i hh
      obtain ⟨rfl, b1, rfl, b2, b3⟩ := hh
      injection hks with hks
      subst hks
      obtain ⟨y, e1, rfl⟩ := ev1 h1
      have ns := compE_star e1
      refine PE.imp (pe_listRg (g.calm hcal) (g.gl _ hf) (g.blt _ b1) (prg_1 (g.gl _ b2) (g.blt _ b3) ((ih a y e1).se X F W g) (nr ns))) fun σ H Q ⟨G, h, s, t, o⟩ => ?_
      have e2 : ((E.evs Γ [y] s h).bind (lrG m 1)) = (y.ev Γ s h).bind fun d h => lrG m 1 [d] h := by
        simp only [E.evs]
        cases y.ev Γ s h <;> rfl
      dsimp only at o
      rw [e2] at o
      refine part t o fun d v h1 G1 H1 T1 t1 vx o => ?_
      cases d with
      | int b =>
        have o : Out F W G1 σ H1 (VR F) Q (if 0 ≤ b ∧ b ≤ 16777216 then newL m (rngD 0 b.toNat) h1 else .stk) := o
        split at o
        · rename_i hb
          refine ⟨b, vr_int.mp vx, RgOk.of_le (by omega) (by omega) (by omega) (by omega), fun q hq => ?_⟩
          have e3 : b - 0 = b := by omega
          cases e : newL m (rngD 0 b.toNat) h1 with
          | ok z h' =>
            rw [e] at o
            exact newL_go e o t1.hr hq (by have := rg_vals (F := F) (G := G1) (H := H1) (a := 0) (b := b); rw [e3] at this; exact this)
          | rs cc pp h' => exact (newL_nrs e).elim
          | stk => rw [e] at o; exact o.elim
        · exact o.elim
      | _ => exact o.elim
    · cases hks
  · rename_i x px2 a b p2
    split at hks
    · rename_i hh
      obtain ⟨rfl, b1, rfl, b2, b3⟩ := hh
      injection hks with hks
      subst hks
      obtain ⟨y, l', e1, e1', rfl⟩ := mapO_cons h1
      obtain ⟨y2, e2, rfl⟩ := ev1 e1'
      have ns := compE_star e1
      have ns2 := compE_star e2
      refine PE.imp (pe_listRg (g.calm hcal) (g.gl _ hf) (g.blt _ b1) (prg_2 (g.gl _ b2) (g.blt _ b3) ((ih a y e1).se X F W g) ((ih b y2 e2).se X F W g) (star_each ns) (nr ns2) (plain_args fun e' h' => by simp at h'; subst h'; exact ns2)) ) fun σ H Q ⟨G, h, s, t, o⟩ => ?_
      have e3 : ((E.evs Γ [y, y2] s h).bind (lrG m 2)) = (y.ev Γ s h).bind fun d h => (y2.ev Γ s h).bind fun d2 h => lrG m 2 [d, d2] h := by
        simp only [E.evs]
        cases y.ev Γ s h with
        | ok d h1 => simp only [R.bind]; cases y2.ev Γ s h1 <;> rfl
        | rs c p h1 => rfl
        | stk => rfl
      dsimp only at o
      rw [e3] at o
      refine part t o fun d v h1 G1 H1 T1 t1 vx o => ?_
      refine part t1 o fun d2 v2 h2 G2 H2 T2 t2 vy o => ?_
      cases d with
      | int i =>
        cases d2 with
        | int j =>
          have o : Out F W G2 σ H2 (VR F) Q (if 0 ≤ i ∧ i ≤ 16777216 ∧ 0 ≤ j ∧ j ≤ 16777216 then newL m (rngD i (j - i).toNat) h2 else .stk) := o
          split at o
          · rename_i hb
            refine ⟨i, j, vr_int.mp vx, vr_int.mp vy, RgOk.of_le hb.1 hb.2.2.2 hb.2.1 hb.2.2.1, fun q hq => ?_⟩
            cases e : newL m (rngD i (j - i).toNat) h2 with
            | ok z h' => rw [e] at o; exact newL_go e o t2.hr hq rg_vals
            | rs cc pp h' => exact (newL_nrs e).elim
            | stk => rw [e] at o; exact o.elim
          · exact o.elim
        | _ => exact o.elim
      | _ => exact o.elim
    · cases hks
  · cases hks
theorem xK_ok {n : Nat} {c : Cfg} (hcal : c.calm = true) (ih : ∀ e ir, compE n c e = some ir → Snd Γ k c e ir) {X : Cx} {F : Fr} {W : WX} (g : Good X F W Γ c k) {f : Str} {es : List Expr} {ks : Xf × List Expr} {l : List E} {px p : Pos} (hf : glC c.sc f = true) (hks : xK c f es = some ks) (h1 : mapO (compE n c) ks.2 = some l) :
    SE X F W (.Call (.Name f px) es [] p) (fun s h => (E.evs Γ l s h).bind ks.1.g) := by
  have nr : ∀ {a : Expr}, notStar a = true → starEach [a] X.env = (false, eval a X.env) :: starEach [] X.env := fun h => star_each h
  have hK := g.K
  unfold xK at hks
  split at hks
  · rename_i x px2 a p2
    split at hks
    · rename_i hh
      obtain ⟨rfl, b1, rfl, b2, b3⟩ := hh
      injection hks with hks
      subst hks
      obtain ⟨y, e1, rfl⟩ := ev1 h1
      have ns := compE_star e1
      refine PE.imp (pe_lenSetG (g.calm hcal) (g.gl _ hf) (g.blt _ b1) (g.gl _ b2) (g.blt _ b3) ((ih a y e1).se X F W g) (nr ns)) fun σ H Q ⟨G, h, s, t, o⟩ => ?_
      have e2 : ((E.evs Γ [y] s h).bind lenSetO) = (y.ev Γ s h).bind fun d h => lenSetO [d] h := by
        simp only [E.evs]
        cases y.ev Γ s h <;> rfl
      dsimp only [Xf.g] at o
      rw [e2] at o
      rw [hK]
      refine part t o fun d v h1 G1 H1 T1 t1 vx o => ?_
      have o : Out F W G1 σ H1 (VR F) Q (match lstH h1 d with
        | some l => match intsOf l with
          | some ns => if ns.length < 4000 then .ok (.int (setLen ns)) h1 else .stk
          | none => .stk
        | none => .stk) := o
      cases ql : lstH h1 d with
      | none => rw [ql] at o; exact o.elim
      | some l =>
        rw [ql] at o
        dsimp only at o
        cases qn : intsOf l with
        | none => rw [qn] at o; exact o.elim
        | some ns =>
          rw [qn] at o
          dsimp only at o
          split at o
          · rename_i hb
            obtain ⟨pa, xs, rfl, hs, hl⟩ := list_of t1.hr vx ql
            have ex : xs = ns.map V.int := vrl_ints (by rw [← intsOf_back qn]; exact hl)
            subst ex
            exact ⟨pa, ns, rfl, hs, hb, o _ G1 H1 (Step.refl _ _) t1.hr (vr_int.mpr rfl)⟩
          · exact o.elim
    split at hks
    · rename_i hh
      obtain ⟨rfl, b1, rfl, b2, b3⟩ := hh
      injection hks with hks
      subst hks
      obtain ⟨y, e1, rfl⟩ := ev1 h1
      have ns := compE_star e1
      refine PE.imp (pe_tupRg (g.calm hcal) (g.gl _ hf) (g.blt _ b1) (prg_1 (g.gl _ b2) (g.blt _ b3) ((ih a y e1).se X F W g) (nr ns))) fun σ H Q ⟨G, h, s, t, o⟩ => ?_
      have e2 : ((E.evs Γ [y] s h).bind (trG 1)) = (y.ev Γ s h).bind fun d h => trG 1 [d] h := by
        simp only [E.evs]
        cases y.ev Γ s h <;> rfl
      dsimp only [Xf.g] at o
      rw [e2] at o
      refine part t o fun d v h1 G1 H1 T1 t1 vx o => ?_
      cases d with
      | int b =>
        have o : Out F W G1 σ H1 (VR F) Q (if 0 ≤ b ∧ b ≤ 16777216 then .ok (.tup (rngD 0 b.toNat)) h1 else .stk) := o
        split at o
        · rename_i hb
          refine ⟨b, vr_int.mp vx, RgOk.of_le (by omega) (by omega) (by omega) (by omega), fun q hq => ?_⟩
          have e3 : b - 0 = b := by omega
          exact KO.newT o t1.hr hq (by have := rg_vals (F := F) (G := G1) (H := H1) (a := 0) (b := b); rw [e3] at this; exact this)
        · exact o.elim
      | _ => exact o.elim
    split at hks
    · rename_i hh
      obtain ⟨rfl, b1, rfl, b2, b3⟩ := hh
      injection hks with hks
      subst hks
      obtain ⟨y, e1, rfl⟩ := ev1 h1
      have ns := compE_star e1
      refine PE.imp (pe_srtSetG (g.calm hcal) (g.gl _ hf) (g.blt _ b1) (g.gl _ b2) (g.blt _ b3) ((ih a y e1).se X F W g) (nr ns)) fun σ H Q ⟨G, h, s, t, o⟩ => ?_
      have e2 : ((E.evs Γ [y] s h).bind srtSetO) = (y.ev Γ s h).bind fun d h => srtSetO [d] h := by
        simp only [E.evs]
        cases y.ev Γ s h <;> rfl
      dsimp only [Xf.g] at o
      rw [e2] at o
      rw [hK]
      refine part t o fun d v h1 G1 H1 T1 t1 vx o => ?_
      have o : Out F W G1 σ H1 (VR F) Q (match lstH h1 d with
        | some l => match intsOf l with
          | some ns => if ns.length < 64 then .ok (.vl ((sortU ns).map .int)) h1 else .stk
          | none => .stk
        | none => .stk) := o
      cases ql : lstH h1 d with
      | none => rw [ql] at o; exact o.elim
      | some l =>
        rw [ql] at o
        dsimp only at o
        cases qn : intsOf l with
        | none => rw [qn] at o; exact o.elim
        | some ns =>
          rw [qn] at o
          dsimp only at o
          split at o
          · rename_i hb
            obtain ⟨pa, xs, rfl, hs, hl⟩ := list_of t1.hr vx ql
            have ex : xs = ns.map V.int := vrl_ints (by rw [← intsOf_back qn]; exact hl)
            subst ex
            refine ⟨pa, ns, rfl, hs, hb, fun ms p hp he hn => ?_⟩
            have em := sortU_uniq hp he
            subst em
            exact KO.newL o t1.hr hn vrl_of_ints
          · exact o.elim
    · cases hks
  · rename_i x px2 a b p2
    split at hks
    · rename_i hh
      obtain ⟨rfl, b1, rfl, b2, b3⟩ := hh
      injection hks with hks
      subst hks
      obtain ⟨y, l', e1, e1', rfl⟩ := mapO_cons h1
      obtain ⟨y2, e2, rfl⟩ := ev1 e1'
      have ns := compE_star e1
      have ns2 := compE_star e2
      refine PE.imp (pe_tupRg (g.calm hcal) (g.gl _ hf) (g.blt _ b1) (prg_2 (g.gl _ b2) (g.blt _ b3) ((ih a y e1).se X F W g) ((ih b y2 e2).se X F W g) (star_each ns) (nr ns2) (plain_args fun e' h' => by simp at h'; subst h'; exact ns2)) ) fun σ H Q ⟨G, h, s, t, o⟩ => ?_
      have e3 : ((E.evs Γ [y, y2] s h).bind (trG 2)) = (y.ev Γ s h).bind fun d h => (y2.ev Γ s h).bind fun d2 h => trG 2 [d, d2] h := by
        simp only [E.evs]
        cases y.ev Γ s h with
        | ok d h1 => simp only [R.bind]; cases y2.ev Γ s h1 <;> rfl
        | rs c p h1 => rfl
        | stk => rfl
      dsimp only [Xf.g] at o
      rw [e3] at o
      refine part t o fun d v h1 G1 H1 T1 t1 vx o => ?_
      refine part t1 o fun d2 v2 h2 G2 H2 T2 t2 vy o => ?_
      cases d with
      | int i =>
        cases d2 with
        | int j =>
          have o : Out F W G2 σ H2 (VR F) Q (if 0 ≤ i ∧ i ≤ 16777216 ∧ 0 ≤ j ∧ j ≤ 16777216 then .ok (.tup (rngD i (j - i).toNat)) h2 else .stk) := o
          split at o
          · rename_i hb
            refine ⟨i, j, vr_int.mp vx, vr_int.mp vy, RgOk.of_le hb.1 hb.2.2.2 hb.2.1 hb.2.2.1, fun q hq => ?_⟩
            exact KO.newT o t2.hr hq rg_vals
          · exact o.elim
        | _ => exact o.elim
      | _ => exact o.elim
    · cases hks
  · cases hks
theorem compE_ok : ∀ (n : Nat) (c : Cfg) (e : Expr) (ir : E), compE n c e = some ir → Snd Γ k c e ir
  | 0, _, _, _, h => by cases h
  | n + 1, c, e, ir, h => by
    have ih := compE_ok n
    have ihc := ih c
    cases e with
    | Name x p =>
      simp only [compE] at h
      split at h
      · rename_i hp
        obtain ⟨p1, p2, p3⟩ := plain_of hp
        split at h
        · rename_i hv
          obtain ⟨i, h1, rfl⟩ := map_some h
          refine snd_plain (fun _ _ => rfl) fun X F W g => ?_
          have := se_var (F := F) (W := W) (pos := p) (by rw [g.N]; exact ixOf_get h1) (g.vis x hv) p1 p2
          have ev : E.ev Γ (.var i) = fun s h => getS s i h := by funext s h; simp only [E.ev]
          rw [ev]
          exact this
        · split at h
          · rename_i hg
            obtain ⟨d, h1, rfl⟩ := map_some h
            refine snd_plain (fun _ _ => rfl) fun X F W g => ?_
            obtain ⟨u, v, hm, rv, rp⟩ := g.cst x d h1
            have ev : E.ev Γ (.cst d) = fun s h => .ok d h := by funext s h; simp only [E.ev]
            rw [ev]
            exact PE.imp (pe_glob (g.gl x hg) hm rv p1) fun σ H Q ⟨G, h, s, t, o⟩ => KO.val o t.hr (rp _ _)
          · cases h
      · cases h
    | Constant v j p =>
      cases v <;> simp only [compE] at h <;> first | (cases h; done) | (injection h with h; subst h)
      · refine snd_plain (fun _ _ => rfl) fun X F W g => ?_
        have ev : E.ev Γ .non = fun s h => .ok .non h := by funext s h; simp only [E.ev]
        rw [ev]; exact se_non
      · rename_i b
        refine snd_plain (fun _ _ => rfl) fun X F W g => ?_
        have ev : E.ev Γ (.bl b) = fun s h => .ok (.bl b) h := by funext s h; simp only [E.ev]
        rw [ev]; exact se_bl
      · rename_i b
        refine snd_plain (fun _ _ => rfl) fun X F W g => ?_
        have ev : E.ev Γ (.int b) = fun s h => .ok (.int b) h := by funext s h; simp only [E.ev]
        rw [ev]; exact se_int
      · rename_i b
        refine snd_plain (fun _ _ => rfl) fun X F W g => ?_
        have ev : E.ev Γ (.str b) = fun s h => .ok (.str b) h := by funext s h; simp only [E.ev]
        rw [ev]; exact se_str
    | BinOp a op b p =>
      simp only [compE] at h
      obtain ⟨o, h1, h⟩ := bind_some h
      obtain ⟨x, h2, h⟩ := bind_some h
      obtain ⟨y, h3, rfl⟩ := map_some h
      have own : ∀ {cat : Bool}, op = (if cat = true then .Add else .Mult) → Snd Γ k c (.BinOp a op b p) (.own cat x y) := fun {cat} ho => snd_plain (fun _ _ => rfl) fun X F W g => by
        have ev : E.ev Γ (.own cat x y) = fun s h => (x.ev Γ s h).bind fun x h1 => (y.ev Γ s h1).bind fun y h2 => ownO cat x y h2 := by funext s h; simp only [E.ev]
        rw [ev]
        exact se_own ho g.K ((ihc a x h2).se X F W g) ((ihc b y h3).se X F W g)
      split
      · split
        · rename_i hq
          subst hq
          exact own (by clear own h; cases op <;> first | rfl | (simp [binOp] at h1))
        · split
          · rename_i hq
            subst hq
            exact own (by clear own h; cases op <;> first | rfl | (simp [binOp] at h1))
          · exact snd_bin h1 (ihc a x h2) (ihc b y h3)
      · exact snd_bin h1 (ihc a x h2) (ihc b y h3)
    | UnaryOp op a p =>
      cases op <;> simp only [compE] at h <;> first | (cases h; done) | skip
      all_goals obtain ⟨x, h1, rfl⟩ := map_some h
      · have ev : E.ev Γ (.not x) = fun s h => notR (x.ev Γ s h) := by funext s h; simp only [E.ev]
        exact ⟨fun X F W g => by rw [ev]; exact se_not ((ihc a x h1).se X F W g), fun X F W g => by rw [ev]; exact st_not ((ihc a x h1).st X F W g)⟩
      · have ev : E.ev Γ (.neg x) = un1 gNeg (x.ev Γ) := by funext s h; simp only [E.ev]
        exact snd_plain (fun _ _ => rfl) fun X F W g => by rw [ev]; exact se_un (r := rU fun i => .int (-i)) (fun ta q => pe_un un_neg q) ok_neg ((ihc a x h1).se X F W g)
    | BoolOp op es p =>
      cases op with
      | And =>
        simp only [compE] at h
        obtain ⟨irs, h1, h2⟩ := bind_some h
        have q := snd_and (pos := p) ihc h1 h2
        exact ⟨fun X F W g => (q X F W g).1, fun X F W g => (q X F W g).2.pt⟩
      | Or =>
        simp only [compE] at h
        obtain ⟨irs, h1, h2⟩ := bind_some h
        have q := snd_or (pos := p) ihc h1 h2
        exact ⟨fun X F W g => (q X F W g).1, fun X F W g => (q X F W g).2.pt⟩
    | Dict ks vs p =>
      have main : ∀ ks vs, (match d1K c p ks vs with
          | some kv => (compE n c kv.1).bind fun x => (compE n c kv.2).map fun y => E.d1 x y
          | none => (mapO keyE ks).bind fun qs => if qs.Nodup ∧ ks ≠ [] ∧ ks.length ≤ 15 ∧ ks.length = vs.length then (mapO (compE n c) vs).map (E.dsp qs) else none) = some ir → Snd Γ k c (.Dict ks vs p) ir := fun ks vs h => by
        split at h
        · rename_i kv hkv
          obtain ⟨kx, vx⟩ := kv
          unfold d1K at hkv
          split at hkv
          · split at hkv
            · injection hkv with hkv
              injection hkv with e1 e2
              subst e1 e2
              obtain ⟨x, h1, h⟩ := bind_some h
              obtain ⟨y, h2, rfl⟩ := map_some h
              have ev : E.ev Γ (.d1 x y) = fun s h => (x.ev Γ s h).bind fun a h1 => (y.ev Γ s h1).bind fun b h2 => d1O a b h2 := by
                funext s h
                simp only [E.ev]
              exact snd_plain (fun _ _ => rfl) fun X F W g => by
                rw [ev]
                exact se_d1 ((ihc _ x h1).se X F W g) ((ihc _ y h2).se X F W g)
            · cases hkv
          · cases hkv
        · obtain ⟨qs, h1, h⟩ := bind_some h
          split at h
          · rename_i hh
            obtain ⟨l, h2, rfl⟩ := map_some h
            have ev : E.ev Γ (.dsp qs l) = fun s h => (evF (l.map fun x => E.ev Γ x) s h).bind (dspO qs) := by
              rw [evF_map]
              funext s h
              simp only [E.ev]
            exact snd_plain (fun _ _ => rfl) fun X F W g => by
              rw [ev]
              exact se_dsp (mapO_some h1) (ses_map ihc g h2) hh.2.2.2 hh.1 hh.2.1 hh.2.2.1
          · cases h
      cases ks with
      | nil =>
        cases vs with
        | nil =>
          simp only [compE] at h
          injection h with h
          subst h
          have ev : E.ev Γ (.dnw (c.m p)) = fun s h => dnwO (c.m p) h := by
            funext s h
            simp only [E.ev]
          exact snd_plain (fun _ _ => rfl) fun X F W g => by
            rw [ev]
            exact se_dnw _
        | cons v vs =>
          simp only [compE] at h
          exact main _ _ h
      | cons k ks =>
        simp only [compE] at h
        exact main _ _ h
    | IfExp t a b p =>
      simp only [compE] at h
      obtain ⟨x, h1, h⟩ := bind_some h
      obtain ⟨y, h2, h⟩ := bind_some h
      obtain ⟨z, h3, rfl⟩ := map_some h
      have ev : E.ev Γ (.ite x y z) = fun s h => iteR (x.ev Γ s h) (y.ev Γ s) (z.ev Γ s) := by funext s h; simp only [E.ev]
      have q : ∀ X F W, Good X F W Γ c k → SE X F W (.IfExp t a b p) (E.ev Γ (.ite x y z)) := fun X F W g => by
        rw [ev]
        exact se_ite ((ihc t x h1).st X F W g) ((ihc a y h2).se X F W g) ((ihc b z h3).se X F W g)
      refine ⟨q, fun X F W g => ?_⟩
      rw [ev]
      exact st_ite ((ihc t x h1).st X F W g) ((ihc a y h2).st X F W g) ((ihc b z h3).st X F W g)
    | Compare a ops cs p =>
      cases ops with
      | nil => simp only [compE] at h; cases h
      | cons op ops =>
        cases ops with
        | nil =>
          cases cs with
          | nil => simp only [compE] at h; cases h
          | cons b cs =>
            cases cs with
            | nil =>
              simp only [compE] at h
              obtain ⟨o, h1, h⟩ := bind_some h
              obtain ⟨x, h2, h⟩ := bind_some h
              obtain ⟨y, h3, rfl⟩ := map_some h
              exact snd_cmp h1 (notSet_mark h3) (ihc a x h2) (ihc b y h3)
            | cons _ _ => simp only [compE] at h; cases h
        | cons op' ops =>
          cases ops with
          | cons _ _ => cases cs <;> first | (simp only [compE] at h; cases h; done) | (rename_i cs; cases cs <;> first | (simp only [compE] at h; cases h; done) | (rename_i cs; cases cs <;> (simp only [compE] at h; cases h)))
          | nil =>
            cases cs with
            | nil => simp only [compE] at h; cases h
            | cons b cs =>
              cases cs with
              | nil => simp only [compE] at h; cases h
              | cons d cs =>
                cases cs with
                | cons _ _ => simp only [compE] at h; cases h
                | nil =>
                  simp only [compE] at h
                  obtain ⟨o, h1, h⟩ := bind_some h
                  obtain ⟨o', h2, h⟩ := bind_some h
                  obtain ⟨x, h3, h⟩ := bind_some h
                  obtain ⟨y, h4, h⟩ := bind_some h
                  obtain ⟨z, h5, h⟩ := bind_some h
                  split at h
                  · rename_i hp
                    injection h with h
                    subst h
                    exact snd_chain h1 h2 hp (lastMark_of h5) (ihc a x h3) (ihc b y h4) (ihc d z h5)
                  · cases h
    | Tuple es kk p =>
      simp only [compE] at h
      obtain ⟨l, h1, rfl⟩ := map_some h
      have ev : E.ev Γ (.tup l) = fun s h => (E.evs Γ l s h).bind (DL gTup) := by funext s h; simp only [E.ev]
      exact snd_plain (fun _ _ => rfl) fun X F W g => by rw [ev]; exact se_tup ((sa_map ihc h1).1 X F W g)
    | List es p =>
      simp only [compE] at h
      obtain ⟨l, h1, rfl⟩ := map_some h
      have ev : E.ev Γ (.lst (c.m p) l) = fun s h => (E.evs Γ l s h).bind (mkL (c.m p)) := by funext s h; simp only [E.ev]
      exact snd_plain (fun _ _ => rfl) fun X F W g => by rw [ev]; exact se_lst _ ((sa_map ihc h1).1 X F W g)
    | Subscript a b p =>
      have gen : ∀ {x y : E}, compE n c a = some x → compE n c b = some y → Snd Γ k c (.Subscript a b p) (.ix x y) := fun {x y} h1 h2 => by
        have ev : E.ev Γ (.ix x y) = bin2 gIx (x.ev Γ) (y.ev Γ) := by funext s h; simp only [E.ev]
        exact snd_plain (fun _ _ => rfl) fun X F W g => by rw [ev]; exact se_ix (by have := g.u65; omega) g.K (noSl_of h2) ((ihc a x h1).se X F W g) ((ihc b y h2).se X F W g)
      unfold compE at h
      split at h
      all_goals first | (rename_i e0; cases e0; done) | skip
      · rename_i a' i1 i2 i3 i4 i5 e0
        injection e0 with e1 e2 e3
        subst e1 e2 e3
        obtain ⟨x, h1, rfl⟩ := map_some h
        have ev : E.ev Γ (.rev (c.m p) x) = fun s h => (x.ev Γ s h).bind (revG (c.m p)) := by funext s h; simp only [E.ev]
        exact snd_plain (fun _ _ => rfl) fun X F W g => by rw [ev]; exact se_rev _ g.K ((ihc a x h1).se X F W g)
      · rename_i a' lo hi i1 i2 n1 e0
        injection e0 with e1 e2 e3
        subst e1 e2 e3
        obtain ⟨x, h1, h⟩ := bind_some h
        obtain ⟨l, h2, h⟩ := bind_some h
        obtain ⟨m, h3, rfl⟩ := map_some h
        have ev : E.ev Γ (.sl (c.m p) x l m) = fun s h => slR (c.m p) (x.ev Γ s h) (E.evO Γ l s) (E.evO Γ m s) := by funext s h; simp only [E.ev]
        exact snd_plain (fun _ _ => rfl) fun X F W g => by rw [ev]; exact se_slice _ g.K ((ihc a x h1).se X F W g) (so_map ihc h2 g) (so_map ihc h3 g)
      · rename_i a' b' i1 n1 n2 e0
        injection e0 with e1 e2 e3
        subst e1 e2 e3
        obtain ⟨x, h1, h⟩ := bind_some h
        obtain ⟨y, h2, rfl⟩ := map_some h
        exact gen h1 h2
      · cases h
    | Call f es kws p =>
      cases f with
      | Attribute o a apos =>
        cases kws with
        | cons _ _ => cases es <;> (simp only [compE] at h; cases h)
        | nil =>
          have h : (if (rcvOk o && (apos.endLine == p.line) && decide (es.length < 20)) = true then (meOf a es.length).bind fun me => (compE n c o).bind fun x => (mapO (compE n c) es).map fun l => E.mth me x l else none) = some ir := by
            cases es <;> (simp only [compE] at h; exact h)
          split at h
          · rename_i hh
            rw [Bool.and_eq_true, Bool.and_eq_true] at hh
            obtain ⟨me, h1, h⟩ := bind_some h
            obtain ⟨x, h2, h⟩ := bind_some h
            obtain ⟨l, h3, rfl⟩ := map_some h
            obtain ⟨a1, a2, a3⟩ := sa_map (Γ := Γ) (k := k) ihc h3
            have ev : E.ev Γ (.mth me x l) = mthR me.c me.g (x.ev Γ) (E.evs Γ l) := by funext s h; simp only [E.ev]
            exact snd_plain (fun _ _ => rfl) fun X F W g => by
              rw [ev]
              exact se_mth g h1 hh.1.1 hh.1.2 (of_decide_eq_true hh.2) a2 ((ihc o x h2).se X F W g) (a1 X F W g) fun e0 => by
                subst e0
                injection h3 with h3
                subst h3
                funext s h
                simp only [E.evs]
          · cases h
      | Name x px =>
        cases es with
        | nil => simp only [compE] at h; cases h
        | cons e es =>
          cases kws with
          | cons _ _ => simp only [compE] at h; cases h
          | nil =>
            simp only [compE] at h
            split at h
            · rename_i hg
              rw [Bool.and_eq_true] at hg
              obtain ⟨p1, p2, p3⟩ := plain_of hg.2
              split at h
              · rename_i hx
                subst hx
                split at h
                · rename_i T pT
                  split at h
                  · rename_i hh
                    simp only [Bool.and_eq_true, decide_eq_true_eq] at hh
                    obtain ⟨⟨b1, b2⟩, b4⟩ := hh
                    obtain ⟨q1, q2, q3⟩ := plain_of b4
                    split at h
                    · rename_i ha
                      obtain ⟨x, h2, rfl⟩ := map_some h
                      have ev : E.ev Γ (.isE c.exs T x) = fun s h => (x.ev Γ s h).bind (isEG c.exs T) := by funext s h; simp only [E.ev]
                      exact snd_plain (fun _ _ => rfl) fun X F W g => by
                        rw [ev]
                        exact se_isE g.exc ha g.K (g.gl _ hg.1) (g.blt _ b1) (g.gl _ b2) q3 q1 (star_each (compE_star h2)) (plain_args fun e' he => by simp at he; subst he; rfl) ((ihc e x h2).se X F W g)
                    split at h
                    rotate_left
                    · cases h
                    rename_i b3
                    obtain ⟨t, h1, h⟩ := bind_some h
                    obtain ⟨x, h2, rfl⟩ := map_some h
                    have ev : E.ev Γ (.isi t x) = fun s h => (x.ev Γ s h).bind (isiG t) := by funext s h; simp only [E.ev]
                    exact snd_plain (fun _ _ => rfl) fun X F W g => by
                      rw [ev]
                      exact se_isi g.K (g.gl _ hg.1) (g.blt _ b1) (g.gl _ b2) (g.blt _ b3) (tyName_boot h1) q3 q1 (star_each (compE_star h2)) (plain_args fun e' he => by simp at he; subst he; rfl) ((ihc e x h2).se X F W g)
                  · cases h
                · cases h
              · split at h
                rotate_left
                · rename_i hcal
                  split at h
                  · rename_i ha
                    obtain ⟨l, h1, rfl⟩ := map_some h
                    obtain ⟨rfl, hb⟩ := ha
                    have ev : E.ev Γ (.bi .any l) = fun s h => (E.evs Γ l s h).bind (DL gAny) := by funext s h; simp only [E.ev]; rfl
                    obtain ⟨a1, a2, a3⟩ := sa_map (Γ := Γ) (k := k) ihc h1
                    exact snd_plain (fun _ _ => rfl) fun X F W g => by
                      rw [ev]
                      exact any_ok (Bool.eq_false_iff.mpr hcal) g (g.gl _ hg.1) (g.blt _ hb) a2 (a1 X F W g)
                  · cases h
                rename_i hcal
                split at h
                · rename_i ks hks
                  obtain ⟨l, h1, rfl⟩ := map_some h
                  have ev : E.ev Γ (.lrng (c.m p) ks.1 l) = fun s h => (E.evs Γ l s h).bind (lrG (c.m p) ks.1) := by funext s h; simp only [E.ev]
                  exact snd_plain (fun _ _ => rfl) fun X F W g => by
                    rw [ev]
                    exact lrng_ok hcal ihc g hg.1 hks h1
                split at h
                · rename_i ks hks
                  obtain ⟨l, h1, rfl⟩ := map_some h
                  have ev : E.ev Γ (.xf ks.1 l) = fun s h => (E.evs Γ l s h).bind ks.1.g := by funext s h; simp only [E.ev]
                  exact snd_plain (fun _ _ => rfl) fun X F W g => by
                    rw [ev]
                    exact xK_ok hcal ihc g hg.1 hks h1
                · split at h
                  · rename_i b hb
                    split at h
                    · rename_i hm
                      obtain ⟨l, h1, rfl⟩ := map_some h
                      have ev : E.ev Γ (.bi b.2 l) = fun s h => (E.evs Γ l s h).bind b.2.g := by funext s h; simp only [E.ev]
                      obtain ⟨a1, a2, a3⟩ := sa_map (Γ := Γ) (k := k) ihc h1
                      exact snd_plain (fun _ _ => rfl) fun X F W g => by
                        rw [ev]
                        exact bi_ok hcal hb g (g.gl _ hg.1) (g.blt _ (of_decide_eq_true hm)) a2 (a1 X F W g)
                    · cases h
                  · obtain ⟨j, h1, h⟩ := bind_some h
                    obtain ⟨l, h2, rfl⟩ := map_some h
                    have ev : E.ev Γ (.call j l) = fun s h => (E.evs Γ l s h).bind (callR Γ j) := by funext s h; simp only [E.ev]
                    obtain ⟨a1, a2, a3⟩ := sa_map (Γ := Γ) (k := k) ihc h2
                    exact snd_plain (fun _ _ => rfl) fun X F W g => by
                      rw [ev]
                      exact se_callU hcal g (g.gl _ hg.1) h1 p1 a2 (a1 X F W g)
            · cases h
      | _ => cases es <;> cases kws <;> (simp only [compE] at h; cases h)
    | ListComp elt gs scope p =>
      cases gs with
      | nil => simp only [compE] at h; cases h
      | cons g0 gs =>
        cases gs with
        | cons _ _ => simp only [compE] at h; cases h
        | nil =>
          obtain ⟨tg, iter, ifs, az⟩ := g0
          by_cases haz : az = 0
          · subst haz
            have lp := lc_parts (k := k) (Γ := Γ) ih h
            exact snd_plain (fun _ _ => rfl) fun X F W g => lc_se lp g
          · simp only [compE] at h
            rw [if_neg (fun z => haz z.1)] at h
            cases h
    | Attribute o a pos =>
      cases o with
      | Name x p =>
        simp only [compE] at h
        split at h
        · rename_i ha
          subst ha
          obtain ⟨y, h1, rfl⟩ := map_some h
          have ev : E.ev Γ (.had c.exs y) = fun s h => (y.ev Γ s h).bind (hadG c.exs) := by funext s h; simp only [E.ev]
          exact snd_plain (fun _ _ => rfl) fun X F W g => by
            rw [ev]
            exact se_had g.exc g.K ((ihc _ y h1).se X F W g) rfl
        · cases h
      | _ => simp only [compE] at h; cases h
    | _ => simp only [compE] at h; cases h
end
end Gx

/-! G12: statements; a def by its text. -/
namespace Gx
open PySem L2
section
variable {X : Cx} {F : Fr} {W : WX} {Γ : Mir} {c : Cfg} {k n m : Nat}
structure GoodS (X : Cx) (F : Fr) (W : WX) (Γ : Mir) (c : Cfg) (k : Nat) : Prop where
  g : Good X F W Γ c k
  po : PassesOwn (model X.prog X.w) X.A X.env X.xe
  sc : X.env.scope = c.sc
  kd : X.env.scope.kind = .function
  st : X.stack = X.env :: X.outer
  fm : X.env.frame = some X.env.locals
theorem swaps_plain {e : Expr} {x : E} (h : compE m c e = some x) (hc : isComp e = false) {t : Option Expr} {l : Nat} {env : Env} : swapsWith e t l env = pure false := by
  cases e <;> first | rfl | (cases hc; done)
theorem sole_plain {e : Expr} {x : E} (h : compE m c e = some x) (hc : isComp e = false) {t : Expr} {l : Nat} {env : Env} : swapsWithSole [t] e l env = pure false := by
  cases e <;> first | rfl | (cases hc; done)
theorem ss_tset {tg e : Expr} {tp : Bool} {is : List Nat} {f : SD → Hs → R D} {pos : Pos} (hs : swapsWithSole [tg] e pos.line X.env = pure false) (hw : swappedStores [tg] e X.env = pure none) (h1 : (assignEach [tg] X.env).map (·.2) = [assign tg X.env])
    (hg : PG X tg (tgG F.K tp is)) (ht : TgOk F is (tgF tp is) (tgG F.K tp is)) (he : SE X F W e f) : SS X F W (.Assign [tg] e pos) (fun s h => (f s h).thenO s (tsetO tp is s)) := by
  refine PS.imp (ps_asg he hg hs hw h1) fun Dn σ H ⟨G, h, s, t, o⟩ => partS t o fun d v h2 G2 H2 T t2 x o2 => ?_
  unfold tsetO at o2
  cases q : tgF tp is d s with
  | none => rw [q] at o2; exact o2.elim
  | some s' =>
    rw [q] at o2
    exact ht G2 H2 h2 σ s v d s' t2 x q _ fun vs t' => o2 G2 _ H2 (Step.refl _ _) t'
theorem sb_map {N : Nat} {f : Stmt → Option S} {X : Cx} {F : Fr} {W : WX} (ih : ∀ st s, f st = some s → SS X F W st (s.ev Γ N)) : ∀ {sts : List Stmt} {l : List S}, mapO f sts = some l → SB X F W sts (S.evs Γ N l)
  | [], l, h => by
    injection h with h
    subst h
    have ev : S.evs Γ N [] = fun s h => .nx s h := by funext s h; simp only [S.evs]
    rw [ev]
    exact sb_nil
  | st :: sts, l, h => by
    obtain ⟨x, l', h1, h2, rfl⟩ := mapO_cons h
    have ev : S.evs Γ N (x :: l') = fun s h => (x.ev Γ N s h).seq (S.evs Γ N l') := by funext s h; simp only [S.evs]
    rw [ev]
    exact sb_cons (ih st x h1) (sb_map ih h2)
theorem cutB_ok {ct : Bool} {sts : List Stmt} {f : SD → Hs → O} (h : SB X F W sts f) : SB X F W sts (cutB ct f) := by
  cases ct with
  | false => exact h
  | true => exact sb_cut h
theorem GoodS.tr (g : GoodS X F W Γ c k) {W' : WX} {pn : List (Addr × Obj)} {xe : Value → Shared → Prop} (tk : Takes (X.tr pn xe) W') (po : PassesOwn (model X.prog X.w) X.A X.env xe) : GoodS (X.tr pn xe) F W' Γ c k :=
  ⟨⟨g.g.N, g.g.nd, g.g.K, g.g.calm, g.g.vis, g.g.fr, g.g.sto, g.g.gl, g.g.blt, g.g.room, g.g.u65, g.g.hot, g.g.fns, tk, g.g.exc, g.g.cst⟩, po, g.sc, g.kd, g.st, g.fm⟩
theorem ExcT.fr {mg : Str → Option Value} {exs ask : List Str} (g : ExcT F mg exs ask) (a : Option Addr) : ExcT (F.with a) mg exs ask := ⟨g.ec, fun y h => ⟨(g.ask y h).own⟩, g.rs, g.sh⟩
theorem GoodS.suite (g : GoodS X F W Γ c k) (a : Addr) (pn : List (Addr × Obj)) : GoodS (X.suite a pn) (F.with (some a)) W0 Γ { c with calm := false } k :=
  ⟨⟨g.g.N, g.g.nd, g.g.K, fun h => (nomatch h), g.g.vis, g.g.fr, g.g.sto, g.g.gl, g.g.blt, fun h => (nomatch h), g.g.u65, fun _ => ⟨a, rfl, rfl⟩, fun h => (nomatch h), takes0, g.g.exc.fr _, fun x d h => let ⟨u, v, h1, h2, h3⟩ := g.g.cst x d h; ⟨u, v, h1, h2, fun G H => VR.fr (F := F) (F' := F.with (some a)) rfl rfl d (h3 G H)⟩⟩, PassesOwn.never, g.sc, g.kd, g.st, g.fm⟩
theorem compS_ok {N : Nat} : ∀ (n : Nat) {c : Cfg} {X : Cx} {F : Fr} {W : WX} (g : GoodS X F W Γ c k) (st : Stmt) (s : S), compS m c n st = some s → SS X F W st (s.ev Γ N)
  | 0, _, _, _, _, _, _, _, h => by cases h
  | n + 1, c, X, F, W, g, st, s, h => by
    have ih := fun st s h => compS_ok (N := N) n g st s h
    have ge := g.g
    have E0 := fun e ir h => compE_ok (Γ := Γ) (k := k) m c e ir h
    unfold compS at h
    split at h
    · rename_i y py e pos
      split at h
      · rename_i hs
        obtain ⟨i, h1, h⟩ := bind_some h
        obtain ⟨x, h2, rfl⟩ := map_some h
        have hi : X.N[i]? = some y := by rw [ge.N]; exact ixOf_get h1
        have hN : X.N.Nodup := by rw [ge.N]; exact ge.nd
        obtain ⟨k1, k2⟩ := ge.sto y hs
        have ev : S.ev Γ N (.set i x) = fun s h => (x.ev Γ s h).thenO s (setO i s) := by funext s h; simp only [S.ev]
        rw [ev]
        by_cases hc : isComp e = true
        · cases e with
          | ListComp elt gs scope p =>
            by_cases hsw : (X.env.kindOf y == some NameKind.local && py.line == p.line && !(scope.names.any fun (n, k) => n == y && (k == .local || k == .cell))) = true
            · cases m with
              | zero => cases h2
              | succ m =>
              cases gs with
              | nil => simp only [compE] at h2; cases h2
              | cons g0 gs =>
                cases gs with
                | cons _ _ => simp only [compE] at h2; cases h2
                | nil =>
                  obtain ⟨tg, iter, ifs, az⟩ := g0
                  by_cases haz : az = 0
                  · subst haz
                    simp only [Bool.and_eq_true] at hsw
                    have hyl : X.env.scope.names.lookup y = some .local := eq_of_beq hsw.1.1
                    exact lc_set (lc_parts (fun c e ir h => compE_ok m c e ir h) h2) ge hi hyl (sw_true g.kd hyl hsw.1.2 (by simpa using hsw.2))
                  · simp only [compE] at h2
                    rw [if_neg (fun z => haz z.1)] at h2
                    cases h2
            · refine ss_set hN hi k1 ?_ k2 ((E0 _ x h2).se X F W ge)
              have hb : X.env.blockKind = .function := by unfold Env.blockKind; rw [g.kd]; rfl
              have hsw' := Bool.eq_false_iff.mpr hsw
              unfold swapsWith
              simp only [hb, Expr.pos]
              show (pure _ : Sem Bool) = pure false
              congr 1
          | SetComp _ _ _ _ => cases m <;> first | (cases h2; done) | (simp only [compE] at h2; cases h2)
          | DictComp _ _ _ _ _ => cases m <;> first | (cases h2; done) | (simp only [compE] at h2; cases h2)
          | _ => cases hc
        · exact ss_set hN hi k1 (swaps_plain h2 (Bool.eq_false_iff.mpr hc)) k2 ((E0 _ x h2).se X F W ge)
      · cases h
    · rename_i es kt pt e pos
      split at h
      · cases h
      · rename_i hh
        rw [Bool.or_eq_true, not_or] at hh
        have e1 := Bool.eq_false_iff.mpr hh.1
        have e2 := Bool.eq_false_iff.mpr hh.2
        obtain ⟨gt, h1, h⟩ := bind_some h
        obtain ⟨x, h2, rfl⟩ := map_some h
        have ev : S.ev Γ N (.tset gt.1 gt.2 x) = fun s h => (x.ev Γ s h).thenO s (tsetO gt.1 gt.2 s) := by funext s h; simp only [S.ev]
        rw [ev]
        obtain ⟨a1, a2⟩ := comp_tg (Γ := Γ) (k := k) h1
        refine ss_tset ?_ ?_ rfl (a1 X F W ge) (a2 F) ((E0 _ x h2).se X F W ge)
        · exact sole_plain h2 e2
        · cases e <;> first | rfl | (cases e1; done)
    · rename_i o i po e pos
      split at h
      · cases h
      · rename_i hh
        have e2 := Bool.eq_false_iff.mpr hh
        obtain ⟨x, h1, h⟩ := bind_some h
        obtain ⟨kk, h2, h⟩ := bind_some h
        obtain ⟨y, h3, rfl⟩ := map_some h
        have ev : S.ev Γ N (.store x kk y) = storeO (y.ev Γ) (x.ev Γ) (kk.ev Γ) := by funext s h; simp only [S.ev]
        rw [ev]
        refine PS.imp (ps_asg ((E0 _ y h3).se X F W ge) (pg_sub ((E0 _ x h1).se X F W ge) ((E0 _ kk h2).se X F W ge) (set_any (by have := ge.u65; omega)) (fun v => ?_)) (sole_plain h3 e2) rfl rfl) fun Dn σ H ⟨G, h, s, t, o⟩ => store_go t o
        have hns := noSl_of h2
        cases m with
        | zero => cases h2
        | succ m => cases i <;> first | rfl | (simp only [compE] at h2; cases h2)
    · rename_i y py op e pos
      split at h
      · rename_i hs
        rw [Bool.and_eq_true] at hs
        obtain ⟨i, h1, h⟩ := bind_some h
        obtain ⟨x, h2, h⟩ := bind_some h
        have hi : X.N[i]? = some y := by rw [ge.N]; exact ixOf_get h1
        have hN : X.N.Nodup := by rw [ge.N]; exact ge.nd
        obtain ⟨k1, k2⟩ := ge.sto y hs.2
        split at h
        · injection h with h
          subst h
          have ev : S.ev Γ N (.aug i .add x) = augO i gAdd (x.ev Γ) := by funext s h; simp only [S.ev, Op.g]
          rw [ev]
          refine PS.imp (ps_aug hN hi k1 ((E0 _ x h2).se X F W ge) ip_add k2) fun Dn σ H ⟨G, h, s, t, o⟩ => aug_go (f := fun i j => i + j) (fun _ a y z hz => ?_) t o
          cases y <;> first | (cases hz; done) | (injection hz with hz; exact ⟨_, rfl, hz.symm⟩)
        · injection h with h
          subst h
          have ev : S.ev Γ N (.aug i .sub x) = augO i gSub (x.ev Γ) := by funext s h; simp only [S.ev, Op.g]
          rw [ev]
          refine PS.imp (ps_aug hN hi k1 ((E0 _ x h2).se X F W ge) ip_sub k2) fun Dn σ H ⟨G, h, s, t, o⟩ => aug_go (f := fun i j => i - j) (fun _ a y z hz => ?_) t o
          cases y <;> first | (cases hz; done) | (injection hz with hz; exact ⟨_, rfl, hz.symm⟩)
        · cases h
      · cases h
    · injection h with h
      subst h
      have ev : S.ev Γ N .retN = fun s h => .rt .non h := by funext s h; simp only [S.ev]
      rw [ev]
      exact ss_retN
    · rename_i e pos
      obtain ⟨x, hv, rfl⟩ := map_some h
      have ev : S.ev Γ N (.ret x) = fun s h => (x.ev Γ s h).thenO s .rt := by funext s h; simp only [S.ev]
      rw [ev]
      exact ss_ret ((E0 _ x hv).se X F W ge)
    · rename_i t a b pos
      obtain ⟨x, h1, h⟩ := bind_some h
      obtain ⟨y, h2, h⟩ := bind_some h
      obtain ⟨z, h3, rfl⟩ := map_some h
      have ev : S.ev Γ N (.iff x y z) = fun s h => (x.ev Γ s h).thenO s (ifO s (S.evs Γ N y) (S.evs Γ N z)) := by funext s h; simp only [S.ev]
      rw [ev]
      exact ss_if ((E0 _ x h1).st X F W ge) (sb_map ih h2) (sb_map ih h3)
    · rename_i tg iter body pos
      split at h
      · rename_i kx hkx
        split at h
        rotate_left
        · cases h
        rename_i i hvar
        obtain ⟨gt, h2, h⟩ := bind_some h
        split at h
        rotate_left
        · cases h
        rename_i hz
        rw [Bool.and_eq_true] at hz
        obtain ⟨hz, hcal⟩ := hz
        obtain ⟨b, h3, rfl⟩ := map_some h
        have ev : S.ev Γ N (.dlp (c.cut pos) kx.1 i gt.1 gt.2 b) = fun s h => dlpO kx.1 i (turnO (tgF gt.1 gt.2) (cutB (c.cut pos) (S.evs Γ N b))) s h := by funext s h; simp only [S.ev]
        rw [ev]
        obtain ⟨a1, a2⟩ := comp_tg (Γ := Γ) (k := k) h2
        have sv : SE X F W kx.2 (fun s h => getS s i h) := by
          have := (E0 _ _ hvar).se X F W ge
          have e2 : E.ev Γ (.var i) = fun s h => getS s i h := by funext s h; simp only [E.ev]
          rw [e2] at this
          exact this
        obtain ⟨kd, xe⟩ := kx
        refine ss_dlp ?_
        unfold dlK at hkx
        split at hkx
        · split at hkx
          · injection hkx with hkx
            injection hkx with e1 e2
            subst e1 e2
            exact ss_for g.po (ge.calm hcal) (fun x => rfl) (si_keys sv) (a1 X F W ge) (a2 F) (cutB_ok (sb_map ih h3))
          · cases hkx
        · split at hkx
          · rename_i hit
            injection hkx with hkx
            injection hkx with e1 e2
            subst e1 e2
            obtain ⟨ha, hl⟩ := hit
            subst ha
            have hg : gt.1 = true := by simpa using hz
            unfold compG at h2
            split at h2
            · obtain ⟨i', _, rfl⟩ := map_some h2
              cases hg
            · exact ss_for g.po (ge.calm hcal) (fun x => rfl) (si_items sv rfl hl) (a1 X F W ge) (a2 F) (cutB_ok (sb_map ih h3))
            · cases h2
          · cases hkx
        · cases hkx
      · obtain ⟨ks, h1, h⟩ := bind_some h
        obtain ⟨gt, h2, h⟩ := bind_some h
        split at h
        rotate_left
        · cases h
        rename_i hz
        rw [Bool.and_eq_true] at hz
        obtain ⟨hz, hcal⟩ := hz
        obtain ⟨b, h3, rfl⟩ := map_some h
        have ev : S.ev Γ N (.loop (c.cut pos) ks.1 ks.2 gt.1 gt.2 b) = fun s h => ((E.evs Γ ks.2 s h).bind (itG ks.1)).thenO s fun z h => forC z.c (turnO (tgF gt.1 gt.2) (cutB (c.cut pos) (S.evs Γ N b))) z.ds s h := by funext s h; simp only [S.ev]
        rw [ev]
        obtain ⟨a1, a2⟩ := comp_tg (Γ := Γ) (k := k) h2
        obtain ⟨i1, i2⟩ := compI_ok E0 h1 ge tg (zip_tup hz h2)
        exact ss_for g.po (ge.calm hcal) i2 i1 (a1 X F W ge) (a2 F) (cutB_ok (sb_map ih h3))
    · rename_i t body pos
      obtain ⟨x, h1, h⟩ := bind_some h
      obtain ⟨b, h2, rfl⟩ := map_some h
      have ev : S.ev Γ N (.whl (c.cut pos) x b) = fun s h => whL (x.ev Γ) (cutB (c.cut pos) (S.evs Γ N b)) N s h := by funext s h; simp only [S.ev]
      rw [ev]
      exact ss_while N g.po ((E0 _ x h1).st X F W ge) (cutB_ok (sb_map ih h2))
    · rename_i f es kws cpos pos
      obtain ⟨x, h1, rfl⟩ := map_some h
      have ev : S.ev Γ N (.expr x) = fun s h => (x.ev Γ s h).thenO s fun _ h => .nx s h := by funext s h; simp only [S.ev]
      rw [ev]
      exact ss_expr rfl ((E0 _ x h1).se X F W ge)
    · injection h with h
      subst h
      have ev : S.ev Γ N .pass = fun s h => .nx s h := by funext s h; simp only [S.ev]
      rw [ev]; exact ss_pass
    · injection h with h
      subst h
      have ev : S.ev Γ N .brk = fun s h => .bk s h := by funext s h; simp only [S.ev]
      rw [ev]; exact ss_break
    · injection h with h
      subst h
      have ev : S.ev Γ N .cont = fun s h => .ct s h := by funext s h; simp only [S.ev]
      rw [ev]; exact ss_continue
    · rename_i x px e cp pos
      split at h
      · rename_i hh
        simp only [Bool.and_eq_true, decide_eq_true_eq] at hh
        obtain ⟨⟨⟨c1, c2⟩, c3⟩, c4⟩ := hh
        split at h
        · rename_i hx
          subst hx
          obtain ⟨y, h1, rfl⟩ := map_some h
          have ev : S.ev Γ N (.rsS y) = fun s h => (y.ev Γ s h).thenO s (rsVO s) := by funext s h; simp only [S.ev]
          rw [ev]
          exact ss_raiseS ge.exc c2 ge.K (ge.calm c1) (ge.room c1) ge.tk (ge.gl _ c3) (star_each (compE_star h1)) ((E0 _ y h1).se X F W ge)
        · rename_i hx
          split at h
          · injection h with h
            subst h
            have ev : S.ev Γ N (.rs x) = fun s h => .rs x none s h := by funext s h; simp only [S.ev]
            rw [ev]
            exact ss_raise ge.exc c2 hx ge.K (ge.calm c1) ge.tk (ge.gl _ c3) (plain_of c4).1
          · cases h
      · injection h with h
        subst h
        have ev : S.ev Γ N .no = fun s h => .stk := by funext s h; simp only [S.ev]
        rw [ev]; exact ss_never
    · injection h with h
      subst h
      have ev : S.ev Γ N .no = fun s h => .stk := by funext s h; simp only [S.ev]
      rw [ev]; exact ss_never
    · rename_i y np b0 suite pos' pos
      split at h
      · rename_i hh
        simp only [Bool.and_eq_true, decide_eq_true_eq] at hh
        obtain ⟨⟨⟨c1, c2⟩, c3⟩, c4⟩ := hh
        obtain ⟨b, h1, h⟩ := bind_some h
        obtain ⟨su, h2, rfl⟩ := map_some h
        have ev : S.ev Γ N (.tr c.exs y none b su) = trO c.exs y none (S.evs Γ N b) (S.evs Γ N su) := by funext s h; simp only [S.ev]
        rw [ev]
        exact ss_try0 ge.exc c1 c2 ge.K (ge.gl _ c3) (plain_of c4).1 g.st g.fm ge.tk (fun W' pn xe tk po => sb_map (fun st s h => compS_ok (N := N) n (g.tr tk po) st s h) h1) (fun a pn => sb_map (fun st s h => compS_ok (N := N) n (g.suite a pn) st s h) h2)
      · cases h
    · rename_i y np x b0 suite pos' pos
      split at h
      · rename_i hh
        simp only [Bool.and_eq_true, decide_eq_true_eq] at hh
        obtain ⟨⟨⟨⟨c1, c2⟩, c3⟩, c4⟩, c5⟩ := hh
        obtain ⟨i, h0, h⟩ := bind_some h
        obtain ⟨b, h1, h⟩ := bind_some h
        obtain ⟨su, h2, rfl⟩ := map_some h
        have ev : S.ev Γ N (.tr c.exs y (some i) b su) = trO c.exs y (some i) (S.evs Γ N b) (S.evs Γ N su) := by funext s h; simp only [S.ev]
        rw [ev]
        have hln : X.env.kindOf x = some .local := by
          show X.env.scope.names.lookup x = _
          rw [g.sc]
          exact eq_of_beq c5
        exact ss_try ge.exc c1 c2 ge.K (ge.gl _ c3) (plain_of c4).1 g.st g.fm (by rw [ge.N]; exact ge.nd) (by rw [ge.N]; exact ixOf_get h0) hln ge.tk (fun W' pn xe tk po => sb_map (fun st s h => compS_ok (N := N) n (g.tr tk po) st s h) h1) (fun a pn => sb_map (fun st s h => compS_ok (N := N) n (g.suite a pn) st s h) h2)
      · cases h
    · cases h
end
/-! ### defs -/
/- what is handed back: the store's new objects are gone, what they held goes along -/
mutual
def D.fz (k : Nat) (f : Nat → D) : D → D
  | .ref n => if n < k then .ref n else f n
  | .tup l => .tup (fzL k f l)
  | .vl l => .vl (fzL k f l)
  | .non => .non
  | .bl b => .bl b
  | .int i => .int i
  | .str x => .str x
  | .sl l => .sl l
  | .vd k l => .vd k l
  | .exc c p => .exc c p
def fzL (k : Nat) (f : Nat → D) : List D → List D
  | [] => []
  | d :: r => d.fz k f :: fzL k f r
end
def fzR : Nat → Hs → Nat → Nat → D
  | 0, _, _, n => .ref n
  | f + 1, h, k, n => match h[n]? with
    | some (.lst l) => .vl (fzL k (fzR f h k) l)
    | some (.dic ks l) => .vd ks (fzL k (fzR f h k) l)
    | _ => .ref n
def fzD (h : Hs) (k : Nat) (d : D) : D := d.fz k (fzR 3 h k)
open Classical in
/-- back from a def -/
noncomputable def backR (keep : Bool) (h0 : Hs) (d : D) (h : Hs) : R D := match keep with
  | true => .ok d h
  | false => if (fzD h h0.length d).bel h0.length = true ∧ ClB h0 h then .ok (fzD h h0.length d) (h.take h0.length) else .stk
section
variable {F : Fr} {G G' : Gh} {H H' : Hp} {h h' : Hs} {k : Nat}
mutual
theorem VR.fz (r : HR F G H h) (f : Nat → D) (hf : ∀ n v, k ≤ n → VR F G H (.ref n) v → (f n).bel k = true → VR F (G.cut k) H (f n) v) : ∀ (d : D) {v : V}, (d.fz k f).bel k = true → VR F G H d v → VR F (G.cut k) H (d.fz k f) v
  | .non, _, b, h => VR.cut r k _ b h
  | .bl _, _, b, h => VR.cut r k _ b h
  | .int _, _, b, h => VR.cut r k _ b h
  | .str _, _, b, h => VR.cut r k _ b h
  | .exc _ _, _, b, h => VR.cut r k _ b h
  | .sl l, _, b, h => VR.cut r k _ b h
  | .vd ks l, _, b, h => VR.cut r k _ b h
  | .tup l, _, b, h => by
    obtain ⟨p, xs, e, hs, hl⟩ := vr_tup.mp h
    exact vr_tup.mpr ⟨p, xs, e, hs, VRL.fz r f hf l (by simpa [D.fz, D.bel] using b) hl⟩
  | .vl l, _, b, h => by
    obtain ⟨p, xs, e, hs, hl⟩ := vr_vl.mp h
    exact vr_vl.mpr ⟨p, xs, e, ⟨hs.1, fun w => hs.2 w.1⟩, VRL.fz r f hf l (by simpa [D.fz, D.bel] using b) hl⟩
  | .ref n, _, b, h => by
    by_cases hn : n < k
    · have e : (D.ref n).fz k f = .ref n := by unfold D.fz; rw [if_pos hn]
      rw [e] at b ⊢
      exact VR.cut r k _ b h
    · have e : (D.ref n).fz k f = f n := by unfold D.fz; rw [if_neg hn]
      rw [e] at b ⊢
      exact hf n _ (by omega) h b
theorem VRL.fz (r : HR F G H h) (f : Nat → D) (hf : ∀ n v, k ≤ n → VR F G H (.ref n) v → (f n).bel k = true → VR F (G.cut k) H (f n) v) : ∀ (l : List D) {xs : List V}, belL k (fzL k f l) = true → VRL F G H l xs → VRL F (G.cut k) H (fzL k f l) xs
  | [], _, _, hh => vrl_nil.mpr (vrl_nil.mp hh)
  | d :: t, _, b, hh => by
    obtain ⟨v, vr, e, h1, h2⟩ := vrl_cons.mp hh
    have b' : (d.fz k f).bel k = true ∧ belL k (fzL k f t) = true := by simpa [fzL, belL] using b
    exact vrl_cons.mpr ⟨v, vr, e, VR.fz r f hf d b'.1 h1, VRL.fz r f hf t b'.2 h2⟩
end
theorem fzR_ok (r : HR F G H h) : ∀ (m n : Nat) (v : V), k ≤ n → VR F G H (.ref n) v → (fzR m h k n).bel k = true → VR F (G.cut k) H (fzR m h k n) v
  | 0, n, v, hn, x, b => by simp [fzR, D.bel] at b; omega
  | m + 1, n, v, hn, x, b => by
    unfold fzR at b ⊢
    split at b
    · rename_i l e
      obtain ⟨p, xs, rfl, hp, hu, hl⟩ := ref_lst r x e
      exact vr_vl.mpr ⟨p, xs, rfl, ⟨.inl hu, fun w => w.2 n hn hp⟩, VRL.fz r _ (fun n v h1 h2 h3 => fzR_ok r m n v h1 h2 h3) l (by simpa [D.bel] using b) hl⟩
    · rename_i ks l e
      obtain ⟨p, rfl, hp⟩ := vr_ref.mp x
      obtain ⟨p', hp', u, hu, qs, vs, rfl, hl, h1, h2⟩ := r.obj n _ e
      rw [hp] at hp'
      injection hp' with hp'
      subst hp'
      have b' : belL k ks = true ∧ belL k (fzL k (fzR m h k) l) = true := by simpa [D.bel] using b
      exact vr_vd.mpr ⟨p, qs, vs, rfl, ⟨hu, fun w => w.2 n hn hp⟩, hl, VRL.cut r k ks b'.1 h1, VRL.fz r _ (fun n v h1 h2 h3 => fzR_ok r m n v h1 h2 h3) l b'.2 h2⟩
    · simp [D.bel] at b; omega
/-- a value handed back -/
theorem back_ok {h0 : Hs} {keep : Bool} {d z : D} {v : V} (r0 : HR F G H h0) (T : Step G H G' H') (r : HR F G' H' h) (x : VR F G' H' d v) (e : backR keep h0 d h = .ok z h') : ∃ G2, Step G H G2 H' ∧ HR F G2 H' h' ∧ VR F G2 H' z v := by
  cases keep with
  | true =>
    injection e with e1 e2
    subst e1 e2
    exact ⟨G', T, r, x⟩
  | false =>
    unfold backR at e
    dsimp only at e
    split at e
    · rename_i hb
      obtain ⟨hb, hc⟩ := hb
      injection e with e1 e2
      subst e1 e2
      exact ⟨G'.cut h0.length, Step.cut r0 r (Nat.le_refl _) T, r.cut _ (hc.cl r0), VR.fz r _ (fun n v h1 h2 h3 => fzR_ok r 3 n v h1 h2 h3) d hb x⟩
    · cases e
end
open Classical in
noncomputable def runF (Γ : Mir) (keep : Bool) (n N np : Nat) (b : List S) (ds : List D) (h : Hs) : R D :=
  if ds.length = np then match S.evs Γ n b (ds.map some ++ List.replicate (N - np) none) h with
    | .rt d h' => backR keep h d h'
    | .nx _ h' => backR keep h .non h'
    | .rs c p _ h' => if ClB h h' then .rs c p (h'.take h.length) else .stk
    | _ => .stk
  else .stk
section
variable {P : Program} {w : World} {K : PySem.W.Frag} {mg : Str → Option Value} {base : Heap} {Γ : Mir} {F : Fr}
/-- the lower defs, by their names -/
abbrev Low (P : Program) (w : World) (F : Fr) (mg : Str → Option Value) (base : Heap) (Γ : Mir) (fid : List (Str × Nat)) (k : Nat) : Prop :=
  ∀ x j, fid.lookup x = some j → ∃ f fd ps, mg x = some (.ref f) ∧ PySem.W.keepIn F.K (.ref f) = true ∧ Binds F.K fd ps [] ∧ FnOk P w F.K mg base (L2N.CX P w) k f fd ps (spOf F (Γ j).1 (Γ j).2)
theorem Low.mono {fid : List (Str × Nat)} {j k : Nat} (h : Low P w F mg base Γ fid j) (l : j ≤ k) : Low P w F mg base Γ fid k := fun x i e => by
  obtain ⟨f, fd, ps, a, b, c, d⟩ := h x i e
  exact ⟨f, fd, ps, a, b, c, d.mono l⟩
theorem st_start {G : Gh} {H : Hp} {h : Hs} {N : Nat} {ds : List D} {vs : List V} (hr : HR F G H h) (r : VRL F G H ds vs) :
    St F G h (ds.map some ++ List.replicate (N - ds.length) none) (vs.map some ++ List.replicate (N - vs.length) none) H := by
  have l1 := r.length
  refine ⟨fun i d e => ?_, hr, by simp [l1]⟩
  rcases Nat.lt_or_ge i ds.length with hl | hl
  · rw [List.getElem?_append_left (by simpa using hl), List.getElem?_map] at e
    cases q : ds[i]? with
    | none => rw [q] at e; cases e
    | some d' =>
      rw [q] at e
      injection e with e
      injection e with e
      subst e
      obtain ⟨v, a, b⟩ := VRL.get r q
      refine ⟨v, ?_, b⟩
      rw [List.getElem?_append_left (by rw [List.length_map, l1]; exact hl), List.getElem?_map, a]
      rfl
  · rw [List.getElem?_append_right (by simpa using hl)] at e
    rw [List.getElem?_replicate] at e
    split at e
    · injection e with e; cases e
    · cases e
theorem fn_run {x qual : Str} {st : Stmt} {f : Addr} {fd : FuncData} {ps : List Str} {k n m : Nat} {keep : Bool} {c : Cfg} {b : List S} (Fn : Fun F.K x qual st f fd) (Sc : FnScope c.N ps (defScope st)) (hsc : c.sc = defScope st)
    (hc : mapO (compS m c m) (defBody st) = some b) (hblt : ∀ x ∈ c.blt, mg x = none) (hfs : Low P w F mg base Γ c.fid k)
    (hcst : ∀ x d, c.cst.lookup x = some d → ∃ u v, mg x = some u ∧ RelV v u ∧ ∀ G H, VR F G H d v) (hex : ExcT F mg c.exs c.ask) (hcal : c.calm = true) : FnOk P w F.K mg base (L2N.CX P w) (k + 1) f fd ps (spOf F ps.length (runF Γ keep n c.N.length ps.length b)) := by
  refine L2.Fun_okN Fn Sc (fun vs H Q E h => ?_) fun cdv A outer s H vs Q E hr h => ?_
  · obtain ⟨G, hh, ds, l, _, r, _⟩ := h
    rw [r.length, l]
  · obtain ⟨G, hh, ds, l, r0, r, o⟩ := h
    have gs : GoodS (cxOf (L2N.CX P w) P w F.K mg base c.N qual (defScope st) f cdv A outer s H E) F (fun cls d _ H => E cls d H) Γ c k := by
      refine ⟨⟨rfl, Sc.nd, rfl, fun _ => rfl, fun y h => ?_, fun y h => ?_, fun y h => ⟨?_, .inl rfl⟩, fun y h => ?_, hblt, fun _ => hr, ?_, fun z => (by rw [hcal] at z; cases z), fun _ => hfs, L2N.takes_of rfl rfl rfl rfl, hex, hcst⟩, passes_of rfl, hsc.symm, Sc.kind, rfl, rfl⟩
      · rw [hsc] at h
        unfold visC at h
        show (defScope st).names.lookup y = _ ∨ (defScope st).names.lookup y = _ ∨ (defScope st).names.lookup y = _
        split at h
        · exact .inl ‹_›
        · exact .inr (.inl ‹_›)
        · exact .inr (.inr ‹_›)
        · cases h
      · rw [hsc] at h; exact h
      · rw [hsc] at h
        unfold stoC at h
        show (defScope st).names.lookup y = _ ∨ (defScope st).names.lookup y = _
        split at h
        · exact .inl ‹_›
        · exact .inr ‹_›
        · cases h
      · rw [hsc] at h
        unfold glC at h
        show (defScope st).names.lookup y = _
        split at h
        · assumption
        · cases h
      · have := hr.un
        show (A.deeper _).units + 65 < cLine
        omega
    refine ⟨liftS F (fun cls d _ H => E cls d H) (S.evs Γ n b), sb_map (fun st' s' e => compS_ok m gs st' s' e) hc, ?_⟩
    have lv := r.length
    refine ⟨G, hh, ds.map some ++ List.replicate (c.N.length - ds.length) none, st_start r0 r, ?_⟩
    unfold runF at o
    rw [if_pos l, ← l] at o
    revert o
    cases S.evs Γ n b (ds.map some ++ List.replicate (c.N.length - ds.length) none) hh with
    | nx s' h' =>
      intro o G' σ' H' T t
      dsimp only at o
      cases q : backR keep hh .non h' with
      | ok z h2 =>
        rw [q] at o
        obtain ⟨G2, a1, a2, a3⟩ := back_ok r0 T t.hr (vr_non.mpr rfl) q
        exact o .non G2 H' a1 a2 a3
      | rs c p h2 => unfold backR at q; split at q <;> first | cases q | (split at q <;> cases q)
      | stk => rw [q] at o; exact o.elim
    | bk s' h' => exact fun o => o.elim
    | ct s' h' => exact fun o => o.elim
    | rt d h' =>
      intro o v G' H' T r' x
      dsimp only at o
      cases q : backR keep hh d h' with
      | ok z h2 =>
        rw [q] at o
        obtain ⟨G2, a1, a2, a3⟩ := back_ok r0 T r' x q
        exact o v G2 H' a1 a2 a3
      | rs c p h2 => unfold backR at q; split at q <;> first | cases q | (split at q <;> cases q)
      | stk => rw [q] at o; exact o.elim
    | rs c p s' h' =>
      intro o
      dsimp only at o
      by_cases hc : ClB hh h'
      · rw [if_pos hc] at o
        exact fun G' σ' H' dct T t pp => o _ H' dct (Step.cut r0 t.hr (Nat.le_refl _) T) (t.hr.cut _ (hc.cl r0)) pp.cut
      · rw [if_neg hc] at o
        exact o.elim
    | stk => exact fun o => o.elim
end
mutual
def D.beq : D → D → Bool
  | .non, .non => true
  | .bl a, .bl b => a == b
  | .int a, .int b => a == b
  | .str a, .str b => a == b
  | .tup a, .tup b => D.beqL a b
  | _, _ => false
def D.beqL : List D → List D → Bool
  | [], [] => true
  | a :: r, b :: t => D.beq a b && D.beqL r t
  | _, _ => false
end
mutual
def E.beq : E → E → Bool
  | .var i, .var j => i == j
  | .int i, .int j => i == j
  | .bl a, .bl b => a == b
  | .str a, .str b => a == b
  | .non, .non => true
  | .cst a, .cst b => D.beq a b
  | .op o a b, .op o' a' b' => decide (o = o') && E.beq a a' && E.beq b b'
  | .neg a, .neg b => E.beq a b
  | .not a, .not b => E.beq a b
  | .and a b, .and a' b' => E.beq a a' && E.beq b b'
  | .or a b, .or a' b' => E.beq a a' && E.beq b b'
  | .ite c a b, .ite c' a' b' => E.beq c c' && E.beq a a' && E.beq b b'
  | .ch o p a b c, .ch o' p' a' b' c' => decide (o = o') && decide (p = p') && E.beq a a' && E.beq b b' && E.beq c c'
  | .tup a, .tup b => E.beqL a b
  | .lst m a, .lst n b => m == n && E.beqL a b
  | .ix a b, .ix a' b' => E.beq a a' && E.beq b b'
  | .sl m a b c, .sl m' a' b' c' => m == m' && E.beq a a' && E.beqL b b' && E.beqL c c'
  | .rev m a, .rev m' a' => m == m' && E.beq a a'
  | .lrng m k l, .lrng m' k' l' => m == m' && k == k' && E.beqL l l'
  | .xf x l, .xf x' l' => decide (x = x') && E.beqL l l'
  | .dsp q l, .dsp q' l' => decide (q = q') && E.beqL l l'
  | .dnw m, .dnw m' => m == m'
  | .d1 a b, .d1 a' b' => E.beq a a' && E.beq b b'
  | .mth me o l, .mth me' o' l' => decide (me = me') && E.beq o o' && E.beqL l l'
  | .bi b l, .bi b' l' => decide (b = b') && E.beqL l l'
  | .isi T e, .isi T' e' => decide (T = T') && E.beq e e'
  | .own c a b, .own c' a' b' => c == c' && E.beq a a' && E.beq b b'
  | .isE cs y e, .isE cs' y' e' => decide (cs = cs') && decide (y = y') && E.beq e e'
  | .had cs e, .had cs' e' => decide (cs = cs') && E.beq e e'
  | .call j l, .call j' l' => j == j' && E.beqL l l'
  | .lc m k a tp is t e vs, .lc m' k' a' tp' is' t' e' vs' => m == m' && k == k' && E.beqL a a' && tp == tp' && is == is' && E.beqL t t' && E.beq e e' && vs == vs'
  | _, _ => false
def E.beqL : List E → List E → Bool
  | [], [] => true
  | a :: r, b :: t => E.beq a b && E.beqL r t
  | _, _ => false
end
mutual
def S.beq : S → S → Bool
  | .set i e, .set j e' => i == j && E.beq e e'
  | .tset tp is e, .tset tp' is' e' => tp == tp' && is == is' && E.beq e e'
  | .store i k e, .store i' k' e' => E.beq i i' && E.beq k k' && E.beq e e'
  | .aug i o e, .aug i' o' e' => i == i' && decide (o = o') && E.beq e e'
  | .ret e, .ret e' => E.beq e e'
  | .retN, .retN => true
  | .expr e, .expr e' => E.beq e e'
  | .iff c a b, .iff c' a' b' => E.beq c c' && S.beqL a a' && S.beqL b b'
  | .dlp ct k i tp is b, .dlp ct' k' i' tp' is' b' => ct == ct' && k == k' && i == i' && tp == tp' && is == is' && S.beqL b b'
  | .loop ct k s tp is b, .loop ct' k' s' tp' is' b' => ct == ct' && k == k' && E.beqL s s' && tp == tp' && is == is' && S.beqL b b'
  | .whl ct c b, .whl ct' c' b' => ct == ct' && E.beq c c' && S.beqL b b'
  | .pass, .pass => true
  | .brk, .brk => true
  | .cont, .cont => true
  | .no, .no => true
  | .rs x, .rs y => decide (x = y)
  | .rsS e, .rsS e' => E.beq e e'
  | .tr cs y i b s, .tr cs' y' i' b' s' => decide (cs = cs') && decide (y = y') && decide (i = i') && S.beqL b b' && S.beqL s s'
  | _, _ => false
def S.beqL : List S → List S → Bool
  | [], [] => true
  | a :: r, b :: t => S.beq a b && S.beqL r t
  | _, _ => false
end
mutual
theorem D.beq_eq : ∀ (a b : D), D.beq a b = true → a = b
  | .non, b, h => by cases b <;> simp_all [D.beq]
  | .bl a, b, h => by cases b <;> simp_all [D.beq]
  | .int a, b, h => by cases b <;> simp_all [D.beq]
  | .str a, b, h => by cases b <;> simp_all [D.beq]
  | .tup a, b, h => by
    cases b <;> simp [D.beq] at h
    rename_i l
    rw [D.beqL_eq a l h]
  | .vl l, b, h => by cases b <;> simp_all [D.beq]
  | .sl l, b, h => by cases b <;> simp_all [D.beq]
  | .vd k l, b, h => by cases b <;> simp_all [D.beq]
  | .ref n, b, h => by cases b <;> simp_all [D.beq]
  | .exc c p, b, h => by cases b <;> simp_all [D.beq]
theorem D.beqL_eq : ∀ (a b : List D), D.beqL a b = true → a = b
  | [], b, h => by cases b <;> simp_all [D.beqL]
  | a :: r, b, h => by
    cases b <;> simp [D.beqL] at h
    rename_i b t
    rw [D.beq_eq a b h.1, D.beqL_eq r t h.2]
end
mutual
theorem E.beq_eq : ∀ (a b : E), E.beq a b = true → a = b
  | .var i, b, h => by cases b <;> simp_all [E.beq]
  | .int i, b, h => by cases b <;> simp_all [E.beq]
  | .bl i, b, h => by cases b <;> simp_all [E.beq]
  | .str i, b, h => by cases b <;> simp_all [E.beq]
  | .non, b, h => by cases b <;> simp_all [E.beq]
  | .cst d, b, h => by
    cases b <;> simp [E.beq] at h
    rw [D.beq_eq _ _ h]
  | .op o x y, b, h => by
    cases b <;> simp [E.beq] at h
    rw [h.1.1, E.beq_eq _ _ h.1.2, E.beq_eq _ _ h.2]
  | .neg x, b, h => by
    cases b <;> simp [E.beq] at h
    rw [E.beq_eq _ _ h]
  | .not x, b, h => by
    cases b <;> simp [E.beq] at h
    rw [E.beq_eq _ _ h]
  | .and x y, b, h => by
    cases b <;> simp [E.beq] at h
    rw [E.beq_eq _ _ h.1, E.beq_eq _ _ h.2]
  | .or x y, b, h => by
    cases b <;> simp [E.beq] at h
    rw [E.beq_eq _ _ h.1, E.beq_eq _ _ h.2]
  | .ite x y z, b, h => by
    cases b <;> simp [E.beq] at h
    rw [E.beq_eq _ _ h.1.1, E.beq_eq _ _ h.1.2, E.beq_eq _ _ h.2]
  | .ch o p x y z, b, h => by
    cases b <;> simp [E.beq] at h
    rw [h.1.1.1.1, h.1.1.1.2, E.beq_eq _ _ h.1.1.2, E.beq_eq _ _ h.1.2, E.beq_eq _ _ h.2]
  | .tup l, b, h => by
    cases b <;> simp [E.beq] at h
    rw [E.beqL_eq _ _ h]
  | .dnw m, b, h => by
    cases b <;> simp [E.beq] at h
    rw [h]
  | .d1 x y, b, h => by
    cases b <;> simp [E.beq] at h
    rw [E.beq_eq _ _ h.1, E.beq_eq _ _ h.2]
  | .dsp q l, b, h => by
    cases b <;> simp [E.beq] at h
    rw [h.1, E.beqL_eq _ _ h.2]
  | .lst m l, b, h => by
    cases b <;> simp [E.beq] at h
    rw [h.1, E.beqL_eq _ _ h.2]
  | .rev m x, b, h => by
    cases b <;> simp [E.beq] at h
    rw [h.1, E.beq_eq _ _ h.2]
  | .lrng m k l, b, h => by
    cases b <;> simp [E.beq] at h
    rw [h.1.1, h.1.2, E.beqL_eq _ _ h.2]
  | .xf x l, b, h => by
    cases b <;> simp [E.beq] at h
    rw [h.1, E.beqL_eq _ _ h.2]
  | .mth me o l, b, h => by
    cases b <;> simp [E.beq] at h
    rw [h.1.1, E.beq_eq _ _ h.1.2, E.beqL_eq _ _ h.2]
  | .ix x y, b, h => by
    cases b <;> simp [E.beq] at h
    rw [E.beq_eq _ _ h.1, E.beq_eq _ _ h.2]
  | .sl m x y z, b, h => by
    cases b <;> simp [E.beq] at h
    rw [h.1.1.1, E.beq_eq _ _ h.1.1.2, E.beqL_eq _ _ h.1.2, E.beqL_eq _ _ h.2]
  | .bi o l, b, h => by
    cases b <;> simp [E.beq] at h
    rw [h.1, E.beqL_eq _ _ h.2]
  | .isi T e, b, h => by
    cases b <;> simp [E.beq] at h
    rw [h.1, E.beq_eq _ _ h.2]
  | .own k x y, b, h => by
    cases b <;> simp [E.beq] at h
    rw [h.1.1, E.beq_eq _ _ h.1.2, E.beq_eq _ _ h.2]
  | .isE cs y e, b, h => by
    cases b <;> simp [E.beq] at h
    rw [h.1.1, h.1.2, E.beq_eq _ _ h.2]
  | .had cs e, b, h => by
    cases b <;> simp [E.beq] at h
    rw [h.1, E.beq_eq _ _ h.2]
  | .call j l, b, h => by
    cases b <;> simp [E.beq] at h
    rw [h.1, E.beqL_eq _ _ h.2]
  | .lc m k a tp is t e vs, b, h => by
    cases b <;> simp [E.beq] at h
    obtain ⟨⟨⟨⟨⟨⟨⟨h0, h1⟩, h2⟩, h3⟩, h4⟩, h5⟩, h6⟩, h7⟩ := h
    rw [h0, h1, E.beqL_eq _ _ h2, h3, h4, E.beqL_eq _ _ h5, E.beq_eq _ _ h6, h7]
theorem E.beqL_eq : ∀ (a b : List E), E.beqL a b = true → a = b
  | [], b, h => by cases b <;> simp_all [E.beqL]
  | a :: r, b, h => by
    cases b <;> simp [E.beqL] at h
    rename_i b t
    rw [E.beq_eq a b h.1, E.beqL_eq r t h.2]
end
mutual
theorem S.beq_eq : ∀ (a b : S), S.beq a b = true → a = b
  | .set i e, b, h => by
    cases b <;> simp [S.beq] at h
    rw [h.1, E.beq_eq _ _ h.2]
  | .tset tp is e, b, h => by
    cases b <;> simp [S.beq] at h
    rw [h.1.1, h.1.2, E.beq_eq _ _ h.2]
  | .store i k e, b, h => by
    cases b <;> simp [S.beq] at h
    rw [E.beq_eq _ _ h.1.1, E.beq_eq _ _ h.1.2, E.beq_eq _ _ h.2]
  | .aug i o e, b, h => by
    cases b <;> simp [S.beq] at h
    rw [h.1.1, h.1.2, E.beq_eq _ _ h.2]
  | .ret e, b, h => by
    cases b <;> simp [S.beq] at h
    rw [E.beq_eq _ _ h]
  | .retN, b, h => by cases b <;> simp_all [S.beq]
  | .expr e, b, h => by
    cases b <;> simp [S.beq] at h
    rw [E.beq_eq _ _ h]
  | .iff c x y, b, h => by
    cases b <;> simp [S.beq] at h
    rw [E.beq_eq _ _ h.1.1, S.beqL_eq _ _ h.1.2, S.beqL_eq _ _ h.2]
  | .dlp ct k s tp is x, b, h => by
    cases b <;> simp [S.beq] at h
    obtain ⟨⟨⟨⟨⟨h0, h1⟩, h2⟩, h3⟩, h4⟩, h5⟩ := h
    rw [h0, h1, h2, h3, h4, S.beqL_eq _ _ h5]
  | .loop ct k s tp is x, b, h => by
    cases b <;> simp [S.beq] at h
    obtain ⟨⟨⟨⟨⟨h0, h1⟩, h2⟩, h3⟩, h4⟩, h5⟩ := h
    rw [h0, h1, E.beqL_eq _ _ h2, h3, h4, S.beqL_eq _ _ h5]
  | .whl ct c x, b, h => by
    cases b <;> simp [S.beq] at h
    rw [h.1.1, E.beq_eq _ _ h.1.2, S.beqL_eq _ _ h.2]
  | .pass, b, h => by cases b <;> simp_all [S.beq]
  | .brk, b, h => by cases b <;> simp_all [S.beq]
  | .cont, b, h => by cases b <;> simp_all [S.beq]
  | .no, b, h => by cases b <;> simp_all [S.beq]
  | .rs x, b, h => by
    cases b <;> simp [S.beq] at h
    rw [h]
  | .rsS e, b, h => by
    cases b <;> simp [S.beq] at h
    rw [E.beq_eq _ _ h]
  | .tr cs y i x z, b, h => by
    cases b <;> simp [S.beq] at h
    rw [h.1.1.1.1, h.1.1.1.2, h.1.1.2, S.beqL_eq _ _ h.1.2, S.beqL_eq _ _ h.2]
theorem S.beqL_eq : ∀ (a b : List S), S.beqL a b = true → a = b
  | [], b, h => by cases b <;> simp_all [S.beqL]
  | a :: r, b, h => by
    cases b <;> simp [S.beqL] at h
    rename_i b t
    rw [S.beq_eq a b h.1, S.beqL_eq r t h.2]
end
def isB : Option (List S) → List S → Bool
  | some a, b => S.beqL a b
  | none, _ => false
theorem comp_eq {o : Option (List S)} {b : List S} (h : isB o b = true) : o = some b := by
  cases o with
  | none => cases h
  | some a => rw [S.beqL_eq a b h]
/-! ### the joints -/
def mirA (l : List (Nat × Nat × (List D → Hs → R D))) : Mir := fun i => match l.lookup i with
  | some x => x
  | none => (0, fun _ _ => .stk)
section
variable {P : Program} {w : World} {K : PySem.W.Frag} {mg : Str → Option Value} {base : Heap} {Γ : Mir} {F : Fr}
theorem low_nil {k : Nat} : Low P w F mg base Γ [] k := fun x j h => by simp at h
theorem low_cons {k : Nat} {x : Str} {j : Nat} {fid : List (Str × Nat)} {f : Addr} {fd : FuncData} {ps : List Str} {np : Nat} {m : List D → Hs → R D} (h1 : mg x = some (.ref f)) (h2 : PySem.W.keepIn F.K (.ref f) = true) (h3 : Binds F.K fd ps []) (h4 : FnOk P w F.K mg base (L2N.CX P w) k f fd ps (spOf F np m))
    (e : Γ j = (np, m)) (r : Low P w F mg base Γ fid k) : Low P w F mg base Γ ((x, j) :: fid) k := fun y i h => by
  rw [List.lookup_cons] at h
  split at h
  · rename_i hy
    have hy := eq_of_beq hy
    subst hy
    injection h with h
    subst h
    exact ⟨f, fd, ps, h1, h2, h3, by rw [e]; exact h4⟩
  · exact r y i h
theorem blt_nil : ∀ x ∈ ([] : List Str), mg x = none := fun x h => by cases h
theorem blt_cons {y : Str} {l : List Str} (h : mg y = none) (r : ∀ x ∈ l, mg x = none) : ∀ x ∈ y :: l, mg x = none := fun x hx => by
  rcases List.mem_cons.mp hx with e | e
  · rw [e]; exact h
  · exact r x e
abbrev CstOk (F : Fr) (mg : Str → Option Value) (l : List (Str × D)) : Prop := ∀ x d, l.lookup x = some d → ∃ u v, mg x = some u ∧ RelV v u ∧ ∀ G H, VR F G H d v
theorem cst_nil : CstOk F mg [] := fun x d h => by simp at h
theorem cst_int {y : Str} {i : Int} {t : Tok} {l : List (Str × D)} (h : mg y = some (.int i t)) (r : CstOk F mg l) : CstOk F mg ((y, .int i) :: l) := fun x d hx => by
  rw [List.lookup_cons] at hx
  split at hx
  · rename_i hy
    have hy := eq_of_beq hy
    subst hy
    injection hx with hx
    subst hx
    exact ⟨_, .int i, h, ⟨t, rfl⟩, fun G H => vr_int.mpr rfl⟩
  · exact r x d hx
end
/-- the script, as it is given -/
def script (ns : List Int) : D := .sl (ns.map .int)
theorem law_sp {F : Fr} {m : List D → Hs → R D} {n : Nat} (hm : ∀ ns : List Int, ns.length ≤ n → ∃ h', m [script ns] [] = .ok (.bl true) h') {H : Hp} {a : Addr} {ns : List Int} (hl : ns.length ≤ n) (h0 : F.hot = none) (hS : SqL F.K H a (ns.map V.int)) :
    spOf F 1 m [.ref a] H (fun v _ => v = .bl true) fun _ _ _ => False := by
  refine ⟨⟨fun _ => none, fun _ => False⟩, [], [script ns], rfl, ⟨fun n o e => (nomatch e), fun n p e => (nomatch e), fun m n p e => (nomatch e), fun n p e => (nomatch e), fun p b => b.elim, fun a e => by rw [h0] at e; cases e⟩, ?_, ?_⟩
  · refine vrl_one.mpr (vr_sl.mpr ⟨a, ns.map V.int, rfl, ?_, vrl_of_ints⟩)
    rcases hS with h | h
    · exact .inl ⟨h, fun z => z⟩
    · exact .inr h
  · obtain ⟨h', e⟩ := hm ns hl
    rw [e]
    intro v G' H' T r x
    exact vr_bl.mp x
theorem law_walk {l : PySem.W.OpenLaw} {q : Program} {loose : List Str} {XP : (Str → Option Value) → Heap → Prop} {YP : World → Heap → Prop} {d : DefRec} {K : Params → PySem.W.Frag} {k : Nat} {x : Str} {F0 : PySem.W.Frag → Fr} {m : List D → Hs → R D} (hn : l.most = some 63) (hdf : d.params.defaults = []) (hr : Room k PySem.callerA)
    (hK : ∀ K, (F0 K).K = K) (hm : ∀ ns : List Int, ns.length ≤ 63 → ∃ h', m [script ns] [] = .ok (.bl true) h')
    (hh0 : ∀ K, (F0 K).hot = none) (hY : ∀ (w : World) (h : Heap), YP w h → (K w.params).In h)
    (F : ∀ (w : World) (mg : Str → Option Value) (fa : Addr) (h : Heap), (K w.params).In h → h.Ns mainGlobals mg → mg d.name = some (.ref fa) →
      ∃ fd : FuncData, (∀ (s : Shared) (u : Value), BindsTo s fd ⟨[u], []⟩ [(x, u)]) ∧ ∀ base : Heap, (K w.params).In base → base.Ns mainGlobals mg → FnOk l.prog w (K w.params) mg base (L2N.CX l.prog w) k fa fd [x] (spOf (F0 (K w.params)) 1 m)) :
    PySem.W.WalkO q loose XP YP l.row.toRowW d [] (fun f vs => PySem.call f vs) :=
  L2.walk_of (n := 63) (k := k) (x := x) (CX := fun w => L2N.CX l.prog w) (sp := fun w => spOf (F0 (K w.params)) 1 m) hn (by decide) hdf hr hY F (fun _ _ a ns hl _ hS => law_sp hm hl (hh0 _) (by rw [hK]; exact hS)) fun w H s e s' z => by
    obtain ⟨_, _, _, _, _, _, _, _, _, _, _, _, z⟩ := z
    exact z
end Gx

/-! G13: what a def computes: rewriting. -/
namespace Gx
open PySem L2
section
variable {Γ : Mir} {n : Nat} {s : SD} {h : Hs}
@[simp] theorem evs_nil : S.evs Γ n [] s h = .nx s h := by simp only [S.evs]
@[simp] theorem evs_cons {a : S} {r : List S} : S.evs Γ n (a :: r) s h = (a.ev Γ n s h).seq (S.evs Γ n r) := by simp only [S.evs]
@[simp] theorem s_set {i : Nat} {e : E} : S.ev Γ n (.set i e) s h = (e.ev Γ s h).thenO s (setO i s) := by simp only [S.ev]
@[simp] theorem s_tset {tp : Bool} {is : List Nat} {e : E} : S.ev Γ n (.tset tp is e) s h = (e.ev Γ s h).thenO s (tsetO tp is s) := by simp only [S.ev]
@[simp] theorem s_store {o k e : E} : S.ev Γ n (.store o k e) s h = storeO (e.ev Γ) (o.ev Γ) (k.ev Γ) s h := by simp only [S.ev]
@[simp] theorem s_aug {i : Nat} {o : Op} {e : E} : S.ev Γ n (.aug i o e) s h = augO i o.g (e.ev Γ) s h := by simp only [S.ev]
@[simp] theorem s_ret {e : E} : S.ev Γ n (.ret e) s h = (e.ev Γ s h).thenO s .rt := by simp only [S.ev]
@[simp] theorem s_retN : S.ev Γ n .retN s h = .rt .non h := by simp only [S.ev]
@[simp] theorem s_expr {e : E} : S.ev Γ n (.expr e) s h = (e.ev Γ s h).thenO s fun _ h => .nx s h := by simp only [S.ev]
@[simp] theorem s_iff {c : E} {a b : List S} : S.ev Γ n (.iff c a b) s h = (c.ev Γ s h).thenO s (ifO s (S.evs Γ n a) (S.evs Γ n b)) := by simp only [S.ev]
@[simp] theorem s_loop {ct : Bool} {k : Nat} {src : List E} {tp : Bool} {is : List Nat} {body : List S} : S.ev Γ n (.loop ct k src tp is body) s h = ((E.evs Γ src s h).bind (itG k)).thenO s fun z h => forC z.c (turnO (tgF tp is) (cutB ct (S.evs Γ n body))) z.ds s h := by simp only [S.ev]
@[simp] theorem s_whl {ct : Bool} {c : E} {body : List S} : S.ev Γ n (.whl ct c body) s h = whL (c.ev Γ) (cutB ct (S.evs Γ n body)) n s h := by simp only [S.ev]
@[simp] theorem s_pass : S.ev Γ n .pass s h = .nx s h := by simp only [S.ev]
@[simp] theorem s_brk : S.ev Γ n .brk s h = .bk s h := by simp only [S.ev]
@[simp] theorem s_cont : S.ev Γ n .cont s h = .ct s h := by simp only [S.ev]
@[simp] theorem s_no : S.ev Γ n .no s h = .stk := by simp only [S.ev]
@[simp] theorem e_var {i : Nat} : E.ev Γ (.var i) s h = getS s i h := by simp only [E.ev]
@[simp] theorem e_int {i : Int} : E.ev Γ (.int i) s h = .ok (.int i) h := by simp only [E.ev]
@[simp] theorem e_bl {i : Bool} : E.ev Γ (.bl i) s h = .ok (.bl i) h := by simp only [E.ev]
@[simp] theorem e_str {i : Str} : E.ev Γ (.str i) s h = .ok (.str i) h := by simp only [E.ev]
@[simp] theorem e_non : E.ev Γ .non s h = .ok .non h := by simp only [E.ev]
@[simp] theorem e_cst {d : D} : E.ev Γ (.cst d) s h = .ok d h := by simp only [E.ev]
@[simp] theorem e_op {o : Op} {a b : E} : E.ev Γ (.op o a b) s h = (a.ev Γ s h).bind fun x h1 => (b.ev Γ s h1).bind fun y h2 => ofO h2 (o.g h2 x y) := by simp only [E.ev, bin2]
@[simp] theorem e_neg {a : E} : E.ev Γ (.neg a) s h = (a.ev Γ s h).bind fun x h1 => ofO h1 (gNeg h1 x) := by simp only [E.ev, un1]
@[simp] theorem e_not {a : E} : E.ev Γ (.not a) s h = notR (a.ev Γ s h) := by simp only [E.ev]
@[simp] theorem e_and {a b : E} : E.ev Γ (.and a b) s h = andR (a.ev Γ s h) (b.ev Γ s) := by simp only [E.ev]
@[simp] theorem e_or {a b : E} : E.ev Γ (.or a b) s h = orR (a.ev Γ s h) (b.ev Γ s) := by simp only [E.ev]
@[simp] theorem e_ite {c a b : E} : E.ev Γ (.ite c a b) s h = iteR (c.ev Γ s h) (a.ev Γ s) (b.ev Γ s) := by simp only [E.ev]
theorem e_ch {o o' : Op} {p p' : Int → Int → Bool} {a b c : E} (h1 : o.p = some p) (h2 : o'.p = some p') : E.ev Γ (.ch o o' a b c) s h = chR p p' (a.ev Γ s h) (b.ev Γ s) (c.ev Γ s) := by simp only [E.ev, h1, h2]
@[simp] theorem e_tup {es : List E} : E.ev Γ (.tup es) s h = (E.evs Γ es s h).bind (DL gTup) := by simp only [E.ev]
@[simp] theorem e_dsp {qs : List Key} {es : List E} : E.ev Γ (.dsp qs es) s h = (E.evs Γ es s h).bind (dspO qs) := by simp only [E.ev]
@[simp] theorem e_dnw {m : Bool} : E.ev Γ (.dnw m) s h = dnwO m h := by simp only [E.ev]
@[simp] theorem e_d1 {a b : E} : E.ev Γ (.d1 a b) s h = (a.ev Γ s h).bind fun x h1 => (b.ev Γ s h1).bind fun y h2 => d1O x y h2 := by simp only [E.ev]
@[simp] theorem s_dlp {ct tp : Bool} {kd i : Nat} {is : List Nat} {body : List S} : S.ev Γ n (.dlp ct kd i tp is body) s h = dlpO kd i (turnO (tgF tp is) (cutB ct (S.evs Γ n body))) s h := by simp only [S.ev]
@[simp] theorem dnwO_t : dnwO true h = .ok (.ref h.length) (h ++ [.dic [] []]) := by unfold dnwO; simp only
@[simp] theorem dnwO_f : dnwO false h = .ok (.vd [] []) h := by unfold dnwO; simp only
@[simp] theorem d1O_int {i : Int} {b : D} : d1O (.int i) b h = .ok (.ref h.length) (h ++ [.dic [.int i] [b]]) := by simp [d1O, kyD, kD]
@[simp] theorem e_lst {m : Bool} {es : List E} : E.ev Γ (.lst m es) s h = (E.evs Γ es s h).bind (mkL m) := by simp only [E.ev]
@[simp] theorem e_ix {a b : E} : E.ev Γ (.ix a b) s h = (a.ev Γ s h).bind fun x h1 => (b.ev Γ s h1).bind fun y h2 => ofO h2 (gIx h2 x y) := by simp only [E.ev, bin2]
@[simp] theorem e_sl {m : Bool} {a : E} {lo hi : List E} : E.ev Γ (.sl m a lo hi) s h = slR m (a.ev Γ s h) (E.evO Γ lo s) (E.evO Γ hi s) := by simp only [E.ev]
@[simp] theorem e_rev {m : Bool} {a : E} : E.ev Γ (.rev m a) s h = (a.ev Γ s h).bind (revG m) := by simp only [E.ev]
@[simp] theorem e_bi {b : Bi} {es : List E} : E.ev Γ (.bi b es) s h = (E.evs Γ es s h).bind b.g := by simp only [E.ev]
@[simp] theorem e_isi {T : String} {e : E} : E.ev Γ (.isi T e) s h = (e.ev Γ s h).bind (isiG T) := by simp only [E.ev]
@[simp] theorem e_lrng {m : Bool} {k : Nat} {es : List E} : E.ev Γ (.lrng m k es) s h = (E.evs Γ es s h).bind (lrG m k) := by simp only [E.ev]
@[simp] theorem e_xf {x : Xf} {es : List E} : E.ev Γ (.xf x es) s h = (E.evs Γ es s h).bind x.g := by simp only [E.ev]
@[simp] theorem e_call {j : Nat} {es : List E} : E.ev Γ (.call j es) s h = (E.evs Γ es s h).bind (callR Γ j) := by simp only [E.ev]
@[simp] theorem e_mth {me : Me} {o : E} {es : List E} : E.ev Γ (.mth me o es) s h = mthR me.c me.g (o.ev Γ) (E.evs Γ es) s h := by simp only [E.ev]
@[simp] theorem e_lc {m : Bool} {k : Nat} {src : List E} {tp : Bool} {is : List Nat} {tst : List E} {elt : E} {vs : List Nat} : E.ev Γ (.lc m k src tp is tst elt vs) s h = ((E.evs Γ src s h).bind (itG k)).bind (lcO m (tgF tp is) (E.evT Γ tst) (E.ev Γ elt) vs s) := by simp only [E.ev]
@[simp] theorem es_nil : E.evs Γ [] s h = .ok [] h := by simp only [E.evs]
@[simp] theorem es_cons {e : E} {r : List E} : E.evs Γ (e :: r) s h = (e.ev Γ s h).bind fun d h1 => (E.evs Γ r s h1).bind fun ds h2 => .ok (d :: ds) h2 := by simp only [E.evs]
@[simp] theorem et_nil : E.evT Γ [] s h = .ok (.bl true) h := by simp only [E.evT]
@[simp] theorem et_cons {e : E} {r : List E} : E.evT Γ (e :: r) s h = e.ev Γ s h := by simp only [E.evT]
@[simp] theorem eo_nil : E.evO Γ [] s h = .ok none h := by simp only [E.evO]
@[simp] theorem eo_cons {e : E} {r : List E} : E.evO Γ (e :: r) s h = ixR (e.ev Γ s h) := by simp only [E.evO]
end
section
variable {α β : Type} {a : α} {f : α → Hs → R β} {s : SD} {h : Hs} {k : α → Hs → O} {c : Str} {p : Option Int} {g : SD → Hs → O} {d : D}
@[simp] theorem bind_ok : (R.ok a h).bind f = f a h := by generalize e : f a h = y; exact e
@[simp] theorem bind_stk : (R.stk).bind f = .stk := by cases hh : (R.stk).bind f <;> first | rfl | cases hh
@[simp] theorem bind_rs : (R.rs c p h).bind f = .rs c p h := by unfold R.bind; simp only
@[simp] theorem bind_ite {q : Prop} [Decidable q] {x y : R α} : (if q then x else y).bind f = if q then x.bind f else y.bind f := by split <;> rfl
@[simp] theorem thenO_ok : (R.ok a h).thenO s k = k a h := by generalize e : k a h = y; exact e
@[simp] theorem thenO_stk : (R.stk).thenO s k = .stk := by unfold R.thenO; simp only
@[simp] theorem thenO_rs : (R.rs c p h).thenO s k = .rs c p s h := by unfold R.thenO; simp only
@[simp] theorem thenO_ite {q : Prop} [Decidable q] {x y : R α} : (if q then x else y).thenO s k = if q then x.thenO s k else y.thenO s k := by split <;> rfl
@[simp] theorem seq_nx : (O.nx s h).seq g = g s h := by generalize e : g s h = y; exact e
@[simp] theorem seq_rt : (O.rt d h).seq g = .rt d h := by unfold O.seq; simp only
@[simp] theorem seq_bk : (O.bk s h).seq g = .bk s h := by unfold O.seq; simp only
@[simp] theorem seq_ct : (O.ct s h).seq g = .ct s h := by unfold O.seq; simp only
@[simp] theorem seq_rs : (O.rs c p s h).seq g = .rs c p s h := by unfold O.seq; simp only
@[simp] theorem seq_stk : (O.stk).seq g = .stk := by unfold O.seq; simp only
@[simp] theorem seq_ite {q : Prop} [Decidable q] {x y : O} : (if q then x else y).seq g = if q then x.seq g else y.seq g := by split <;> rfl
@[simp] theorem ofO_some : ofO h (some d) = .ok d h := by unfold ofO; simp only
@[simp] theorem ofO_ite {q : Prop} [Decidable q] {x y : Option D} : ofO h (if q then x else y) = if q then ofO h x else ofO h y := by split <;> rfl
theorem DL_def {g : Hs → List D → Option D} {ds : List D} : DL g ds h = ofO h (g h ds) := by unfold DL; simp only
@[simp] theorem getS_0 {r : SD} : getS (some d :: r) 0 h = .ok d h := by simp [getS]
@[simp] theorem getS_s {r : SD} {x : Option D} {i : Nat} : getS (x :: r) (i + 1) h = getS r i h := by simp [getS]
@[simp] theorem setO_of {i : Nat} (l : i < s.length) : setO i s d h = .nx (s.set i (some d)) h := by unfold setO; rw [if_pos l]
@[simp] theorem notR_bl {b : Bool} : notR (.ok (.bl b) h) = .ok (.bl (!b)) h := by unfold notR; rw [bind_ok]
@[simp] theorem andR_bl {b : Bool} {y : Hs → R D} : andR (.ok (.bl b) h) y = if b = true then y h else .ok (.bl false) h := by unfold andR; rw [bind_ok]; cases b <;> simp
@[simp] theorem orR_bl {b : Bool} {y : Hs → R D} : orR (.ok (.bl b) h) y = if b = true then .ok (.bl true) h else y h := by unfold orR; rw [bind_ok]; cases b <;> simp
@[simp] theorem iteR_bl {b : Bool} {x y : Hs → R D} : iteR (.ok (.bl b) h) x y = if b = true then x h else y h := by unfold iteR; rw [bind_ok]; cases b <;> simp
@[simp] theorem ifO_bl {b : Bool} {x y : SD → Hs → O} : ifO s x y (.bl b) h = if b = true then x s h else y s h := by unfold ifO; cases b <;> simp
@[simp] theorem notR_ite {q : Prop} [Decidable q] {x y : R D} : notR (if q then x else y) = if q then notR x else notR y := by split <;> rfl
@[simp] theorem andR_ite {q : Prop} [Decidable q] {x y : R D} {z : Hs → R D} : andR (if q then x else y) z = if q then andR x z else andR y z := by split <;> rfl
@[simp] theorem orR_ite {q : Prop} [Decidable q] {x y : R D} {z : Hs → R D} : orR (if q then x else y) z = if q then orR x z else orR y z := by split <;> rfl
@[simp] theorem iteR_ite {q : Prop} [Decidable q] {x y : R D} {z u : Hs → R D} : iteR (if q then x else y) z u = if q then iteR x z u else iteR y z u := by split <;> rfl
/-- a truth handed on: to a decided form -/
theorem ok_bl_ite {q : Prop} [Decidable q] {x y : Bool} : (if q then R.ok (D.bl x) h else R.ok (D.bl y) h) = R.ok (D.bl (if q then x else y)) h := by split <;> rfl
theorem tset_of {tp : Bool} {is : List Nat} {s' : SD} (e : tgF tp is d s = some s') : tsetO tp is s d h = .nx s' h := by unfold tsetO; rw [e]
@[simp] theorem tgF_one {i : Nat} (l : i < s.length) : tgF false [i] d s = some (s.set i (some d)) := by
  show setN i d s = _
  unfold setN
  rw [if_pos l]
@[simp] theorem tgF_two {i j : Nat} {x y : D} (hi : i < s.length) (hj : j < s.length) : tgF true [i, j] (.tup [x, y]) s = some ((s.set i (some x)).set j (some y)) := by
  show (setN i x s).bind (setMany [j] [y]) = _
  unfold setN
  rw [if_pos hi]
  show (setN j y _).bind (setMany [] []) = _
  unfold setN
  rw [if_pos (by simpa using hj)]
  rfl
@[simp] theorem tgF_three {i j k : Nat} {x y z : D} (hi : i < s.length) (hj : j < s.length) (hk : k < s.length) : tgF true [i, j, k] (.tup [x, y, z]) s = some (((s.set i (some x)).set j (some y)).set k (some z)) := by
  show (setN i x s).bind (setMany [j, k] [y, z]) = _
  unfold setN
  rw [if_pos hi]
  show (setN j y _).bind (setMany [k] [z]) = _
  unfold setN
  rw [if_pos (by simpa using hj)]
  show (setN k z _).bind (setMany [] []) = _
  unfold setN
  rw [if_pos (by simpa using hk)]
  rfl
theorem turnO_of {ft : D → SD → Option SD} {fb : SD → Hs → O} {s' : SD} (e : ft d s = some s') : turnO ft fb d s h = fb s' h := by unfold turnO; rw [e]
@[simp] theorem cutB_f {f : SD → Hs → O} : cutB false f s h = f s h := by unfold cutB; simp only
@[simp] theorem cutB_t {f : SD → Hs → O} : cutB true f s h = (f s h).cut h := by unfold cutB; simp only
@[simp] theorem clB_refl : ClB h h ↔ True := ⟨fun _ => trivial, fun _ n o _ e => .inl e⟩
@[simp] theorem clB_app {l : Hs} : ClB h (h ++ l) ↔ True := ⟨fun _ => trivial, fun _ n o hn e => .inl (by rw [List.getElem?_append_left hn] at e; exact e)⟩
theorem clB_set {h0 : Hs} {n : Nat} {o : HO'} (c : ClB h0 h) (b : o.bel h0.length = true) : ClB h0 (h.set n o) := fun m u hm e => by
  by_cases z : n = m
  · subst z
    by_cases hn : n < h.length
    · rw [List.getElem?_set_self hn] at e
      injection e with e
      subst e
      exact .inr b
    · rw [List.getElem?_eq_none (by rw [List.length_set]; omega)] at e; cases e
  · rw [List.getElem?_set_ne z] at e
    exact c m u hm e
theorem clB_more {h0 l : Hs} (c : ClB h0 h) (b : h0.length ≤ h.length) : ClB h0 (h ++ l) := fun m u hm e => by
  rw [List.getElem?_append_left (by omega)] at e
  exact c m u hm e
@[simp] theorem cut_nx {h0 : Hs} (c : ClB h0 h) : (O.nx s h).cut h0 = .nx (killS h0.length s) (h.take h0.length) := by unfold O.cut; dsimp only; rw [if_pos c]
@[simp] theorem cut_rt {h0 : Hs} : (O.rt d h).cut h0 = .rt d h := by unfold O.cut; simp only
@[simp] theorem cut_bk {h0 : Hs} (c : ClB h0 h) : (O.bk s h).cut h0 = .bk (killS h0.length s) (h.take h0.length) := by unfold O.cut; dsimp only; rw [if_pos c]
@[simp] theorem cut_ct {h0 : Hs} (c : ClB h0 h) : (O.ct s h).cut h0 = .ct (killS h0.length s) (h.take h0.length) := by unfold O.cut; dsimp only; rw [if_pos c]
@[simp] theorem cut_rs {h0 : Hs} {x : Str} {p : Option Int} (c : ClB h0 h) : (O.rs x p s h).cut h0 = .rs x p (killS h0.length s) (h.take h0.length) := by unfold O.cut; dsimp only; rw [if_pos c]
@[simp] theorem cut_ite {q : Prop} [Decidable q] {x y : O} {h0 : Hs} : (if q then x else y).cut h0 = if q then x.cut h0 else y.cut h0 := by split <;> rfl
open Classical in
/-- how a def ends -/
noncomputable def fin (keep : Bool) (k : Hs) : O → R D
  | .rt d h' => backR keep k d h'
  | .nx _ h' => backR keep k .non h'
  | .rs c p _ h' => if ClB k h' then .rs c p (h'.take k.length) else .stk
  | _ => .stk
@[simp] theorem fin_rt {keep : Bool} {k : Hs} : fin keep k (.rt d h) = backR keep k d h := by unfold fin; simp only
@[simp] theorem fin_nx {keep : Bool} {k : Hs} : fin keep k (.nx s h) = backR keep k .non h := by unfold fin; simp only
@[simp] theorem fin_rs {keep : Bool} {k : Hs} (e : ClB k h) : fin keep k (.rs c p s h) = .rs c p (h.take k.length) := by unfold fin; dsimp only; rw [if_pos e]
@[simp] theorem fin_ite {keep : Bool} {k : Hs} {q : Prop} [Decidable q] {x y : O} : fin keep k (if q then x else y) = if q then fin keep k x else fin keep k y := by split <;> rfl
theorem runF_eq {Γ : Mir} {keep : Bool} {n N np : Nat} {b : List S} {ds : List D} (e : ds.length = np) : runF Γ keep n N np b ds h = fin keep h (S.evs Γ n b (ds.map some ++ List.replicate (N - np) none) h) := by
  unfold runF fin
  rw [if_pos e]
  all_goals rfl
end
/-! ### no number of the store -/
mutual
/-- no number of the store in it -/
def D.nr : D → Bool
  | .ref _ => false
  | .tup l => nrL l
  | .vl l => nrL l
  | .sl l => nrL l
  | .vd k l => nrL k && nrL l
  | .non => true
  | .bl _ => true
  | .int _ => true
  | .str _ => true
  | .exc _ _ => true
def nrL : List D → Bool
  | [] => true
  | d :: r => d.nr && nrL r
end
theorem nrL_all : ∀ l : List D, nrL l = l.all D.nr
  | [] => rfl
  | d :: r => by rw [nrL, nrL_all r]; rfl
@[simp] theorem nr_int {i : Int} : (D.int i).nr = true := by simp only [D.nr]
@[simp] theorem nr_bl {i : Bool} : (D.bl i).nr = true := by simp only [D.nr]
@[simp] theorem nr_str {i : Str} : (D.str i).nr = true := by simp only [D.nr]
@[simp] theorem nr_non : D.nr .non = true := by simp only [D.nr]
@[simp] theorem nr_tup {l : List D} : (D.tup l).nr = l.all D.nr := by simp only [D.nr, nrL_all]
@[simp] theorem nr_vl {l : List D} : (D.vl l).nr = l.all D.nr := by simp only [D.nr, nrL_all]
@[simp] theorem nr_sl {l : List D} : (D.sl l).nr = l.all D.nr := by simp only [D.nr, nrL_all]
mutual
theorem D.bel_nr (n : Nat) : ∀ d : D, d.nr = true → d.bel n = true
  | .non, _ => rfl
  | .bl _, _ => rfl
  | .int _, _ => rfl
  | .str _, _ => rfl
  | .exc _ _, _ => rfl
  | .tup l, b => by simpa [D.bel] using belL_nr n l (by simpa [D.nr] using b)
  | .vl l, b => by simpa [D.bel] using belL_nr n l (by simpa [D.nr] using b)
  | .sl l, b => by simpa [D.bel] using belL_nr n l (by simpa [D.nr] using b)
  | .vd k l, b => by
    have b' : nrL k = true ∧ nrL l = true := by simpa [D.nr] using b
    simpa [D.bel] using ⟨belL_nr n k b'.1, belL_nr n l b'.2⟩
  | .ref _, b => by simp [D.nr] at b
theorem belL_nr (n : Nat) : ∀ l : List D, nrL l = true → belL n l = true
  | [], _ => rfl
  | d :: r, b => by
    have b' : d.nr = true ∧ nrL r = true := by simpa [nrL] using b
    simpa [belL] using ⟨D.bel_nr n d b'.1, belL_nr n r b'.2⟩
end
mutual
theorem D.fz_nr (k : Nat) (f : Nat → D) : ∀ d : D, d.nr = true → d.fz k f = d
  | .non, _ => rfl
  | .bl _, _ => rfl
  | .int _, _ => rfl
  | .str _, _ => rfl
  | .exc _ _, _ => rfl
  | .sl _, _ => rfl
  | .vd _ _, _ => rfl
  | .tup l, b => by unfold D.fz; rw [fzL_nr k f l (by simpa [D.nr] using b)]
  | .vl l, b => by unfold D.fz; rw [fzL_nr k f l (by simpa [D.nr] using b)]
  | .ref _, b => by simp [D.nr] at b
theorem fzL_nr (k : Nat) (f : Nat → D) : ∀ l : List D, nrL l = true → fzL k f l = l
  | [], _ => rfl
  | d :: r, b => by
    have b' : d.nr = true ∧ nrL r = true := by simpa [nrL] using b
    unfold fzL
    rw [D.fz_nr k f d b'.1, fzL_nr k f r b'.2]
end
mutual
theorem D.rv_nr (f : Nat → D) : ∀ d : D, d.nr = true → d.rv f = d
  | .non, _ => rfl
  | .bl _, _ => rfl
  | .int _, _ => rfl
  | .str _, _ => rfl
  | .exc _ _, _ => rfl
  | .vd _ _, _ => rfl
  | .tup l, b => by unfold D.rv; rw [rvL_nr f l (by simpa [D.nr] using b)]
  | .vl l, b => by unfold D.rv; rw [rvL_nr f l (by simpa [D.nr] using b)]
  | .sl l, b => by unfold D.rv; rw [rvL_nr f l (by simpa [D.nr] using b)]
  | .ref _, b => by simp [D.nr] at b
theorem rvL_nr (f : Nat → D) : ∀ l : List D, nrL l = true → rvL f l = l
  | [], _ => rfl
  | d :: r, b => by
    have b' : d.nr = true ∧ nrL r = true := by simpa [nrL] using b
    unfold rvL
    rw [D.rv_nr f d b'.1, rvL_nr f r b'.2]
end
theorem rsv_nr {h : Hs} {d : D} (e : d.nr = true) : rsv h d = d := D.rv_nr _ d e
/-- back from a def with what has no number -/
theorem back_nr {h k : Hs} {d : D} (e : d.nr = true) (c : ClB k h) : backR false k d h = .ok d (h.take k.length) := by
  unfold backR fzD
  dsimp only
  rw [D.fz_nr _ _ d e, if_pos ⟨D.bel_nr k.length d e, c⟩]
@[simp] theorem back_t {h k : Hs} {d : D} : backR true k d h = .ok d h := by unfold backR; simp only
/-- a new list handed back -/
theorem back_lst {h k : Hs} {n : Nat} {l : List D} (hk : k.length ≤ n) (e : h[n]? = some (.lst l)) (hl : l.all D.nr = true) (c : ClB k h) : backR false k (.ref n) h = .ok (.vl l) (h.take k.length) := by
  have h1 : fzD h k.length (.ref n) = .vl l := by
    unfold fzD D.fz
    rw [if_neg (by omega)]
    unfold fzR
    rw [e]
    dsimp only
    rw [fzL_nr _ _ l (by rw [nrL_all]; exact hl)]
  unfold backR
  dsimp only
  rw [h1, if_pos ⟨D.bel_nr k.length _ (by rw [nr_vl]; exact hl), c⟩]
@[simp] theorem take_app {h l : Hs} : (h ++ l).take h.length = h := by simp
@[simp] theorem take_all {h : Hs} : h.take h.length = h := by simp
@[simp] theorem killS_nil {k : Nat} : killS k [] = [] := by simp [killS]
@[simp] theorem killS_cons {k : Nat} {s : SD} {d : Option D} : killS k (d :: s) = kill k d :: killS k s := by simp [killS]
@[simp] theorem kill_none {k : Nat} : kill k none = none := by unfold kill; simp only
@[simp] theorem kill_nr {k : Nat} {d : D} (e : d.nr = true) : kill k (some d) = some d := by unfold kill; dsimp only; rw [if_pos (D.bel_nr k d e)]
@[simp] theorem kill_lt {k n : Nat} (e : n < k) : kill k (some (.ref n)) = some (.ref n) := by unfold kill; dsimp only; rw [if_pos (by simpa [D.bel] using e)]
@[simp] theorem kill_ge {k n : Nat} (e : k ≤ n) : kill k (some (.ref n)) = none := by unfold kill; dsimp only; rw [if_neg (by simp [D.bel]; omega)]
/-! ### the store -/
theorem get_app {h l : Hs} {k : Nat} : (h ++ l)[h.length + k]? = l[k]? := by rw [List.getElem?_append_right (by omega)]; congr 1; omega
@[simp] theorem get_app0 {h : Hs} {o : HO'} {l : Hs} : (h ++ o :: l)[h.length]? = some o := by simp
@[simp] theorem set_app0 {h : Hs} {o o' : HO'} {l : Hs} : (h ++ o :: l).set h.length o' = h ++ o' :: l := by simp
@[simp] theorem get_app1 {h : Hs} {o o1 : HO'} {l : Hs} : (h ++ o :: o1 :: l)[h.length + 1]? = some o1 := by rw [get_app]; rfl
@[simp] theorem set_app1 {h : Hs} {o o1 o' : HO'} {l : Hs} : (h ++ o :: o1 :: l).set (h.length + 1) o' = h ++ o :: o' :: l := by
  rw [List.set_append_right _ _ (by omega)]
  congr 1
  have : h.length + 1 - h.length = 1 := by omega
  rw [this]
  rfl
@[simp] theorem putH_of {n : Nat} {o : HO'} {h : Hs} : putH n o h = some (h.set n o) := by unfold putH; simp only
/-! ### values -/
section
variable {h : Hs}
@[simp] theorem gAdd_int {i j : Int} : gAdd h (.int i) (.int j) = some (.int (i + j)) := by unfold gAdd; simp only
@[simp] theorem gSub_int {i j : Int} : gSub h (.int i) (.int j) = some (.int (i - j)) := by unfold gSub; simp only
@[simp] theorem gNeg_int {i : Int} : gNeg h (.int i) = some (.int (-i)) := by unfold gNeg; simp only
@[simp] theorem gLt_int {i j : Int} : gLt h (.int i) (.int j) = some (.bl (decide (i < j))) := by unfold gLt; simp only
@[simp] theorem gLe_int {i j : Int} : gLe h (.int i) (.int j) = some (.bl (decide (i ≤ j))) := by unfold gLe; simp only
@[simp] theorem gGt_int {i j : Int} : gGt h (.int i) (.int j) = some (.bl (decide (j < i))) := by unfold gGt; simp only
@[simp] theorem gGe_int {i j : Int} : gGe h (.int i) (.int j) = some (.bl (decide (j ≤ i))) := by unfold gGe; simp only
theorem gMul_int {i j : Int} (hi : i.natAbs < 2 ^ 240) (hj : j.natAbs < 2 ^ 240) : gMul h (.int i) (.int j) = some (.int (i * j)) := by
  have : (2 : Nat) ^ 512 ≤ big := Nat.pow_le_pow_right (by decide) (by decide)
  unfold gMul
  dsimp only
  rw [if_pos ⟨by omega, by omega⟩]
@[simp] theorem gMod_int {i j : Int} (e : 0 < j) : gMod h (.int i) (.int j) = some (.int (i % j)) := by unfold gMod; dsimp only; rw [if_pos e]
theorem gFdiv_int {i j : Int} (e : 0 < j) (hj : j.natAbs < 2 ^ 240) : gFdiv h (.int i) (.int j) = some (.int (i / j)) := by
  have : (2 : Nat) ^ 512 ≤ big := Nat.pow_le_pow_right (by decide) (by decide)
  unfold gFdiv
  dsimp only
  rw [if_pos ⟨e, by omega⟩]
@[simp] theorem gPow_int {i j : Int} (e : 0 ≤ j) (h1 : j ≤ 1000000) (h2 : i.natAbs < 2 ^ 64) : gPow h (.int i) (.int j) = some (.int (i ^ j.toNat)) := by unfold gPow; dsimp only; rw [if_pos ⟨e, h1, h2⟩]
@[simp] theorem gAdd_tup {l m : List D} (e : l.length + m.length ≤ 16777216) : gAdd h (.tup l) (.tup m) = some (.tup (l ++ m)) := by unfold gAdd; dsimp only; rw [if_pos e]
@[simp] theorem gAdd_vl {l m : List D} (e : l.length + m.length ≤ 16777216) : gAdd h (.vl l) (.vl m) = some (.vl (l ++ m)) := by
  show (if l.length + m.length ≤ 16777216 then some (D.vl (l ++ m)) else none) = _
  rw [if_pos e]
theorem gMul_rep {z k : Int} (h0 : 0 ≤ k) (e : k ≤ 1000000) : gMul h (.vl [.int z]) (.int k) = some (.vl ((List.replicate k.toNat z).map .int)) := by
  show (if k < 2 ^ 63 ∧ -(2 ^ 63) ≤ k ∧ [D.int z].length * k.toNat ≤ 16777216 then some (D.vl (List.replicate k.toNat [D.int z]).flatten) else none) = _
  rw [if_pos ⟨by omega, by omega, by simp; omega⟩]
  congr 2
  induction k.toNat with
  | zero => rfl
  | succ n ih => simp [List.replicate_succ, ih]
theorem eqD_int {i j : Int} : eqD (.int i) (.int j) = decide (i = j) := by
  unfold eqD
  simp only [D.py, PyData.eqv]
  exact Bool.eq_iff_iff.mpr (by simp)
theorem eqD_bl {i j : Bool} : eqD (.bl i) (.bl j) = decide (i = j) := by cases i <;> cases j <;> rfl
@[simp] theorem gNe_int {i j : Int} : gNe h (.int i) (.int j) = some (.bl (decide (i ≠ j))) := by
  unfold gNe
  rw [show dicP h _ _ = none from rfl]
  simp only
  rw [if_pos ⟨rfl, rfl⟩, rsv_nr nr_int, rsv_nr nr_int, eqD_int]
  simp
@[simp] theorem gNe_bl {i j : Bool} : gNe h (.bl i) (.bl j) = some (.bl (decide (i ≠ j))) := by
  unfold gNe
  rw [show dicP h _ _ = none from rfl]
  simp only
  rw [if_pos ⟨rfl, rfl⟩, rsv_nr nr_bl, rsv_nr nr_bl, eqD_bl]
  simp
@[simp] theorem gEq_int {i j : Int} : gEq h (.int i) (.int j) = some (.bl (decide (i = j))) := by
  unfold gEq
  rw [show dicP h _ _ = none from rfl]
  simp only
  rw [if_pos ⟨rfl, rfl⟩, rsv_nr nr_int, rsv_nr nr_int, eqD_int]
@[simp] theorem gEq_bl {i j : Bool} : gEq h (.bl i) (.bl j) = some (.bl (decide (i = j))) := by
  unfold gEq
  rw [show dicP h _ _ = none from rfl]
  simp only
  rw [if_pos ⟨rfl, rfl⟩, rsv_nr nr_bl, rsv_nr nr_bl, eqD_bl]
@[simp] theorem gIs_bl {i j : Bool} : gIs h (.bl i) (.bl j) = some (.bl (decide (i = j))) := by unfold gIs gIs0; simp
@[simp] theorem gIsNot_bl {i j : Bool} : gIsNot h (.bl i) (.bl j) = some (.bl (decide (i ≠ j))) := by unfold gIsNot gIs0; simp
@[simp] theorem gLen_tup {l : List D} : gLen h [.tup l] = some (.int l.length) := by unfold gLen; simp only
@[simp] theorem gLen_vl {l : List D} : gLen h [.vl l] = some (.int l.length) := by simp [gLen, lstH, dicH]
@[simp] theorem gLen_sl {l : List D} : gLen h [.sl l] = some (.int l.length) := by simp [gLen, lstH, dicH]
theorem gLen_ref {n : Nat} {l : List D} (e : h[n]? = some (.lst l)) : gLen h [.ref n] = some (.int l.length) := by simp [gLen, lstH, dicH, e]
@[simp] theorem gTup_of {l : List D} (e : l.length ≤ 16777216) : gTup h l = some (.tup l) := by unfold gTup; rw [if_pos e]
@[simp] theorem mkL_f {l : List D} (e : l.length ≤ 16777216) : mkL false l h = .ok (.vl l) h := by unfold mkL; rw [if_pos e]; simp only [newL]
@[simp] theorem mkL_t {l : List D} (e : l.length ≤ 16777216) : mkL true l h = .ok (.ref h.length) (h ++ [.lst l]) := by unfold mkL; rw [if_pos e]; simp only [newL]
@[simp] theorem newL_f {l : List D} : newL false l h = .ok (.vl l) h := by simp only [newL]
@[simp] theorem newL_t {l : List D} : newL true l h = .ok (.ref h.length) (h ++ [.lst l]) := by simp only [newL]
@[simp] theorem gTupleF_vl {l : List D} : gTupleF h [.vl l] = some (.tup l) := by simp [gTupleF, seqH, lstH]
@[simp] theorem gTupleF_tup {l : List D} : gTupleF h [.tup l] = some (.tup l) := by simp [gTupleF, seqH]
theorem gTupleF_ref {n : Nat} {l : List D} (e : h[n]? = some (.lst l)) : gTupleF h [.ref n] = some (.tup l) := by simp [gTupleF, seqH, lstH, e]
@[simp] theorem gListF_vl {m : Bool} {l : List D} : gListF m [.vl l] h = newL m l h := by simp [gListF, seqH, lstH]
@[simp] theorem gListF_tup {m : Bool} {l : List D} : gListF m [.tup l] h = newL m l h := by simp [gListF, seqH]
@[simp] theorem gListF_sl {m : Bool} {l : List D} : gListF m [.sl l] h = newL m l h := by simp [gListF, seqH, lstH]
theorem gListF_ref {m : Bool} {n : Nat} {l : List D} (e : h[n]? = some (.lst l)) : gListF m [.ref n] h = newL m l h := by simp [gListF, seqH, lstH, e]
theorem blsOf_mapf {α : Type} {p : α → Bool} {l : List α} : blsOf (l.map fun a => D.bl (p a)) = some (l.map p) := by
  induction l with
  | nil => rfl
  | cons a r ih => simp [blsOf, ih]
theorem intsOf_mapf {α : Type} {p : α → Int} {l : List α} : intsOf (l.map fun a => D.int (p a)) = some (l.map p) := by
  induction l with
  | nil => rfl
  | cons a r ih => simp [intsOf, ih]
@[simp] theorem gAll_map {α : Type} {p : α → Bool} {l : List α} : gAll h [.vl (l.map fun a => .bl (p a))] = some (.bl (l.all p)) := by
  simp [gAll, lstH, blsOf_mapf, Function.comp_def]
@[simp] theorem gAny_map {α : Type} {p : α → Bool} {l : List α} : gAny h [.vl (l.map fun a => .bl (p a))] = some (.bl (l.any p)) := by
  simp [gAny, lstH, blsOf_mapf, Function.comp_def]
@[simp] theorem gSum_map {l : List Int} : gSum h [.vl (l.map .int)] = some (.int l.sum) := by simp [gSum, seqH, lstH, intsOf_map]
@[simp] theorem gSum_mapf {α : Type} {p : α → Int} {l : List α} : gSum h [.vl (l.map fun a => .int (p a))] = some (.int (l.map p).sum) := by simp [gSum, seqH, lstH, intsOf_mapf]
@[simp] theorem gSum_tup {l : List Int} : gSum h [.tup (l.map .int)] = some (.int l.sum) := by simp [gSum, seqH, intsOf_map]
@[simp] theorem gMax_two {i j : Int} : gMax h [.int i, .int j] = some (.int (if j > i then j else i)) := by unfold gMax; simp only
@[simp] theorem gMin_two {i j : Int} : gMin h [.int i, .int j] = some (.int (if j < i then j else i)) := by unfold gMin; simp only
@[simp] theorem gMax_vl {a : Int} {r : List Int} : gMax h [.vl ((a :: r).map .int)] = some (.int (maxL a r)) := by
  simp only [gMax, lstH, Option.bind, intsOf_map]
@[simp] theorem gSort_vl {m : Bool} {l : List Int} : gSort m [.vl (l.map .int)] h = newL m ((sortI l).map .int) h := by simp [gSort, lstH, intsOf_map]
theorem gSort_ref {m : Bool} {n : Nat} {l : List Int} (e : h[n]? = some (.lst (l.map .int))) : gSort m [.ref n] h = newL m ((sortI l).map .int) h := by simp [gSort, lstH, e, intsOf_map]
theorem atI_map {α : Type} {f : α → D} {l : List α} {k : Int} (h0 : 0 ≤ k) (h1 : k < l.length) : atI (l.map f) k = some (f (l[k.toNat]'(by omega))) := by
  have e : ixN (l.map f).length k = some k.toNat := by
    unfold ixN
    rw [if_pos h0, List.length_map, if_pos h1]
  unfold atI
  rw [e]
  have : k.toNat < l.length := by omega
  simp [this]
theorem gIx_tupm {α : Type} {f : α → D} {l : List α} {k : Int} (h0 : 0 ≤ k) (h1 : k < l.length) : gIx h (.tup (l.map f)) (.int k) = some (f (l[k.toNat]'(by omega))) := atI_map h0 h1
theorem gIx_vlm {α : Type} {f : α → D} {l : List α} {k : Int} (h0 : 0 ≤ k) (h1 : k < l.length) : gIx h (.vl (l.map f)) (.int k) = some (f (l[k.toNat]'(by omega))) := atI_map h0 h1
theorem gIx_slm {α : Type} {f : α → D} {l : List α} {k : Int} (h0 : 0 ≤ k) (h1 : k < l.length) : gIx h (.sl (l.map f)) (.int k) = some (f (l[k.toNat]'(by omega))) := atI_map h0 h1
theorem gIx_tup {l : List D} {k : Int} : gIx h (.tup l) (.int k) = atI l k := by unfold gIx; simp only
theorem gIx_vl {l : List D} {k : Int} : gIx h (.vl l) (.int k) = atI l k := by simp [gIx, lstH, dicH]
theorem gIx_ref {n : Nat} {l : List D} {k : Int} (e : h[n]? = some (.lst l)) : gIx h (.ref n) (.int k) = atI l k := by simp [gIx, lstH, dicH, e]
theorem cut_take {l : List D} {k : Nat} : cutD l none (some (k : Int)) = l.take k := by
  unfold cutD
  rw [HT.sIx_none, HT.sIx_nat, List.drop_zero, Nat.sub_zero]
  rcases Nat.le_total k l.length with h | h
  · rw [Nat.min_eq_left h]
  · rw [Nat.min_eq_right h, List.take_length, List.take_of_length_le h]
theorem cut_drop {l : List D} {k : Nat} : cutD l (some (k : Int)) none = l.drop k := by
  unfold cutD
  rw [HT.sIx_none, HT.sIx_nat]
  rcases Nat.le_total k l.length with h | h
  · rw [Nat.min_eq_left h, List.take_of_length_le (by simp)]
  · rw [Nat.min_eq_right h, List.drop_length, List.drop_of_length_le h]; simp
theorem slR_ok {m : Bool} {d : D} {lo hi : Option Int} {f g : Hs → R (Option Int)} {h1 h2 h3 : Hs} (e1 : f h1 = .ok lo h2) (e2 : g h2 = .ok hi h3) : slR m (.ok d h1) f g = slG m lo hi d h3 := by
  unfold slR
  rw [bind_ok, e1, bind_ok, e2, bind_ok]
@[simp] theorem slG_tup {m : Bool} {lo hi : Option Int} {l : List D} : slG m lo hi (.tup l) h = .ok (.tup (cutD l lo hi)) h := by unfold slG; simp only
@[simp] theorem slG_vl {m : Bool} {lo hi : Option Int} {l : List D} : slG m lo hi (.vl l) h = newL m (cutD l lo hi) h := by simp [slG, lstH]
@[simp] theorem slG_sl {m : Bool} {lo hi : Option Int} {l : List D} : slG m lo hi (.sl l) h = newL m (cutD l lo hi) h := by simp [slG, lstH]
theorem slG_ref {m : Bool} {n : Nat} {lo hi : Option Int} {l : List D} (e : h[n]? = some (.lst l)) : slG m lo hi (.ref n) h = newL m (cutD l lo hi) h := by simp [slG, lstH, e]
@[simp] theorem revG_vl {m : Bool} {l : List D} : revG m (.vl l) h = newL m l.reverse h := by simp [revG, lstH]
@[simp] theorem revG_tup {m : Bool} {l : List D} : revG m (.tup l) h = .ok (.tup l.reverse) h := by simp [revG]
theorem revG_ref {m : Bool} {n : Nat} {l : List D} (e : h[n]? = some (.lst l)) : revG m (.ref n) h = newL m l.reverse h := by simp [revG, lstH, e]
@[simp] theorem ixR_int {i : Int} : ixR (.ok (.int i) h) = .ok (some i) h := by unfold ixR; rw [bind_ok]
/-! methods -/
theorem mth_def {me : Me} {o : SD → Hs → R D} {es : SD → Hs → R (List D)} {s : SD} {d : D} {h1 : Hs} (e1 : o s h = .ok d h1) (hc : me.c h1 d = true) : mthR me.c me.g o es s h = (es s h1).bind fun ds h2 => me.g d ds h2 := by
  unfold mthR
  rw [e1, bind_ok, if_pos hc]
theorem isLst_ref {n : Nat} {l : List D} (e : h[n]? = some (.lst l)) : isLst h (.ref n) = true := by simp [isLst, lstH, e]
theorem lstM_of {g : Hs → List D → List D → Option (List D × D)} {n : Nat} {l ds l' : List D} {z : D} (e : h[n]? = some (.lst l)) (e2 : g h l ds = some (l', z)) : lstM g (.ref n) ds h = .ok z (h.set n (.lst l')) := by
  simp [lstM, e, e2]
theorem store_of {n : Nat} {k : Int} {l : List D} {v : D} (e : h[n]? = some (.lst l)) (h0 : 0 ≤ k) (h1 : k < l.length) : storeG (.ref n) (.int k) v h = some (h.set n (.lst (l.set k.toNat v))) := by
  have e4 : ixN l.length k = some k.toNat := by unfold ixN; rw [if_pos h0, if_pos h1]
  simp [storeG, e, e4]
theorem rng1 {j : Int} (h0 : -(2 ^ 62) ≤ j) (h1 : j < 2 ^ 62) : rngO1 [.int j] h = .ok (src0 ((List.range j.toNat).map fun (i : Nat) => .int i)) h := by
  unfold rngO1
  simp only [if_pos (And.intro h0 h1), rngD, Int.zero_add]
theorem rng2 {i j : Int} (h0 : -(2 ^ 62) ≤ i) (h1 : i < 2 ^ 62) (h2 : -(2 ^ 62) ≤ j) (h3 : j < 2 ^ 62) : rngO2 [.int i, .int j] h = .ok (src0 ((List.range (j - i).toNat).map fun (k : Nat) => .int (i + k))) h := by
  unfold rngO2
  simp only [if_pos (And.intro h0 (And.intro h1 (And.intro h2 h3))), rngD]
@[simp] theorem itG_0 {d : D} : itG 0 [d] h = srcOf d h := by simp only [itG]
@[simp] theorem itG_1 {ds : List D} : itG 1 ds h = rngO1 ds h := by cases ds <;> simp only [itG]
@[simp] theorem itG_2 {ds : List D} : itG 2 ds h = rngO2 ds h := by cases ds <;> simp only [itG]
@[simp] theorem itG_3 {ds : List D} : itG 3 ds h = zipO ds h := by cases ds <;> simp only [itG]
@[simp] theorem itG_4 {ds : List D} : itG 4 ds h = enumO ds h := by cases ds <;> simp only [itG]
@[simp] theorem xg_ls : Xf.lenSet.g = lenSetO := by simp only [Xf.g]
@[simp] theorem xg_ss : Xf.srtSet.g = srtSetO := by simp only [Xf.g]
@[simp] theorem xg_tr {k : Nat} : (Xf.trng k).g = trG k := by simp only [Xf.g]
@[simp] theorem src_tup {l : List D} : srcOf (.tup l) h = .ok (src0 l) h := by simp [srcOf, src0]
@[simp] theorem src_vl {l : List D} : srcOf (.vl l) h = .ok (src0 l) h := by simp [srcOf, lstH, src0]; rfl
@[simp] theorem src_sl {l : List D} : srcOf (.sl l) h = .ok (src0 l) h := by simp [srcOf, lstH, src0]; rfl
theorem src_ref {n : Nat} {l : List D} (e : h[n]? = some (.lst l)) : srcOf (.ref n) h = .ok ⟨l, fun h' => h'[n]? = some (.lst l)⟩ h := by simp [srcOf, lstH, e]; rfl
@[simp] theorem zip_tup2 {l m : List D} : zipO [.tup l, .tup m] h = .ok (src0 ((l.zip m).map fun p => .tup [p.1, p.2])) h := by simp [zipO]
@[simp] theorem zip_vl {l m : List D} : zipO [.vl l, .vl m] h = .ok (src0 ((l.zip m).map fun p => .tup [p.1, p.2])) h := by simp [zipO, lstH, src0, stays]
@[simp] theorem src0_ds {l : List D} : (src0 l).ds = l := by simp only [src0]
@[simp] theorem src0_c {l : List D} : (src0 l).c = fun _ => True := by simp only [src0]
end
/-! ### loops -/
noncomputable def forL (f : D → SD → Hs → O) (ds : List D) (s : SD) (h : Hs) : O := forC (fun _ => True) f ds s h
@[simp] theorem forC_T {f : D → SD → Hs → O} {ds : List D} {s : SD} {h : Hs} : forC (fun _ => True) f ds s h = forL f ds s h := by unfold forL; generalize forC (fun _ => True) f ds s h = y; exact Eq.refl y
@[simp] theorem forL_nil {f : D → SD → Hs → O} {s : SD} {h : Hs} : forL f [] s h = .nx s h := by unfold forL forC; simp
theorem forL_nx {f : D → SD → Hs → O} {d : D} {r : List D} {s s' : SD} {h h' : Hs} (e : f d s h = .nx s' h') : forL f (d :: r) s h = forL f r s' h' := by unfold forL; rw [forC]; simp [e]
theorem forL_ct {f : D → SD → Hs → O} {d : D} {r : List D} {s s' : SD} {h h' : Hs} (e : f d s h = .ct s' h') : forL f (d :: r) s h = forL f r s' h' := by unfold forL; rw [forC]; simp [e]
theorem forL_bk {f : D → SD → Hs → O} {d : D} {r : List D} {s s' : SD} {h h' : Hs} (e : f d s h = .bk s' h') : forL f (d :: r) s h = .nx s' h' := by unfold forL; rw [forC]; simp [e]
theorem forL_rt {f : D → SD → Hs → O} {d z : D} {r : List D} {s : SD} {h h' : Hs} (e : f d s h = .rt z h') : forL f (d :: r) s h = .rt z h' := by unfold forL; rw [forC]; simp [e]
theorem forL_rs {f : D → SD → Hs → O} {d : D} {r : List D} {s s' : SD} {h h' : Hs} {c p} (e : f d s h = .rs c p s' h') : forL f (d :: r) s h = .rs c p s' h' := by unfold forL; rw [forC]; simp [e]
/-- a list that is walked and stays -/
theorem forC_of {c : Hs → Prop} {f : D → SD → Hs → O} (I : SD → Hs → Prop) (hI : ∀ s h, I s h → c h) : ∀ {ds : List D} {s : SD} {h : Hs}, I s h → (∀ d s h, d ∈ ds → I s h → ∀ s' h', f d s h = .nx s' h' ∨ f d s h = .ct s' h' → I s' h') → forC c f ds s h = forL f ds s h
  | [], s, h, i, _ => by rw [forC, forL_nil, if_pos (hI s h i)]
  | d :: r, s, h, i, k => by
    rw [forC, if_pos (hI s h i)]
    have k0 := k d s h List.mem_cons_self i
    cases e : f d s h with
    | nx s' h' => rw [forL_nx e]; exact forC_of I hI (k0 s' h' (.inl e)) fun d s h m => k d s h (List.mem_cons_of_mem _ m)
    | ct s' h' => rw [forL_ct e]; exact forC_of I hI (k0 s' h' (.inr e)) fun d s h m => k d s h (List.mem_cons_of_mem _ m)
    | bk s' h' => rw [forL_bk e]
    | rt z h' => rw [forL_rt e]
    | rs c p s' h' => rw [forL_rs e]
    | stk => unfold forL; rw [forC, e]; simp
/-- a state carried -/
theorem forL_fold {α β : Type} {f : α → D} {turn : D → SD → Hs → O} (st : β → SD) (hp : β → Hs) (step : β → α → β) (inv : β → Prop) : ∀ (l : List α) (b : β), inv b → (∀ b a, a ∈ l → inv b → turn (f a) (st b) (hp b) = .nx (st (step b a)) (hp (step b a)) ∧ inv (step b a)) →
    forL turn (l.map f) (st b) (hp b) = .nx (st (l.foldl step b)) (hp (l.foldl step b)) ∧ inv (l.foldl step b)
  | [], b, i, _ => ⟨forL_nil, i⟩
  | a :: r, b, i, k => by
    obtain ⟨h1, h2⟩ := k b a List.mem_cons_self i
    obtain ⟨h3, h4⟩ := forL_fold st hp step inv r (step b a) h2 fun b' a' m i' => k b' a' (List.mem_cons_of_mem _ m) i'
    exact ⟨by rw [List.map_cons, forL_nx h1]; exact h3, h4⟩
/-- an invariant of the items gone through -/
theorem forL_inv {turn : D → SD → Hs → O} (I : List D → SD → Hs → Prop) {ds : List D} {s : SD} {h : Hs} (h0 : I [] s h) (hs : ∀ pre d s h, pre ++ [d] <+: ds → I pre s h → ∃ s' h', (turn d s h = .nx s' h' ∨ turn d s h = .ct s' h') ∧ I (pre ++ [d]) s' h') :
    ∃ s' h', forL turn ds s h = .nx s' h' ∧ I ds s' h' := by
  have go : ∀ (r pre : List D) (s : SD) (h : Hs), pre ++ r = ds → I pre s h → ∃ s' h', forL turn r s h = .nx s' h' ∧ I ds s' h' := by
    intro r
    induction r with
    | nil => intro pre s h e i; rw [List.append_nil] at e; subst e; exact ⟨s, h, forL_nil, i⟩
    | cons d r ih =>
      intro pre s h e i
      obtain ⟨s', h', e1, i'⟩ := hs pre d s h ⟨r, by rw [List.append_assoc]; exact e⟩ i
      obtain ⟨s2, h2, e2, i2⟩ := ih (pre ++ [d]) s' h' (by rw [List.append_assoc]; exact e) i'
      refine ⟨s2, h2, ?_, i2⟩
      rcases e1 with e1 | e1
      · rw [forL_nx e1]; exact e2
      · rw [forL_ct e1]; exact e2
  exact go ds [] s h rfl h0
/-- the same, with a way out -/
theorem forL_out {turn : D → SD → Hs → O} (I : List D → SD → Hs → Prop) (T : D → Hs → Prop) {ds : List D} {s : SD} {h : Hs} (h0 : I [] s h)
    (hs : ∀ pre d s h, pre ++ [d] <+: ds → I pre s h → (∃ s' h', (turn d s h = .nx s' h' ∨ turn d s h = .ct s' h') ∧ I (pre ++ [d]) s' h') ∨ ∃ z h', turn d s h = .rt z h' ∧ T z h') :
    (∃ s' h', forL turn ds s h = .nx s' h' ∧ I ds s' h') ∨ ∃ z h', forL turn ds s h = .rt z h' ∧ T z h' := by
  have go : ∀ (r pre : List D) (s : SD) (h : Hs), pre ++ r = ds → I pre s h → (∃ s' h', forL turn r s h = .nx s' h' ∧ I ds s' h') ∨ ∃ z h', forL turn r s h = .rt z h' ∧ T z h' := by
    intro r
    induction r with
    | nil => intro pre s h e i; rw [List.append_nil] at e; subst e; exact .inl ⟨s, h, forL_nil, i⟩
    | cons d r ih =>
      intro pre s h e i
      rcases hs pre d s h ⟨r, by rw [List.append_assoc]; exact e⟩ i with ⟨s', h', e1, i'⟩ | ⟨z, h', e1, t⟩
      · rcases ih (pre ++ [d]) s' h' (by rw [List.append_assoc]; exact e) i' with ⟨s2, h2, e2, i2⟩ | ⟨z, h2, e2, t⟩
        · refine .inl ⟨s2, h2, ?_, i2⟩
          rcases e1 with e1 | e1
          · rw [forL_nx e1]; exact e2
          · rw [forL_ct e1]; exact e2
        · refine .inr ⟨z, h2, ?_, t⟩
          rcases e1 with e1 | e1
          · rw [forL_nx e1]; exact e2
          · rw [forL_ct e1]; exact e2
      · exact .inr ⟨z, h', forL_rt e1, t⟩
  exact go ds [] s h rfl h0
/-! ### comprehensions -/
/-- one turn -/
noncomputable def lcT (ft : D → SD → Option SD) (fb fe : SD → Hs → R D) (s : SD) (d : D) (h : Hs) : R (Option D) := match ft d s with
  | none => .stk
  | some s1 => (toB (fb s1 h)).bind fun b h1 => match b with
    | true => (fe s1 h1).bind fun y h2 => .ok (some y) h2
    | false => .ok none h1
theorem lcL_cons {c : Hs → Prop} {ft : D → SD → Option SD} {fb fe : SD → Hs → R D} {s : SD} {d : D} {r : List D} {h h1 : Hs} {y : Option D} (hc : c h) (e : lcT ft fb fe s d h = .ok y h1) :
    lcL c ft fb fe s (d :: r) h = (lcL c ft fb fe s r h1).bind fun ys h3 => .ok (y.toList ++ ys) h3 := by
  rw [lcL, if_pos hc]
  unfold lcT at e
  cases q : ft d s with
  | none => rw [q] at e; cases e
  | some s1 =>
    rw [q] at e
    dsimp only at e ⊢
    cases q2 : toB (fb s1 h) with
    | stk => rw [q2] at e; cases e
    | rs c p h => rw [q2] at e; cases e
    | ok b h2 =>
      rw [q2] at e
      dsimp only [R.bind, nr] at e ⊢
      cases b with
      | false =>
        injection e with e1 e2
        subst e1 e2
        dsimp only
        cases lcL c ft fb fe s r h2 <;> rfl
      | true =>
        dsimp only at e ⊢
        cases q3 : fe s1 h2 with
        | stk => rw [q3] at e; cases e
        | rs c p h => rw [q3] at e; cases e
        | ok z h3 =>
          rw [q3] at e
          injection e with e1 e2
          subst e1 e2
          rfl
/-- the items one by one, the store as it was -/
theorem lcL_map {α : Type} {c : Hs → Prop} {f : α → D} {ft : D → SD → Option SD} {fb fe : SD → Hs → R D} {s : SD} {h : Hs} (g : α → D) (hc : c h) : ∀ l : List α, (∀ a ∈ l, lcT ft fb fe s (f a) h = .ok (some (g a)) h) → lcL c ft fb fe s (l.map f) h = .ok (l.map g) h
  | [], _ => by rw [List.map_nil, lcL, if_pos hc]; rfl
  | a :: r, k => by
    rw [List.map_cons, lcL_cons hc (k a List.mem_cons_self), lcL_map g hc r fun a' m => k a' (List.mem_cons_of_mem _ m), bind_ok]
    rfl
theorem lcL_filter {α : Type} {c : Hs → Prop} {f : α → D} {ft : D → SD → Option SD} {fb fe : SD → Hs → R D} {s : SD} {h : Hs} (p : α → Bool) (g : α → D) (hc : c h) : ∀ l : List α, (∀ a ∈ l, lcT ft fb fe s (f a) h = .ok (if p a = true then some (g a) else none) h) →
    lcL c ft fb fe s (l.map f) h = .ok ((l.filter p).map g) h
  | [], _ => by rw [List.map_nil, lcL, if_pos hc]; rfl
  | a :: r, k => by
    rw [List.map_cons, lcL_cons hc (k a List.mem_cons_self), lcL_filter p g hc r fun a' m => k a' (List.mem_cons_of_mem _ m), bind_ok]
    by_cases q : p a = true <;> simp [q]
theorem lcO_map {α : Type} {m : Bool} {c : Hs → Prop} {f : α → D} {ft : D → SD → Option SD} {fb fe : SD → Hs → R D} {vs : List Nat} {s : SD} {h : Hs} (g : α → D) (l : List α) (hc : c h) (hl : l.length ≤ 16777216) (k : ∀ a ∈ l, lcT ft fb fe (wipeS s vs) (f a) h = .ok (some (g a)) h) :
    lcO m ft fb fe vs s ⟨l.map f, c⟩ h = newL m (l.map g) h := by
  unfold lcO
  rw [if_pos (by simpa using hl)]
  dsimp only
  rw [lcL_map g hc l k, bind_ok]
theorem lcO_filter {α : Type} {m : Bool} {c : Hs → Prop} {f : α → D} {ft : D → SD → Option SD} {fb fe : SD → Hs → R D} {vs : List Nat} {s : SD} {h : Hs} (p : α → Bool) (g : α → D) (l : List α) (hc : c h) (hl : l.length ≤ 16777216) (k : ∀ a ∈ l, lcT ft fb fe (wipeS s vs) (f a) h = .ok (if p a = true then some (g a) else none) h) :
    lcO m ft fb fe vs s ⟨l.map f, c⟩ h = newL m ((l.filter p).map g) h := by
  unfold lcO
  rw [if_pos (by simpa using hl)]
  dsimp only
  rw [lcL_filter p g hc l k, bind_ok]
/-- the store goes along as a state -/
theorem lcL_st {α β : Type} {f : α → D} {ft : D → SD → Option SD} {fb fe : SD → Hs → R D} {s : SD} (hp : β → Hs) (step : β → α → Option D × β) (inv : β → Prop) : ∀ (l : List α) (b : β), inv b → (∀ a ∈ l, ∀ b, inv b → lcT ft fb fe s (f a) (hp b) = .ok (step b a).1 (hp (step b a).2) ∧ inv (step b a).2) →
    lcL (fun _ => True) ft fb fe s (l.map f) (hp b) = .ok (l.foldl (fun (x : List D × β) a => (x.1 ++ (step x.2 a).1.toList, (step x.2 a).2)) ([], b)).1 (hp (l.foldl (fun (x : List D × β) a => (x.1 ++ (step x.2 a).1.toList, (step x.2 a).2)) ([], b)).2) ∧ inv (l.foldl (fun (x : List D × β) a => (x.1 ++ (step x.2 a).1.toList, (step x.2 a).2)) ([], b)).2
  | [], b, i, _ => ⟨by rw [List.map_nil, lcL, if_pos trivial]; rfl, i⟩
  | a :: r, b, i, k => by
    obtain ⟨k1, k2⟩ := k a List.mem_cons_self b i
    obtain ⟨h1, h2⟩ := lcL_st hp step inv r (step b a).2 k2 fun a' m => k a' (List.mem_cons_of_mem _ m)
    have e : ∀ (r : List α) (x : List D) (b : β), r.foldl (fun (x : List D × β) a => (x.1 ++ (step x.2 a).1.toList, (step x.2 a).2)) (x, b) = (x ++ (r.foldl (fun (x : List D × β) a => (x.1 ++ (step x.2 a).1.toList, (step x.2 a).2)) ([], b)).1, (r.foldl (fun (x : List D × β) a => (x.1 ++ (step x.2 a).1.toList, (step x.2 a).2)) ([], b)).2) := by
      intro r
      induction r with
      | nil => intro x b; simp
      | cons a r ih => intro x b; rw [List.foldl_cons, List.foldl_cons, ih, ih ([] ++ _)]; simp
    rw [List.foldl_cons, List.nil_append, e]
    refine ⟨?_, h2⟩
    rw [List.map_cons, lcL_cons trivial k1, h1, bind_ok]
theorem seq_assoc {o : O} {f g : SD → Hs → O} : (o.seq f).seq g = o.seq fun s h => (f s h).seq g := by cases o <;> rfl
theorem evs_append {Γ : Mir} {n : Nat} : ∀ {a b : List S} {s : SD} {h : Hs}, S.evs Γ n (a ++ b) s h = (S.evs Γ n a s h).seq (S.evs Γ n b)
  | [], b, s, h => by rw [evs_nil, seq_nx]; rfl
  | x :: a, b, s, h => by
    rw [List.cons_append, evs_cons, evs_cons, seq_assoc]
    congr 1
    funext s' h'
    exact evs_append
@[simp] theorem DL_d {g : Hs → List D → Option D} {ds : List D} {h : Hs} : DL g ds h = ofO h (g h ds) := DL_def
@[simp] theorem wipeS_nil {s : SD} : wipeS s [] = s := by simp only [wipeS]
@[simp] theorem wipeS_one {s : SD} {v : Nat} {vs : List Nat} : wipeS s (v :: vs) = (wipeS s vs).set v none := by simp only [wipeS]
@[simp] theorem toB_bl {b : Bool} {h : Hs} : toB (.ok (.bl b) h) = .ok b h := by simp only [toB]
@[simp] theorem og_add : Op.add.g = gAdd := by simp only [Op.g]
@[simp] theorem og_sub : Op.sub.g = gSub := by simp only [Op.g]
@[simp] theorem og_mul : Op.mul.g = gMul := by simp only [Op.g]
@[simp] theorem og_fdiv : Op.fdiv.g = gFdiv := by simp only [Op.g]
@[simp] theorem og_mod : Op.mod.g = gMod := by simp only [Op.g]
@[simp] theorem og_pow : Op.pow.g = gPow := by simp only [Op.g]
@[simp] theorem og_xor : Op.xor.g = gXor := by simp only [Op.g]
@[simp] theorem og_eq : Op.eq.g = gEq := by simp only [Op.g]
@[simp] theorem og_ne : Op.ne.g = gNe := by simp only [Op.g]
@[simp] theorem og_lt : Op.lt.g = gLt := by simp only [Op.g]
@[simp] theorem og_le : Op.le.g = gLe := by simp only [Op.g]
@[simp] theorem og_gt : Op.gt.g = gGt := by simp only [Op.g]
@[simp] theorem og_ge : Op.ge.g = gGe := by simp only [Op.g]
@[simp] theorem og_isIn : Op.isIn.g = gIn := by simp only [Op.g]
@[simp] theorem og_notIn : Op.notIn.g = gNotIn := by simp only [Op.g]
@[simp] theorem og_is : Op.is.g = gIs := by simp only [Op.g]
@[simp] theorem og_isNot : Op.isNot.g = gIsNot := by simp only [Op.g]
@[simp] theorem bg_len : Bi.len.g = DL gLen := by simp only [Bi.g]
@[simp] theorem bg_sum : Bi.sum.g = DL gSum := by simp only [Bi.g]
@[simp] theorem bg_all : Bi.all.g = DL gAll := by simp only [Bi.g]
@[simp] theorem bg_any : Bi.any.g = DL gAny := by simp only [Bi.g]
@[simp] theorem bg_tuple : Bi.tuple.g = DL gTupleF := by simp only [Bi.g]
@[simp] theorem bg_list {m : Bool} : (Bi.list m).g = gListF m := by simp only [Bi.g]
@[simp] theorem bg_max : Bi.max.g = DL gMax := by simp only [Bi.g]
@[simp] theorem bg_min : Bi.min.g = DL gMin := by simp only [Bi.g]
@[simp] theorem bg_abs : Bi.abs.g = DL gAbs := by simp only [Bi.g]
@[simp] theorem bg_sorted {m : Bool} : (Bi.sorted m).g = gSort m := by simp only [Bi.g]
@[simp] theorem mg_count : Me.count.g = valM txCount := by simp only [Me.g]
@[simp] theorem mg_index : Me.index.g = valM txIndex := by simp only [Me.g]
@[simp] theorem mg_get : Me.get.g = getM := by simp only [Me.g]
@[simp] theorem mg_clr : Me.clr.g = clrM := by simp only [Me.g]
@[simp] theorem mg_append : Me.append.g = lstM txAppend := by simp only [Me.g]
@[simp] theorem mg_extend : Me.extend.g = lstM txExtend := by simp only [Me.g]
@[simp] theorem mg_pop : Me.pop.g = lstM txPop := by simp only [Me.g]
@[simp] theorem mg_popAt : Me.popAt.g = lstM txPopAt := by simp only [Me.g]
@[simp] theorem mg_insert : Me.insert.g = lstM txInsert := by simp only [Me.g]
@[simp] theorem txAppend_of {h : Hs} {l : List D} {d : D} (e : l.length < 16777216) : txAppend h l [d] = some (l ++ [d], .non) := by unfold txAppend; dsimp only; rw [if_pos e]
/-- x.append(e) of a local list -/
theorem app_of {o : SD → Hs → R D} {es : SD → Hs → R (List D)} {s : SD} {h h2 : Hs} {n : Nat} {l : List D} {d : D} (e1 : o s h = .ok (.ref n) h) (e2 : h[n]? = some (.lst l)) (e3 : es s h = .ok [d] h2) (e4 : h2[n]? = some (.lst l)) (e5 : l.length < 16777216) :
    mthR Me.append.c Me.append.g o es s h = .ok .non (h2.set n (.lst (l ++ [d]))) := by
  rw [mth_def (me := .append) e1 (show Me.append.c h (.ref n) = true from isLst_ref e2), e3, bind_ok, mg_append, lstM_of e4 (txAppend_of e5)]
theorem callR_at {Γ : Mir} {j np : Nat} {f : List D → Hs → R D} {ds : List D} {h : Hs} (e : Γ j = (np, f)) : callR Γ j ds h = if ds.length = np then f ds h else .stk := by unfold callR; rw [e]
theorem isi_of {T u : String} {b : Bool} {d : D} {h : Hs} (e : tyOf h d = some u) (e2 : kitB u T = some b) : isiG T d h = .ok (.bl b) h := by unfold isiG; rw [e]; dsimp only [Option.bind]; rw [e2]
@[simp] theorem slR_d {m : Bool} {d : D} {f g : Hs → R (Option Int)} {h : Hs} : slR m (.ok d h) f g = (f h).bind fun i h2 => (g h2).bind fun j h3 => slG m i j d h3 := by unfold slR; rw [bind_ok]
theorem cut_takeI {l : List D} {i : Int} (e : 0 ≤ i) : cutD l none (some i) = l.take i.toNat := by
  have := cut_take (l := l) (k := i.toNat)
  rwa [Int.toNat_of_nonneg e] at this
theorem cut_dropI {l : List D} {i : Int} (e : 0 ≤ i) : cutD l (some i) none = l.drop i.toNat := by
  have := cut_drop (l := l) (k := i.toNat)
  rwa [Int.toNat_of_nonneg e] at this
theorem cut_mid {l : List D} {i j : Int} (e : 0 ≤ i) (e2 : i ≤ j) : cutD l (some i) (some j) = (l.take j.toNat).drop i.toNat := by
  have h1 := HT.sIx_nat (n := l.length) (d := 0) (k := i.toNat)
  have h2 := HT.sIx_nat (n := l.length) (d := l.length) (k := j.toNat)
  rw [Int.toNat_of_nonneg e] at h1
  rw [Int.toNat_of_nonneg (by omega)] at h2
  unfold cutD
  rw [h1, h2, List.drop_take]
  refine List.ext_getElem? fun k => ?_
  simp only [List.getElem?_take, List.getElem?_drop]
  by_cases hk : i.toNat + k < l.length
  · rw [Nat.min_eq_left (by omega : i.toNat ≤ l.length)]
    by_cases hj : k < j.toNat - i.toNat
    · rw [if_pos (by omega), if_pos hj]
    · rw [if_neg (by omega), if_neg hj]
  · rw [List.getElem?_eq_none (by omega), List.getElem?_eq_none (l := l) (i := i.toNat + k) (by omega)]
    split <;> split <;> rfl
section
variable {h l : Hs} {m : Bool} {o o1 o2 o3 : HO'} {x : List D} {n : List Int}
@[simp] theorem gLen_a0 : gLen (h ++ .lst x :: l) [.ref h.length] = some (.int x.length) := gLen_ref (get_app0)
@[simp] theorem gTupleF_a0 : gTupleF (h ++ .lst x :: l) [.ref h.length] = some (.tup x) := gTupleF_ref (get_app0)
@[simp] theorem gListF_a0 : gListF m [.ref h.length] (h ++ .lst x :: l) = newL m x (h ++ .lst x :: l) := gListF_ref (get_app0)
@[simp] theorem slG_a0 {lo hi : Option Int} : slG m lo hi (.ref h.length) (h ++ .lst x :: l) = newL m (cutD x lo hi) (h ++ .lst x :: l) := slG_ref (get_app0)
@[simp] theorem revG_a0 : revG m (.ref h.length) (h ++ .lst x :: l) = newL m x.reverse (h ++ .lst x :: l) := revG_ref (get_app0)
@[simp] theorem gIx_a0 {k : Int} : gIx (h ++ .lst x :: l) (.ref h.length) (.int k) = atI x k := gIx_ref (get_app0)
@[simp] theorem src_a0 : srcOf (.ref h.length) (h ++ .lst x :: l) = .ok ⟨x, fun h' => h'[h.length]? = some (.lst x)⟩ (h ++ .lst x :: l) := src_ref (get_app0)
@[simp] theorem isLst_a0 : isLst (h ++ .lst x :: l) (.ref h.length) = true := isLst_ref (get_app0)
@[simp] theorem gSort_a0 : gSort m [.ref h.length] (h ++ .lst (n.map .int) :: l) = newL m ((sortI n).map .int) (h ++ .lst (n.map .int) :: l) := gSort_ref (get_app0)
theorem back_a0 (e : x.all D.nr = true) : backR false h (.ref h.length) (h ++ .lst x :: l) = .ok (.vl x) h := by
  rw [back_lst (by omega) (get_app0) e (by simp)]
  simp
@[simp] theorem gLen_a1 : gLen (h ++ o :: .lst x :: l) [.ref (h.length + 1)] = some (.int x.length) := gLen_ref (get_app1)
@[simp] theorem gTupleF_a1 : gTupleF (h ++ o :: .lst x :: l) [.ref (h.length + 1)] = some (.tup x) := gTupleF_ref (get_app1)
@[simp] theorem gListF_a1 : gListF m [.ref (h.length + 1)] (h ++ o :: .lst x :: l) = newL m x (h ++ o :: .lst x :: l) := gListF_ref (get_app1)
@[simp] theorem slG_a1 {lo hi : Option Int} : slG m lo hi (.ref (h.length + 1)) (h ++ o :: .lst x :: l) = newL m (cutD x lo hi) (h ++ o :: .lst x :: l) := slG_ref (get_app1)
@[simp] theorem revG_a1 : revG m (.ref (h.length + 1)) (h ++ o :: .lst x :: l) = newL m x.reverse (h ++ o :: .lst x :: l) := revG_ref (get_app1)
@[simp] theorem gIx_a1 {k : Int} : gIx (h ++ o :: .lst x :: l) (.ref (h.length + 1)) (.int k) = atI x k := gIx_ref (get_app1)
@[simp] theorem src_a1 : srcOf (.ref (h.length + 1)) (h ++ o :: .lst x :: l) = .ok ⟨x, fun h' => h'[h.length + 1]? = some (.lst x)⟩ (h ++ o :: .lst x :: l) := src_ref (get_app1)
@[simp] theorem isLst_a1 : isLst (h ++ o :: .lst x :: l) (.ref (h.length + 1)) = true := isLst_ref (get_app1)
@[simp] theorem gSort_a1 : gSort m [.ref (h.length + 1)] (h ++ o :: .lst (n.map .int) :: l) = newL m ((sortI n).map .int) (h ++ o :: .lst (n.map .int) :: l) := gSort_ref (get_app1)
theorem back_a1 (e : x.all D.nr = true) : backR false h (.ref (h.length + 1)) (h ++ o :: .lst x :: l) = .ok (.vl x) h := by
  rw [back_lst (by omega) (get_app1) e (by simp)]
  simp
@[simp] theorem get_app2 : (h ++ o :: o1 :: o3 :: l)[h.length + 2]? = some o3 := by rw [get_app]; rfl
@[simp] theorem set_app2 {o' : HO'} : (h ++ o :: o1 :: o3 :: l).set (h.length + 2) o' = h ++ o :: o1 :: o' :: l := by
  rw [List.set_append_right _ _ (by omega)]
  congr 1
  have : h.length + 2 - h.length = 2 := by omega
  rw [this]
  rfl
@[simp] theorem gLen_a2 : gLen (h ++ o :: o1 :: .lst x :: l) [.ref (h.length + 2)] = some (.int x.length) := gLen_ref (get_app2)
@[simp] theorem gTupleF_a2 : gTupleF (h ++ o :: o1 :: .lst x :: l) [.ref (h.length + 2)] = some (.tup x) := gTupleF_ref (get_app2)
@[simp] theorem gListF_a2 : gListF m [.ref (h.length + 2)] (h ++ o :: o1 :: .lst x :: l) = newL m x (h ++ o :: o1 :: .lst x :: l) := gListF_ref (get_app2)
@[simp] theorem slG_a2 {lo hi : Option Int} : slG m lo hi (.ref (h.length + 2)) (h ++ o :: o1 :: .lst x :: l) = newL m (cutD x lo hi) (h ++ o :: o1 :: .lst x :: l) := slG_ref (get_app2)
@[simp] theorem revG_a2 : revG m (.ref (h.length + 2)) (h ++ o :: o1 :: .lst x :: l) = newL m x.reverse (h ++ o :: o1 :: .lst x :: l) := revG_ref (get_app2)
@[simp] theorem gIx_a2 {k : Int} : gIx (h ++ o :: o1 :: .lst x :: l) (.ref (h.length + 2)) (.int k) = atI x k := gIx_ref (get_app2)
@[simp] theorem src_a2 : srcOf (.ref (h.length + 2)) (h ++ o :: o1 :: .lst x :: l) = .ok ⟨x, fun h' => h'[h.length + 2]? = some (.lst x)⟩ (h ++ o :: o1 :: .lst x :: l) := src_ref (get_app2)
@[simp] theorem isLst_a2 : isLst (h ++ o :: o1 :: .lst x :: l) (.ref (h.length + 2)) = true := isLst_ref (get_app2)
@[simp] theorem gSort_a2 : gSort m [.ref (h.length + 2)] (h ++ o :: o1 :: .lst (n.map .int) :: l) = newL m ((sortI n).map .int) (h ++ o :: o1 :: .lst (n.map .int) :: l) := gSort_ref (get_app2)
theorem back_a2 (e : x.all D.nr = true) : backR false h (.ref (h.length + 2)) (h ++ o :: o1 :: .lst x :: l) = .ok (.vl x) h := by
  rw [back_lst (by omega) (get_app2) e (by simp)]
  simp
@[simp] theorem get_app3 : (h ++ o :: o1 :: o2 :: o3 :: l)[h.length + 3]? = some o3 := by rw [get_app]; rfl
@[simp] theorem set_app3 {o' : HO'} : (h ++ o :: o1 :: o2 :: o3 :: l).set (h.length + 3) o' = h ++ o :: o1 :: o2 :: o' :: l := by
  rw [List.set_append_right _ _ (by omega)]
  congr 1
  have : h.length + 3 - h.length = 3 := by omega
  rw [this]
  rfl
@[simp] theorem gLen_a3 : gLen (h ++ o :: o1 :: o2 :: .lst x :: l) [.ref (h.length + 3)] = some (.int x.length) := gLen_ref (get_app3)
@[simp] theorem gTupleF_a3 : gTupleF (h ++ o :: o1 :: o2 :: .lst x :: l) [.ref (h.length + 3)] = some (.tup x) := gTupleF_ref (get_app3)
@[simp] theorem gListF_a3 : gListF m [.ref (h.length + 3)] (h ++ o :: o1 :: o2 :: .lst x :: l) = newL m x (h ++ o :: o1 :: o2 :: .lst x :: l) := gListF_ref (get_app3)
@[simp] theorem slG_a3 {lo hi : Option Int} : slG m lo hi (.ref (h.length + 3)) (h ++ o :: o1 :: o2 :: .lst x :: l) = newL m (cutD x lo hi) (h ++ o :: o1 :: o2 :: .lst x :: l) := slG_ref (get_app3)
@[simp] theorem revG_a3 : revG m (.ref (h.length + 3)) (h ++ o :: o1 :: o2 :: .lst x :: l) = newL m x.reverse (h ++ o :: o1 :: o2 :: .lst x :: l) := revG_ref (get_app3)
@[simp] theorem gIx_a3 {k : Int} : gIx (h ++ o :: o1 :: o2 :: .lst x :: l) (.ref (h.length + 3)) (.int k) = atI x k := gIx_ref (get_app3)
@[simp] theorem src_a3 : srcOf (.ref (h.length + 3)) (h ++ o :: o1 :: o2 :: .lst x :: l) = .ok ⟨x, fun h' => h'[h.length + 3]? = some (.lst x)⟩ (h ++ o :: o1 :: o2 :: .lst x :: l) := src_ref (get_app3)
@[simp] theorem isLst_a3 : isLst (h ++ o :: o1 :: o2 :: .lst x :: l) (.ref (h.length + 3)) = true := isLst_ref (get_app3)
@[simp] theorem gSort_a3 : gSort m [.ref (h.length + 3)] (h ++ o :: o1 :: o2 :: .lst (n.map .int) :: l) = newL m ((sortI n).map .int) (h ++ o :: o1 :: o2 :: .lst (n.map .int) :: l) := gSort_ref (get_app3)
theorem back_a3 (e : x.all D.nr = true) : backR false h (.ref (h.length + 3)) (h ++ o :: o1 :: o2 :: .lst x :: l) = .ok (.vl x) h := by
  rw [back_lst (by omega) (get_app3) e (by simp)]
  simp
end
section
variable {h l : Hs} {o o1 o2 o3 : HO'} {x : List D} {s : SD} {z v : D} {ds : List D}
@[simp] theorem mth_ev {c : Hs → D → Bool} {g : D → List D → Hs → R D} {fo : SD → Hs → R D} {fs : SD → Hs → R (List D)} : mthR c g fo fs s h = (fo s h).bind fun d h1 => if c h1 d = true then (fs s h1).bind fun ds h2 => g d ds h2 else .stk := by unfold mthR; generalize (R.bind _ _ : R D) = y; exact Eq.refl y
@[simp] theorem mc_append : Me.append.c = isLst := by simp only [Me.c]
@[simp] theorem mc_extend : Me.extend.c = isLst := by simp only [Me.c]
@[simp] theorem mc_popAt : Me.popAt.c = isLst := by simp only [Me.c]
@[simp] theorem mc_pop : Me.pop.c = isLst := by simp only [Me.c]
@[simp] theorem mc_insert : Me.insert.c = isLst := by simp only [Me.c]
@[simp] theorem mc_count : Me.count.c = isLst := by simp only [Me.c]
@[simp] theorem mc_index : Me.index.c = isLst := by simp only [Me.c]
@[simp] theorem mc_get : Me.get.c = isDic := by simp only [Me.c]
@[simp] theorem mc_clr : Me.clr.c = isDic := by simp only [Me.c]
def lstMr (h : Hs) (n : Nat) (o : Option (List D × D)) : R D := match o with
  | some (l', z) => match putH n (.lst l') h with
    | some h' => .ok z h'
    | none => .stk
  | none => .stk
theorem lstM_ref {g : Hs → List D → List D → Option (List D × D)} {n : Nat} (e : h[n]? = some (.lst x)) : lstM g (.ref n) ds h = lstMr h n (g h x ds) := by
  unfold lstM lstMr
  simp only [e]
  all_goals
    generalize g h x ds = o
    cases o with
    | none => simp only
    | some p =>
      obtain ⟨l', z⟩ := p
      dsimp only
      cases hh : putH n (.lst l') h <;> simp only [hh]
@[simp] theorem lstMr_some {n : Nat} : lstMr h n (some (x, z)) = .ok z (h.set n (.lst x)) := by unfold lstMr; simp only [putH_of]
def stoR (s : SD) (o : Option Hs) : O := match o with
  | some h => .nx s h
  | none => .stk
@[simp] theorem stoR_some : stoR s (some h) = .nx s h := by unfold stoR; simp only
@[simp] theorem storeO_ev {fe fo fi : SD → Hs → R D} : storeO fe fo fi s h = (fe s h).thenO s fun v h1 => (fo s h1).thenO s fun o h2 => (fi s h2).thenO s fun i h3 => stoR s (storeG o i v h3) := by unfold storeO stoR; generalize (R.thenO _ _ _ : O) = y; exact Eq.refl y
@[simp] theorem ixN_of {n : Nat} {k : Int} (h0 : 0 ≤ k) (h1 : k < n) : ixN n k = some k.toNat := by unfold ixN; rw [if_pos h0, if_pos h1]
theorem storeG_ref {n : Nat} {k : Int} (e : h[n]? = some (.lst x)) : storeG (.ref n) (.int k) v h = (ixN x.length k).bind fun j => putH n (.lst (x.set j v)) h := by simp [storeG, e]
theorem storeG_of {n : Nat} {k : Int} (e : h[n]? = some (.lst x)) (h0 : 0 ≤ k) (h1 : k < x.length) : storeG (.ref n) (.int k) v h = some (h.set n (.lst (x.set k.toNat v))) := by
  rw [storeG_ref e, ixN_of h0 h1]
  exact putH_of
theorem nr_set {j : Nat} (e : x.all D.nr = true) (e2 : v.nr = true) : (x.set j v).all D.nr = true := by
  rw [List.all_eq_true] at e ⊢
  intro d hd
  rcases List.mem_or_eq_of_mem_set hd with z | z
  · exact e d z
  · rw [z]; exact e2
@[simp] theorem txInsert_of {i : Int} {d : D} (e : x.length < 16777216) (h0 : 0 ≤ i) (h1 : i < 2 ^ 63) : txInsert h x [.int i, d] = some (x.take i.toNat ++ [d] ++ x.drop i.toNat, .non) := by unfold txInsert; simp only [if_pos (And.intro e (And.intro h0 h1))]
theorem txPop_of {y : D} : txPop h (x ++ [y]) [] = some (x, y) := by unfold txPop; simp
@[simp] theorem lstM_a0 {g : Hs → List D → List D → Option (List D × D)} : lstM g (.ref h.length) ds (h ++ .lst x :: l) = lstMr (h ++ .lst x :: l) h.length (g (h ++ .lst x :: l) x ds) := lstM_ref (get_app0)
@[simp] theorem storeG_a0 {k : Int} : storeG (.ref h.length) (.int k) v (h ++ .lst x :: l) = (ixN x.length k).bind fun j => putH h.length (.lst (x.set j v)) (h ++ .lst x :: l) := storeG_ref (get_app0)
@[simp] theorem lstM_a1 {g : Hs → List D → List D → Option (List D × D)} : lstM g (.ref (h.length + 1)) ds (h ++ o :: .lst x :: l) = lstMr (h ++ o :: .lst x :: l) (h.length + 1) (g (h ++ o :: .lst x :: l) x ds) := lstM_ref (get_app1)
@[simp] theorem storeG_a1 {k : Int} : storeG (.ref (h.length + 1)) (.int k) v (h ++ o :: .lst x :: l) = (ixN x.length k).bind fun j => putH (h.length + 1) (.lst (x.set j v)) (h ++ o :: .lst x :: l) := storeG_ref (get_app1)
@[simp] theorem lstM_a2 {g : Hs → List D → List D → Option (List D × D)} : lstM g (.ref (h.length + 2)) ds (h ++ o :: o1 :: .lst x :: l) = lstMr (h ++ o :: o1 :: .lst x :: l) (h.length + 2) (g (h ++ o :: o1 :: .lst x :: l) x ds) := lstM_ref (get_app2)
@[simp] theorem storeG_a2 {k : Int} : storeG (.ref (h.length + 2)) (.int k) v (h ++ o :: o1 :: .lst x :: l) = (ixN x.length k).bind fun j => putH (h.length + 2) (.lst (x.set j v)) (h ++ o :: o1 :: .lst x :: l) := storeG_ref (get_app2)
@[simp] theorem lstM_a3 {g : Hs → List D → List D → Option (List D × D)} : lstM g (.ref (h.length + 3)) ds (h ++ o :: o1 :: o2 :: .lst x :: l) = lstMr (h ++ o :: o1 :: o2 :: .lst x :: l) (h.length + 3) (g (h ++ o :: o1 :: o2 :: .lst x :: l) x ds) := lstM_ref (get_app3)
@[simp] theorem storeG_a3 {k : Int} : storeG (.ref (h.length + 3)) (.int k) v (h ++ o :: o1 :: o2 :: .lst x :: l) = (ixN x.length k).bind fun j => putH (h.length + 3) (.lst (x.set j v)) (h ++ o :: o1 :: o2 :: .lst x :: l) := storeG_ref (get_app3)
end
/-- of a source that needs no looking after -/
theorem lcM {α : Type} {m : Bool} {f : α → D} {ft : D → SD → Option SD} {fb fe : SD → Hs → R D} {vs : List Nat} {s : SD} {h : Hs} (g : α → D) (l : List α) (hl : l.length ≤ 16777216) (k : ∀ a ∈ l, lcT ft fb fe (wipeS s vs) (f a) h = .ok (some (g a)) h) :
    lcO m ft fb fe vs s (src0 (l.map f)) h = newL m (l.map g) h := lcO_map g l trivial hl k
theorem lcF {α : Type} {m : Bool} {f : α → D} {ft : D → SD → Option SD} {fb fe : SD → Hs → R D} {vs : List Nat} {s : SD} {h : Hs} (p : α → Bool) (g : α → D) (l : List α) (hl : l.length ≤ 16777216) (k : ∀ a ∈ l, lcT ft fb fe (wipeS s vs) (f a) h = .ok (if p a = true then some (g a) else none) h) :
    lcO m ft fb fe vs s (src0 (l.map f)) h = newL m ((l.filter p).map g) h := lcO_filter p g l trivial hl k
@[simp] theorem all_takeN {x : List D} {k : Nat} (e : x.all D.nr = true) : (x.take k).all D.nr = true := List.all_eq_true.mpr fun d hd => List.all_eq_true.mp e d (List.mem_of_mem_take hd)
@[simp] theorem all_dropN {x : List D} {k : Nat} (e : x.all D.nr = true) : (x.drop k).all D.nr = true := List.all_eq_true.mpr fun d hd => List.all_eq_true.mp e d (List.mem_of_mem_drop hd)
@[simp] theorem all_setN {x : List D} {k : Nat} {v : D} (e : x.all D.nr = true) (e2 : v.nr = true) : (x.set k v).all D.nr = true := nr_set e e2
/-! ### exceptions -/
section
variable {Γ : Mir} {n : Nat} {s : SD} {h : Hs}
@[simp] theorem s_rs {x : Str} : S.ev Γ n (.rs x) s h = .rs x none s h := by simp only [S.ev]
@[simp] theorem s_rsS {e : E} : S.ev Γ n (.rsS e) s h = (e.ev Γ s h).thenO s (rsVO s) := by simp only [S.ev]
@[simp] theorem rsVO_int {i : Int} : rsVO s (.int i) h = .rs "Short" (some i) s h := by unfold rsVO; simp only
def trM (cs : List Str) (y : Str) (i : Option Nat) (fs : SD → Hs → O) : O → O
  | .rs c p s1 h1 => if c ∈ cs then (if subX c y = true then endI i (fs (bindS i (.exc c p) s1) h1) else .rs c p s1 h1) else .stk
  | o => o
@[simp] theorem s_tr {cs : List Str} {y : Str} {i : Option Nat} {b t : List S} : S.ev Γ n (.tr cs y i b t) s h = trM cs y i (S.evs Γ n t) (S.evs Γ n b s h) := by
  simp only [S.ev]
  unfold trO trM
  cases S.evs Γ n b s h <;> simp only
variable {cs : List Str} {y c : Str} {i : Option Nat} {j : Nat} {fs : SD → Hs → O} {p : Option Int} {d : D}
@[simp] theorem trM_nx : trM cs y i fs (.nx s h) = .nx s h := by unfold trM; simp only
@[simp] theorem trM_rt : trM cs y i fs (.rt d h) = .rt d h := by unfold trM; simp only
@[simp] theorem trM_bk : trM cs y i fs (.bk s h) = .bk s h := by unfold trM; simp only
@[simp] theorem trM_ct : trM cs y i fs (.ct s h) = .ct s h := by unfold trM; simp only
@[simp] theorem trM_rs : trM cs y i fs (.rs c p s h) = if c ∈ cs then (if subX c y = true then endI i (fs (bindS i (.exc c p) s) h) else .rs c p s h) else .stk := by unfold trM; simp only
@[simp] theorem trM_ite {q : Prop} [Decidable q] {a b : O} : trM cs y i fs (if q then a else b) = if q then trM cs y i fs a else trM cs y i fs b := by split <;> rfl
@[simp] theorem endI_nx : endI i (.nx s h) = .nx (goneS i s) h := by unfold endI; simp only
@[simp] theorem endI_bk : endI i (.bk s h) = .bk (goneS i s) h := by unfold endI; simp only
@[simp] theorem endI_ct : endI i (.ct s h) = .ct (goneS i s) h := by unfold endI; simp only
@[simp] theorem endI_rt : endI i (.rt d h) = .rt d h := by unfold endI; simp only
@[simp] theorem endI_ite {q : Prop} [Decidable q] {a b : O} : endI i (if q then a else b) = if q then endI i a else endI i b := by split <;> rfl
@[simp] theorem bindS_some : bindS (some j) d s = s.set j (some d) := by unfold bindS; simp only
@[simp] theorem bindS_none : bindS none d s = s := by unfold bindS; simp only
@[simp] theorem goneS_some : goneS (some j) s = s.set j none := by unfold goneS; simp only
@[simp] theorem goneS_none : goneS none s = s := by unfold goneS; simp only
@[simp] theorem e_own {cat : Bool} {a b : E} : E.ev Γ (.own cat a b) s h = (a.ev Γ s h).bind fun x h1 => (b.ev Γ s h1).bind fun y h2 => ownO cat x y h2 := by simp only [E.ev]
@[simp] theorem e_isE {e : E} : E.ev Γ (.isE cs y e) s h = (e.ev Γ s h).bind (isEG cs y) := by simp only [E.ev]
@[simp] theorem e_had {e : E} : E.ev Γ (.had cs e) s h = (e.ev Γ s h).bind (hadG cs) := by simp only [E.ev]
@[simp] theorem isEG_exc (e : c ∈ cs) : isEG cs y (.exc c p) h = .ok (.bl (subX c y)) h := by unfold isEG; simp only [if_pos e]
@[simp] theorem hadG_exc {k : Int} (e : ("Short" : Str) ∈ cs) : hadG cs (.exc "Short" (some k)) h = .ok (.int k) h := by unfold hadG; dsimp only; rw [if_pos ⟨rfl, e⟩]
@[simp] theorem nr_exc {c : Str} {p : Option Int} : (D.exc c p).nr = true := by simp only [D.nr]
@[simp] theorem gIs_non_exc : gIs h (.exc c p) .non = some (.bl false) := by simp [gIs, gIs0]
@[simp] theorem gIs_non_non : gIs h .non .non = some (.bl true) := by simp [gIs, gIs0]
@[simp] theorem gIsNot_non_exc : gIsNot h (.exc c p) .non = some (.bl true) := by simp [gIsNot, gIs0]
@[simp] theorem gIsNot_non_non : gIsNot h .non .non = some (.bl false) := by simp [gIsNot, gIs0]
end
end Gx

/-! G14: data that stand for something: ==, !=, in, not in. -/
namespace Gx
open PySem L2
structure Enc {α : Type} [DecidableEq α] (f : α → D) (k : Nat) : Prop where
  lay : ∀ a, (f a).py.canLay0 = true
  dp : ∀ a, (f a).py.depth ≤ k
  nr : ∀ a, (f a).nr = true
  eq : ∀ a b, PyData.eqv (f a).py (f b).py = decide (a = b)
section
variable {α : Type} [DecidableEq α] {f : α → D} {k : Nat}
theorem enc_int : Enc D.int 0 where
  lay := fun a => by simp [D.py, PyData.canLay0]
  dp := fun a => by simp [D.py, PyData.depth]
  nr := fun a => by simp
  eq := fun a b => eqD_int
theorem enc_bl : Enc D.bl 0 where
  lay := fun a => by simp [D.py, PyData.canLay0]
  dp := fun a => by simp [D.py, PyData.depth]
  nr := fun a => by simp
  eq := fun a b => eqD_bl
theorem Enc.layAll (E : Enc f k) : ∀ l : List α, PyData.canLayAll0 ((l.map f).map D.py) = true
  | [] => by simp [PyData.canLayAll0]
  | a :: r => by simp only [List.map_cons, PyData.canLayAll0, E.lay a, E.layAll r, Bool.and_self]
theorem Enc.dpAll (E : Enc f k) : ∀ l : List α, PyData.depthAll ((l.map f).map D.py) ≤ k
  | [] => by simp [PyData.depthAll]
  | a :: r => by
    have h1 := E.dp a
    have h2 := E.dpAll r
    simp only [List.map_cons, PyData.depthAll]
    omega
theorem Enc.eqAll (E : Enc f k) : ∀ l m : List α, PyData.eqvAll ((l.map f).map D.py) ((m.map f).map D.py) = decide (l = m)
  | [], [] => by simp [PyData.eqvAll]
  | [], b :: m => by simp [PyData.eqvAll]
  | a :: l, [] => by simp [PyData.eqvAll]
  | a :: l, b :: m => by
    simp only [List.map_cons, PyData.eqvAll, E.eq a b, E.eqAll l m, List.cons.injEq]
    by_cases h1 : a = b <;> by_cases h2 : l = m <;> simp [h1, h2]
theorem Enc.tup (E : Enc f k) : Enc (fun l : List α => .tup (l.map f)) (k + 1) where
  lay := fun l => by simp only [D.py, pyL_map, PyData.canLay0]; exact E.layAll l
  dp := fun l => by simp only [D.py, pyL_map, PyData.depth]; have := E.dpAll l; omega
  nr := fun l => by simp [E.nr]
  eq := fun l m => by simp only [D.py, pyL_map, PyData.eqv]; exact E.eqAll l m
theorem Enc.vl (E : Enc f k) : Enc (fun l : List α => .vl (l.map f)) (k + 1) where
  lay := fun l => by simp only [D.py, pyL_map, PyData.canLay0]; exact E.layAll l
  dp := fun l => by simp only [D.py, pyL_map, PyData.depth]; have := E.dpAll l; omega
  nr := fun l => by simp [E.nr]
  eq := fun l m => by simp only [D.py, pyL_map, PyData.eqv]; exact E.eqAll l m
theorem Enc.shp (E : Enc f k) (hk : k ≤ 64) {x : D} {a : α} (hx : x.py = (f a).py) : shp x = true := by
  unfold Gx.shp SeqAt.shaped
  rw [hx, E.lay a]
  have := E.dp a
  simp
  omega
variable {h : Hs}
theorem dicP_lay {x y : D} (c : x.py.canLay0 = true) : dicP h x y = none ∨ ∃ n, x = .ref n := by
  cases x <;> first | exact .inl rfl | exact .inr ⟨_, rfl⟩ | (cases c; done)
theorem dicP_enc (E : Enc f k) {a : α} {y : D} : dicP h (f a) y = none := by
  rcases dicP_lay (h := h) (y := y) (E.lay a) with e | ⟨n, e⟩
  · exact e
  · have := E.nr a
    rw [e] at this
    simp [D.nr] at this
theorem gEq_enc (E : Enc f k) (hk : k ≤ 64) {a b : α} : gEq h (f a) (f b) = some (.bl (decide (a = b))) := by
  unfold gEq
  rw [dicP_enc E]
  simp only
  rw [rsv_nr (E.nr a), rsv_nr (E.nr b), if_pos ⟨E.shp hk rfl, E.shp hk rfl⟩]
  unfold eqD
  rw [E.eq]
theorem gNe_enc (E : Enc f k) (hk : k ≤ 64) {a b : α} : gNe h (f a) (f b) = some (.bl (decide (a ≠ b))) := by
  unfold gNe
  rw [dicP_enc E]
  simp only
  rw [rsv_nr (E.nr a), rsv_nr (E.nr b), if_pos ⟨E.shp hk rfl, E.shp hk rfl⟩]
  unfold eqD
  rw [E.eq]
  simp
theorem inD_enc (E : Enc f k) {a : α} {l : List α} : inD (f a) (l.map f) = decide (a ∈ l) := by
  unfold inD
  rw [List.any_map]
  have : ((fun z => eqD z (f a)) ∘ f) = fun b => decide (b = a) := funext fun b => E.eq b a
  rw [this]
  rw [Bool.eq_iff_iff, List.any_eq_true]
  constructor
  · rintro ⟨b, h1, h2⟩
    have h2 := of_decide_eq_true h2
    subst h2
    exact decide_eq_true h1
  · intro h
    exact ⟨a, of_decide_eq_true h, decide_eq_true rfl⟩
theorem gIn0_tup (E : Enc f k) (hk : k < 64) {a : α} {l : List α} : gIn0 h (f a) (.tup (l.map f)) = some (decide (a ∈ l)) := by
  unfold gIn0
  rw [rsv_nr (E.nr a), rsv_nr (E.tup.nr l)]
  dsimp only
  rw [if_pos ⟨E.shp (by omega) rfl, E.tup.shp (a := l) (by omega) rfl⟩, inD_enc E]
theorem gIn0_vl (E : Enc f k) (hk : k < 64) {a : α} {l : List α} : gIn0 h (f a) (.vl (l.map f)) = some (decide (a ∈ l)) := by
  unfold gIn0
  rw [rsv_nr (E.nr a), rsv_nr (E.vl.nr l)]
  dsimp only
  rw [if_pos ⟨E.shp (by omega) rfl, E.vl.shp (a := l) (by omega) rfl⟩, inD_enc E]
/-- of an object, as of the value that it holds -/
theorem rsv_ref {n : Nat} {l : List D} (e : h[n]? = some (.lst l)) (hl : l.all D.nr = true) : rsv h (.ref n) = .vl l := by
  unfold rsv D.rv rf
  rw [e]
  dsimp only
  rw [rvL_nr _ l (by rw [nrL_all]; exact hl)]
theorem gIn0_ref (E : Enc f k) (hk : k < 64) {a : α} {l : List α} {n : Nat} (e : h[n]? = some (.lst (l.map f))) : gIn0 h (f a) (.ref n) = some (decide (a ∈ l)) := by
  have e1 : (l.map f).all D.nr = true := by simp [E.nr]
  have := gIn0_vl (h := h) E hk (a := a) (l := l)
  unfold gIn0 at this ⊢
  rw [rsv_ref e e1]
  rw [rsv_nr (E.vl.nr l)] at this
  exact this
theorem gIn_of {b : D} (e : dicH h b = none) {a : D} : gIn h a b = (gIn0 h a b).map .bl := by unfold gIn; rw [e]
theorem gNotIn_of {b : D} (e : dicH h b = none) {a : D} : gNotIn h a b = (gIn0 h a b).map fun k => .bl (!k) := by unfold gNotIn; rw [e]
theorem dicH_ref {n : Nat} {l : List D} (e : h[n]? = some (.lst l)) : dicH h (.ref n) = none := by unfold dicH; simp [e]
theorem gIn_tup (E : Enc f k) (hk : k < 64) {a : α} {l : List α} : gIn h (f a) (.tup (l.map f)) = some (.bl (decide (a ∈ l))) := by rw [gIn_of rfl, gIn0_tup E hk]; rfl
theorem gIn_vl (E : Enc f k) (hk : k < 64) {a : α} {l : List α} : gIn h (f a) (.vl (l.map f)) = some (.bl (decide (a ∈ l))) := by rw [gIn_of rfl, gIn0_vl E hk]; rfl
theorem gIn_ref (E : Enc f k) (hk : k < 64) {a : α} {l : List α} {n : Nat} (e : h[n]? = some (.lst (l.map f))) : gIn h (f a) (.ref n) = some (.bl (decide (a ∈ l))) := by rw [gIn_of (dicH_ref e), gIn0_ref E hk e]; rfl
theorem gNotIn_tup (E : Enc f k) (hk : k < 64) {a : α} {l : List α} : gNotIn h (f a) (.tup (l.map f)) = some (.bl (decide (a ∉ l))) := by rw [gNotIn_of rfl, gIn0_tup E hk]; simp
theorem gNotIn_vl (E : Enc f k) (hk : k < 64) {a : α} {l : List α} : gNotIn h (f a) (.vl (l.map f)) = some (.bl (decide (a ∉ l))) := by rw [gNotIn_of rfl, gIn0_vl E hk]; simp
theorem gNotIn_ref (E : Enc f k) (hk : k < 64) {a : α} {l : List α} {n : Nat} (e : h[n]? = some (.lst (l.map f))) : gNotIn h (f a) (.ref n) = some (.bl (decide (a ∉ l))) := by rw [gNotIn_of (dicH_ref e), gIn0_ref E hk e]; simp
end
/-! ### of the joints -/
/-- of all of a list, one by one -/
def AllP {α : Type} (p : α → Prop) : List α → Prop
  | [] => True
  | a :: r => p a ∧ AllP p r
theorem mem_all {α : Type} {p : α → Prop} : ∀ {l : List α}, AllP p l → ∀ a ∈ l, p a
  | [], _, a, h => by cases h
  | b :: r, h, a, m => by
    rcases List.mem_cons.mp m with e | e
    · rw [e]; exact h.1
    · exact mem_all h.2 a e
theorem kit_own {K : PySem.W.Frag} {C D : Addr} {b s : Bool} (h1 : PySem.W.hasDictIn K D = true) (h2 : PySem.W.typeIn K (.ref D) = some (.type "type")) (h3 : PySem.W.subIn K (.ref C) (.ref D) = some b) (h4 : PySem.W.subIn K (.ref C) (.ref C) = some true) (e : b = s) : PySem.W.kitOne K (.ref C) (.ref D) = some s := by
  subst e
  unfold PySem.W.kitOne
  by_cases z : C = D
  · subst z
    rw [h3] at h4
    injection h4 with h4
    subst h4
    rw [if_pos (by simp)]
  · have : ((Value.ref C == Value.ref D) = true) = False := by simp [z]
    rw [if_neg (by simp [z])]
    unfold PySem.W.kitCls
    have h5 : (PySem.W.clsIn K D).isSome = true := by
      unfold PySem.W.hasDictIn at h1
      cases q : PySem.W.clsIn K D with
      | none => rw [q] at h1; cases h1
      | some x => rfl
    dsimp only
    rw [if_pos (by rw [h5, h2]; rfl)]
    exact h3
theorem kit_ve {K : PySem.W.Frag} {C : Addr} (h : PySem.W.subIn K (.ref C) (.type "ValueError") = some true) : PySem.W.kitOne K (.ref C) (.type "ValueError") = some true := by
  unfold PySem.W.kitOne
  rw [if_neg (by simp)]
  unfold PySem.W.kitCls
  dsimp only
  rw [if_pos (by decide +kernel)]
  exact h
theorem row_own {F : Fr} {x : Str} {C D : Addr} {b s : Bool} (e : F.cls x = .ref C) (h1 : PySem.W.hasDictIn F.K D = true) (h2 : PySem.W.typeIn F.K (.ref D) = some (.type "type")) (h3 : PySem.W.subIn F.K (.ref C) (.ref D) = some b) (h4 : PySem.W.subIn F.K (.ref C) (.ref C) = some true)
    (h5 : PySem.W.subIn F.K (.ref D) (.type "BaseException") = some true) (q : b = s) : PySem.W.kitOne F.K (F.cls x) (.ref D) = some s ∧ PySem.W.exmOne F.K (F.cls x) (.ref D) = some s := by
  rw [e]
  refine ⟨kit_own h1 h2 h3 h4 q, PySem.W.exm_ref h5 h1 h2 ?_⟩
  rw [h3, q]
theorem row_ve {F : Fr} {x : Str} {C : Addr} (e : F.cls x = .ref C) (h : PySem.W.subIn F.K (.ref C) (.type "ValueError") = some true) : PySem.W.kitOne F.K (F.cls x) (.type "ValueError") = some true := by rw [e]; exact kit_ve h
end Gx

namespace Gx
open PySem L2
@[simp] theorem exm_NoTable : (("NoTable" : Str) ∈ (["NoTable", "NoHouse", "NoDeed", "TooMany", "Short"] : List Str)) = True := by simp only [eq_iff_iff, iff_true]; decide
@[simp] theorem exm_NoHouse : (("NoHouse" : Str) ∈ (["NoTable", "NoHouse", "NoDeed", "TooMany", "Short"] : List Str)) = True := by simp only [eq_iff_iff, iff_true]; decide
@[simp] theorem exm_NoDeed : (("NoDeed" : Str) ∈ (["NoTable", "NoHouse", "NoDeed", "TooMany", "Short"] : List Str)) = True := by simp only [eq_iff_iff, iff_true]; decide
@[simp] theorem exm_TooMany : (("TooMany" : Str) ∈ (["NoTable", "NoHouse", "NoDeed", "TooMany", "Short"] : List Str)) = True := by simp only [eq_iff_iff, iff_true]; decide
@[simp] theorem exm_Short : (("Short" : Str) ∈ (["NoTable", "NoHouse", "NoDeed", "TooMany", "Short"] : List Str)) = True := by simp only [eq_iff_iff, iff_true]; decide
@[simp] theorem sub_NoTable_Short : subX "NoTable" "Short" = false := by decide
@[simp] theorem sub_NoHouse_Short : subX "NoHouse" "Short" = false := by decide
@[simp] theorem sub_NoDeed_Short : subX "NoDeed" "Short" = false := by decide
@[simp] theorem sub_TooMany_Short : subX "TooMany" "Short" = false := by decide
@[simp] theorem sub_Short_Short : subX "Short" "Short" = true := by decide
end Gx
namespace Gx
open PySem L2
/-! tables of ints -/
def rowD (r : List Int) : D := .tup (r.map .int)
def tabD (t : List (List Int)) : D := .tup (t.map rowD)
theorem enc_row : Enc rowD 1 := enc_int.tup
theorem enc_tab : Enc tabD 2 := enc_row.tup
@[simp] theorem nr_rowD (r : List Int) : (rowD r).nr = true := enc_row.nr r
@[simp] theorem nr_tabD (t : List (List Int)) : (tabD t).nr = true := enc_tab.nr t
section
variable {h : Hs}
@[simp] theorem len_tabD (t : List (List Int)) : gLen h [tabD t] = some (.int t.length) := by simp [tabD]
@[simp] theorem len_rowD (t : List Int) : gLen h [rowD t] = some (.int t.length) := by simp [rowD]
@[simp] theorem sum_rowD (t : List Int) : gSum h [rowD t] = some (.int t.sum) := by simp [rowD]
def rowA (t : List (List Int)) (h : Int) : List Int := (t[h.toNat]?).getD []
def cellA (r : List Int) (k : Int) : Int := (r[k.toNat]?).getD 0
/-- each row has one number more than there are rows -/
def wfB (t : List (List Int)) : Bool := t.all fun r => r.length == t.length + 1
theorem ix_tab {t : List (List Int)} {i : Int} (h0 : 0 ≤ i) (h1 : i < t.length) : gIx h (tabD t) (.int i) = some (rowD (rowA t i)) := by
  have e : t[i.toNat]? = some (t[i.toNat]'(by omega)) := List.getElem?_eq_getElem (by omega)
  unfold tabD rowA
  rw [gIx_tupm h0 h1, e]
  rfl
theorem ix_row {r : List Int} {k : Int} (h0 : 0 ≤ k) (h1 : k < r.length) : gIx h (rowD r) (.int k) = some (.int (cellA r k)) := by
  have e : r[k.toNat]? = some (r[k.toNat]'(by omega)) := List.getElem?_eq_getElem (by omega)
  unfold rowD cellA
  rw [gIx_tupm h0 h1, e]
  rfl
theorem row_mem {t : List (List Int)} {h : Int} (h0 : 0 ≤ h) (h1 : h < t.length) : rowA t h ∈ t := by
  have e : t[h.toNat]? = some (t[h.toNat]'(by omega)) := List.getElem?_eq_getElem (by omega)
  unfold rowA
  rw [e]
  exact List.getElem_mem _
theorem wf_row {t : List (List Int)} (w : wfB t = true) {r : List Int} (h : r ∈ t) : r.length = t.length + 1 := by
  have := List.all_eq_true.mp w r h
  simpa using this
theorem wf_len {t : List (List Int)} (w : wfB t = true) {h : Int} (h0 : 0 ≤ h) (h1 : h < t.length) : ((rowA t h).length : Int) = t.length + 1 := by
  have := wf_row w (row_mem h0 h1)
  omega
theorem wf_of {t : List (List Int)} (h : ∀ r ∈ t, r.length = t.length + 1) : wfB t = true := List.all_eq_true.mpr fun r hr => by simp [h r hr]
theorem cut_row {r : List Int} {k : Nat} : cutD (r.map D.int) none (some (k : Int)) = (r.take k).map .int := by rw [cut_take, List.map_take]
@[simp] theorem sl_row {m : Bool} {r : List Int} {k : Nat} : slG m none (some (k : Int)) (rowD r) h = .ok (rowD (r.take k)) h := by
  unfold rowD
  rw [slG_tup, cut_row]
def lentByI (t : List (List Int)) (h : Int) : Int := ((rowA t h).take t.length).sum - cellA (rowA t h) h
def lentToI (t : List (List Int)) (h : Int) : Int := (t.map fun r => cellA r h).sum - cellA (rowA t h) h
def rightsI (t : List (List Int)) (h : Int) : Int := cellA (rowA t h) h + lentToI t h - lentByI t h - cellA (rowA t h) t.length
def pairD (p : List Int × List Int) : D := .tup [rowD p.1, rowD p.2]
def pairI (p : Int × Int) : D := .tup [.int p.1, .int p.2]
@[simp] theorem src_tabD {t : List (List Int)} : srcOf (tabD t) h = .ok (src0 (t.map rowD)) h := by unfold tabD; rw [src_tup]
@[simp] theorem src_rowD {t : List Int} : srcOf (rowD t) h = .ok (src0 (t.map .int)) h := by unfold rowD; rw [src_tup]
@[simp] theorem zip_tab {s t : List (List Int)} : zipO [tabD s, tabD t] h = .ok (src0 ((s.zip t).map pairD)) h := by
  unfold tabD
  rw [zip_tup2, List.zip_map, List.map_map]
  rfl
@[simp] theorem zip_row {s t : List Int} : zipO [rowD s, rowD t] h = .ok (src0 ((s.zip t).map pairI)) h := by
  unfold rowD
  rw [zip_tup2, List.zip_map, List.map_map]
  rfl
theorem rngN {n : Nat} (e : n ≤ 1000000) : rngO1 [.int (n : Int)] h = .ok (src0 ((List.range n).map fun (i : Nat) => .int i)) h := by
  have := rng1 (h := h) (j := (n : Int)) (by omega) (by omega)
  rwa [Int.toNat_natCast] at this
end
theorem forL_foldI {α β : Type} {f : α → D} {turn : D → SD → Hs → O} (st : β → SD) (hp : β → Hs) (step : β → α → β) (inv : Nat → β → Prop) (N : Nat) : ∀ (l : List α) (i : Nat) (b : β), i + l.length ≤ N → inv i b → (∀ i b a, a ∈ l → i < N → inv i b → turn (f a) (st b) (hp b) = .nx (st (step b a)) (hp (step b a)) ∧ inv (i + 1) (step b a)) →
    forL turn (l.map f) (st b) (hp b) = .nx (st (l.foldl step b)) (hp (l.foldl step b)) ∧ inv (i + l.length) (l.foldl step b)
  | [], i, b, _, h, _ => ⟨forL_nil, h⟩
  | a :: r, i, b, hl, hi, h => by
    rw [List.length_cons] at hl
    obtain ⟨h1, h2⟩ := h i b a List.mem_cons_self (by omega) hi
    obtain ⟨h3, h4⟩ := forL_foldI st hp step inv N r (i + 1) (step b a) (by omega) h2 fun i' b' a' m => h i' b' a' (List.mem_cons_of_mem _ m)
    refine ⟨?_, ?_⟩
    · rw [List.map_cons, forL_nx h1]
      exact h3
    · rw [List.length_cons, List.foldl_cons]
      have : i + (r.length + 1) = i + 1 + r.length := by omega
      rw [this]
      exact h4
/-- what is of interest is carried; the rest is something -/
theorem forL_st {α β γ : Type} {f : α → D} {turn : D → SD → Hs → O} (st : β → γ → SD) (hp : β → Hs) (step : β → α → β) (inv : β → Prop) : ∀ (l : List α) (b : β) (c : γ), inv b → (∀ b c a, a ∈ l → inv b → (∃ c', turn (f a) (st b c) (hp b) = .nx (st (step b a) c') (hp (step b a))) ∧ inv (step b a)) →
    (∃ c', forL turn (l.map f) (st b c) (hp b) = .nx (st (l.foldl step b) c') (hp (l.foldl step b))) ∧ inv (l.foldl step b)
  | [], b, c, i, _ => ⟨⟨c, forL_nil⟩, i⟩
  | a :: r, b, c, i, k => by
    obtain ⟨⟨c', h1⟩, h2⟩ := k b c a List.mem_cons_self i
    obtain ⟨⟨c2, h3⟩, h4⟩ := forL_st st hp step inv r (step b a) c' h2 fun b' c' a' m i' => k b' c' a' (List.mem_cons_of_mem _ m) i'
    exact ⟨⟨c2, by rw [List.map_cons, forL_nx h1]; exact h3⟩, h4⟩
theorem foldl_fst {α β γ : Type} {f : β → α → β} {g : β × γ → α → γ} : ∀ {l : List α} {b : β} {c : γ}, (l.foldl (fun (z : β × γ) a => (f z.1 a, g z a)) (b, c)).1 = l.foldl f b
  | [], b, c => rfl
  | a :: r, b, c => by rw [List.foldl_cons, List.foldl_cons]; exact foldl_fst (l := r)
/-- rows put to a list one by one -/
theorem forL_rows {α γ : Type} {f : α → D} {e : γ → D} {turn : D → SD → Hs → O} {h : Hs} (st : Option D → SD) (g : α → γ) (l : List α) (x : Option D) (N : Nat) (hl : l.length ≤ N) (k : ∀ (acc : List γ) x a, a ∈ l → acc.length < N → turn (f a) (st x) (h ++ [.lst (acc.map e)]) = .nx (st (some (f a))) (h ++ [.lst ((acc ++ [g a]).map e)])) :
    ∃ x', forL turn (l.map f) (st x) (h ++ [.lst []]) = .nx (st x') (h ++ [.lst ((l.map g).map e)]) := by
  have F := forL_foldI (f := f) (turn := turn) (fun (b : List γ × Option D) => st b.2) (fun b => h ++ [.lst (b.1.map e)]) (fun b a => (b.1 ++ [g a], some (f a))) (fun i b => b.1.length = i) N l 0 ([], x) (by omega) rfl fun i b a m hi hb => ⟨k b.1 b.2 a m (by omega), by simp [hb]⟩
  have e1 : ∀ (l : List α) (b : List γ × Option D), (l.foldl (fun b a => (b.1 ++ [g a], some (f a))) b).1 = b.1 ++ l.map g := by
    intro l
    induction l with
    | nil => simp
    | cons a r ih => intro b; rw [List.foldl_cons, ih]; simp
  have F1 := F.1
  have F2 := e1 l ([], x)
  simp only [List.nil_append] at F2
  simp only [F2] at F1
  exact ⟨_, F1⟩
theorem rowA_nat {t : List (List Int)} {i : Nat} (h : i < t.length) : rowA t i = t[i] := by
  unfold rowA
  rw [Int.toNat_natCast, List.getElem?_eq_getElem h]
  rfl
theorem cellA_nat {r : List Int} {i : Nat} (h : i < r.length) : cellA r i = r[i] := by
  unfold cellA
  rw [Int.toNat_natCast, List.getElem?_eq_getElem h]
  rfl
theorem rows_eq (t : List (List Int)) : t = (List.range t.length).map fun (i : Nat) => rowA t i := by
  refine List.ext_getElem (by simp) fun i h1 h2 => ?_
  simp [rowA_nat h1]
theorem sum_rows {t : List (List Int)} {f : List Int → Int} : (t.map f).sum = ((List.range t.length).map fun (i : Nat) => f (rowA t i)).sum := by
  have := congrArg (fun l : List (List Int) => (l.map f).sum) (rows_eq t)
  simpa [Function.comp_def] using this
theorem sum_congr {l : List Nat} {f g : Nat → Int} (h : ∀ i ∈ l, f i = g i) : (l.map f).sum = (l.map g).sum := by rw [List.map_congr_left h]
theorem sum_add {l : List Nat} {f g : Nat → Int} : (l.map fun i => f i + g i).sum = (l.map f).sum + (l.map g).sum := by
  induction l with
  | nil => rfl
  | cons a r ih => simp only [List.map_cons, List.sum_cons, ih]; omega
theorem foldl_sum {l : List Nat} {f : Nat → Int} : ∀ m : Int, l.foldl (fun m i => m + f i) m = m + (l.map f).sum := by
  induction l with
  | nil => intro m; simp
  | cons a r ih => intro m; rw [List.foldl_cons, ih, List.map_cons, List.sum_cons]; omega
theorem sum_nonneg {l : List Nat} {f : Nat → Int} (h : ∀ i ∈ l, 0 ≤ f i) : 0 ≤ (l.map f).sum := by
  induction l with
  | nil => simp
  | cons a r ih =>
    rw [List.map_cons, List.sum_cons]
    have := h a List.mem_cons_self
    have := ih fun i hi => h i (List.mem_cons_of_mem _ hi)
    omega
/-- rights look at the house's own row and column alone -/
theorem rights_same {t u : List (List Int)} {h : Int} (h0 : 0 ≤ h) (h1 : h < t.length) (l : t.length = u.length) (r : rowA t h = rowA u h) (c : ∀ i : Nat, i < t.length → cellA (rowA t i) h = cellA (rowA u i) h) : rightsI t h = rightsI u h := by
  have e : (t.map fun r => cellA r h).sum = (u.map fun r => cellA r h).sum := by
    rw [sum_rows, sum_rows, ← l]
    exact sum_congr fun i hi => c i (List.mem_range.mp hi)
  unfold rightsI lentToI lentByI
  rw [r, e, l]
theorem rowA_set {t : List (List Int)} {h i : Int} {r : List Int} (h0 : 0 ≤ h) (h1 : h < t.length) (i0 : 0 ≤ i) : rowA (t.set h.toNat r) i = if i = h then r else rowA t i := by
  unfold rowA
  rw [List.getElem?_set]
  by_cases e : h.toNat = i.toNat
  · have : i = h := by omega
    subst this
    have : i.toNat < t.length := by omega
    simp [this]
  · have : i ≠ h := fun z => e (by rw [z])
    simp [e, this]
theorem cellA_set {r : List Int} {h k x : Int} (h0 : 0 ≤ h) (h1 : h < r.length) (k0 : 0 ≤ k) : cellA (r.set h.toNat x) k = if k = h then x else cellA r k := by
  unfold cellA
  rw [List.getElem?_set]
  by_cases e : h.toNat = k.toNat
  · have : k = h := by omega
    subst this
    have : k.toNat < r.length := by omega
    simp [this]
  · have : k ≠ h := fun z => e (by rw [z])
    simp [e, this]
theorem wf_set {t : List (List Int)} {i : Nat} {r : List Int} (w : wfB t = true) (hr : r.length = t.length + 1) : wfB (t.set i r) = true := by
  unfold wfB
  refine List.all_eq_true.mpr fun x hx => ?_
  rw [List.length_set]
  rcases List.mem_or_eq_of_mem_set hx with z | z
  · simp [wf_row w z]
  · subst z; simp [hr]
def lrI (t : List (List Int)) (h : Int) (i : Nat) : Int := cellA (rowA t i) h - if (i : Int) = h then 0 else cellA (rowA t h) i
theorem sum_take {r : List Int} {n : Nat} (h : n ≤ r.length) : (r.take n).sum = ((List.range n).map fun (i : Nat) => cellA r i).sum := by
  have : r.take n = (List.range n).map fun (i : Nat) => cellA r i := by
    refine List.ext_getElem (by simp; omega) fun i h1 h2 => ?_
    have : i < r.length := by simp at h1; omega
    simp [cellA_nat this]
  rw [this]
theorem sum_one {n h : Nat} {f : Nat → Int} (hh : h < n) : ((List.range n).map fun (i : Nat) => if i = h then 0 else f i).sum = ((List.range n).map f).sum - f h := by
  have e : ((List.range n).map fun (i : Nat) => if i = h then f i else 0).sum = f h := by
    induction n with
    | zero => omega
    | succ n ih =>
      rw [List.range_succ, List.map_append, List.sum_append]
      by_cases q : h = n
      · subst q
        have z : ((List.range h).map fun (i : Nat) => if i = h then f i else 0).sum = ((List.range h).map fun _ => (0 : Int)).sum := sum_congr fun i hi => by
          have := List.mem_range.mp hi
          rw [if_neg (by omega)]
        have z2 : ∀ l : List Nat, (l.map fun _ => (0 : Int)).sum = 0 := fun l => by
          induction l with
          | nil => rfl
          | cons a r ih => rw [List.map_cons, List.sum_cons, ih]; rfl
        rw [z, z2]
        simp
      · rw [ih (by omega)]
        simp
        omega
  have := sum_add (l := List.range n) (f := fun i => if i = h then 0 else f i) (g := fun i => if i = h then f i else 0)
  rw [e] at this
  have e2 : (fun (i : Nat) => (if i = h then (0 : Int) else f i) + if i = h then f i else 0) = f := by
    funext i
    split <;> omega
  rw [e2] at this
  omega
theorem lr_sum {t : List (List Int)} {h : Int} (w : wfB t = true) (h0 : 0 ≤ h) (h1 : h < t.length) : ((List.range t.length).map (lrI t h)).sum - cellA (rowA t h) t.length = rightsI t h := by
  have hl := wf_len w h0 h1
  have e1 : ((List.range t.length).map (lrI t h)).sum = ((List.range t.length).map fun (i : Nat) => cellA (rowA t i) h).sum + ((List.range t.length).map fun (i : Nat) => if i = h.toNat then 0 else - cellA (rowA t h) i).sum := by
    rw [← sum_add]
    refine sum_congr fun i _ => ?_
    unfold lrI
    by_cases e : (i : Int) = h
    · rw [if_pos e, if_pos (by omega)]; omega
    · rw [if_neg e, if_neg (by omega)]; omega
  have e2 : ((List.range t.length).map fun (i : Nat) => - cellA (rowA t h) i).sum = - ((List.range t.length).map fun (i : Nat) => cellA (rowA t h) i).sum := by
    induction (List.range t.length) with
    | nil => rfl
    | cons a r ih => simp only [List.map_cons, List.sum_cons, ih]; omega
  have hh : (h.toNat : Int) = h := by omega
  rw [e1, sum_one (f := fun i => - cellA (rowA t h) i) (by omega), e2]
  unfold rightsI lentToI lentByI
  rw [sum_rows, sum_take (by omega)]
  simp only [hh]
  omega
/-- one turn of a loop; used in place of turnO's own unfolding, which the kernel would check by unfolding all -/
def turnM (fb : SD → Hs → O) (h : Hs) : Option SD → O
  | some s => fb s h
  | none => .stk
theorem turnE {ft : D → SD → Option SD} {fb : SD → Hs → O} {d : D} {s : SD} {h : Hs} : turnO ft fb d s h = turnM fb h (ft d s) := by
  unfold turnO turnM
  cases ft d s <;> rfl
@[simp] theorem turnM_some {fb : SD → Hs → O} {s : SD} {h : Hs} : turnM fb h (some s) = fb s h := by generalize e : fb s h = y; exact e
/-- a state carried, the turns counted; the rest is something -/
theorem forL_sti {α β γ : Type} {f : α → D} {turn : D → SD → Hs → O} (st : β → γ → SD) (hp : β → Hs) (step : β → α → β) (inv : Nat → β → Prop) (N : Nat) : ∀ (l : List α) (i : Nat) (b : β) (c : γ), i + l.length ≤ N → inv i b → (∀ i b c a, a ∈ l → i < N → inv i b → (∃ c', turn (f a) (st b c) (hp b) = .nx (st (step b a) c') (hp (step b a))) ∧ inv (i + 1) (step b a)) →
    (∃ c', forL turn (l.map f) (st b c) (hp b) = .nx (st (l.foldl step b) c') (hp (l.foldl step b))) ∧ inv (i + l.length) (l.foldl step b)
  | [], i, b, c, _, j, _ => ⟨⟨c, forL_nil⟩, j⟩
  | a :: r, i, b, c, hl, j, k => by
    rw [List.length_cons] at hl
    obtain ⟨⟨c', h1⟩, h2⟩ := k i b c a List.mem_cons_self (by omega) j
    obtain ⟨⟨c2, h3⟩, h4⟩ := forL_sti st hp step inv N r (i + 1) (step b a) c' (by omega) h2 fun i' b' c' a' m => k i' b' c' a' (List.mem_cons_of_mem _ m)
    refine ⟨⟨c2, by rw [List.map_cons, forL_nx h1]; exact h3⟩, ?_⟩
    rw [List.length_cons, List.foldl_cons]
    have : i + (r.length + 1) = i + 1 + r.length := by omega
    rw [this]
    exact h4
/-- the items put to a list one by one -/
theorem foldl_app {α β : Type} {g : α → β} : ∀ {l : List α} {b : List β}, l.foldl (fun b a => b ++ [g a]) b = b ++ l.map g
  | [], b => by simp
  | a :: r, b => by rw [List.foldl_cons, foldl_app (l := r)]; simp
@[simp] theorem kill_intO {k : Nat} {c : Option Int} : kill k (c.map D.int) = c.map D.int := by cases c <;> simp
@[simp] theorem kill_blO {k : Nat} {c : Option Bool} : kill k (c.map D.bl) = c.map D.bl := by cases c <;> simp
theorem clB_pre {h a b l : Hs} (e : a.length = b.length) (c : ∀ o ∈ b, o.bel (h.length + a.length) = true) : ClB (h ++ a) (h ++ (b ++ l)) := fun n o hn q => by
  rw [List.length_append] at hn ⊢
  by_cases z : n < h.length
  · rw [List.getElem?_append_left z] at q ⊢
    exact .inl q
  · rw [List.getElem?_append_right (by omega), List.getElem?_append_left (by omega)] at q
    exact .inr (c o (List.mem_of_getElem? q))
/-- what a turn leaves behind is cut off -/
theorem cut_at {h a b l : Hs} {s : SD} (e : a.length = b.length) (c : ∀ o ∈ b, o.bel (h.length + a.length) = true) : (O.nx s (h ++ (b ++ l))).cut (h ++ a) = .nx (killS (h.length + a.length) s) (h ++ b) := by
  rw [cut_nx (clB_pre e c), List.length_append, ← List.append_assoc]
  congr 1
  rw [List.take_append_of_le_length (by rw [List.length_append]; omega), List.take_of_length_le (by rw [List.length_append]; omega)]
@[simp] theorem bel_lst {n : Nat} {l : List D} (e : l.all D.nr = true) : (HO'.lst l).bel n = true := by
  unfold HO'.bel
  exact belL_nr n l (by rw [nrL_all]; exact e)
@[simp] theorem nr_script {ns : List Int} : (script ns).nr = true := by simp [script]
theorem whL_step {c : SD → Hs → R D} {f : SD → Hs → O} {n : Nat} {s s' : SD} {h h' : Hs} (e1 : c s h = .ok (.bl true) h) (e2 : f s h = .nx s' h') : whL c f (n + 1) s h = whL c f n s' h' := by
  rw [whL, e1]
  simp only [toB_bl, thenO_ok, e2]
theorem whL_end {c : SD → Hs → R D} {f : SD → Hs → O} {n : Nat} {s : SD} {h : Hs} (e1 : c s h = .ok (.bl false) h) : whL c f (n + 1) s h = .nx s h := by
  rw [whL, e1]
  simp only [toB_bl, thenO_ok]
theorem turn_go {ft : D → SD → Option SD} {fb : SD → Hs → O} {d : D} {s s' : SD} {h : Hs} {r : O} (e : ft d s = some s') (e2 : fb s' h = r) : turnO ft fb d s h = r := by rw [turnO_of e, e2]
/-- a suite in two parts -/
theorem evs_two {Γ : Mir} {n : Nat} {l a b : List S} {s s' : SD} {h h' : Hs} {r : O} (el : l = a ++ b) (e : S.evs Γ n a s h = .nx s' h') (e2 : S.evs Γ n b s' h' = r) : S.evs Γ n l s h = r := by rw [el, evs_append, e, seq_nx, e2]
end Gx

namespace Gx
open PySem L2
/-! the table of the greatest number at each place -/
theorem maxL_mem : ∀ (r : List Int) (a : Int), maxL a r ∈ a :: r
  | [], a => by simp [maxL]
  | x :: r, a => by
    have h := maxL_mem r (if x > a then x else a)
    have e : maxL a (x :: r) = maxL (if x > a then x else a) r := rfl
    rw [e]
    rcases List.mem_cons.mp h with h | h
    · rw [h]; split <;> simp
    · simp [h]
theorem maxL_le : ∀ (r : List Int) (a x : Int), x ∈ a :: r → x ≤ maxL a r
  | [], a, x, h => by simp at h; simp [maxL, h]
  | y :: r, a, x, h => by
    have e : maxL a (y :: r) = maxL (if y > a then y else a) r := rfl
    rw [e]
    have h0 := maxL_le r (if y > a then y else a) _ List.mem_cons_self
    rcases List.mem_cons.mp h with h | h
    · refine Int.le_trans ?_ h0
      rw [h]; split <;> omega
    · rcases List.mem_cons.mp h with h | h
      · refine Int.le_trans ?_ h0
        rw [h]; split <;> omega
      · exact maxL_le r _ x (List.mem_cons_of_mem _ h)
def cel (t : List (List Int)) (i j : Nat) : Int := cellA (rowA t i) j
structure Tab (n : Nat) (t : List (List Int)) : Prop where
  wf : wfB t = true
  len : t.length = n
theorem Tab.row {n : Nat} {t : List (List Int)} (T : Tab n t) {i : Nat} (h : i < n) : (rowA t i).length = n + 1 := by
  have := wf_len T.wf (h := (i : Int)) (by omega) (by rw [T.len]; omega)
  rw [T.len] at this
  omega
theorem Tab.ext {n : Nat} {s t : List (List Int)} (S : Tab n s) (T : Tab n t) (h : ∀ i j : Nat, i < n → j < n + 1 → cel s i j = cel t i j) : s = t := by
  refine List.ext_getElem (by rw [S.len, T.len]) fun i h1 h2 => ?_
  have r1 := S.row (i := i) (by rw [← S.len]; exact h1)
  have r2 := T.row (i := i) (by rw [← S.len]; exact h1)
  rw [rowA_nat h1] at r1
  rw [rowA_nat h2] at r2
  refine List.ext_getElem (by rw [r1, r2]) fun j h3 h4 => ?_
  have := h i j (by rw [← S.len]; exact h1) (by omega)
  unfold cel at this
  rw [rowA_nat h1, rowA_nat h2, cellA_nat h3, cellA_nat h4] at this
  exact this
structure Sup (n : Nat) (T : List (List Int)) (ts : List (List (List Int))) : Prop where
  tab : Tab n T
  at' : ∀ i j : Nat, i < n → j < n + 1 → ∃ t ∈ ts, cel T i j = cel t i j
  le : ∀ i j : Nat, i < n → j < n + 1 → ∀ t ∈ ts, cel t i j ≤ cel T i j
theorem Sup.one {n : Nat} {t : List (List Int)} (T : Tab n t) : Sup n t [t] := ⟨T, fun i j _ _ => ⟨t, by simp, rfl⟩, fun i j _ _ u hu => by simp at hu; rw [hu]; exact Int.le_refl _⟩
def Dom (n : Nat) (ss ts : List (List (List Int))) : Prop := ∀ s ∈ ss, ∃ t ∈ ts, ∀ i j : Nat, i < n → j < n + 1 → cel s i j ≤ cel t i j
theorem dom_sub {n : Nat} {ss ts : List (List (List Int))} (h : ∀ s ∈ ss, s ∈ ts) : Dom n ss ts := fun s hs => ⟨s, h s hs, fun _ _ _ _ => Int.le_refl _⟩
theorem dom_cons {n : Nat} {s : List (List Int)} {ss ts : List (List (List Int))} (h : ∃ t ∈ ts, ∀ i j : Nat, i < n → j < n + 1 → cel s i j ≤ cel t i j) (k : Dom n ss ts) : Dom n (s :: ss) ts := fun u hu => by
  rcases List.mem_cons.mp hu with z | z
  · rw [z]; exact h
  · exact k u z
theorem dom_app {n : Nat} {ss us ts : List (List (List Int))} (h : Dom n ss ts) (k : Dom n us ts) : Dom n (ss ++ us) ts := fun u hu => by
  rcases List.mem_append.mp hu with z | z
  · exact h u z
  · exact k u z
theorem Sup.mono {n : Nat} {S T : List (List Int)} {ss ts : List (List (List Int))} (a : Sup n S ss) (b : Sup n T ts) (h : Dom n ss ts) (i j : Nat) (hi : i < n) (hj : j < n + 1) : cel S i j ≤ cel T i j := by
  obtain ⟨s, hs, e⟩ := a.at' i j hi hj
  obtain ⟨t, ht, l⟩ := h s hs
  have := l i j hi hj
  have := b.le i j hi hj t ht
  omega
theorem Sup.uniq {n : Nat} {S T : List (List Int)} {ss ts : List (List (List Int))} (a : Sup n S ss) (b : Sup n T ts) (h : Dom n ss ts) (k : Dom n ts ss) : S = T := a.tab.ext b.tab fun i j hi hj => by
  have := a.mono b h i j hi hj
  have := b.mono a k i j hi hj
  omega
end Gx

namespace Gx
open PySem L2
/-! a store that has grown; tables as lists of lists -/
theorem forL_rel {α β : Type} {f : α → D} {turn : D → SD → Hs → O} (I : β → SD → Hs → Prop) (step : β → α → β) : ∀ (l : List α) (b : β) (s : SD) (h : Hs), I b s h → (∀ b s h a, a ∈ l → I b s h → ∃ s' h', (turn (f a) s h = .nx s' h' ∨ turn (f a) s h = .ct s' h') ∧ I (step b a) s' h') →
    ∃ s' h', forL turn (l.map f) s h = .nx s' h' ∧ I (l.foldl step b) s' h'
  | [], b, s, h, i, _ => ⟨s, h, forL_nil, i⟩
  | a :: r, b, s, h, i, k => by
    obtain ⟨s1, h1, e1, i1⟩ := k b s h a List.mem_cons_self i
    obtain ⟨s2, h2, e2, i2⟩ := forL_rel I step r (step b a) s1 h1 i1 fun b' s' h' a' m => k b' s' h' a' (List.mem_cons_of_mem _ m)
    refine ⟨s2, h2, ?_, i2⟩
    rw [List.map_cons]
    rcases e1 with e1 | e1
    · rw [forL_nx e1]; exact e2
    · rw [forL_ct e1]; exact e2
theorem forL_relI {α β : Type} {f : α → D} {turn : D → SD → Hs → O} (I : Nat → β → SD → Hs → Prop) (step : β → α → β) (l : List α) (b : β) (s : SD) (h : Hs) (i0 : I 0 b s h) (k : ∀ i b s h a, l[i]? = some a → I i b s h → ∃ s' h', (turn (f a) s h = .nx s' h' ∨ turn (f a) s h = .ct s' h') ∧ I (i + 1) (step b a) s' h') :
    ∃ s' h', forL turn (l.map f) s h = .nx s' h' ∧ I l.length (l.foldl step b) s' h' := by
  have go : ∀ (r : List α) (i : Nat) (b : β) (s : SD) (h : Hs), (∀ j, r[j]? = l[i + j]?) → i + r.length = l.length → I i b s h → ∃ s' h', forL turn (r.map f) s h = .nx s' h' ∧ I l.length (r.foldl step b) s' h' := by
    intro r
    induction r with
    | nil =>
      intro i b s h _ e i1
      simp at e
      subst e
      exact ⟨s, h, forL_nil, i1⟩
    | cons a r ih =>
      intro i b s h e el i1
      have e0 := e 0
      simp at e0
      obtain ⟨s1, h1, q1, i2⟩ := k i b s h a e0.symm i1
      obtain ⟨s2, h2, q2, i3⟩ := ih (i + 1) (step b a) s1 h1 (fun j => by
        have := e (j + 1)
        rw [List.getElem?_cons_succ] at this
        rw [this]
        congr 1
        omega) (by rw [List.length_cons] at el; omega) i2
      refine ⟨s2, h2, ?_, i3⟩
      rw [List.map_cons]
      rcases q1 with q1 | q1
      · rw [forL_nx q1]; exact q2
      · rw [forL_ct q1]; exact q2
  exact go l 0 b s h (fun j => by rw [Nat.zero_add]) (by omega) i0
/-- h has grown out of h0 -/
def Ext (h0 h : Hs) : Prop := ∃ l, h = h0 ++ l
theorem Ext.refl (h : Hs) : Ext h h := ⟨[], by simp⟩
theorem Ext.app {h0 h : Hs} (e : Ext h0 h) (l : Hs) : Ext h0 (h ++ l) := by
  obtain ⟨m, rfl⟩ := e
  exact ⟨m ++ l, by simp⟩
theorem Ext.set {h0 h : Hs} (e : Ext h0 h) {n : Nat} (hn : h0.length ≤ n) (o : HO') : Ext h0 (h.set n o) := by
  obtain ⟨m, rfl⟩ := e
  exact ⟨m.set (n - h0.length) o, by rw [List.set_append_right _ _ hn]⟩
theorem Ext.trans {a b c : Hs} (e : Ext a b) (f : Ext b c) : Ext a c := by
  obtain ⟨m, rfl⟩ := e
  exact ⟨m ++ f.choose, by rw [← List.append_assoc]; exact f.choose_spec⟩
theorem Ext.len {h0 h : Hs} (e : Ext h0 h) : h0.length ≤ h.length := by
  obtain ⟨m, rfl⟩ := e
  simp
theorem Ext.cl {h0 h : Hs} (e : Ext h0 h) : ClB h0 h := by
  obtain ⟨m, rfl⟩ := e
  exact clB_app.mpr trivial
theorem Ext.take {h0 h : Hs} (e : Ext h0 h) : h.take h0.length = h0 := by
  obtain ⟨m, rfl⟩ := e
  simp
theorem Ext.get {h0 h : Hs} (e : Ext h0 h) {n : Nat} {o : HO'} (q : h0[n]? = some o) : h[n]? = some o := by
  obtain ⟨m, rfl⟩ := e
  have := (List.getElem?_eq_some_iff.mp q).1
  rw [List.getElem?_append_left this]
  exact q
theorem back_ext {h0 h : Hs} {d : D} (e : Ext h0 h) (n : d.nr = true) : backR false h0 d h = .ok d h0 := by rw [back_nr n e.cl, e.take]
theorem back_extL {h0 h : Hs} {n : Nat} {l : List D} (e : Ext h0 h) (hk : h0.length ≤ n) (q : h[n]? = some (.lst l)) (hl : l.all D.nr = true) : backR false h0 (.ref n) h = .ok (.vl l) h0 := by rw [back_lst hk q hl e.cl, e.take]
/-- a table: object n is the list of the rows, which are the objects ms -/
structure Rows (h : Hs) (n : Nat) (ms : List Nat) (rs : List (List Int)) : Prop where
  len : ms.length = rs.length
  out : h[n]? = some (.lst (ms.map .ref))
  row : ∀ (k m : Nat) (r : List Int), ms[k]? = some m → rs[k]? = some r → h[m]? = some (.lst (r.map .int))
  nd : ms.Nodup
  ne : n ∉ ms
  lt : ∀ m ∈ ms, m < h.length
section
variable {h : Hs} {n : Nat} {ms : List Nat} {rs : List (List Int)}
theorem lt_of_get {n : Nat} {o : HO'} (e : h[n]? = some o) : n < h.length := (List.getElem?_eq_some_iff.mp e).1
theorem Rows.ext {h' : Hs} (T : Rows h n ms rs) (e : Ext h h') : Rows h' n ms rs :=
  ⟨T.len, e.get T.out, fun k m r h1 h2 => e.get (T.row k m r h1 h2), T.nd, T.ne, fun m hm => Nat.lt_of_lt_of_le (T.lt m hm) e.len⟩
/-- a place of another object is written -/
theorem Rows.other (T : Rows h n ms rs) {m : Nat} (o : HO') (h1 : m ≠ n) (h2 : m ∉ ms) : Rows (h.set m o) n ms rs :=
  ⟨T.len, by rw [List.getElem?_set_ne h1]; exact T.out, fun k m' r e1 e2 => by
    rw [List.getElem?_set_ne (fun z => h2 (by rw [z]; exact List.mem_of_getElem? e1))]
    exact T.row k m' r e1 e2, T.nd, T.ne, fun m hm => by rw [List.length_set]; exact T.lt m hm⟩
theorem Rows.at' (T : Rows h n ms rs) {k : Nat} (hk : k < rs.length) : ∃ m, ms[k]? = some m ∧ h[m]? = some (.lst (rs[k].map .int)) := by
  have h1 : k < ms.length := by rw [T.len]; exact hk
  exact ⟨ms[k], List.getElem?_eq_getElem h1, T.row k _ _ (List.getElem?_eq_getElem h1) (List.getElem?_eq_getElem hk)⟩
/-- rows[i], as an object -/
theorem Rows.ix (T : Rows h n ms rs) {i : Int} (h0 : 0 ≤ i) (h1 : i < rs.length) : ∃ m, ms[i.toNat]? = some m ∧ gIx h (.ref n) (.int i) = some (.ref m) ∧ h[m]? = some (.lst ((rs[i.toNat]'(by omega)).map .int)) := by
  obtain ⟨m, e1, e2⟩ := T.at' (k := i.toNat) (by omega)
  refine ⟨m, e1, ?_, e2⟩
  rw [gIx_ref T.out, atI_map h0 (by rw [T.len]; exact h1)]
  obtain ⟨h2, h3⟩ := List.getElem?_eq_some_iff.mp e1
  rw [h3]
/-- a row's object is written -/
theorem Rows.setRow (T : Rows h n ms rs) {k m : Nat} (e : ms[k]? = some m) (r : List Int) : Rows (h.set m (.lst (r.map .int))) n ms (rs.set k r) := by
  have hk := (List.getElem?_eq_some_iff.mp e).1
  have hm := List.mem_of_getElem? e
  have nm : m ≠ n := fun z => T.ne (z ▸ hm)
  refine ⟨by rw [List.length_set]; exact T.len, by rw [List.getElem?_set_ne nm]; exact T.out, fun k' m' r' e1 e2 => ?_, T.nd, T.ne, fun m hm => by rw [List.length_set]; exact T.lt m hm⟩
  by_cases z : k = k'
  · subst z
    rw [e] at e1
    injection e1 with e1
    subst e1
    rw [List.getElem?_set_self (by rw [← T.len]; exact hk)] at e2
    injection e2 with e2
    subst e2
    rw [List.getElem?_set_self (T.lt m hm)]
  · have nm' : m ≠ m' := fun w => by
      subst w
      have h1 := (List.getElem?_eq_some_iff.mp e1).1
      have h2 := (List.getElem?_eq_some_iff.mp e).2
      have h3 := (List.getElem?_eq_some_iff.mp e1).2
      rcases Nat.lt_trichotomy k k' with w | w | w
      · exact List.pairwise_iff_getElem.mp T.nd k k' hk h1 w (h2.trans h3.symm)
      · exact z w
      · exact List.pairwise_iff_getElem.mp T.nd k' k h1 hk w (h3.trans h2.symm)
    rw [List.getElem?_set_ne z] at e2
    rw [List.getElem?_set_ne nm']
    exact T.row k' m' r' e1 e2
/-- a new row is put to it -/
theorem Rows.push (T : Rows h n ms rs) (r : List Int) : Rows ((h ++ [HO'.lst (r.map .int)]).set n (.lst ((ms ++ [h.length]).map .ref))) n (ms ++ [h.length]) (rs ++ [r]) := by
  have hn := lt_of_get T.out
  refine ⟨by simp [T.len], by rw [List.getElem?_set_self (by simp; omega)], fun k m r' e1 e2 => ?_, ?_, ?_, fun m hm => ?_⟩
  · by_cases hk : k < ms.length
    · rw [List.getElem?_append_left hk] at e1
      rw [List.getElem?_append_left (by rw [← T.len]; exact hk)] at e2
      have hm := List.mem_of_getElem? e1
      rw [List.getElem?_set_ne (fun z => T.ne (by rw [z]; exact hm)), List.getElem?_append_left (T.lt m hm)]
      exact T.row k m r' e1 e2
    · by_cases hk2 : k = ms.length
      · subst hk2
        rw [List.getElem?_append_right (Nat.le_refl _), Nat.sub_self] at e1
        rw [List.getElem?_append_right (by rw [T.len]; exact Nat.le_refl _)] at e2
        injection e1 with e1
        have : ms.length - rs.length = 0 := by rw [T.len]; omega
        rw [this] at e2
        injection e2 with e2
        subst e1 e2
        rw [List.getElem?_set_ne (by omega), List.getElem?_append_right (Nat.le_refl _), Nat.sub_self]
        rfl
      · rw [List.getElem?_eq_none (by simp; omega)] at e1; cases e1
  · rw [List.nodup_append]
    refine ⟨T.nd, by simp, fun a ha b hb => ?_⟩
    rw [List.mem_singleton] at hb
    have := T.lt a ha
    omega
  · rw [List.mem_append, List.mem_singleton]
    rintro (z | z)
    · exact T.ne z
    · omega
  · rw [List.length_set, List.length_append]
    rcases List.mem_append.mp hm with z | z
    · have := T.lt m z; omega
    · rw [List.mem_singleton] at z; simp; omega
theorem Rows.nil (e : h[n]? = some (.lst [])) : Rows h n [] [] := ⟨rfl, e, fun k m r e1 _ => by simp at e1, by simp, by simp, by simp⟩
/-- tuple([tuple(row) for row in rows]) -/
theorem Rows.tups (T : Rows h n ms rs) (hl : rs.length ≤ 16777216) {ft : D → SD → Option SD} {fb fe : SD → Hs → R D} {vs : List Nat} {s : SD} (k : ∀ m r, m ∈ ms → h[m]? = some (.lst (r.map D.int)) → lcT ft fb fe (wipeS s vs) (.ref m) h = .ok (some (rowD r)) h) :
    lcO false ft fb fe vs s ⟨ms.map .ref, fun h' => h'[n]? = some (.lst (ms.map .ref))⟩ h = .ok (.vl (rs.map rowD)) h := by
  have e : lcO false ft fb fe vs s ⟨ms.map .ref, fun h' => h'[n]? = some (.lst (ms.map .ref))⟩ h = newL false (ms.map fun m => match (h[m]? : Option HO') with
    | some (.lst l) => .tup l
    | _ => .non) h := by
    refine lcO_map _ ms T.out (by rw [T.len]; exact hl) fun m hm => ?_
    obtain ⟨i, hi, e⟩ := List.getElem_of_mem hm
    have q := T.row i m (rs[i]'(by rw [← T.len]; exact hi)) (by rw [List.getElem?_eq_getElem hi, e]) (List.getElem?_eq_getElem _)
    rw [k m _ hm q, q]
    rfl
  rw [e, newL_f]
  congr 2
  refine List.ext_getElem (by simp [T.len]) fun i h1 h2 => ?_
  simp only [List.getElem_map]
  simp only [List.length_map] at h1 h2
  rw [T.row i ms[i] rs[i] (List.getElem?_eq_getElem h1) (List.getElem?_eq_getElem h2)]
  rfl
end
end Gx

namespace Gx
open PySem L2
/-! deeds -/
inductive Deed where
  | make (i k : Int) | lend (i j k : Int) | use (i k : Int)
def deedD : Deed → D
  | .make i k => .tup [.str "make", .int i, .int k]
  | .lend i j k => .tup [.str "lend", .int i, .int j, .int k]
  | .use i k => .tup [.str "use", .int i, .int k]
def Deed.house : Deed → Int
  | .make i _ => i
  | .lend i _ _ => i
  | .use i _ => i
def Deed.k : Deed → Int
  | .make _ k => k
  | .lend _ _ k => k
  | .use _ k => k
def Deed.place (n : Nat) : Deed → Int
  | .make i _ => i
  | .lend _ j _ => j
  | .use _ _ => n
def Deed.free : Deed → Bool
  | .make _ _ => true
  | _ => false
/-- a deed of n houses, whether it may be done or not -/
def Deed.ok (n : Nat) : Deed → Prop
  | .make i k => 0 ≤ i ∧ i < n ∧ 1 ≤ k
  | .lend i j k => 0 ≤ i ∧ i < n ∧ 0 ≤ j ∧ j < n ∧ i ≠ j ∧ 1 ≤ k
  | .use i k => 0 ≤ i ∧ i < n ∧ 1 ≤ k
@[simp] theorem nr_deed {d : Deed} : (deedD d).nr = true := by cases d <;> simp [deedD]
section
variable {h : Hs} {a b c d : D}
theorem gEq_str {x y : Str} (hx : shp (.str x) = true) (hy : shp (.str y) = true) : gEq h (.str x) (.str y) = some (.bl (decide (x = y))) := by
  unfold gEq
  rw [show dicP h _ _ = none from rfl]
  simp only
  rw [rsv_nr nr_str, rsv_nr nr_str, if_pos ⟨hx, hy⟩]
  unfold eqD
  simp only [D.py, PyData.eqv]
  exact congrArg (fun b => some (D.bl b)) (Bool.eq_iff_iff.mpr (by simp))
theorem gNe_str {x y : Str} (hx : shp (.str x) = true) (hy : shp (.str y) = true) : gNe h (.str x) (.str y) = some (.bl (!decide (x = y))) := by
  unfold gNe
  rw [show dicP h _ _ = none from rfl]
  simp only
  rw [rsv_nr nr_str, rsv_nr nr_str, if_pos ⟨hx, hy⟩]
  unfold eqD
  simp only [D.py, PyData.eqv]
  exact congrArg (fun b => some (D.bl (!b))) (Bool.eq_iff_iff.mpr (by simp))
@[simp] theorem shp_make : shp (.str "make") = true := by decide +kernel
@[simp] theorem shp_lend : shp (.str "lend") = true := by decide +kernel
@[simp] theorem shp_use : shp (.str "use") = true := by decide +kernel
@[simp] theorem str_ml : (("make" : Str) = "lend") = False := by simp only [eq_iff_iff, iff_false]; decide
@[simp] theorem str_mu : (("make" : Str) = "use") = False := by simp only [eq_iff_iff, iff_false]; decide
@[simp] theorem str_lm : (("lend" : Str) = "make") = False := by simp only [eq_iff_iff, iff_false]; decide
@[simp] theorem str_lu : (("lend" : Str) = "use") = False := by simp only [eq_iff_iff, iff_false]; decide
@[simp] theorem str_um : (("use" : Str) = "make") = False := by simp only [eq_iff_iff, iff_false]; decide
@[simp] theorem str_ul : (("use" : Str) = "lend") = False := by simp only [eq_iff_iff, iff_false]; decide
theorem at_3_0 : atI [a, b, c] 0 = some a := rfl
theorem at_3_1 : atI [a, b, c] 1 = some b := rfl
theorem at_3_2 : atI [a, b, c] 2 = some c := rfl
theorem at_3_n : atI [a, b, c] (-1) = some c := rfl
theorem at_4_0 : atI [a, b, c, d] 0 = some a := rfl
theorem at_4_1 : atI [a, b, c, d] 1 = some b := rfl
theorem at_4_2 : atI [a, b, c, d] 2 = some c := rfl
theorem at_4_3 : atI [a, b, c, d] 3 = some d := rfl
theorem at_4_n : atI [a, b, c, d] (-1) = some d := rfl
@[simp] theorem cut_3 : cutD [a, b, c] (some 1) (some (-1)) = [b] := rfl
@[simp] theorem cut_4 : cutD [a, b, c, d] (some 1) (some (-1)) = [b, c] := rfl
@[simp] theorem ix30 : gIx h (.tup [a, b, c]) (.int 0) = some a := by rw [gIx_tup, at_3_0]
@[simp] theorem ix31 : gIx h (.tup [a, b, c]) (.int 1) = some b := by rw [gIx_tup, at_3_1]
@[simp] theorem ix32 : gIx h (.tup [a, b, c]) (.int 2) = some c := by rw [gIx_tup, at_3_2]
@[simp] theorem ix3n : gIx h (.tup [a, b, c]) (.int (-1)) = some c := by rw [gIx_tup, at_3_n]
@[simp] theorem ix40 : gIx h (.tup [a, b, c, d]) (.int 0) = some a := by rw [gIx_tup, at_4_0]
@[simp] theorem ix41 : gIx h (.tup [a, b, c, d]) (.int 1) = some b := by rw [gIx_tup, at_4_1]
@[simp] theorem ix42 : gIx h (.tup [a, b, c, d]) (.int 2) = some c := by rw [gIx_tup, at_4_2]
@[simp] theorem ix43 : gIx h (.tup [a, b, c, d]) (.int 3) = some d := by rw [gIx_tup, at_4_3]
@[simp] theorem ix4n : gIx h (.tup [a, b, c, d]) (.int (-1)) = some d := by rw [gIx_tup, at_4_n]
@[simp] theorem sl3 {m : Bool} : slG m (some 1) (some (-1)) (.tup [a, b, c]) h = .ok (.tup [b]) h := by rw [slG_tup, cut_3]
@[simp] theorem sl4 {m : Bool} : slG m (some 1) (some (-1)) (.tup [a, b, c, d]) h = .ok (.tup [b, c]) h := by rw [slG_tup, cut_4]
end
/-- a number of a row raised -/
def raisedI (t : List (List Int)) (i p k : Int) : List (List Int) := t.set i.toNat ((rowA t i).set p.toNat (cellA (rowA t i) p + k))
theorem raised_tab {n : Nat} {t : List (List Int)} {i p k : Int} (T : Tab n t) (h0 : 0 ≤ i) (h1 : i < n) : Tab n (raisedI t i p k) := by
  have l := T.len
  have r := T.row (i := i.toNat) (by omega)
  rw [Int.toNat_of_nonneg h0] at r
  exact ⟨wf_set T.wf (by rw [List.length_set, r, l]), by unfold raisedI; rw [List.length_set]; exact l⟩
theorem raised_cel {n : Nat} {t : List (List Int)} {x p k : Int} {i j : Nat} (T : Tab n t) (h0 : 0 ≤ x) (h1 : x < n) (p0 : 0 ≤ p) (p1 : p < n + 1) (hi : i < n) (hj : j < n + 1) : cel (raisedI t x p k) i j = cel t i j + if (i : Int) = x ∧ (j : Int) = p then k else 0 := by
  have l := T.len
  unfold cel raisedI
  rw [rowA_set h0 (by omega) (by omega)]
  by_cases e : (i : Int) = x
  · rw [if_pos e]
    have r := T.row (i := i) hi
    rw [e] at r
    rw [cellA_set p0 (by omega) (by omega)]
    by_cases e2 : (j : Int) = p
    · rw [if_pos e2, if_pos ⟨e, e2⟩, ← e, ← e2]
    · rw [if_neg e2, if_neg (fun z => e2 z.2), e]
      omega
  · rw [if_neg e, if_neg (fun z => e z.1)]
    omega
end Gx

namespace Gx
open PySem L2
/-! a list, as a value or as an object -/
def LstAt (h : Hs) (x : D) (l : List D) : Prop := x = .vl l ∨ ∃ n, x = .ref n ∧ h[n]? = some (.lst l)
section
variable {h : Hs} {x : D} {l : List D}
theorem LstAt.vl {l : List D} : LstAt h (.vl l) l := .inl rfl
theorem LstAt.ref {n : Nat} (e : h[n]? = some (.lst l)) : LstAt h (.ref n) l := .inr ⟨n, rfl, e⟩
theorem LstAt.lst (a : LstAt h x l) : lstH h x = some l := by
  rcases a with rfl | ⟨n, rfl, e⟩
  · simp [lstH]
  · simp [lstH, e]
theorem LstAt.len (a : LstAt h x l) : gLen h [x] = some (.int l.length) := by
  rcases a with rfl | ⟨n, rfl, e⟩
  · simp
  · exact gLen_ref e
theorem LstAt.ix (a : LstAt h x l) {k : Int} : gIx h x (.int k) = atI l k := by
  rcases a with rfl | ⟨n, rfl, e⟩
  · exact gIx_vl
  · exact gIx_ref e
theorem LstAt.src (a : LstAt h x l) : ∃ c : Hs → Prop, c h ∧ srcOf x h = .ok ⟨l, c⟩ h := by
  rcases a with rfl | ⟨n, rfl, e⟩
  · exact ⟨fun _ => True, trivial, by rw [src_vl]; rfl⟩
  · exact ⟨_, e, src_ref e⟩
theorem LstAt.list (a : LstAt h x l) {m : Bool} : gListF m [x] h = newL m l h := by
  rcases a with rfl | ⟨n, rfl, e⟩
  · simp
  · exact gListF_ref e
theorem LstAt.sl (a : LstAt h x l) {m : Bool} {lo hi : Option Int} : slG m lo hi x h = newL m (cutD l lo hi) h := by
  rcases a with rfl | ⟨n, rfl, e⟩
  · simp
  · exact slG_ref e
end
/-- a loop in which the store stays -/
theorem forC_h {c : Hs → Prop} {f : D → SD → Hs → O} {h : Hs} (hc : c h) : ∀ {ds : List D} {s : SD}, (∀ d s, d ∈ ds → ∀ s' h', f d s h = .nx s' h' ∨ f d s h = .ct s' h' → h' = h) → forC c f ds s h = forL f ds s h := fun {ds s} k =>
  forC_of (fun _ h' => h' = h) (fun _ h' e => by rw [e]; exact hc) rfl fun d s h1 m e s' h' q => by
    subst e
    exact k d s m s' h' q
/-- a state carried, the store stays; the walked list is looked after -/
theorem forC_st {α β γ : Type} {f : α → D} {turn : D → SD → Hs → O} {h : Hs} {cc : Hs → Prop} (hc : cc h) (st : β → γ → SD) (step : β → α → β) (inv : β → Prop) : ∀ (l : List α) (b : β) (c : γ), inv b → (∀ b c a, a ∈ l → inv b → (∃ c', turn (f a) (st b c) h = .nx (st (step b a) c') h) ∧ inv (step b a)) →
    (∃ c', forC cc turn (l.map f) (st b c) h = .nx (st (l.foldl step b) c') h) ∧ inv (l.foldl step b)
  | [], b, c, i, _ => ⟨⟨c, by rw [List.map_nil, forC, if_pos hc]; rfl⟩, i⟩
  | a :: r, b, c, i, k => by
    obtain ⟨⟨c', h1⟩, h2⟩ := k b c a List.mem_cons_self i
    obtain ⟨⟨c2, h3⟩, h4⟩ := forC_st hc st step inv r (step b a) c' h2 fun b' c' a' m i' => k b' c' a' (List.mem_cons_of_mem _ m) i'
    refine ⟨⟨c2, ?_⟩, h4⟩
    rw [List.map_cons, forC, if_pos hc, h1]
    exact h3
/-- a loop that asks each, and leaves at the first no -/
theorem forC_all {α γ : Type} {f : α → D} {turn : D → SD → Hs → O} {h : Hs} {cc : Hs → Prop} {z : D} (hc : cc h) (st : γ → SD) (p : α → Bool) : ∀ (l : List α) (c : γ), (∀ c a, a ∈ l → (p a = true → ∃ c', turn (f a) (st c) h = .nx (st c') h) ∧ (p a = false → turn (f a) (st c) h = .rt z h)) →
    (l.all p = true → ∃ c', forC cc turn (l.map f) (st c) h = .nx (st c') h) ∧ (l.all p = false → forC cc turn (l.map f) (st c) h = .rt z h)
  | [], c, _ => ⟨fun _ => ⟨c, by rw [List.map_nil, forC, if_pos hc]⟩, fun e => by simp at e⟩
  | a :: r, c, k => by
    obtain ⟨k1, k2⟩ := k c a List.mem_cons_self
    by_cases q : p a = true
    · obtain ⟨c1, h1⟩ := k1 q
      obtain ⟨h2, h3⟩ := forC_all hc st p r c1 fun c' a' m => k c' a' (List.mem_cons_of_mem _ m)
      rw [List.all_cons, q, Bool.true_and]
      refine ⟨fun e => ?_, fun e => ?_⟩
      · obtain ⟨c2, h4⟩ := h2 e
        exact ⟨c2, by rw [List.map_cons, forC, if_pos hc, h1]; exact h4⟩
      · rw [List.map_cons, forC, if_pos hc, h1]
        exact h3 e
    · have q := Bool.eq_false_iff.mpr q
      rw [List.all_cons, q, Bool.false_and]
      refine ⟨fun e => (nomatch e), fun _ => ?_⟩
      rw [List.map_cons, forC, if_pos hc, k2 q]
def tabA (ts : List (List (List Int))) (k : Nat) : List (List Int) := (ts[k]?).getD []
theorem tabA_get {h : Hs} {x : D} {ts : List (List (List Int))} (a : LstAt h x (ts.map tabD)) {k : Nat} (hk : k < ts.length) : gIx h x (.int k) = some (tabD (tabA ts k)) := by
  rw [a.ix, atI_map (by omega) (by omega)]
  unfold tabA
  rw [List.getElem?_eq_getElem hk]
  rfl
theorem tabA_mem {ts : List (List (List Int))} {k : Nat} (hk : k < ts.length) : tabA ts k ∈ ts := by
  unfold tabA
  rw [List.getElem?_eq_getElem hk]
  exact List.getElem_mem _
theorem forL_all {α γ : Type} {f : α → D} {turn : D → SD → Hs → O} {h : Hs} {z : D} (st : γ → SD) (p : α → Bool) (l : List α) (c : γ) (k : ∀ c a, a ∈ l → (p a = true → ∃ c', turn (f a) (st c) h = .nx (st c') h) ∧ (p a = false → turn (f a) (st c) h = .rt z h)) :
    (l.all p = true → ∃ c', forL turn (l.map f) (st c) h = .nx (st c') h) ∧ (l.all p = false → forL turn (l.map f) (st c) h = .rt z h) := by
  unfold forL
  exact forC_all trivial st p l c k
theorem back_ref {h k : Hs} {n : Nat} (hn : n < k.length) (c : ClB k h) : backR false k (.ref n) h = .ok (.ref n) (h.take k.length) := by
  have h1 : fzD h k.length (.ref n) = .ref n := by
    unfold fzD D.fz
    rw [if_pos hn]
  unfold backR
  dsimp only
  rw [h1, if_pos ⟨by unfold D.bel; exact decide_eq_true hn, c⟩]
theorem Ext.setOld {h0 h : Hs} (e : Ext h0 h) {m : Nat} (hm : m < h0.length) (o : HO') : (h.set m o).take h0.length = h0.set m o := by
  obtain ⟨l, rfl⟩ := e
  rw [List.set_append_left _ _ hm, List.take_append_of_le_length (by simp), List.take_of_length_le (by simp)]
theorem Ext.clOld {h0 h : Hs} (e : Ext h0 h) {m : Nat} {o : HO'} (b : o.bel h0.length = true) : ClB h0 (h.set m o) := clB_set e.cl b
/-- an older list written, newer things left behind -/
theorem back_old {h0 h : Hs} (e : Ext h0 h) {m : Nat} (hm : m < h0.length) {l : List D} (hl : l.all D.nr = true) : backR false h0 (.ref m) (h.set m (.lst l)) = .ok (.ref m) (h0.set m (.lst l)) := by
  rw [back_ref hm (e.clOld (bel_lst hl)), e.setOld hm]
theorem LstAt.rsv {h : Hs} {x : D} {l : List D} (a : LstAt h x l) (e : l.all D.nr = true) : Gx.rsv h x = .vl l := by
  rcases a with rfl | ⟨n, rfl, q⟩
  · exact rsv_nr (by simpa using e)
  · exact rsv_ref q e
theorem LstAt.dicP {h : Hs} {x y : D} {l : List D} (a : LstAt h x l) : Gx.dicP h x y = none := by
  rcases a with rfl | ⟨n, rfl, q⟩
  · rfl
  · simp [Gx.dicP, dicU, q]
theorem gNe_lst {α : Type} [DecidableEq α] {f : α → D} {k : Nat} (E : Enc f k) (hk : k < 64) {h : Hs} {x y : D} {l m : List α} (a : LstAt h x (l.map f)) (b : LstAt h y (m.map f)) : gNe h x y = some (.bl (decide (l ≠ m))) := by
  have h1 := a.rsv (by simp [E.nr])
  have h2 := b.rsv (by simp [E.nr])
  have := gNe_enc (h := h) E.vl (by omega) (a := l) (b := m)
  unfold gNe at this ⊢
  rw [dicP_enc E.vl] at this
  rw [a.dicP]
  simp only at this ⊢
  rw [rsv_nr (E.vl.nr l), rsv_nr (E.vl.nr m)] at this
  rw [h1, h2]
  exact this
theorem gEq_lst {α : Type} [DecidableEq α] {f : α → D} {k : Nat} (E : Enc f k) (hk : k < 64) {h : Hs} {x y : D} {l m : List α} (a : LstAt h x (l.map f)) (b : LstAt h y (m.map f)) : gEq h x y = some (.bl (decide (l = m))) := by
  have h1 := a.rsv (by simp [E.nr])
  have h2 := b.rsv (by simp [E.nr])
  have := gEq_enc (h := h) E.vl (by omega) (a := l) (b := m)
  unfold gEq at this ⊢
  rw [dicP_enc E.vl] at this
  rw [a.dicP]
  simp only at this ⊢
  rw [rsv_nr (E.vl.nr l), rsv_nr (E.vl.nr m)] at this
  rw [h1, h2]
  exact this
theorem LstAt.isLst {h : Hs} {x : D} {l : List D} (a : LstAt h x l) : Gx.isLst h x = true := by
  unfold Gx.isLst
  rw [a.lst]
  rfl
theorem isi_bool {b : Bool} {h : Hs} : isiG "bool" (.bl b) h = .ok (.bl true) h := isi_of rfl (by decide +kernel)
end Gx

namespace Gx
open PySem L2
/-! lists of lists that a comprehension makes; a store in which some objects were written -/
theorem ext_iff {h0 h : Hs} : Ext h0 h ↔ h0.length ≤ h.length ∧ ∀ k, k < h0.length → h[k]? = h0[k]? := by
  constructor
  · rintro ⟨l, rfl⟩
    exact ⟨by simp, fun k hk => List.getElem?_append_left hk⟩
  · rintro ⟨h1, h2⟩
    refine ⟨h.drop h0.length, ?_⟩
    have : h.take h0.length = h0 := by
      refine List.ext_getElem? fun k => ?_
      by_cases hk : k < h0.length
      · rw [List.getElem?_take_of_lt hk, h2 k hk]
      · rw [List.getElem?_eq_none (by simp; omega), List.getElem?_eq_none (by omega)]
    conv => lhs; rw [← List.take_append_drop h0.length h, this]
/-- only the objects ms were written -/
structure Upd (h h' : Hs) (ms : List Nat) : Prop where
  len : h'.length = h.length
  out : ∀ k, k ∉ ms → h'[k]? = h[k]?
theorem Upd.refl {h : Hs} {ms : List Nat} : Upd h h ms := ⟨rfl, fun _ _ => rfl⟩
theorem Upd.trans {h h' h2 : Hs} {ms : List Nat} (a : Upd h h' ms) (b : Upd h' h2 ms) : Upd h h2 ms := ⟨b.len.trans a.len, fun k hk => (b.out k hk).trans (a.out k hk)⟩
theorem Upd.set {h : Hs} {ms : List Nat} {m : Nat} (o : HO') (hm : m ∈ ms) : Upd h (h.set m o) ms := ⟨List.length_set, fun k hk => List.getElem?_set_ne fun z => hk (by rw [← z]; exact hm)⟩
theorem Upd.ext {h0 h h' : Hs} {ms : List Nat} (u : Upd h h' ms) (e : Ext h0 h) (hm : ∀ m ∈ ms, h0.length ≤ m) : Ext h0 h' := by
  rw [ext_iff] at e ⊢
  refine ⟨by rw [u.len]; exact e.1, fun k hk => ?_⟩
  rw [u.out k fun z => by have := hm k z; omega]
  exact e.2 k hk
theorem Upd.get {h h' : Hs} {ms : List Nat} (u : Upd h h' ms) {k : Nat} (hk : k ∉ ms) {o : HO'} (e : h[k]? = some o) : h'[k]? = some o := by rw [u.out k hk, e]
/-- written, but closed -/
theorem Rows.cl {h h' : Hs} {n : Nat} {ms : List Nat} {rs : List (List Int)} (R : Rows h' n ms rs) (u : Upd h h' ms) : ClB h h' := fun k o hk e => by
  by_cases z : k ∈ ms
  · obtain ⟨i, hi, q⟩ := List.getElem_of_mem z
    have := R.row i k (rs[i]'(by rw [← R.len]; exact hi)) (by rw [List.getElem?_eq_getElem hi, q]) (List.getElem?_eq_getElem _)
    rw [this] at e
    injection e with e
    exact .inr (by rw [← e]; simp)
  · rw [u.out k z] at e
    exact .inl e
section
variable {α : Type} {f : α → D} {g : α → List Int} {ft : D → SD → Option SD} {fb fe : SD → Hs → R D}
theorem lcL_rows {c : Hs → Prop} {s : SD} : ∀ (l : List α) (h : Hs), (∀ h', Ext h h' → c h') → (∀ a ∈ l, ∀ h', Ext h h' → lcT ft fb fe s (f a) h' = .ok (some (.ref h'.length)) (h' ++ [.lst ((g a).map .int)])) →
    lcL c ft fb fe s (l.map f) h = .ok ((List.range l.length).map fun i => .ref (h.length + i)) (h ++ l.map fun a => .lst ((g a).map .int))
  | [], h, hc, _ => by
    rw [List.map_nil, lcL, if_pos (hc h (Ext.refl h))]
    simp
  | a :: r, h, hc, k => by
    have x := (Ext.refl h).app [HO'.lst ((g a).map .int)]
    rw [List.map_cons, lcL_cons (hc h (Ext.refl h)) (k a List.mem_cons_self h (Ext.refl h)), lcL_rows r (h ++ [HO'.lst ((g a).map .int)]) (fun h' e => hc h' (x.trans e)) fun a' m h' e => k a' (List.mem_cons_of_mem _ m) h' (x.trans e), bind_ok]
    congr 1
    · rw [List.length_cons, List.range_succ_eq_map]
      simp [Function.comp_def]
      intro i _
      omega
    · simp
theorem rows_new {h : Hs} {rs : List (List Int)} : Rows (h ++ rs.map (fun r => HO'.lst (r.map D.int)) ++ [.lst ((List.range rs.length).map fun i => .ref (h.length + i))]) (h.length + rs.length) ((List.range rs.length).map fun i => h.length + i) rs where
  len := by simp
  out := by
    rw [List.getElem?_append_right (by simp)]
    simp [Function.comp_def]
  row := fun k m r e1 e2 => by
    obtain ⟨h1, e1⟩ := List.getElem?_eq_some_iff.mp e1
    obtain ⟨h2, e2⟩ := List.getElem?_eq_some_iff.mp e2
    simp at e1
    subst e1
    rw [List.append_assoc, List.getElem?_append_right (by omega), List.getElem?_append_left (by simp; omega)]
    simp [List.getElem?_eq_getElem h2, e2]
  nd := by
    rw [List.nodup_iff_pairwise_ne, List.pairwise_map]
    refine List.Pairwise.imp (fun {a b} q z => q ?_) (List.nodup_iff_pairwise_ne.mp List.nodup_range)
    omega
  ne := by simp
  lt := fun m hm => by
    obtain ⟨i, hi, rfl⟩ := List.mem_map.mp hm
    have := List.mem_range.mp hi
    simp
    omega
/-- a list of new lists -/
theorem lc_rows {c : Hs → Prop} {s : SD} {vs : List Nat} (g : α → List Int) (l : List α) (h : Hs) (hl : l.length ≤ 16777216) (hc : ∀ h', Ext h h' → c h') (k : ∀ a ∈ l, ∀ h', Ext h h' → lcT ft fb fe (wipeS s vs) (f a) h' = .ok (some (.ref h'.length)) (h' ++ [.lst ((g a).map .int)])) :
    ∃ h' n ms, lcO true ft fb fe vs s ⟨l.map f, c⟩ h = .ok (.ref n) h' ∧ Ext h h' ∧ Rows h' n ms (l.map g) ∧ (∀ m ∈ ms, h.length ≤ m) ∧ h.length ≤ n := by
  refine ⟨_, _, _, ?_, ?_, rows_new (h := h) (rs := l.map g), ?_, ?_⟩
  · unfold lcO
    rw [if_pos (by simpa using hl)]
    dsimp only
    rw [lcL_rows (g := g) l h hc k, bind_ok, newL_t]
    simp [Function.comp_def]
  · exact ⟨_, List.append_assoc _ _ _⟩
  · intro m hm
    obtain ⟨i, hi, rfl⟩ := List.mem_map.mp hm
    omega
  · omega
theorem lc_rows0 {s : SD} {vs : List Nat} (g : α → List Int) (l : List α) (h : Hs) (hl : l.length ≤ 16777216) (k : ∀ a ∈ l, ∀ h', Ext h h' → lcT ft fb fe (wipeS s vs) (f a) h' = .ok (some (.ref h'.length)) (h' ++ [.lst ((g a).map .int)])) :
    ∃ h' n ms, lcO true ft fb fe vs s (src0 (l.map f)) h = .ok (.ref n) h' ∧ Ext h h' ∧ Rows h' n ms (l.map g) ∧ (∀ m ∈ ms, h.length ≤ m) ∧ h.length ≤ n := lc_rows g l h hl (fun _ _ => trivial) k
theorem lcL_rowsX {c : Hs → Prop} {s : SD} : ∀ (l : List α) (h : Hs), (∀ h', Ext h h' → c h') → (∀ a ∈ l, ∀ h', Ext h h' → ∃ h2 m, lcT ft fb fe s (f a) h' = .ok (some (.ref m)) h2 ∧ Ext h' h2 ∧ h'.length ≤ m ∧ h2[m]? = some (.lst ((g a).map .int))) →
    ∃ (ms : List Nat) (h' : Hs), lcL c ft fb fe s (l.map f) h = .ok (ms.map .ref) h' ∧ Ext h h' ∧ ms.length = l.length ∧ (∀ (i m : Nat) (r : List Int), ms[i]? = some m → (l.map g)[i]? = some r → h'[m]? = some (.lst (r.map .int))) ∧ ms.Nodup ∧ ∀ m ∈ ms, h.length ≤ m ∧ m < h'.length
  | [], h, hc, _ => ⟨[], h, by
    rw [List.map_nil, lcL, if_pos (hc h (Ext.refl h))]
    simp, Ext.refl h, rfl, fun i m r e => by simp at e, by simp, by simp⟩
  | a :: r, h, hc, k => by
    obtain ⟨h2, m, e1, x1, g1, g2⟩ := k a List.mem_cons_self h (Ext.refl h)
    obtain ⟨ms, h', e2, x2, l2, r2, d2, b2⟩ := lcL_rowsX r h2 (fun h' e => hc h' (x1.trans e)) fun a' m h' e => k a' (List.mem_cons_of_mem _ m) h' (x1.trans e)
    have lm := (List.getElem?_eq_some_iff.mp g2).1
    refine ⟨m :: ms, h', ?_, x1.trans x2, by simp [l2], fun i m' r' f1 f2 => ?_, ?_, fun m' hm' => ?_⟩
    · rw [List.map_cons, lcL_cons (hc h (Ext.refl h)) e1, e2, bind_ok]
      rfl
    · cases i with
      | zero =>
        simp at f1 f2
        subst f1 f2
        exact x2.get g2
      | succ i => exact r2 i m' r' (by simpa using f1) (by simpa using f2)
    · rw [List.nodup_cons]
      exact ⟨fun z => by have := (b2 m z).1; omega, d2⟩
    · have := x1.len
      have := x2.len
      rcases List.mem_cons.mp hm' with z | z
      · omega
      · have := b2 m' z
        omega
/-- a list of new lists, each by whatever is laid -/
theorem lc_rowsX {c : Hs → Prop} {s : SD} {vs : List Nat} (g : α → List Int) (l : List α) (h : Hs) (hl : l.length ≤ 16777216) (hc : ∀ h', Ext h h' → c h') (k : ∀ a ∈ l, ∀ h', Ext h h' → ∃ h2 m, lcT ft fb fe (wipeS s vs) (f a) h' = .ok (some (.ref m)) h2 ∧ Ext h' h2 ∧ h'.length ≤ m ∧ h2[m]? = some (.lst ((g a).map .int))) :
    ∃ h' n ms, lcO true ft fb fe vs s ⟨l.map f, c⟩ h = .ok (.ref n) h' ∧ Ext h h' ∧ Rows h' n ms (l.map g) ∧ (∀ m ∈ ms, h.length ≤ m) ∧ h.length ≤ n := by
  obtain ⟨ms, h', e, x, l2, r2, d2, b2⟩ := lcL_rowsX (g := g) l h hc k
  have x2 := x.app [HO'.lst (ms.map D.ref)]
  refine ⟨_, _, ms, ?_, x2, ⟨by simp [l2], ?_, fun i m r e1 e2 => (Ext.app (Ext.refl h') _).get (r2 i m r e1 e2), d2, fun z => by have := (b2 _ z).2; omega, fun m hm => by have := (b2 m hm).2; simp; omega⟩, fun m hm => (b2 m hm).1, x.len⟩
  · unfold lcO
    rw [if_pos (by simpa using hl)]
    dsimp only
    rw [e, bind_ok, newL_t]
  · simp
end
/-- a table, as a value or as a list of lists -/
structure TbAt (h : Hs) (x : D) (n : Nat) (t : List (List Int)) : Prop where
  tab : Tab n t
  len : gLen h [x] = some (.int n)
  ix : ∀ i : Nat, i < n → ∃ y, gIx h x (.int i) = some y ∧ ∀ j : Nat, j < n + 1 → gIx h y (.int j) = some (.int (cel t i j))
theorem Tab.at' {n : Nat} {t : List (List Int)} (T : Tab n t) {h : Hs} : TbAt h (tabD t) n t := ⟨T, by rw [len_tabD, T.len], fun i hi => by
  have l := T.len
  have r := T.row hi
  exact ⟨_, ix_tab (by omega) (by omega), fun j hj => ix_row (by omega) (by omega)⟩⟩
theorem Rows.tb {h : Hs} {n k : Nat} {ms : List Nat} {rs : List (List Int)} (R : Rows h k ms rs) (T : Tab n rs) : TbAt h (.ref k) n rs := ⟨T, by
  rw [gLen_ref R.out, List.length_map, R.len, T.len], fun i hi => by
  have l := T.len
  have r := T.row hi
  obtain ⟨m, e1, e2, e3⟩ := R.ix (i := (i : Int)) (by omega) (by omega)
  refine ⟨_, e2, fun j hj => ?_⟩
  rw [rowA_nat (by omega)] at r
  simp only [Int.toNat_natCast] at e3
  rw [gIx_ref e3, atI_map (by omega) (by omega)]
  unfold cel
  rw [rowA_nat (by omega), cellA_nat (by omega)]
  simp⟩
theorem eraseIdx_mapD {α β : Type} {f : α → β} : ∀ (l : List α) (i : Nat), (l.map f).eraseIdx i = (l.eraseIdx i).map f
  | [], _ => by simp
  | a :: r, 0 => by simp
  | a :: r, i + 1 => by simp [eraseIdx_mapD r i]
/-- a number of a table put in -/
def setI (t : List (List Int)) (i p : Nat) (v : Int) : List (List Int) := t.set i ((rowA t i).set p v)
theorem set_tab {n : Nat} {t : List (List Int)} {i p : Nat} {v : Int} (T : Tab n t) (hi : i < n) : Tab n (setI t i p v) := by
  have r := T.row hi
  have l := T.len
  exact ⟨wf_set T.wf (by rw [List.length_set, r, l]), by unfold setI; rw [List.length_set]; exact l⟩
theorem set_cel {n : Nat} {t : List (List Int)} {i p a b : Nat} {v : Int} (T : Tab n t) (hi : i < n) (hp : p < n + 1) (ha : a < n) (hb : b < n + 1) : cel (setI t i p v) a b = if a = i ∧ b = p then v else cel t a b := by
  have l := T.len
  have r := T.row hi
  unfold cel setI
  have := rowA_set (t := t) (h := (i : Int)) (i := (a : Int)) (r := (rowA t i).set p v) (by omega) (by omega) (by omega)
  rw [Int.toNat_natCast] at this
  rw [this]
  by_cases e : a = i
  · subst e
    rw [if_pos rfl]
    have := cellA_set (r := rowA t a) (h := (p : Int)) (k := (b : Int)) (x := v) (by omega) (by omega) (by omega)
    rw [Int.toNat_natCast] at this
    rw [this]
    by_cases e2 : b = p
    · rw [if_pos (by omega), if_pos ⟨rfl, e2⟩]
    · rw [if_neg (by omega), if_neg (fun z => e2 z.2)]
  · rw [if_neg (by omega), if_neg (fun z => e z.1)]
/-- a number of a list of lists, read and written -/
theorem Rows.cell {h : Hs} {n k : Nat} {ms : List Nat} {t : List (List Int)} (R : Rows h k ms t) (T : Tab n t) {i p : Nat} (hi : i < n) (hp : p < n + 1) :
    ∃ m, m ∈ ms ∧ gIx h (.ref k) (.int i) = some (.ref m) ∧ gIx h (.ref m) (.int p) = some (.int (cel t i p)) ∧ ∀ v : Int, ∃ h', storeG (.ref m) (.int p) (.int v) h = some h' ∧ Rows h' k ms (setI t i p v) ∧ Upd h h' ms := by
  obtain ⟨m, e1, e2, e3⟩ := R.ix (i := (i : Int)) (by omega) (by rw [T.len]; omega)
  simp only [Int.toNat_natCast] at e1 e3
  have rl := T.row hi
  have ra : rowA t i = t[i]'(by rw [T.len]; exact hi) := rowA_nat (by rw [T.len]; exact hi)
  rw [← ra] at e3
  refine ⟨m, List.mem_of_getElem? e1, e2, ?_, fun v => ⟨h.set m (.lst (((rowA t i).set p v).map .int)), ?_, R.setRow e1 _, Upd.set _ (List.mem_of_getElem? e1)⟩⟩
  · rw [gIx_ref e3, atI_map (by omega) (by omega)]
    unfold cel
    rw [cellA_nat (by omega)]
    simp
  · rw [storeG_of e3 (by omega) (by simp; omega), List.map_set]
    simp
/-- a table from a value, as new lists -/
theorem tab_rows {m : Bool} {n : Nat} {t : List (List Int)} (T : Tab n t) : t.length = n := T.len
@[simp] theorem getS_at {s : SD} {w : Nat} {d : D} {h : Hs} (e : s[w]? = some (some d)) : getS s w h = .ok d h := by unfold getS; rw [e]
/-- [list(row) for row in table] -/
theorem list_rows {Γ : Mir} {t : List (List Int)} {s : SD} {v : Nat} {h : Hs} (hl : t.length ≤ 1000) (hv : v < s.length) :
    ∃ h' k ms, lcO true (tgF false [v]) (E.evT Γ []) (E.ev Γ (.bi (.list true) [.var v])) [v] s (src0 (t.map rowD)) h = .ok (.ref k) h' ∧ Ext h h' ∧ Rows h' k ms t ∧ (∀ m ∈ ms, h.length ≤ m) ∧ h.length ≤ k := by
  have F := lc_rows0 (f := rowD) (ft := tgF false [v]) (fb := E.evT Γ []) (fe := E.ev Γ (.bi (.list true) [.var v])) (s := s) (vs := [v]) (fun r => r) t h (by omega) fun a _ h' _ => by
    have g : getS (((wipeS s [v]).set v (some (rowD a)))) v h' = .ok (rowD a) h' := getS_at (by simp [hv])
    simp at g
    simp [lcT, hv, g, rowD]
  rw [List.map_id'] at F
  exact F
theorem cut_ext {h h' : Hs} {s : SD} (e : Ext h h') : (O.nx s h').cut h = .nx (killS h.length s) h := by rw [cut_nx e.cl, e.take]
/-- [list(row) for row in rows], rows an object -/
theorem list_rowsR {Γ : Mir} {t : List (List Int)} {s : SD} {v k : Nat} {ms : List Nat} {h : Hs} (R : Rows h k ms t) (hl : t.length ≤ 1000) (hv : v < s.length) :
    ∃ h' k' ms', lcO true (tgF false [v]) (E.evT Γ []) (E.ev Γ (.bi (.list true) [.var v])) [v] s ⟨ms.map .ref, fun h' => h'[k]? = some (.lst (ms.map .ref))⟩ h = .ok (.ref k') h' ∧ Ext h h' ∧ Rows h' k' ms' t ∧ (∀ m ∈ ms', h.length ≤ m) ∧ h.length ≤ k' := by
  let g : Nat → List Int := fun i => t[i]?.getD []
  have em : ms.map D.ref = (List.range ms.length).map fun i => D.ref (ms[i]?.getD 0) := by
    refine List.ext_getElem (by simp) fun i h1 h2 => ?_
    simp at h1
    simp [List.getElem?_eq_getElem h1]
  have F := lc_rows (f := fun i => D.ref (ms[i]?.getD 0)) (c := fun h' => h'[k]? = some (.lst (ms.map .ref))) (ft := tgF false [v]) (fb := E.evT Γ []) (fe := E.ev Γ (.bi (.list true) [.var v])) (s := s) (vs := [v]) g (List.range ms.length) h (by simp [R.len]; omega) (fun h' e => e.get R.out) fun i hi h' e => by
    have hi := List.mem_range.mp hi
    have ht : i < t.length := by rw [← R.len]; exact hi
    have q := e.get (R.row i ms[i] t[i] (List.getElem?_eq_getElem hi) (List.getElem?_eq_getElem ht))
    have gt : g i = t[i] := by simp [g, List.getElem?_eq_getElem ht]
    rw [gt]
    have g' : getS (((wipeS s [v]).set v (some (.ref ms[i])))) v h' = .ok (.ref ms[i]) h' := getS_at (by simp [hv])
    simp at g'
    simp [lcT, hv, g', List.getElem?_eq_getElem hi, gListF_ref q]
  rw [← em] at F
  have eg : (List.range ms.length).map g = t := by
    refine List.ext_getElem (by simp [R.len]) fun i h1 h2 => ?_
    simp [g, List.getElem?_eq_getElem h2]
  rw [eg] at F
  exact F
theorem Rows.upd {h h' : Hs} {k : Nat} {ms ns : List Nat} {rs : List (List Int)} (R : Rows h k ms rs) (u : Upd h h' ns) (hk : k ∉ ns) (hm : ∀ m ∈ ms, m ∉ ns) : Rows h' k ms rs :=
  ⟨R.len, u.get hk R.out, fun i m r e1 e2 => u.get (hm m (List.mem_of_getElem? e1)) (R.row i m r e1 e2), R.nd, R.ne, fun m hm' => by rw [u.len]; exact R.lt m hm'⟩
end Gx

namespace Gx
open PySem L2
/-! whom rights may come to -/
theorem enc_nat : Enc (fun i : Nat => D.int i) 0 where
  lay := fun a => enc_int.lay a
  dp := fun a => enc_int.dp a
  nr := fun a => by simp
  eq := fun a b => by rw [enc_int.eq]; exact decide_eq_decide.mpr (by omega)
theorem pigeon : ∀ (n : Nat) (l : List Nat), l.Nodup → (∀ x ∈ l, x < n) → l.length ≤ n
  | 0, l, _, h => by
    cases l with
    | nil => simp
    | cons a r => have := h a List.mem_cons_self; omega
  | n + 1, l, d, h => by
    by_cases q : n ∈ l
    · have e := List.length_erase_of_mem q
      have := pigeon n (l.erase n) (d.erase n) fun x hx => by
        have h1 := h x (List.mem_of_mem_erase hx)
        have h2 := (d.mem_erase_iff.mp hx).1
        omega
      omega
    · have := pigeon n l d fun x hx => by
        have h1 := h x hx
        have h2 : x ≠ n := fun z => q (z ▸ hx)
        omega
      omega
inductive Reach (n : Nat) (t : List (List Int)) : Nat → Prop
  | mk {i : Nat} : i < n → 0 < cel t i i → Reach n t i
  | to {i j : Nat} : Reach n t i → j < n → 0 < cel t i j → Reach n t j
theorem Reach.lt {n : Nat} {t : List (List Int)} {x : Nat} (r : Reach n t x) : x < n := by cases r <;> assumption
def bfsStep (t : List (List Int)) (i : Nat) (f : List Nat) (j : Nat) : List Nat := if 0 < cel t i j ∧ j ∉ f then f ++ [j] else f
def bfsIn (n : Nat) (t : List (List Int)) (i : Nat) (f : List Nat) : List Nat := (List.range n).foldl (bfsStep t i) f
def bfs (n : Nat) (t : List (List Int)) : Nat → Nat → List Nat → List Nat
  | 0, _, f => f
  | k + 1, a, f => if a < f.length then bfs n t k (a + 1) (bfsIn n t ((f[a]?).getD 0) f) else f
def makers (n : Nat) (t : List (List Int)) : List Nat := (List.range n).filter fun i => decide (0 < cel t i i)
def rootsI (n : Nat) (t : List (List Int)) : List Nat := bfs n t 11 0 (makers n t)
structure Part (n : Nat) (t : List (List Int)) (f : List Nat) : Prop where
  nd : f.Nodup
  lt : ∀ x ∈ f, x < n
  mkr : ∀ i, i < n → 0 < cel t i i → i ∈ f
  just : ∀ k x : Nat, f[k]? = some x → 0 < cel t x x ∨ ∃ m y : Nat, m < k ∧ f[m]? = some y ∧ 0 < cel t y x
section
variable {n : Nat} {t : List (List Int)}
theorem Part.len {f : List Nat} (p : Part n t f) : f.length ≤ n := pigeon n f p.nd p.lt
theorem Part.push {f : List Nat} {i j a : Nat} (p : Part n t f) (e : f[a]? = some i) (h : 0 < cel t i j) (hj : j < n) (hn : j ∉ f) : Part n t (f ++ [j]) where
  nd := by
    rw [List.nodup_append]
    exact ⟨p.nd, by simp, fun x hx y hy => by
      rw [List.mem_singleton] at hy
      exact fun z => hn (by rw [← hy, ← z]; exact hx)⟩
  lt := fun x hx => by
    rcases List.mem_append.mp hx with z | z
    · exact p.lt x z
    · rw [List.mem_singleton.mp z]; exact hj
  mkr := fun x hx c => List.mem_append_left _ (p.mkr x hx c)
  just := fun k x q => by
    have ha := (List.getElem?_eq_some_iff.mp e).1
    by_cases hk : k < f.length
    · rw [List.getElem?_append_left hk] at q
      rcases p.just k x q with z | ⟨m, y, h1, h2, h3⟩
      · exact .inl z
      · exact .inr ⟨m, y, h1, by rw [List.getElem?_append_left (by omega)]; exact h2, h3⟩
    · have hk2 := (List.getElem?_eq_some_iff.mp q).1
      rw [List.length_append, List.length_singleton] at hk2
      have : k = f.length := by omega
      subst this
      rw [List.getElem?_append_right (Nat.le_refl _), Nat.sub_self] at q
      injection q with q
      subst q
      exact .inr ⟨a, i, ha, by rw [List.getElem?_append_left ha]; exact e, h⟩
theorem bfsIn_spec {i a : Nat} : ∀ (l : List Nat) (f : List Nat), (∀ j ∈ l, j < n) → Part n t f → f[a]? = some i → ∃ g, l.foldl (bfsStep t i) f = f ++ g ∧ Part n t (f ++ g) ∧ ∀ j ∈ l, 0 < cel t i j → j ∈ f ++ g
  | [], f, _, p, _ => ⟨[], by simp, by simpa using p, fun j hj => (nomatch hj)⟩
  | j :: r, f, hl, p, e => by
    rw [List.foldl_cons]
    have ha := (List.getElem?_eq_some_iff.mp e).1
    by_cases q : 0 < cel t i j ∧ j ∉ f
    · have p2 := p.push e q.1 (hl j List.mem_cons_self) q.2
      obtain ⟨g, h1, h2, h3⟩ := bfsIn_spec r (f ++ [j]) (fun x hx => hl x (List.mem_cons_of_mem _ hx)) p2 (by rw [List.getElem?_append_left ha]; exact e)
      refine ⟨j :: g, ?_, by simpa using h2, fun x hx c => ?_⟩
      · have e0 : bfsStep t i f j = f ++ [j] := by unfold bfsStep; rw [if_pos q]
        rw [e0, h1]
        simp
      · rcases List.mem_cons.mp hx with z | z
        · simp [z]
        · simpa using h3 x z c
    · obtain ⟨g, h1, h2, h3⟩ := bfsIn_spec r f (fun x hx => hl x (List.mem_cons_of_mem _ hx)) p e
      refine ⟨g, ?_, h2, fun x hx c => ?_⟩
      · have e0 : bfsStep t i f j = f := by unfold bfsStep; rw [if_neg q]
        rw [e0, h1]
      · rcases List.mem_cons.mp hx with z | z
        · subst z
          have : x ∈ f := Classical.byContradiction fun w => q ⟨c, w⟩
          exact List.mem_append_left _ this
        · exact h3 x z c
theorem bfs_spec : ∀ (k a : Nat) (f : List Nat), Part n t f → (∀ m x : Nat, m < a → f[m]? = some x → ∀ j, j < n → 0 < cel t x j → j ∈ f) → n + 1 ≤ a + k → a ≤ f.length →
    Part n t (bfs n t k a f) ∧ ∀ x ∈ bfs n t k a f, ∀ j, j < n → 0 < cel t x j → j ∈ bfs n t k a f
  | 0, a, f, p, _, h1, h2 => by have := p.len; omega
  | k + 1, a, f, p, c, h1, h2 => by
    unfold bfs
    by_cases q : a < f.length
    · rw [if_pos q]
      have e : f[a]? = some f[a] := List.getElem?_eq_getElem q
      obtain ⟨g, g1, g2, g3⟩ := bfsIn_spec (n := n) (t := t) (a := a) (i := f[a]) (List.range n) f (fun j hj => List.mem_range.mp hj) p e
      have eb : bfsIn n t ((f[a]?).getD 0) f = f ++ g := by
        rw [e]
        exact g1
      rw [eb]
      refine bfs_spec k (a + 1) (f ++ g) g2 (fun m x hm ex j hj cj => ?_) (by omega) (by simp; omega)
      by_cases z : m = a
      · subst z
        rw [List.getElem?_append_left q, e] at ex
        injection ex with ex
        exact g3 j (List.mem_range.mpr hj) (by rw [ex]; exact cj)
      · rw [List.getElem?_append_left (by omega)] at ex
        exact List.mem_append_left _ (c m x (by omega) ex j hj cj)
    · rw [if_neg q]
      refine ⟨p, fun x hx j hj cj => ?_⟩
      obtain ⟨m, hm, e⟩ := List.getElem_of_mem hx
      exact c m x (by omega) (by rw [List.getElem?_eq_getElem hm, e]) j hj cj
theorem makers_part : Part n t (makers n t) where
  nd := List.Pairwise.filter _ List.nodup_range
  lt := fun x hx => List.mem_range.mp (List.mem_filter.mp hx).1
  mkr := fun i hi c => List.mem_filter.mpr ⟨List.mem_range.mpr hi, decide_eq_true c⟩
  just := fun k x e => .inl (of_decide_eq_true (List.mem_filter.mp (List.mem_of_getElem? e)).2)
theorem roots_part (n8 : n ≤ 8) : Part n t (rootsI n t) ∧ ∀ x ∈ rootsI n t, ∀ j, j < n → 0 < cel t x j → j ∈ rootsI n t := bfs_spec 11 0 _ makers_part (fun m x hm => by omega) (by omega) (by omega)
theorem Part.reach {f : List Nat} (p : Part n t f) : ∀ (k x : Nat), f[k]? = some x → Reach n t x
  | k, x, e => by
    have hx := p.lt x (List.mem_of_getElem? e)
    rcases p.just k x e with z | ⟨m, y, h1, h2, h3⟩
    · exact .mk hx z
    · exact .to (p.reach m y h2) hx h3
theorem roots_iff (n8 : n ≤ 8) {x : Nat} : x ∈ rootsI n t ↔ Reach n t x := by
  obtain ⟨p, c⟩ := roots_part (t := t) n8
  constructor
  · intro h
    obtain ⟨k, hk, e⟩ := List.getElem_of_mem h
    exact p.reach k x (by rw [List.getElem?_eq_getElem hk, e])
  · intro h
    induction h with
    | mk h1 h2 => exact p.mkr _ h1 h2
    | to _ h1 h2 ih => exact c _ ih _ h1 h2
/-! tables that come about -/
def NNt (n : Nat) (t : List (List Int)) : Prop := ∀ i j : Nat, i < n → j < n + 1 → 0 ≤ cel t i j
def busyB (n : Nat) (t : List (List Int)) (k : Nat) : Bool := decide (0 < lentByI t k) || decide (0 < cel t k n)
def othersI (n : Nat) (t : List (List Int)) : List Nat := (List.range n).filter fun k => decide (k ∉ rootsI n t)
def reachB (n : Nat) (t : List (List Int)) : Bool := !(othersI n t).any (busyB n t)
def comesB (n : Nat) (t : List (List Int)) : Bool := ((List.range n).all fun k => decide (0 ≤ rightsI t k)) && reachB n t
def natsD (l : List Nat) : D := .vl (l.map fun i : Nat => D.int i)
def comesD (n : Nat) (t : List (List Int)) : D := match (List.range n).find? fun k : Nat => decide (rightsI t k < 0) with
  | some k => .tup [.str "short", .int k]
  | none => if reachB n t = true then .tup [.str "comes", natsD (rootsI n t)] else .tup [.str "rootless", natsD (othersI n t)]
@[simp] theorem nr_nats {l : List Nat} : (natsD l).nr = true := by simp [natsD]
@[simp] theorem nr_comes : (comesD n t).nr = true := by
  unfold comesD
  split
  · simp
  · split <;> simp
theorem shp_comes : shp (.str "comes") = true := by decide +kernel
theorem shp_short : shp (.str "short") = true := by decide +kernel
theorem shp_rootless : shp (.str "rootless") = true := by decide +kernel
theorem str_sc : decide (("short" : Str) = "comes") = false := by decide +kernel
theorem str_rc : decide (("rootless" : Str) = "comes") = false := by decide +kernel
theorem str_cc : decide (("comes" : Str) = "comes") = true := by decide +kernel
theorem comes_none {n : Nat} {t : List (List Int)} (h : (List.range n).find? (fun k : Nat => decide (rightsI t k < 0)) = none) : comesB n t = reachB n t := by
  unfold comesB
  have : ((List.range n).all fun (k : Nat) => decide (0 ≤ rightsI t k)) = true := List.all_eq_true.mpr fun k hk => decide_eq_true (by
    have := List.find?_eq_none.mp h k hk
    simp at this
    exact this)
  rw [this, Bool.true_and]
theorem comes_some {n : Nat} {t : List (List Int)} {k : Nat} (h : (List.range n).find? (fun k : Nat => decide (rightsI t k < 0)) = some k) : comesB n t = false ∧ k < n ∧ rightsI t k < 0 := by
  have h1 := List.find?_some h
  have h2 := List.mem_range.mp (List.mem_of_find?_eq_some h)
  have h1 := of_decide_eq_true h1
  refine ⟨?_, h2, h1⟩
  unfold comesB
  have : ((List.range n).all fun (k : Nat) => decide (0 ≤ rightsI t k)) = false := Bool.eq_false_iff.mpr fun z => by
    have := of_decide_eq_true (List.all_eq_true.mp z k (List.mem_range.mpr h2))
    omega
  rw [this, Bool.false_and]
theorem comes_ix0 {h : Hs} : ∃ w, gIx h (comesD n t) (.int 0) = some (.str w) ∧ gNe h (.str w) (.str "comes") = some (.bl (!comesB n t)) := by
  unfold comesD
  cases q : (List.range n).find? fun k : Nat => decide (rightsI t k < 0) with
  | some k => exact ⟨"short", by rw [gIx_tup]; rfl, by rw [gNe_str shp_short shp_comes, (comes_some q).1, str_sc]⟩
  | none =>
    rw [comes_none q]
    dsimp only
    by_cases z : reachB n t = true
    · rw [if_pos z, z]
      exact ⟨"comes", by rw [gIx_tup]; rfl, by rw [gNe_str shp_comes shp_comes, str_cc]⟩
    · rw [if_neg z, Bool.eq_false_iff.mpr z]
      exact ⟨"rootless", by rw [gIx_tup]; rfl, by rw [gNe_str shp_rootless shp_comes, str_rc]⟩
end
/-! rounds from the makers -/
def KT (kn : List Bool) (x : Nat) : Prop := kn[x]? = some true
instance {kn : List Bool} {x : Nat} : Decidable (KT kn x) := by unfold KT; infer_instance
def knStep (t : List (List Int)) (i : Nat) (kn : List Bool) (j : Nat) : List Bool := if KT kn i ∧ i ≠ j ∧ 0 < cel t i j then kn.set j true else kn
def knIn (n : Nat) (t : List (List Int)) (kn : List Bool) (i : Nat) : List Bool := (List.range n).foldl (knStep t i) kn
def knRound (n : Nat) (t : List (List Int)) (kn : List Bool) (_ : Nat) : List Bool := (List.range n).foldl (knIn n t) kn
def known0 (n : Nat) (t : List (List Int)) : List Bool := (List.range n).map fun k => decide (0 < cel t k k)
def knownR (n : Nat) (t : List (List Int)) (r : Nat) : List Bool := (List.range r).foldl (knRound n t) (known0 n t)
section
variable {n : Nat} {t : List (List Int)} {kn : List Bool}
/-- what a step may do -/
structure KnOk (n : Nat) (t : List (List Int)) (a b : List Bool) : Prop where
  len : b.length = a.length
  mono : ∀ x, KT a x → KT b x
  sound : (∀ x, KT a x → Reach n t x) → ∀ x, KT b x → Reach n t x
theorem KnOk.refl {a : List Bool} : KnOk n t a a := ⟨rfl, fun _ h => h, fun h => h⟩
theorem KnOk.trans {a b c : List Bool} (p : KnOk n t a b) (q : KnOk n t b c) : KnOk n t a c := ⟨q.len.trans p.len, fun x h => q.mono x (p.mono x h), fun h => q.sound (p.sound h)⟩
theorem knStep_ok {i j : Nat} (hj : j < n) : KnOk n t kn (knStep t i kn j) := by
  unfold knStep
  split
  · rename_i q
    refine ⟨by simp, fun x h => ?_, fun h x hx => ?_⟩
    · unfold KT at h ⊢
      by_cases z : j = x
      · subst z
        rw [List.getElem?_set_self (List.getElem?_eq_some_iff.mp h).1]
      · rw [List.getElem?_set_ne z]
        exact h
    · unfold KT at hx
      by_cases z : j = x
      · subst z
        exact .to (h i q.1) hj q.2.2
      · rw [List.getElem?_set_ne z] at hx
        exact h x hx
  · exact KnOk.refl
theorem knStep_get {i j : Nat} (h : KT kn i) (c : 0 < cel t i j) (hj : j < kn.length) : KT (knStep t i kn j) j := by
  unfold knStep
  by_cases z : i = j
  · subst z
    rw [if_neg (fun q => q.2.1 rfl)]
    exact h
  · rw [if_pos ⟨h, z, c⟩]
    unfold KT
    rw [List.getElem?_set_self hj]
theorem knFold_ok {β : Type} {f : List Bool → β → List Bool} : ∀ (l : List β) (kn : List Bool), (∀ kn a, a ∈ l → KnOk n t kn (f kn a)) → KnOk n t kn (l.foldl f kn)
  | [], kn, _ => KnOk.refl
  | a :: r, kn, h => (h kn a List.mem_cons_self).trans (knFold_ok r _ fun kn' a' m => h kn' a' (List.mem_cons_of_mem _ m))
theorem knIn_ok {i : Nat} : KnOk n t kn (knIn n t kn i) := knFold_ok _ _ fun _ _ h => knStep_ok (List.mem_range.mp h)
theorem knRound_ok {k : Nat} : KnOk n t kn (knRound n t kn k) := knFold_ok _ _ fun _ _ _ => knIn_ok
theorem knFold_get {β : Type} {f : List Bool → β → List Bool} {x : Nat} {a : β} : ∀ (l : List β) (kn : List Bool), (∀ kn a, a ∈ l → KnOk n t kn (f kn a)) → a ∈ l → (∀ kn', KnOk n t kn kn' → KT (f kn' a) x) → KT (l.foldl f kn) x
  | [], kn, _, m, _ => (nomatch m)
  | b :: r, kn, h, m, k => by
    rw [List.foldl_cons]
    by_cases q : a ∈ r
    · exact knFold_get r _ (fun kn' a' m' => h kn' a' (List.mem_cons_of_mem _ m')) q fun kn' o => k kn' ((h kn b List.mem_cons_self).trans o)
    · have e : a = b := by
        rcases List.mem_cons.mp m with z | z
        · exact z
        · exact (q z).elim
      subst e
      exact (knFold_ok r _ fun kn' a' m' => h kn' a' (List.mem_cons_of_mem _ m')).mono x (k kn KnOk.refl)
theorem knIn_get {i j : Nat} (h : KT kn i) (c : 0 < cel t i j) (hj : j < n) (l : kn.length = n) : KT (knIn n t kn i) j :=
  knFold_get (a := j) _ _ (fun _ _ m => knStep_ok (List.mem_range.mp m)) (List.mem_range.mpr hj) fun kn' o => knStep_get (o.mono i h) c (by rw [o.len, l]; exact hj)
theorem knRound_get {i j k : Nat} (h : KT kn i) (c : 0 < cel t i j) (hi : i < n) (hj : j < n) (l : kn.length = n) : KT (knRound n t kn k) j :=
  knFold_get (a := i) _ _ (fun _ _ _ => knIn_ok) (List.mem_range.mpr hi) fun kn' o => knIn_get (o.mono i h) c hj (by rw [o.len, l])
theorem known0_len : (known0 n t).length = n := by simp [known0]
theorem known0_iff {x : Nat} : KT (known0 n t) x ↔ x < n ∧ 0 < cel t x x := by
  unfold KT known0
  rw [List.getElem?_map]
  by_cases q : x < n
  · rw [List.getElem?_range q]
    simp [q]
  · rw [List.getElem?_eq_none (by simp; omega)]
    simp
    omega
theorem knownR_ok {r : Nat} : KnOk n t (known0 n t) (knownR n t r) := knFold_ok _ _ fun _ _ _ => knRound_ok
theorem knownR_get (n8 : n ≤ 8) : ∀ (r k x : Nat), k ≤ r → (rootsI n t)[k]? = some x → KT (knownR n t r) x
  | r, k, x, hk, e => by
    have p := (roots_part (t := t) n8).1
    have hx := p.lt x (List.mem_of_getElem? e)
    rcases p.just k x e with z | ⟨m, y, h1, h2, h3⟩
    · exact knownR_ok.mono x (known0_iff.mpr ⟨hx, z⟩)
    · cases r with
      | zero => omega
      | succ r =>
        have ih := knownR_get n8 r m y (by omega) h2
        have hy := p.lt y (List.mem_of_getElem? h2)
        have e2 : knownR n t (r + 1) = knRound n t (knownR n t r) r := by
          unfold knownR
          rw [List.range_succ, List.foldl_append]
          rfl
        rw [e2]
        exact knRound_get ih h3 hy hx (by rw [knownR_ok.len, known0_len])
/-- after as many rounds as houses -/
theorem known_iff (n8 : n ≤ 8) {x : Nat} : KT (knownR n t n) x ↔ Reach n t x := by
  constructor
  · exact knownR_ok.sound (fun y hy => .mk (known0_iff.mp hy).1 (known0_iff.mp hy).2) x
  · intro h
    obtain ⟨k, hk, e⟩ := List.getElem_of_mem ((roots_iff n8).mpr h)
    have := (roots_part (t := t) n8).1.len
    exact knownR_get n8 n k x (by omega) (by rw [List.getElem?_eq_getElem hk, e])
theorem known_eq (n8 : n ≤ 8) : knownR n t n = (List.range n).map fun k => decide (k ∈ rootsI n t) := by
  have l : (knownR n t n).length = n := by rw [knownR_ok.len, known0_len]
  refine List.ext_getElem (by simp [l]) fun x h1 h2 => ?_
  have q := known_iff (t := t) (x := x) n8
  rw [← roots_iff n8] at q
  unfold KT at q
  rw [List.getElem?_eq_getElem h1] at q
  simp only [List.getElem_map, List.getElem_range]
  simp only [Option.some.injEq] at q
  by_cases z : x ∈ rootsI n t
  · rw [decide_eq_true z]; exact q.mpr z
  · rw [decide_eq_false z]
    cases w : (knownR n t n)[x] with
    | false => rfl
    | true => exact (z (q.mp w)).elim
/-- the rounds, as they stand in the laws -/
theorem known_loop {Γ : Mir} {N : Nat} {h : Hs} (T : Tab n t) (n8 : n ≤ 8) (z : SD) (x3 x4 x5 : Option D) : ∃ y3 y4 y5, forL (turnO (tgF false [3]) (cutB false (S.evs Γ N [.loop false 1 [.var 1] false [4] [.loop false 1 [.var 1] false [5] [.iff (.and (.ix (.var 2) (.var 4)) (.and (.op .ne (.var 4) (.var 5)) (.op .gt (.ix (.ix (.var 0) (.var 4)) (.var 5)) (.int 0)))) [.store (.var 2) (.var 5) (.bl true)] []]]]))) ((List.range n).map fun (i : Nat) => D.int i) (some (tabD t) :: some (.int n) :: some (.ref h.length) :: x3 :: x4 :: x5 :: z) (h ++ [.lst ((known0 n t).map .bl)]) =
    .nx (some (tabD t) :: some (.int n) :: some (.ref h.length) :: y3 :: y4 :: y5 :: z) (h ++ [.lst (((List.range n).map fun k => decide (k ∈ rootsI n t)).map .bl)]) := by
  have l := T.len
  have F := forL_sti (f := fun (i : Nat) => D.int i) (turn := turnO (tgF false [3]) (cutB false (S.evs Γ N [.loop false 1 [.var 1] false [4] [.loop false 1 [.var 1] false [5] [.iff (.and (.ix (.var 2) (.var 4)) (.and (.op .ne (.var 4) (.var 5)) (.op .gt (.ix (.ix (.var 0) (.var 4)) (.var 5)) (.int 0)))) [.store (.var 2) (.var 5) (.bl true)] []]]])))
    (fun (_ : List Bool) (c : Option D × Option D × Option D) => some (tabD t) :: some (.int n) :: some (.ref h.length) :: c.1 :: c.2.1 :: c.2.2 :: z) (fun b => h ++ [.lst (b.map .bl)]) (knRound n t) (fun _ b => b.length = n) n (List.range n) 0 (known0 n t) (x3, x4, x5) (by simp) known0_len ?_
  · obtain ⟨⟨c, F⟩, -⟩ := F
    have e : (List.range n).foldl (knRound n t) (known0 n t) = knownR n t n := rfl
    rw [e, known_eq n8] at F
    exact ⟨_, _, _, F⟩
  · intro r kn c k hk _ hb
    have G := forL_sti (f := fun (i : Nat) => D.int i) (turn := turnO (tgF false [4]) (cutB false (S.evs Γ N [.loop false 1 [.var 1] false [5] [.iff (.and (.ix (.var 2) (.var 4)) (.and (.op .ne (.var 4) (.var 5)) (.op .gt (.ix (.ix (.var 0) (.var 4)) (.var 5)) (.int 0)))) [.store (.var 2) (.var 5) (.bl true)] []]])))
      (fun (_ : List Bool) (c : Option D × Option D) => some (tabD t) :: some (.int n) :: some (.ref h.length) :: some (.int k) :: c.1 :: c.2 :: z) (fun b => h ++ [.lst (b.map .bl)]) (knIn n t) (fun _ b => b.length = n) n (List.range n) 0 kn (c.2.1, c.2.2) (by simp) hb ?_
    · obtain ⟨⟨c2, G⟩, -⟩ := G
      refine ⟨⟨(some (.int k), c2), ?_⟩, by show (knRound n t kn k).length = n; rw [knRound_ok.len, hb]⟩
      rw [turnE, tgF_one (by simp), turnM_some]
      simp (disch := first | (simp; done) | (simp; omega) | omega) [rngN]
      have e : knRound n t kn k = (List.range n).foldl (knIn n t) kn := rfl
      rw [e]
      dsimp only at G
      rw [G]
      simp
    · intro q kn c i hi _ hb
      have hi := List.mem_range.mp hi
      have J := forL_sti (f := fun (i : Nat) => D.int i) (turn := turnO (tgF false [5]) (cutB false (S.evs Γ N [.iff (.and (.ix (.var 2) (.var 4)) (.and (.op .ne (.var 4) (.var 5)) (.op .gt (.ix (.ix (.var 0) (.var 4)) (.var 5)) (.int 0)))) [.store (.var 2) (.var 5) (.bl true)] []])))
        (fun (_ : List Bool) (c : Option D) => some (tabD t) :: some (.int n) :: some (.ref h.length) :: some (.int k) :: some (.int i) :: c :: z) (fun b => h ++ [.lst (b.map .bl)]) (knStep t i) (fun _ b => b.length = n) n (List.range n) 0 kn c.2 (by simp) hb ?_
      · obtain ⟨⟨c2, J⟩, -⟩ := J
        refine ⟨⟨(some (.int i), c2), ?_⟩, by show (knIn n t kn i).length = n; rw [knIn_ok.len, hb]⟩
        rw [turnE, tgF_one (by simp), turnM_some]
        simp (disch := first | (simp; done) | (simp; omega) | omega) [rngN]
        have e : knIn n t kn i = (List.range n).foldl (knStep t i) kn := rfl
        rw [e]
        rw [J]
        simp
      · intro q kn c j hj _ hb
        have hj := List.mem_range.mp hj
        have r := T.row hi
        have ai : atI (kn.map D.bl) (i : Int) = some (.bl (kn[i]'(by omega))) := by
          rw [atI_map (by omega) (by omega)]
          simp
        refine ⟨⟨some (.int j), ?_⟩, by rw [(knStep_ok hj).len, hb]⟩
        rw [turnE, tgF_one (by simp), turnM_some]
        simp (disch := first | (simp; done) | (simp; omega) | omega) [ai, ix_tab, ix_row]
        have ek : KT kn i ↔ kn[i]'(by omega) = true := by
          unfold KT
          rw [List.getElem?_eq_getElem (by omega)]
          simp
        unfold knStep
        simp only [ek]
        by_cases q1 : kn[i]'(by omega) = true
        · by_cases q2 : i = j
          · simp [q1, q2]
          · have q2' : ¬ ((i : Int) = j) := by omega
            by_cases q3 : 0 < cel t i j
            · have q3' := q3
              unfold cel at q3'
              simp (disch := first | (simp; done) | (simp; omega) | omega) [q1, q2, q2', q3, q3']
            · have q3' := q3
              unfold cel at q3'
              simp [q1, q2, q2', q3, q3']
        · simp [q1]
end
end Gx

namespace Gx
open PySem L2
/-! rights by cells; tables grown by deeds -/
theorem cel_A {t : List (List Int)} {i j : Nat} : cel t i j = cellA (rowA t i) j := rfl
theorem sum_if {n p : Nat} {k : Int} (hp : p < n) : ((List.range n).map fun (i : Nat) => if i = p then k else 0).sum = k := by
  have := sum_one (n := n) (h := p) (f := fun _ => k) hp
  have e : ((List.range n).map fun (i : Nat) => (if i = p then k else 0) + if i = p then 0 else k).sum = ((List.range n).map fun _ => k).sum := by
    refine sum_congr fun i _ => ?_
    split <;> omega
  rw [sum_add] at e
  omega
theorem sum_zero {n : Nat} : ((List.range n).map fun (_ : Nat) => (0 : Int)).sum = 0 := by
  induction n with
  | zero => rfl
  | succ n ih => rw [List.range_succ, List.map_append, List.sum_append, ih]; rfl
/-- rights, by cells -/
theorem rights_cel {n : Nat} {t : List (List Int)} {x : Nat} (T : Tab n t) (hx : x < n) : rightsI t x = ((List.range n).map fun (i : Nat) => cel t i x).sum - ((List.range n).map fun (j : Nat) => cel t x j).sum + cel t x x - cel t x n := by
  have l := T.len
  have r := T.row hx
  unfold rightsI lentToI lentByI
  rw [sum_rows, sum_take (by omega), l]
  simp only [cel_A]
  omega
theorem rights_raised {n : Nat} {t : List (List Int)} {i p k : Int} {x : Nat} (T : Tab n t) (h0 : 0 ≤ i) (h1 : i < n) (p0 : 0 ≤ p) (p1 : p < n + 1) (hx : x < n) :
    rightsI (raisedI t i p k) x = rightsI t x + (if p = x ∧ p < n then k else 0) - (if i = x ∧ p < n then k else 0) + (if i = x ∧ p = x then k else 0) - (if i = x ∧ p = n then k else 0) := by
  have R := raised_tab (p := p) (k := k) T h0 h1
  rw [rights_cel R hx, rights_cel T hx]
  have c := fun (a b : Nat) (ha : a < n) (hb : b < n + 1) => raised_cel (i := a) (j := b) (k := k) T h0 h1 p0 p1 ha hb
  have e1 : ((List.range n).map fun (a : Nat) => cel (raisedI t i p k) a x).sum = ((List.range n).map fun (a : Nat) => cel t a x).sum + if p = x ∧ p < n then k else 0 := by
    have : ((List.range n).map fun (a : Nat) => cel (raisedI t i p k) a x).sum = ((List.range n).map fun (a : Nat) => cel t a x + if a = i.toNat then (if p = x then k else 0) else 0).sum := sum_congr fun a ha => by
      have ha := List.mem_range.mp ha
      rw [c a x ha (by omega)]
      by_cases z : (a : Int) = i
      · have : a = i.toNat := by omega
        rw [if_pos this]
        by_cases z2 : (x : Int) = p
        · rw [if_pos ⟨z, z2⟩, if_pos z2.symm]
        · rw [if_neg (fun w => z2 w.2), if_neg (fun w => z2 w.symm)]
      · have : a ≠ i.toNat := by omega
        rw [if_neg this, if_neg (fun w => z w.1)]
    rw [this, sum_add, sum_if (by omega)]
    by_cases z2 : p = (x : Int)
    · rw [if_pos z2, if_pos ⟨z2, by omega⟩]
    · rw [if_neg z2, if_neg (fun w => z2 w.1)]
  have e2 : ((List.range n).map fun (b : Nat) => cel (raisedI t i p k) x b).sum = ((List.range n).map fun (b : Nat) => cel t x b).sum + if i = x ∧ p < n then k else 0 := by
    have : ((List.range n).map fun (b : Nat) => cel (raisedI t i p k) x b).sum = ((List.range n).map fun (b : Nat) => cel t x b + if b = p.toNat then (if i = x then k else 0) else 0).sum := sum_congr fun b hb => by
      have hb := List.mem_range.mp hb
      rw [c x b hx (by omega)]
      by_cases z : (b : Int) = p
      · have : b = p.toNat := by omega
        rw [if_pos this]
        by_cases z2 : (x : Int) = i
        · rw [if_pos ⟨z2, z⟩, if_pos z2.symm]
        · rw [if_neg (fun w => z2 w.1), if_neg (fun w => z2 w.symm)]
      · have : b ≠ p.toNat := by omega
        rw [if_neg this, if_neg (fun w => z w.2)]
    rw [this, sum_add]
    by_cases z : p < n
    · rw [sum_if (by omega)]
      by_cases z2 : i = (x : Int)
      · rw [if_pos z2, if_pos ⟨z2, z⟩]
      · rw [if_neg z2, if_neg (fun w => z2 w.1)]
    · have : ((List.range n).map fun (b : Nat) => if b = p.toNat then (if i = x then k else 0) else 0).sum = ((List.range n).map fun (_ : Nat) => (0 : Int)).sum := sum_congr fun b hb => by
        have hb := List.mem_range.mp hb
        rw [if_neg (by omega)]
      rw [this, sum_zero, if_neg (fun w => z w.2)]
  rw [e1, e2, c x x hx (by omega), c x n hx (by omega)]
  have e3 : (if (x : Int) = i ∧ (x : Int) = p then k else 0) = if i = x ∧ p = x then k else 0 := by
    by_cases z : i = (x : Int) ∧ p = (x : Int)
    · rw [if_pos z, if_pos ⟨z.1.symm, z.2.symm⟩]
    · rw [if_neg z, if_neg (fun w => z ⟨w.1.symm, w.2.symm⟩)]
  have e4 : (if (x : Int) = i ∧ (n : Int) = p then k else 0) = if i = x ∧ p = n then k else 0 := by
    by_cases z : i = (x : Int) ∧ p = (n : Int)
    · rw [if_pos z, if_pos ⟨z.1.symm, z.2.symm⟩]
    · rw [if_neg z, if_neg (fun w => z ⟨w.1.symm, w.2.symm⟩)]
  rw [e3, e4]
  omega
/-- a table that comes about -/
structure Comes (n : Nat) (t : List (List Int)) : Prop where
  tab : Tab n t
  nn : NNt n t
  rg : ∀ k : Nat, k < n → 0 ≤ rightsI t k
  re : ∀ k j : Nat, k < n → j < n + 1 → j ≠ k → 0 < cel t k j → Reach n t k
theorem sum_posi {l : List Nat} {f : Nat → Int} (h : 0 < (l.map f).sum) : ∃ i ∈ l, 0 < f i := by
  induction l with
  | nil => simp at h
  | cons a r ih =>
    rw [List.map_cons, List.sum_cons] at h
    by_cases q : 0 < f a
    · exact ⟨a, List.mem_cons_self, q⟩
    · obtain ⟨i, h1, h2⟩ := ih (by omega)
      exact ⟨i, List.mem_cons_of_mem _ h1, h2⟩
/-- who has a right was come to -/
theorem Comes.has {n : Nat} {t : List (List Int)} (C : Comes n t) {k : Nat} (hk : k < n) (h : 0 < rightsI t k) : Reach n t k := by
  have q := lr_sum (h := (k : Int)) C.tab.wf (by omega) (by rw [C.tab.len]; omega)
  have u := C.nn k n hk (by omega)
  unfold cel at u
  rw [C.tab.len] at q
  obtain ⟨i, hi, c⟩ := sum_posi (l := List.range n) (f := lrI t k) (by omega)
  have hi := List.mem_range.mp hi
  unfold lrI at c
  by_cases z : i = k
  · subst z
    refine .mk hi ?_
    unfold cel
    simp at c
    exact c
  · have b := C.nn k i hk (by omega)
    unfold cel at b
    rw [if_neg (by omega)] at c
    have c2 : 0 < cel t i k := by unfold cel; omega
    exact .to (C.re i k hi (by omega) (fun w => z w.symm) c2) hk c2
theorem Reach.mono {n : Nat} {t u : List (List Int)} (h : ∀ i j : Nat, i < n → j < n → 0 < cel t i j → 0 < cel u i j) {x : Nat} (r : Reach n t x) : Reach n u x := by
  induction r with
  | mk h1 h2 => exact .mk h1 (h _ _ h1 h1 h2)
  | to r h1 h2 ih => exact .to ih h1 (h _ _ r.lt h1 h2)
theorem Comes.raise {n : Nat} {t : List (List Int)} {i p : Nat} {s : Int} (C : Comes n t) (hi : i < n) (hp : p < n + 1) (s1 : 1 ≤ s) (hs : p = i ∨ s ≤ rightsI t i) : Comes n (raisedI t i p s) := by
  have T := C.tab
  have R := raised_tab (p := (p : Int)) (k := s) T (i := (i : Int)) (by omega) (by omega)
  have c := fun (a b : Nat) (ha : a < n) (hb : b < n + 1) => raised_cel (i := a) (j := b) (k := s) T (x := (i : Int)) (p := (p : Int)) (by omega) (by omega) (by omega) (by omega) ha hb
  have le : ∀ a b : Nat, a < n → b < n + 1 → cel t a b ≤ cel (raisedI t i p s) a b := fun a b ha hb => by
    rw [c a b ha hb]
    split <;> omega
  have mo : ∀ {x}, Reach n t x → Reach n (raisedI t i p s) x := fun {x} r => r.mono fun a b ha hb q => by
    have := le a b ha (by omega)
    omega
  have ri : p = i ∨ Reach n t i := by
    rcases hs with z | z
    · exact .inl z
    · exact .inr (C.has hi (by omega))
  refine ⟨R, fun a b ha hb => ?_, fun k hk => ?_, fun k j hk hj jk q => ?_⟩
  · have := le a b ha hb
    have := C.nn a b ha hb
    omega
  · have h1 := rights_raised (k := s) T (i := (i : Int)) (p := (p : Int)) (x := k) (by omega) (by omega) (by omega) (by omega) hk
    have h2 := C.rg k hk
    rw [h1]
    by_cases z : i = k
    · subst z
      rcases hs with w | w
      · subst w
        simp [hi]
        omega
      · by_cases pi : p = i
        · subst pi
          simp [hi]
          omega
        · have pi' : ¬ ((p : Int) = i) := by omega
          by_cases pn : p = n
          · subst pn
            simp [pi]
            omega
          · have : p < n := by omega
            simp [pi, pn, this]
            omega
    · have z' : ¬ ((i : Int) = k) := by omega
      simp [z]
      split <;> omega
  · by_cases old : 0 < cel t k j
    · exact mo (C.re k j hk hj jk old)
    · have e := c k j hk hj
      have nn := C.nn k j hk hj
      by_cases z : (k : Int) = i ∧ (j : Int) = p
      · have k1 : k = i := by omega
        have j1 : j = p := by omega
        subst k1 j1
        rcases ri with w | w
        · exact (jk w).elim
        · exact mo w
      · rw [if_neg z] at e
        omega
inductive Grown (n : Nat) (P : Nat → Prop) (t : List (List Int)) : List (List Int) → Prop
  | refl : Grown n P t t
  | step {u : List (List Int)} {i p : Nat} {s : Int} : Grown n P t u → i < n → P i → p < n + 1 → 1 ≤ s → (p = i ∨ s ≤ rightsI u i) → Grown n P t (raisedI u i p s)
theorem Grown.comes {n : Nat} {P : Nat → Prop} {t u : List (List Int)} (g : Grown n P t u) (C : Comes n t) : Comes n u := by
  induction g with
  | refl => exact C
  | step _ h1 _ h2 h3 h4 ih => exact ih.raise h1 h2 h3 h4
theorem Grown.tab {n : Nat} {P : Nat → Prop} {t u : List (List Int)} (g : Grown n P t u) (T : Tab n t) : Tab n u := by
  induction g with
  | refl => exact T
  | step _ h1 _ h2 h3 h4 ih => exact raised_tab ih (by omega) (by omega)
theorem Grown.le {n : Nat} {P : Nat → Prop} {t u : List (List Int)} (g : Grown n P t u) (T : Tab n t) {a b : Nat} (ha : a < n) (hb : b < n + 1) : cel t a b ≤ cel u a b := by
  induction g with
  | refl => exact Int.le_refl _
  | step g h1 _ h2 h3 h4 ih =>
    rename_i u i p s _
    have := raised_cel (i := a) (j := b) (k := s) (g.tab T) (x := (i : Int)) (p := (p : Int)) (by omega) (by omega) (by omega) (by omega) ha hb
    rw [this]
    split <;> omega
theorem Grown.row {n : Nat} {P : Nat → Prop} {t u : List (List Int)} (g : Grown n P t u) (T : Tab n t) {a : Nat} (ha : a < n) (hp : ¬ P a) : rowA u a = rowA t a := by
  induction g with
  | refl => rfl
  | step g h1 h2 h3 h4 h5 ih =>
    rename_i u i p s
    have U := g.tab T
    unfold raisedI
    rw [rowA_set (by omega) (by rw [U.len]; omega) (by omega), if_neg (fun z : (a : Int) = i => hp ((show i = a by omega) ▸ h2)), ih]
theorem Comes.b {n : Nat} {t : List (List Int)} (C : Comes n t) (n8 : n ≤ 8) : comesB n t = true := by
  unfold comesB reachB
  rw [Bool.and_eq_true, List.all_eq_true, Bool.not_eq_true', List.any_eq_false]
  refine ⟨fun k hk => decide_eq_true (C.rg k (List.mem_range.mp hk)), fun k hk => ?_⟩
  obtain ⟨h1, h2⟩ := List.mem_filter.mp hk
  have h1 := List.mem_range.mp h1
  have h2 := of_decide_eq_true h2
  intro q
  refine h2 ((roots_iff n8).mpr ?_)
  unfold busyB at q
  rw [Bool.or_eq_true, decide_eq_true_eq, decide_eq_true_eq] at q
  rcases q with q | q
  · unfold lentByI at q
    have r := C.tab.row h1
    rw [C.tab.len, sum_take (by omega)] at q
    have e : cellA (rowA t k) k = cel t k k := rfl
    have := sum_one (n := n) (h := k) (f := fun i => cellA (rowA t k) i) h1
    rw [← this] at q
    obtain ⟨i, hi, c⟩ := sum_posi q
    have hi := List.mem_range.mp hi
    by_cases z : i = k
    · rw [if_pos z] at c; omega
    · rw [if_neg z] at c
      exact C.re k i h1 (by omega) z c
  · exact C.re k n h1 (by omega) (by omega) q
/-- the table of none -/
def zeroI (n : Nat) : List (List Int) := (List.range n).map fun _ => List.replicate (n + 1) 0
theorem zero_tab {n : Nat} : Tab n (zeroI n) := ⟨wf_of fun r hr => by
  obtain ⟨i, hi, rfl⟩ := List.mem_map.mp hr
  simp [zeroI], by simp [zeroI]⟩
theorem zero_cel {n i j : Nat} (hi : i < n) (hj : j < n + 1) : cel (zeroI n) i j = 0 := by
  unfold cel
  have e : rowA (zeroI n) i = List.replicate (n + 1) 0 := by
    rw [rowA_nat (by simp [zeroI]; exact hi)]
    simp [zeroI]
  rw [e, cellA_nat (by simp; omega)]
  simp
theorem zero_comes {n : Nat} : Comes n (zeroI n) where
  tab := zero_tab
  nn := fun i j hi hj => by rw [zero_cel hi hj]; exact Int.le_refl _
  rg := fun k hk => by
    rw [rights_cel zero_tab hk]
    have e1 : ((List.range n).map fun (i : Nat) => cel (zeroI n) i k).sum = 0 := by
      rw [sum_congr (g := fun _ => 0) fun i hi => zero_cel (List.mem_range.mp hi) (by omega), sum_zero]
    have e2 : ((List.range n).map fun (j : Nat) => cel (zeroI n) k j).sum = 0 := by
      rw [sum_congr (g := fun _ => 0) fun j hj => zero_cel hk (by have := List.mem_range.mp hj; omega), sum_zero]
    rw [e1, e2, zero_cel hk (by omega), zero_cel hk (by omega)]
    decide
  re := fun k j hk hj _ q => by
    rw [zero_cel hk hj] at q
    omega
/-- [[0] * (n + 1) for house in range(n)] -/
theorem zero_rows {Γ : Mir} {n : Nat} {s : SD} {v w : Nat} {h : Hs} (n8 : n ≤ 1000) (hv : v < s.length) (hw : s[w]? = some (some (.int n))) (vw : v ≠ w) :
    ∃ h' k ms, lcO true (tgF false [v]) (E.evT Γ []) (E.ev Γ (.own false (.lst true [.int 0]) (.op .add (.var w) (.int 1)))) [v] s (src0 ((List.range n).map fun (i : Nat) => D.int i)) h = .ok (.ref k) h' ∧ Ext h h' ∧ Rows h' k ms (zeroI n) ∧ (∀ m ∈ ms, h.length ≤ m) ∧ h.length ≤ k := by
  refine lc_rowsX (f := fun (i : Nat) => D.int i) (fun _ => List.replicate (n + 1) 0) (List.range n) h (by simp; omega) (fun _ _ => trivial) fun a _ h' _ => ?_
  have g : ∀ h2, getS (((wipeS s [v]).set v (some (.int a)))) w h2 = .ok (.int n) h2 := fun h2 => getS_at (by
    simp only [wipeS_one, wipeS_nil]
    rw [List.getElem?_set_ne vw, List.getElem?_set_ne vw, hw])
  simp at g
  have er : (List.replicate (n + 1) [D.int 0]).flatten = (List.replicate (n + 1) (0 : Int)).map .int := by
    induction n + 1 with
    | zero => rfl
    | succ m ih => simp [List.replicate_succ, ih]
  refine ⟨h' ++ [.lst [.int 0], .lst ((List.replicate (n + 1) (0 : Int)).map .int)], h'.length + 1, ?_, ⟨_, rfl⟩, by omega, by simp⟩
  have e1 : ((n : Int) + 1).toNat = n + 1 := by omega
  simp [lcT, hv, g, ownO, lstW, lstH, e1, er]
  omega
theorem sum_filter {l : List Nat} {p : Nat → Bool} {f : Nat → Int} : ((l.filter p).map f).sum = (l.map fun j => if p j = true then f j else 0).sum := by
  induction l with
  | nil => rfl
  | cons a r ih =>
    by_cases q : p a = true
    · simp [q, ih]
    · simp [q, ih]
theorem at2_0 {a b : D} : atI [a, b] 0 = some a := rfl
theorem at2_1 {a b : D} : atI [a, b] 1 = some b := rfl
/-- the stock, cell by cell (stockI's own shape stands in stock.lean) -/
theorem foldl_id {α β : Type} {b : β} : ∀ {l : List α}, l.foldl (fun b _ => b) b = b
  | [] => rfl
  | a :: r => by rw [List.foldl_cons]; exact foldl_id (l := r)
def stockI (t : List (List Int)) : Int := ((List.range t.length).map fun (i : Nat) => cellA (rowA t i) i - cellA (rowA t i) t.length).sum
theorem sum_swap {f : Nat → Nat → Int} {m : Nat} : ∀ n : Nat, ((List.range n).map fun i => ((List.range m).map fun j => f i j).sum).sum = ((List.range m).map fun j => ((List.range n).map fun i => f i j).sum).sum
  | 0 => by
    have : ∀ l : List Nat, (l.map fun _ => (0 : Int)).sum = 0 := fun l => by
      induction l with
      | nil => rfl
      | cons a r ih => rw [List.map_cons, List.sum_cons, ih]; rfl
    simp [this]
  | n + 1 => by
    rw [List.range_succ, List.map_append, List.sum_append, sum_swap n]
    have : (fun j => ((List.range n ++ [n]).map fun i => f i j).sum) = fun j => ((List.range n).map fun i => f i j).sum + f n j := by
      funext j
      simp
    rw [this, sum_add]
    simp
theorem sum_sub {l : List Nat} {f g : Nat → Int} : (l.map fun i => f i - g i).sum = (l.map f).sum - (l.map g).sum := by
  induction l with
  | nil => rfl
  | cons a r ih => simp only [List.map_cons, List.sum_cons, ih]; omega
theorem rights_sum {t : List (List Int)} (w : wfB t = true) : ((List.range t.length).map fun (i : Nat) => rightsI t i).sum = stockI t := by
  have e : ∀ i ∈ List.range t.length, rightsI t (i : Nat) = (cellA (rowA t i) i - cellA (rowA t i) t.length) + (((List.range t.length).map fun (j : Nat) => cellA (rowA t j) i).sum - ((List.range t.length).map fun (j : Nat) => cellA (rowA t i) j).sum) := fun i hi => by
    have hi := List.mem_range.mp hi
    have r1 := wf_len w (h := (i : Int)) (by omega) (by omega)
    unfold rightsI lentToI lentByI
    rw [sum_rows, sum_take (by omega)]
    omega
  rw [sum_congr e, sum_add, sum_sub (f := fun i => ((List.range t.length).map fun (j : Nat) => cellA (rowA t j) i).sum), sum_swap (f := fun i j => cellA (rowA t j) i)]
  unfold stockI
  omega
end Gx

namespace Gx
open PySem L2
/-! one table within another; pools; worlds -/
def rowWithin (p : List Int × List Int) : Bool := (p.1.zip p.2).all fun q => decide (q.1 ≤ q.2)
def tabWithin (s t : List (List Int)) : Bool := (s.zip t).all rowWithin
theorem tabWithin_iff {n : Nat} {s t : List (List Int)} (S : Tab n s) (T : Tab n t) : tabWithin s t = true ↔ ∀ i j : Nat, i < n → j < n + 1 → cel s i j ≤ cel t i j := by
  constructor
  · intro h i j hi hj
    have i1 : i < s.length := by rw [S.len]; exact hi
    have i2 : i < t.length := by rw [T.len]; exact hi
    have r1 := S.row hi
    have r2 := T.row hi
    unfold cel
    rw [rowA_nat i1] at r1 ⊢
    rw [rowA_nat i2] at r2 ⊢
    have h1 := List.all_eq_true.mp h (s[i], t[i]) (List.mem_iff_getElem.mpr ⟨i, by simp; omega, by simp⟩)
    have h2 := List.all_eq_true.mp h1 (s[i][j]'(by omega), t[i][j]'(by omega)) (List.mem_iff_getElem.mpr ⟨j, by simp; omega, by simp⟩)
    rw [cellA_nat (by omega), cellA_nat (by omega)]
    exact of_decide_eq_true h2
  · intro h
    refine List.all_eq_true.mpr fun p hp => List.all_eq_true.mpr fun q hq => ?_
    obtain ⟨i, hi, e⟩ := List.getElem_of_mem hp
    obtain ⟨j, hj, e2⟩ := List.getElem_of_mem hq
    have hi' : i < n := by have := S.len; simp at hi; omega
    have i1 : i < s.length := by rw [S.len]; exact hi'
    have i2 : i < t.length := by rw [T.len]; exact hi'
    have e1 : p = (s[i], t[i]) := by rw [← e]; simp
    subst e1
    have r1 := S.row hi'
    have r2 := T.row hi'
    rw [rowA_nat i1] at r1
    rw [rowA_nat i2] at r2
    have hj' : j < n + 1 := by simp at hj; omega
    have e3 : q = (s[i][j]'(by omega), t[i][j]'(by omega)) := by rw [← e2]; simp
    subst e3
    have := h i j hi' hj'
    unfold cel at this
    rw [rowA_nat i1, rowA_nat i2, cellA_nat (by omega), cellA_nat (by omega)] at this
    exact decide_eq_true this
theorem tabWithin_self {n : Nat} {s : List (List Int)} (S : Tab n s) : tabWithin s s = true := (tabWithin_iff S S).mpr fun _ _ _ _ => Int.le_refl _
theorem tabWithin_both {n : Nat} {s t : List (List Int)} (S : Tab n s) (T : Tab n t) : (tabWithin s t && tabWithin t s) = decide (s = t) := by
  rw [Bool.eq_iff_iff, Bool.and_eq_true, decide_eq_true_eq, tabWithin_iff S T, tabWithin_iff T S]
  constructor
  · rintro ⟨h1, h2⟩
    exact S.ext T fun i j hi hj => Int.le_antisymm (h1 i j hi hj) (h2 i j hi hj)
  · rintro rfl
    exact ⟨fun _ _ _ _ => Int.le_refl _, fun _ _ _ _ => Int.le_refl _⟩
def PoolOk (n : Nat) (p : List Nat) : Prop := p ≠ [] ∧ p.Pairwise (· < ·) ∧ ∀ x ∈ p, x < n
def poolD (p : List Nat) : D := .tup (p.map fun (i : Nat) => .int i)
def worldB (n : Nat) (t : List (List Int)) (p : List Nat) (w : List (List Int)) : Bool := decide (w.length = n) && (tabWithin t w && (comesB n w && p.all fun k => decide (rowA w k = rowA t k)))
theorem pool_filter {n : Nat} {p : List Nat} (P : PoolOk n p) : (List.range n).filter (fun i => decide (i ∈ p)) = p := by
  refine (List.Perm.eq_of_pairwise (le := (· < ·)) ?_ ?_ ?_ ?_)
  · intro a b _ _ h1 h2
    omega
  · exact (List.pairwise_lt_range (n := n)).filter _
  · exact P.2.1
  · refine (List.perm_ext_iff_of_nodup ?_ ?_).mpr fun x => ?_
    · exact (List.nodup_range (n := n)).filter _
    · exact P.2.1.imp fun q => by omega
    · rw [List.mem_filter, List.mem_range]
      constructor
      · exact fun z => of_decide_eq_true z.2
      · exact fun z => ⟨P.2.2 x z, decide_eq_true z⟩
theorem range_pool {n : Nat} (n1 : 1 ≤ n) : PoolOk n (List.range n) := ⟨by intro z; have := congrArg List.length z; simp at this; omega, List.pairwise_lt_range, fun x hx => List.mem_range.mp hx⟩
theorem rest_pool {n : Nat} {p : List Nat} (h : (List.range n).filter (fun i => decide (i ∉ p)) ≠ []) : PoolOk n ((List.range n).filter fun i => decide (i ∉ p)) := ⟨h, (List.pairwise_lt_range (n := n)).filter _, fun x hx => List.mem_range.mp (List.mem_filter.mp hx).1⟩
/-- the rights of a pool and of the others -/
theorem rest_sum {n : Nat} {t : List (List Int)} {p : List Nat} (T : Tab n t) (P : PoolOk n p) : (p.map fun (k : Nat) => rightsI t k).sum + (((List.range n).filter fun i => decide (i ∉ p)).map fun (k : Nat) => rightsI t k).sum = stockI t := by
  have e := rights_sum T.wf
  rw [T.len] at e
  rw [← e]
  conv => lhs; lhs; rw [← pool_filter P]
  rw [sum_filter (f := fun (k : Nat) => rightsI t k), sum_filter (f := fun (k : Nat) => rightsI t k), ← sum_add]
  refine sum_congr fun i _ => ?_
  by_cases q : i ∈ p <;> simp [q]
end Gx

namespace Gx
open PySem L2
/-! loops that leave with an outcome; enumerate; lists that stay -/
theorem LstAt.ext {h h' : Hs} {x : D} {l : List D} (a : LstAt h x l) (e : Ext h h') : LstAt h' x l := by
  rcases a with rfl | ⟨n, rfl, q⟩
  · exact .inl rfl
  · exact .inr ⟨n, rfl, e.get q⟩
def O.out : O → Bool
  | .rt _ _ => true
  | .rs _ _ _ _ => true
  | .stk => true
  | _ => false
@[simp] theorem out_rt {d : D} {h : Hs} : O.out (.rt d h) = true := by unfold O.out; simp only
@[simp] theorem out_rs {c : Str} {p : Option Int} {s : SD} {h : Hs} : O.out (.rs c p s h) = true := by unfold O.out; simp only
theorem forL_leave {turn : D → SD → Hs → O} {d : D} {r : List D} {s : SD} {h : Hs} {o : O} (e : turn d s h = o) (q : o.out = true) : forL turn (d :: r) s h = o := by
  unfold forL
  rw [forC, if_pos trivial, e]
  cases o <;> first | (cases q; done) | rfl
/-- a state carried up to the first a that p lets not by; there the loop is left -/
theorem forL_till {α β γ : Type} {f : α → D} {turn : D → SD → Hs → O} (st : β → γ → SD) (hp : β → Hs) (step : β → α → β) (inv : Nat → β → Prop) (p : α → Bool) (bad : O → Prop) (N : Nat) : ∀ (l : List α) (i : Nat) (b : β) (c : γ), i + l.length ≤ N → inv i b →
    (∀ i b c a, a ∈ l → i < N → inv i b → (p a = true → (∃ c', turn (f a) (st b c) (hp b) = .nx (st (step b a) c') (hp (step b a))) ∧ inv (i + 1) (step b a)) ∧ (p a = false → ∃ o, turn (f a) (st b c) (hp b) = o ∧ o.out = true ∧ bad o)) →
    (l.all p = true → (∃ c', forL turn (l.map f) (st b c) (hp b) = .nx (st (l.foldl step b) c') (hp (l.foldl step b))) ∧ inv (i + l.length) (l.foldl step b)) ∧ (l.all p = false → ∃ o, forL turn (l.map f) (st b c) (hp b) = o ∧ bad o)
  | [], i, b, c, _, j, _ => ⟨fun _ => ⟨⟨c, forL_nil⟩, j⟩, fun e => by simp at e⟩
  | a :: r, i, b, c, hl, j, k => by
    rw [List.length_cons] at hl
    obtain ⟨k1, k2⟩ := k i b c a List.mem_cons_self (by omega) j
    by_cases q : p a = true
    · obtain ⟨⟨c', h1⟩, h2⟩ := k1 q
      obtain ⟨h3, h4⟩ := forL_till st hp step inv p bad N r (i + 1) (step b a) c' (by omega) h2 fun i' b' c' a' m => k i' b' c' a' (List.mem_cons_of_mem _ m)
      rw [List.all_cons, q, Bool.true_and]
      refine ⟨fun e => ?_, fun e => ?_⟩
      · obtain ⟨⟨c2, h5⟩, h6⟩ := h3 e
        refine ⟨⟨c2, by rw [List.map_cons, forL_nx h1]; exact h5⟩, ?_⟩
        rw [List.length_cons, List.foldl_cons]
        have : i + (r.length + 1) = i + 1 + r.length := by omega
        rw [this]
        exact h6
      · obtain ⟨o, h5, h6⟩ := h4 e
        exact ⟨o, by rw [List.map_cons, forL_nx h1]; exact h5, h6⟩
    · have q := Bool.eq_false_iff.mpr q
      obtain ⟨o, h1, h2, h3⟩ := k2 q
      rw [List.all_cons, q, Bool.false_and]
      exact ⟨fun e => (nomatch e), fun _ => ⟨o, by rw [List.map_cons]; exact forL_leave h1 h2, h3⟩⟩
theorem enum_vl {l : List D} {h : Hs} : enumO [.vl l] h = .ok (src0 (l.zipIdx.map fun p => .tup [.int (p.2 : Nat), p.1])) h := by
  simp [enumO, lstH, src0]
  funext h'
  simp [stays]
theorem enum_map {n : Nat} {g : Nat → D} {h : Hs} : enumO [.vl ((List.range n).map g)] h = .ok (src0 ((List.range n).map fun (i : Nat) => .tup [.int i, g i])) h := by
  rw [enum_vl]
  congr 2
  refine List.ext_getElem (by simp) fun i h1 h2 => ?_
  simp
theorem cut_old {h0 h : Hs} {m : Nat} {l : List D} {s : SD} (e : Ext h0 h) (hm : m < h0.length) (hl : l.all D.nr = true) : (O.nx s (h.set m (.lst l))).cut h0 = .nx (killS h0.length s) (h0.set m (.lst l)) := by rw [cut_nx (e.clOld (bel_lst hl)), e.setOld hm]
theorem LstAt.isi {h : Hs} {x : D} {l : List D} (a : LstAt h x l) : isiG "list" x h = .ok (.bl true) h := by
  refine isi_of (u := "list") ?_ (by decide +kernel)
  rcases a with rfl | ⟨n, rfl, q⟩
  · rfl
  · unfold tyOf; simp only [q]
theorem isi_tup {l : List D} {h : Hs} : isiG "tuple" (.tup l) h = .ok (.bl true) h := isi_of (u := "tuple") rfl (by decide +kernel)
end Gx

namespace Gx
open PySem L2
/-! lists of houses -/
/-- a loop over 0 .. N - 1 that asks each, and leaves at the first no; the earlier ones are known to have passed -/
theorem forL_allI {γ : Type} {turn : D → SD → Hs → O} {h : Hs} {z : D} (st : γ → SD) (p : Nat → Bool) (N : Nat) (c : γ) (H : ∀ c k, k < N → (∀ j, j < k → p j = true) → (p k = true → ∃ c', turn (.int k) (st c) h = .nx (st c') h) ∧ (p k = false → turn (.int k) (st c) h = .rt z h)) :
    ((List.range N).all p = true → ∃ c', forL turn ((List.range N).map fun (i : Nat) => D.int i) (st c) h = .nx (st c') h) ∧ ((List.range N).all p = false → forL turn ((List.range N).map fun (i : Nat) => D.int i) (st c) h = .rt z h) := by
  have go : ∀ (m k : Nat) (c : γ), k + m = N → (∀ j, j < k → p j = true) → ((List.range' k m).all p = true → ∃ c', forL turn ((List.range' k m).map fun (i : Nat) => D.int i) (st c) h = .nx (st c') h) ∧ ((List.range' k m).all p = false → forL turn ((List.range' k m).map fun (i : Nat) => D.int i) (st c) h = .rt z h) := by
    intro m
    induction m with
    | zero => exact fun k c _ _ => ⟨fun _ => ⟨c, forL_nil⟩, fun e => by simp at e⟩
    | succ m ih =>
      intro k c e pr
      obtain ⟨k1, k2⟩ := H c k (by omega) pr
      rw [List.range'_succ, List.map_cons, List.all_cons]
      by_cases q : p k = true
      · obtain ⟨c1, h1⟩ := k1 q
        rw [q, Bool.true_and, forL_nx h1]
        exact ih (k + 1) c1 (by omega) fun j hj => by
          by_cases w : j = k
          · rw [w]; exact q
          · exact pr j (by omega)
      · have q := Bool.eq_false_iff.mpr q
        rw [q, Bool.false_and]
        exact ⟨fun e => (nomatch e), fun _ => forL_leave (k2 q) (by simp)⟩
  have := go N 0 c (by omega) (fun j hj => by omega)
  rwa [← List.range_eq_range'] at this
@[simp] theorem e_lelt {Γ : Mir} {a b c : E} {s : SD} {h : Hs} : E.ev Γ (.ch .le .lt a b c) s h = chR (fun i j => decide (i ≤ j)) (fun i j => decide (i < j)) (a.ev Γ s h) (b.ev Γ s) (c.ev Γ s) := e_ch rfl rfl
theorem dd_le : ∀ (l ks : List Int), (l.foldl PyProof.Rows.step_dedup ks).length ≤ ks.length + l.length
  | [], ks => by simp
  | a :: r, ks => by
    rw [List.foldl_cons]
    have := dd_le r (PyProof.Rows.step_dedup ks a)
    have h2 : (PyProof.Rows.step_dedup ks a).length ≤ ks.length + 1 := by
      unfold PyProof.Rows.step_dedup
      split <;> simp
    simp
    omega
theorem dd_iff : ∀ (l ks : List Int), (l.foldl PyProof.Rows.step_dedup ks).length = ks.length + l.length ↔ l.Nodup ∧ ∀ x ∈ l, x ∉ ks
  | [], ks => by simp
  | a :: r, ks => by
    rw [List.foldl_cons]
    by_cases q : a ∈ ks
    · have e : PyProof.Rows.step_dedup ks a = ks := by
        unfold PyProof.Rows.step_dedup
        rw [if_pos (by simpa using q)]
      rw [e]
      have := dd_le r ks
      constructor
      · intro h
        simp at h
        omega
      · rintro ⟨_, h⟩
        exact (h a List.mem_cons_self q).elim
    · have e : PyProof.Rows.step_dedup ks a = ks ++ [a] := by
        unfold PyProof.Rows.step_dedup
        rw [if_neg (by simpa using q)]
      rw [e]
      have ih := dd_iff r (ks ++ [a])
      have l1 : (ks ++ [a]).length + r.length = ks.length + (a :: r).length := by simp; omega
      rw [← l1, ih, List.nodup_cons]
      constructor
      · rintro ⟨h1, h2⟩
        refine ⟨⟨fun z => h2 a z (by simp), h1⟩, fun x hx => ?_⟩
        rcases List.mem_cons.mp hx with z | z
        · rw [z]; exact q
        · exact fun w => h2 x z (List.mem_append_left _ w)
      · rintro ⟨⟨h1, h2⟩, h3⟩
        refine ⟨h2, fun x hx w => ?_⟩
        rcases List.mem_append.mp w with z | z
        · exact h3 x (List.mem_cons_of_mem _ hx) z
        · rw [List.mem_singleton.mp z] at hx; exact h1 hx
theorem setLen_iff {ns : List Int} : setLen ns = ns.length ↔ ns.Nodup := by
  have e : (List.range ns.length).map (fun i => ns.getD i 0) = ns := by
    refine List.ext_getElem (by simp) fun i h1 h2 => ?_
    simp [List.getElem?_eq_getElem h2]
  unfold setLen PyProof.Rows.firstMet
  rw [e]
  have := dd_iff ns []
  simpa using this
theorem lenSet_at {h : Hs} {x : D} {hs : List Int} (a : LstAt h x (hs.map .int)) (hl : hs.length < 4000) : lenSetO [x] h = .ok (.int (setLen hs)) h := by
  unfold lenSetO
  simp only [a.lst, intsOf_map, if_pos hl]
theorem gIn_lst {α : Type} [DecidableEq α] {f : α → D} {k : Nat} (E : Enc f k) (hk : k < 64) {h : Hs} {x : D} {l : List α} (a : LstAt h x (l.map f)) (y : α) : gIn h (f y) x = some (.bl (decide (y ∈ l))) := by
  rcases a with rfl | ⟨n, rfl, e⟩
  · exact gIn_vl E hk
  · exact gIn_ref E hk e
theorem gNotIn_lst {α : Type} [DecidableEq α] {f : α → D} {k : Nat} (E : Enc f k) (hk : k < 64) {h : Hs} {x : D} {l : List α} (a : LstAt h x (l.map f)) (y : α) : gNotIn h (f y) x = some (.bl (decide (y ∉ l))) := by
  rcases a with rfl | ⟨n, rfl, e⟩
  · exact gNotIn_vl E hk
  · exact gNotIn_ref E hk e
def inB (n : Nat) (x : Int) : Bool := decide (0 ≤ x) && decide (x < n)
def celI (t : List (List Int)) (i j : Int) : Int := cellA (rowA t i) j
theorem inB_iff {n : Nat} {x : Int} : inB n x = true ↔ 0 ≤ x ∧ x < n := by unfold inB; rw [Bool.and_eq_true, decide_eq_true_eq, decide_eq_true_eq]
theorem cel_ix {n : Nat} {t : List (List Int)} {h : Hs} {i j : Int} (T : Tab n t) (i0 : 0 ≤ i) (i1 : i < n) (j0 : 0 ≤ j) (j1 : j < (n : Int) + 1) : gIx h (rowD (rowA t i)) (.int j) = some (.int (celI t i j)) := by
  have r := T.row (i := i.toNat) (by omega)
  rw [Int.toNat_of_nonneg i0] at r
  exact ix_row j0 (by omega)
def areB (n : Nat) (hs : List Int) : Bool := decide hs.Nodup && hs.all (inB n)
def hsA (hs : List Int) (k : Nat) : Int := (hs[k]?).getD 0
def rootAt (t : List (List Int)) (hs : List Int) (k : Nat) : Bool := !(decide (celI t (hsA hs k) (hsA hs k) = 0)) || (hs.take k).any fun o => decide (0 < celI t o (hsA hs k))
def coverB (n : Nat) (t : List (List Int)) (hs : List Int) : Bool := (List.range n).all fun (i : Nat) => decide ((i : Int) ∈ hs) || !busyB n t i
def rootB (n : Nat) (t : List (List Int)) (hs : List Int) : Bool := areB n hs && ((List.range hs.length).all (rootAt t hs) && coverB n t hs)
def lawRootAt (n : Nat) (t : List (List Int)) (hs : List Int) (k : Nat) : Bool := (inB n (hsA hs k) && decide (hsA hs k ∉ hs.take k)) && rootAt t hs k
def lawRootB (n : Nat) (t : List (List Int)) (hs : List Int) : Bool := (List.range hs.length).all (lawRootAt n t hs) && coverB n t hs
theorem hsA_get {hs : List Int} {k : Nat} (hk : k < hs.length) : hsA hs k = hs[k] := by
  unfold hsA
  rw [List.getElem?_eq_getElem hk]
  rfl
theorem hsA_mem {hs : List Int} {k : Nat} (hk : k < hs.length) : hsA hs k ∈ hs := by
  rw [hsA_get hk]
  exact List.getElem_mem _
theorem nodup_take {hs : List Int} : hs.Nodup ↔ ∀ k, k < hs.length → hsA hs k ∉ hs.take k := by
  constructor
  · intro d k hk z
    obtain ⟨i, hi, e⟩ := List.getElem_of_mem z
    rw [List.length_take] at hi
    rw [List.getElem_take, hsA_get hk] at e
    exact List.pairwise_iff_getElem.mp d i k (by omega) hk (by omega) e
  · intro h
    refine List.pairwise_iff_getElem.mpr fun i j hi hj ij e => h j hj ?_
    rw [hsA_get hj, ← e]
    exact List.mem_iff_getElem.mpr ⟨i, by rw [List.length_take]; omega, by rw [List.getElem_take]⟩
theorem all_hs {hs : List Int} {p : Int → Bool} : hs.all p = (List.range hs.length).all fun k => p (hsA hs k) := by
  rw [Bool.eq_iff_iff, List.all_eq_true, List.all_eq_true]
  constructor
  · intro h k hk
    exact h _ (hsA_mem (List.mem_range.mp hk))
  · intro h x hx
    obtain ⟨k, hk, e⟩ := List.getElem_of_mem hx
    have := h k (List.mem_range.mpr hk)
    rwa [hsA_get hk, e] at this
theorem lawRoot_eq {n : Nat} {t : List (List Int)} {hs : List Int} : lawRootB n t hs = rootB n t hs := by
  have e : (List.range hs.length).all (lawRootAt n t hs) = (areB n hs && (List.range hs.length).all (rootAt t hs)) := by
    rw [Bool.eq_iff_iff, Bool.and_eq_true, List.all_eq_true, List.all_eq_true]
    unfold areB
    rw [Bool.and_eq_true, decide_eq_true_eq, nodup_take, all_hs, List.all_eq_true]
    constructor
    · intro h
      refine ⟨⟨fun k hk => ?_, fun k hk => ?_⟩, fun k hk => ?_⟩
      · have := h k (List.mem_range.mpr hk)
        unfold lawRootAt at this
        rw [Bool.and_eq_true, Bool.and_eq_true, decide_eq_true_eq] at this
        exact this.1.2
      · have := h k hk
        unfold lawRootAt at this
        rw [Bool.and_eq_true, Bool.and_eq_true] at this
        exact this.1.1
      · have := h k hk
        unfold lawRootAt at this
        rw [Bool.and_eq_true] at this
        exact this.2
    · rintro ⟨⟨h1, h2⟩, h3⟩ k hk
      unfold lawRootAt
      rw [Bool.and_eq_true, Bool.and_eq_true, decide_eq_true_eq]
      exact ⟨⟨h2 k hk, h1 k (List.mem_range.mp hk)⟩, h3 k hk⟩
  unfold lawRootB rootB
  rw [e, Bool.and_assoc]
theorem atI_int {l : List Int} {k : Nat} (hk : k < l.length) : atI (l.map D.int) (k : Int) = some (.int (hsA l k)) := by
  rw [atI_map (by omega) (by omega), hsA_get hk]
  simp
/-- the k-th of eight numbers above nought -/
theorem ix_eight {l : List Int} {h : Hs} {i : Nat} (ll : l.length = 8) (hi : i < 8) : gIx h (.vl (l.map .int)) (.int i) = some (.int (hsA l i)) := by rw [gIx_vl, atI_int (by omega)]
def posL (l : List Int) : Bool := l.all fun x => decide (0 < x) && decide (x.natAbs < 2 ^ 240)
theorem posL_at {l : List Int} {i : Nat} (h : posL l = true) (hi : i < l.length) : 0 < hsA l i ∧ (hsA l i).natAbs < 2 ^ 240 := by
  have := List.all_eq_true.mp h _ (hsA_mem hi)
  rwa [Bool.and_eq_true, decide_eq_true_eq, decide_eq_true_eq] at this
/-- houses drawn by the figures of a number -/
def someI (n : Nat) (l : List Int) (d : Int) : List Nat := (List.range n).filter fun i => decide (d / hsA l i % 2 = 1)
/-! rounds over the houses, as the laws go them -/
def rdStep (t : List (List Int)) (f : List Nat) (j : Nat) : List Nat := if j ∉ f ∧ (f.any fun i => decide (0 < cel t i j)) = true then f ++ [j] else f
def rdRound (n : Nat) (t : List (List Int)) (f : List Nat) : List Nat := (List.range n).foldl (rdStep t) f
def rounds (n : Nat) (t : List (List Int)) (r : Nat) : List Nat := (List.range r).foldl (fun f _ => rdRound n t f) (makers n t)
section
variable {n : Nat} {t : List (List Int)}
theorem rd_spec : ∀ (l : List Nat) (f : List Nat), (∀ j ∈ l, j < n) → Part n t f → ∃ g, l.foldl (rdStep t) f = f ++ g ∧ Part n t (f ++ g) ∧ ∀ j ∈ l, (∃ y ∈ f, 0 < cel t y j) → j ∈ f ++ g
  | [], f, _, p => ⟨[], by simp, by simpa using p, fun j hj => (nomatch hj)⟩
  | j :: r, f, hl, p => by
    rw [List.foldl_cons]
    by_cases q : j ∉ f ∧ (f.any fun i => decide (0 < cel t i j)) = true
    · obtain ⟨y, hy, c⟩ := List.any_eq_true.mp q.2
      obtain ⟨a, ha, e⟩ := List.getElem_of_mem hy
      have p2 := p.push (a := a) (i := y) (j := j) (by rw [List.getElem?_eq_getElem ha, e]) (of_decide_eq_true c) (hl j List.mem_cons_self) q.1
      obtain ⟨g, h1, h2, h3⟩ := rd_spec r (f ++ [j]) (fun x hx => hl x (List.mem_cons_of_mem _ hx)) p2
      refine ⟨j :: g, ?_, by simpa using h2, fun x hx c => ?_⟩
      · have e0 : rdStep t f j = f ++ [j] := by unfold rdStep; rw [if_pos q]
        rw [e0, h1]
        simp
      · rcases List.mem_cons.mp hx with z | z
        · simp [z]
        · obtain ⟨y, hy, c⟩ := c
          simpa using h3 x z ⟨y, List.mem_append_left _ hy, c⟩
    · have e0 : rdStep t f j = f := by unfold rdStep; rw [if_neg q]
      obtain ⟨g, h1, h2, h3⟩ := rd_spec r f (fun x hx => hl x (List.mem_cons_of_mem _ hx)) p
      refine ⟨g, by rw [e0, h1], h2, fun x hx c => ?_⟩
      rcases List.mem_cons.mp hx with z | z
      · subst z
        obtain ⟨y, hy, c⟩ := c
        by_cases w : x ∈ f
        · exact List.mem_append_left _ w
        · exact (q ⟨w, List.any_eq_true.mpr ⟨y, hy, decide_eq_true c⟩⟩).elim
      · exact h3 x z c
theorem rounds_succ {r : Nat} : rounds n t (r + 1) = rdRound n t (rounds n t r) := by
  unfold rounds
  rw [List.range_succ, List.foldl_append]
  rfl
theorem rounds_part : ∀ r, Part n t (rounds n t r)
  | 0 => makers_part
  | r + 1 => by
    obtain ⟨g, h1, h2, _⟩ := rd_spec (List.range n) (rounds n t r) (fun j hj => List.mem_range.mp hj) (rounds_part r)
    rw [rounds_succ]
    unfold rdRound
    rw [h1]
    exact h2
theorem rounds_get (n8 : n ≤ 8) : ∀ (r k x : Nat), k ≤ r → (rootsI n t)[k]? = some x → x ∈ rounds n t r
  | 0, k, x, hk, e => by
    have p := (roots_part (t := t) n8).1
    rcases p.just k x e with z | ⟨m, y, h1, _, _⟩
    · exact (rounds_part 0).mkr x (p.lt x (List.mem_of_getElem? e)) z
    · omega
  | r + 1, k, x, hk, e => by
    have p := (roots_part (t := t) n8).1
    have hx := p.lt x (List.mem_of_getElem? e)
    obtain ⟨g, h1, h2, h3⟩ := rd_spec (List.range n) (rounds n t r) (fun j hj => List.mem_range.mp hj) (rounds_part (t := t) r)
    rw [rounds_succ]
    unfold rdRound
    rw [h1]
    rcases p.just k x e with z | ⟨m, y, q1, q2, q3⟩
    · exact h2.mkr x hx z
    · exact h3 x (List.mem_range.mpr hx) ⟨y, rounds_get n8 r m y (by omega) q2, q3⟩
theorem rounds_iff (n8 : n ≤ 8) {x : Nat} : x ∈ rounds n t n ↔ Reach n t x := by
  constructor
  · intro h
    obtain ⟨k, hk, e⟩ := List.getElem_of_mem h
    exact (rounds_part n).reach k x (by rw [List.getElem?_eq_getElem hk, e])
  · intro h
    obtain ⟨k, hk, e⟩ := List.getElem_of_mem ((roots_iff n8).mpr h)
    have := (roots_part (t := t) n8).1.len
    exact rounds_get n8 n k x (by omega) (by rw [List.getElem?_eq_getElem hk, e])
/-- such a list is let by just where all that lent or used are there -/
theorem part_root {f : List Nat} (p : Part n t f) (nn : NNt n t) : rootB n t (f.map fun (i : Nat) => (i : Int)) = (List.range n).all fun i => decide (i ∈ f) || !busyB n t i := by
  have e1 : areB n (f.map fun (i : Nat) => (i : Int)) = true := by
    unfold areB
    rw [Bool.and_eq_true, decide_eq_true_eq, List.all_eq_true]
    refine ⟨List.Pairwise.map _ (fun a b h z => h (by omega)) p.nd, fun x hx => ?_⟩
    obtain ⟨i, hi, rfl⟩ := List.mem_map.mp hx
    exact inB_iff.mpr ⟨by omega, by have := p.lt i hi; omega⟩
  have e2 : (List.range (f.map fun (i : Nat) => (i : Int)).length).all (rootAt t (f.map fun (i : Nat) => (i : Int))) = true := by
    refine List.all_eq_true.mpr fun k hk => ?_
    have hk := List.mem_range.mp hk
    have hk2 : k < f.length := by simpa using hk
    have eh : hsA (f.map fun (i : Nat) => (i : Int)) k = ((f[k] : Nat) : Int) := by
      rw [hsA_get hk]
      simp
    unfold rootAt
    rw [eh]
    have j := p.just k f[k] (List.getElem?_eq_getElem hk2)
    rcases j with z | ⟨m, y, h1, h2, h3⟩
    · unfold cel at z
      unfold celI
      rw [decide_eq_false (by omega)]
      rfl
    · rw [Bool.or_eq_true]
      right
      refine List.any_eq_true.mpr ⟨(y : Int), ?_, decide_eq_true h3⟩
      obtain ⟨hm, e⟩ := List.getElem?_eq_some_iff.mp h2
      exact List.mem_iff_getElem.mpr ⟨m, by rw [List.length_take]; simp; omega, by rw [List.getElem_take]; simp [e]⟩
  unfold rootB
  rw [e1, e2, Bool.true_and, Bool.true_and]
  unfold coverB
  congr 1
  funext i
  congr 1
  refine decide_eq_decide.mpr ⟨fun z => ?_, fun z => List.mem_map.mpr ⟨i, z, rfl⟩⟩
  obtain ⟨j, hj, e⟩ := List.mem_map.mp z
  have : j = i := by omega
  rw [← this]
  exact hj
/-- lent or used some, looked at place by place -/
theorem busy_any (T : Tab n t) (nn : NNt n t) {k : Nat} (hk : k < n) : ((List.range (n + 1)).filter fun j => decide (j ≠ k)).any (fun j => decide (0 < cel t k j)) = busyB n t k := by
  have r := T.row hk
  have e : lentByI t k = ((List.range n).map fun (i : Nat) => if i = k then 0 else cel t k i).sum := by
    unfold lentByI
    rw [T.len, sum_take (by omega)]
    have := sum_one (n := n) (h := k) (f := fun i => cellA (rowA t k) i) hk
    unfold cel
    rw [this]
  rw [Bool.eq_iff_iff, List.any_eq_true]
  unfold busyB
  rw [Bool.or_eq_true, decide_eq_true_eq, decide_eq_true_eq, e]
  constructor
  · rintro ⟨j, hj, c⟩
    obtain ⟨h1, h2⟩ := List.mem_filter.mp hj
    have h1 := List.mem_range.mp h1
    have h2 := of_decide_eq_true h2
    have c := of_decide_eq_true c
    by_cases z : j = n
    · rw [z] at c
      exact .inr c
    · left
      have q := sum_nonneg (l := (List.range n)) (f := fun (i : Nat) => if i = k then 0 else if i = j then 0 else cel t k i) fun i hi => by
        have hi := List.mem_range.mp hi
        split
        · omega
        · split
          · omega
          · exact nn k i hk (by omega)
      have s := sum_one (n := n) (h := j) (f := fun (i : Nat) => if i = k then 0 else cel t k i) (by omega)
      have : ((List.range n).map fun (i : Nat) => if i = j then 0 else if i = k then 0 else cel t k i).sum = ((List.range n).map fun (i : Nat) => if i = k then 0 else if i = j then 0 else cel t k i).sum := sum_congr fun i _ => by
        by_cases a : i = j
        · simp [a]
        · simp [a]
      rw [if_neg h2] at s
      omega
  · rintro (z | z)
    · obtain ⟨i, hi, c⟩ := sum_posi z
      have hi := List.mem_range.mp hi
      by_cases w : i = k
      · rw [if_pos w] at c; omega
      · rw [if_neg w] at c
        exact ⟨i, List.mem_filter.mpr ⟨List.mem_range.mpr (by omega), decide_eq_true w⟩, decide_eq_true c⟩
    · exact ⟨n, List.mem_filter.mpr ⟨List.mem_range.mpr (by omega), decide_eq_true (by omega)⟩, decide_eq_true z⟩
end
end Gx

namespace Gx
open PySem L2
/-! rising lists of houses to which no right came -/
theorem LstAt.sort {h : Hs} {x : D} {hs : List Int} {m : Bool} (a : LstAt h x (hs.map .int)) : gSort m [x] h = newL m ((sortI hs).map .int) h := by
  rcases a with rfl | ⟨n, rfl, e⟩
  · exact gSort_vl
  · exact gSort_ref e
theorem sortI_iff {hs : List Int} : sortI hs = hs ↔ hs.Pairwise (· ≤ ·) := by
  constructor
  · intro h
    have := sortI_le hs
    rwa [h] at this
  · intro h
    exact sort_uniq (sortI_perm hs) (sortI_le hs) h
def noneAt (n : Nat) (t : List (List Int)) (hs : List Int) (x : Int) : Bool := !(((List.range n).filter fun (o : Nat) => decide ((o : Int) = x) || !decide ((o : Int) ∈ hs)).any fun (o : Nat) => decide (0 < celI t o x))
def busyI (n : Nat) (t : List (List Int)) (x : Int) : Bool := busyB n t x.toNat
def rootlessB (n : Nat) (t : List (List Int)) (hs : List Int) : Bool := (areB n hs && decide (sortI hs = hs)) && (hs.all (noneAt n t hs) && hs.any (busyI n t))
def riseAt (n : Nat) (hs : List Int) (k : Nat) : Bool := inB n (hsA hs k) && (decide (k = 0) || decide (hsA hs (k - 1) < hsA hs k))
def lawNoneIn (n : Nat) (t : List (List Int)) (hs : List Int) (x : Int) (o : Nat) : Bool := decide ((o : Int) ∈ hs) || !decide (0 < celI t o x)
def lawNoneAt (n : Nat) (t : List (List Int)) (hs : List Int) (x : Int) : Bool := !decide (0 < celI t x x) && (List.range n).all (lawNoneIn n t hs x)
def lawRootlessB (n : Nat) (t : List (List Int)) (hs : List Int) : Bool := (List.range hs.length).all (riseAt n hs) && (hs.all (lawNoneAt n t hs) && hs.any (busyI n t))
theorem rise_lt {n : Nat} {hs : List Int} (h : ∀ k, k < hs.length → riseAt n hs k = true) : ∀ j i, i < j → j < hs.length → hsA hs i < hsA hs j
  | 0, i, h1, _ => by omega
  | j + 1, i, h1, h2 => by
    have q := h (j + 1) h2
    unfold riseAt at q
    rw [Bool.and_eq_true, Bool.or_eq_true, decide_eq_true_eq, decide_eq_true_eq] at q
    have q2 : hsA hs j < hsA hs (j + 1) := by
      rcases q.2 with z | z
      · omega
      · simpa using z
    by_cases e : i = j
    · rw [e]; exact q2
    · have := rise_lt h j i (by omega) (by omega)
      omega
theorem rise_eq {n : Nat} {hs : List Int} : (List.range hs.length).all (riseAt n hs) = (areB n hs && decide (sortI hs = hs)) := by
  rw [Bool.eq_iff_iff, Bool.and_eq_true, List.all_eq_true, decide_eq_true_eq, sortI_iff]
  unfold areB
  rw [Bool.and_eq_true, decide_eq_true_eq, all_hs, List.all_eq_true]
  constructor
  · intro h
    have h' : ∀ k, k < hs.length → riseAt n hs k = true := fun k hk => h k (List.mem_range.mpr hk)
    have lt : hs.Pairwise (· < ·) := List.pairwise_iff_getElem.mpr fun i j hi hj ij => by
      have := rise_lt h' j i ij hj
      rwa [hsA_get hi, hsA_get hj] at this
    refine ⟨⟨lt.imp fun q => by omega, fun k hk => ?_⟩, lt.imp fun q => by omega⟩
    have q := h k hk
    unfold riseAt at q
    rw [Bool.and_eq_true] at q
    exact q.1
  · rintro ⟨⟨h1, h2⟩, h3⟩ k hk
    have hk2 := List.mem_range.mp hk
    unfold riseAt
    rw [Bool.and_eq_true, Bool.or_eq_true, decide_eq_true_eq, decide_eq_true_eq]
    refine ⟨h2 k hk, ?_⟩
    by_cases z : k = 0
    · exact .inl z
    · right
      have a := List.pairwise_iff_getElem.mp h3 (k - 1) k (by omega) hk2 (by omega)
      have b := List.pairwise_iff_getElem.mp h1 (k - 1) k (by omega) hk2 (by omega)
      rw [hsA_get (by omega), hsA_get hk2]
      omega
theorem none_eq {n : Nat} {t : List (List Int)} {hs : List Int} {x : Int} (hx : x ∈ hs) (x0 : 0 ≤ x) (x1 : x < n) : lawNoneAt n t hs x = noneAt n t hs x := by
  unfold lawNoneAt noneAt lawNoneIn
  rw [Bool.eq_iff_iff, Bool.and_eq_true, Bool.not_eq_true', decide_eq_false_iff_not, List.all_eq_true, Bool.not_eq_true', List.any_eq_false]
  constructor
  · rintro ⟨h1, h2⟩ o ho c
    obtain ⟨q1, q2⟩ := List.mem_filter.mp ho
    have c := of_decide_eq_true c
    rw [Bool.or_eq_true, decide_eq_true_eq, Bool.not_eq_true', decide_eq_false_iff_not] at q2
    rcases q2 with z | z
    · rw [z] at c; exact h1 c
    · have := h2 o q1
      rw [Bool.or_eq_true, decide_eq_true_eq, Bool.not_eq_true', decide_eq_false_iff_not] at this
      rcases this with w | w
      · exact z w
      · exact w c
  · intro h
    refine ⟨fun c => ?_, fun o ho => ?_⟩
    · refine h x.toNat (List.mem_filter.mpr ⟨List.mem_range.mpr (by omega), ?_⟩) ?_
      · rw [Bool.or_eq_true, decide_eq_true_eq]
        left
        omega
      · have e : ((x.toNat : Nat) : Int) = x := by omega
        rw [e]
        exact decide_eq_true c
    · rw [Bool.or_eq_true, decide_eq_true_eq, Bool.not_eq_true', decide_eq_false_iff_not]
      by_cases z : (o : Int) ∈ hs
      · exact .inl z
      · right
        intro c
        refine h o (List.mem_filter.mpr ⟨ho, ?_⟩) (decide_eq_true c)
        rw [Bool.or_eq_true, Bool.not_eq_true', decide_eq_false_iff_not]
        exact .inr z
theorem lawRootless_eq {n : Nat} {t : List (List Int)} {hs : List Int} : lawRootlessB n t hs = rootlessB n t hs := by
  unfold lawRootlessB rootlessB
  rw [rise_eq]
  by_cases q : areB n hs = true
  · have e : hs.all (lawNoneAt n t hs) = hs.all (noneAt n t hs) := by
      rw [Bool.eq_iff_iff, List.all_eq_true, List.all_eq_true]
      have i : ∀ x ∈ hs, 0 ≤ x ∧ x < n := fun x hx => by
        unfold areB at q
        rw [Bool.and_eq_true, List.all_eq_true] at q
        exact inB_iff.mp (q.2 x hx)
      constructor
      · intro h x hx
        rw [← none_eq hx (i x hx).1 (i x hx).2]
        exact h x hx
      · intro h x hx
        rw [none_eq hx (i x hx).1 (i x hx).2]
        exact h x hx
    rw [e]
  · rw [Bool.eq_false_iff.mpr q]
    rfl
theorem andR_rs {c : Str} {p : Option Int} {h : Hs} {y : Hs → R D} : andR (.rs c p h) y = .rs c p h := rfl
theorem atI_last {l : List D} (h0 : 0 < l.length) : atI l (-1) = some (l[l.length - 1]) := by
  have e : ixN l.length (-1) = some (l.length - 1) := by
    unfold ixN
    rw [if_neg (by omega)]
    split
    · congr 1
      omega
    · omega
  unfold atI
  rw [e]
  exact List.getElem?_eq_getElem (by omega)
theorem any_12 {h : Hs} : gAny h [.vl [.bl false, .bl false, .bl false, .bl false, .bl false, .bl false, .bl false, .bl false, .bl false, .bl false, .bl false, .bl false]] = some (.bl false) := rfl
theorem isLst_vl {l : List D} {h : Hs} : isLst h (.vl l) = true := by simp [isLst, lstH]
theorem cnt_tf {h : Hs} : valM txCount (.vl [.bl true, .bl false]) [.bl true] h = .ok (.int 1) h := rfl
theorem cnt_ft {h : Hs} : valM txCount (.vl [.bl false, .bl true]) [.bl true] h = .ok (.int 1) h := rfl
theorem idx_tf {h : Hs} : valM txIndex (.vl [.bl true, .bl false]) [.bl true] h = .ok (.int 0) h := rfl
theorem idx_ft {h : Hs} : valM txIndex (.vl [.bl false, .bl true]) [.bl true] h = .ok (.int 1) h := rfl
/-! pools of any numbers -/
def isPoolB (n : Nat) (ps : List Int) : Bool := decide (ps ≠ []) && (List.range ps.length).all (riseAt n ps)
def risesB (n : Nat) : Int → List Int → Bool
  | _, [] => true
  | m, x :: r => (decide (m < x) && decide (x < n)) && risesB n x r
theorem rises_iff {n : Nat} : ∀ (ps : List Int) (m : Int), risesB n m ps = true ↔ ps.Pairwise (· < ·) ∧ ∀ x ∈ ps, m < x ∧ x < n
  | [], m => by simp [risesB]
  | x :: r, m => by
    unfold risesB
    rw [Bool.and_eq_true, Bool.and_eq_true, decide_eq_true_eq, decide_eq_true_eq, rises_iff r x, List.pairwise_cons]
    constructor
    · rintro ⟨⟨h1, h2⟩, h3, h4⟩
      refine ⟨⟨fun y hy => (h4 y hy).1, h3⟩, fun y hy => ?_⟩
      rcases List.mem_cons.mp hy with z | z
      · rw [z]; exact ⟨h1, h2⟩
      · have := h4 y z; exact ⟨by omega, this.2⟩
    · rintro ⟨⟨h1, h2⟩, h3⟩
      exact ⟨h3 x List.mem_cons_self, h2, fun y hy => ⟨h1 y hy, (h3 y (List.mem_cons_of_mem _ hy)).2⟩⟩
theorem rise_iff {n : Nat} {ps : List Int} : (List.range ps.length).all (riseAt n ps) = true ↔ ps.Pairwise (· < ·) ∧ ∀ x ∈ ps, 0 ≤ x ∧ x < n := by
  constructor
  · intro h
    have h' : ∀ k, k < ps.length → riseAt n ps k = true := fun k hk => List.all_eq_true.mp h k (List.mem_range.mpr hk)
    refine ⟨List.pairwise_iff_getElem.mpr fun i j hi hj ij => ?_, fun x hx => ?_⟩
    · have := rise_lt h' j i ij hj
      rwa [hsA_get hi, hsA_get hj] at this
    · obtain ⟨k, hk, e⟩ := List.getElem_of_mem hx
      have := h' k hk
      unfold riseAt at this
      rw [Bool.and_eq_true, hsA_get hk, e] at this
      exact inB_iff.mp this.1
  · rintro ⟨h1, h2⟩
    refine List.all_eq_true.mpr fun k hk => ?_
    have hk := List.mem_range.mp hk
    unfold riseAt
    rw [Bool.and_eq_true, Bool.or_eq_true, decide_eq_true_eq, decide_eq_true_eq]
    refine ⟨inB_iff.mpr (h2 _ (hsA_mem hk)), ?_⟩
    by_cases z : k = 0
    · exact .inl z
    · right
      rw [hsA_get (by omega), hsA_get hk]
      exact List.pairwise_iff_getElem.mp h1 (k - 1) k (by omega) hk (by omega)
theorem rises_rise {n : Nat} {ps : List Int} : risesB n (-1) ps = (List.range ps.length).all (riseAt n ps) := by
  rw [Bool.eq_iff_iff, rises_iff, rise_iff]
  constructor
  · rintro ⟨h1, h2⟩
    exact ⟨h1, fun x hx => by have := h2 x hx; omega⟩
  · rintro ⟨h1, h2⟩
    exact ⟨h1, fun x hx => by have := h2 x hx; omega⟩
theorem pool_of {n : Nat} {ps : List Int} (h : isPoolB n ps = true) : ∃ p : List Nat, PoolOk n p ∧ ps = p.map fun (i : Nat) => (i : Int) := by
  unfold isPoolB at h
  rw [Bool.and_eq_true, decide_eq_true_eq, rise_iff] at h
  obtain ⟨h0, h1, h2⟩ := h
  have e : ps = (ps.map Int.toNat).map fun (i : Nat) => (i : Int) := by
    rw [List.map_map]
    refine List.ext_getElem (by simp) fun i a b => ?_
    have := (h2 _ (List.getElem_mem a)).1
    simp
    omega
  refine ⟨ps.map Int.toNat, ⟨fun z => h0 (by simpa using z), ?_, fun x hx => ?_⟩, e⟩
  · rw [e] at h1
    rw [List.pairwise_map] at h1
    exact h1.imp fun q => by omega
  · obtain ⟨y, hy, rfl⟩ := List.mem_map.mp hx
    have := h2 y hy
    omega
end Gx

namespace Gx
open PySem L2
/-! a word and whole numbers -/
inductive Wd where
  | make | lend | use | give | big | bare
  deriving DecidableEq
def Wd.str : Wd → Str
  | .make => "make" | .lend => "lend" | .use => "use" | .give => "give" | .big => "Make" | .bare => ""
def anyD (w : Wd) (ps : List Int) : D := .tup (.str w.str :: ps.map .int)
/-- the deed that it is, for one right or more -/
def deedOf : Wd → List Int → Option Deed
  | .make, [i, k] => if 1 ≤ k then some (.make i k) else none
  | .use, [i, k] => if 1 ≤ k then some (.use i k) else none
  | .lend, [i, j, k] => if 1 ≤ k then some (.lend i j k) else none
  | _, _ => none
instance (n : Nat) (d : Deed) : Decidable (d.ok n) := by unfold Deed.ok; cases d <;> exact inferInstance
theorem deedOf_some {w : Wd} {ps : List Int} {d : Deed} (e : deedOf w ps = some d) : anyD w ps = deedD d ∧ 1 ≤ d.k := by
  unfold deedOf at e
  split at e
  · split at e
    · rename_i q; cases e; exact ⟨rfl, q⟩
    · cases e
  · split at e
    · rename_i q; cases e; exact ⟨rfl, q⟩
    · cases e
  · split at e
    · rename_i q; cases e; exact ⟨rfl, q⟩
    · cases e
  · cases e
theorem shp_wd (w : Wd) : shp (.str w.str) = true := by cases w <;> decide +kernel
section
variable {h : Hs} {w : Wd}
theorem wd_lend : gEq h (.str w.str) (.str "lend") = some (.bl (decide (w = .lend))) := by
  rw [gEq_str (shp_wd w) shp_lend]
  cases w <;> rfl
theorem wd_make : gEq h (.str w.str) (.str "make") = some (.bl (decide (w = .make))) := by
  rw [gEq_str (shp_wd w) shp_make]
  cases w <;> rfl
theorem wd_use : gEq h (.str w.str) (.str "use") = some (.bl (decide (w = .use))) := by
  rw [gEq_str (shp_wd w) shp_use]
  cases w <;> rfl
theorem wd_nmake : gNe h (.str w.str) (.str "make") = some (.bl (!decide (w = .make))) := by
  rw [gNe_str (shp_wd w) shp_make]
  cases w <;> rfl
end
section
variable {a b c d e : D}
theorem at_1_n : atI [a] (-1) = some a := rfl
theorem at_2_n : atI [a, b] (-1) = some b := rfl
theorem at_5_n : atI [a, b, c, d, e] (-1) = some e := rfl
theorem at_c0 {l : List D} : atI (a :: l) 0 = some a := by simp [atI, ixN]
end
/-! looked up in lists of truths -/
theorem any_11 {h : Hs} : gAny h [.vl [.bl false, .bl false, .bl false, .bl false, .bl false, .bl false, .bl false, .bl false, .bl false, .bl false, .bl false]] = some (.bl false) := rfl
theorem cnt_tff {h : Hs} : valM txCount (.vl [.bl true, .bl false, .bl false]) [.bl true] h = .ok (.int 1) h := rfl
theorem cnt_ftf {h : Hs} : valM txCount (.vl [.bl false, .bl true, .bl false]) [.bl true] h = .ok (.int 1) h := rfl
theorem cnt_fft {h : Hs} : valM txCount (.vl [.bl false, .bl false, .bl true]) [.bl true] h = .ok (.int 1) h := rfl
theorem idx_tff {h : Hs} : valM txIndex (.vl [.bl true, .bl false, .bl false]) [.bl true] h = .ok (.int 0) h := rfl
theorem idx_ftf {h : Hs} : valM txIndex (.vl [.bl false, .bl true, .bl false]) [.bl true] h = .ok (.int 1) h := rfl
theorem idx_fft {h : Hs} : valM txIndex (.vl [.bl false, .bl false, .bl true]) [.bl true] h = .ok (.int 2) h := rfl
@[simp] theorem kD_inl {i : Int} : kD (.inl i) = .int i := by unfold kD; rfl
@[simp] theorem kD_inr {x : Str} : kD (.inr x) = .str x := by unfold kD; rfl
@[simp] theorem dspO_ok {qs : List Key} {l : List D} {h : Hs} : dspO qs l h = .ok (.vd (qs.map kD) l) h := by unfold dspO; rfl
theorem isDic_vd {k l : List D} {h : Hs} : isDic h (.vd k l) = true := by simp [isDic, dicU]
theorem gAdd_lst {h : Hs} {x y : D} {l m : List D} (a : LstAt h x l) (b : LstAt h y m) (e : l.length + m.length ≤ 16777216) : gAdd h x y = some (.vl (l ++ m)) := by
  have h1 := a.lst
  have h2 := b.lst
  rcases a with rfl | ⟨n, rfl, _⟩ <;> rcases b with rfl | ⟨k, rfl, _⟩ <;> (unfold gAdd; simp only [h1, h2]; rw [if_pos e])
theorem ixN_last {m : Nat} : ixN (m + 1) (-1) = some m := by
  unfold ixN
  simp
  omega
end Gx

namespace Gx
open PySem L2
/-! enumerate over an object; the deeds of a stand -/
theorem enum_refm {n m : Nat} {g : Nat → D} {h : Hs} (e : h[m]? = some (.lst ((List.range n).map g))) : ∃ c : Hs → Prop, c h ∧ enumO [.ref m] h = .ok ⟨(List.range n).map fun (i : Nat) => .tup [.int i, g i], c⟩ h := by
  refine ⟨stays (.ref m) ((List.range n).map g), e, ?_⟩
  have e1 : lstH h (.ref m) = some ((List.range n).map g) := by simp [lstH, e]
  unfold enumO
  dsimp only
  rw [e1]
  have e2 : (((List.range n).map g).zipIdx.map fun p => D.tup [.int (p.2 : Nat), p.1]) = (List.range n).map fun (i : Nat) => .tup [.int i, g i] := by
    refine List.ext_getElem (by simp) fun i h1 h2 => ?_
    simp
  dsimp only
  rw [e2]
  all_goals rfl
theorem comes_yes {n : Nat} {t : List (List Int)} (c : comesB n t = true) : comesD n t = .tup [.str "comes", natsD (rootsI n t)] := by
  unfold comesD
  cases q : (List.range n).find? fun k : Nat => decide (rightsI t k < 0) with
  | some k => rw [(comes_some q).1] at c; cases c
  | none =>
    rw [comes_none q] at c
    dsimp only
    rw [if_pos c]
theorem ix20 {h : Hs} {a b : D} : gIx h (.tup [a, b]) (.int 0) = some a := by rw [gIx_tup]; rfl
theorem ix21 {h : Hs} {a b : D} : gIx h (.tup [a, b]) (.int 1) = some b := by rw [gIx_tup]; rfl
end Gx

namespace Gx
open PySem L2
/-! tapes; dicts by whole numbers; what a comprehension keeps -/
theorem lcL_sub {α : Type} {f g : α → D} {ft : D → SD → Option SD} {fb fe : SD → Hs → R D} {s : SD} (I : Nat → Hs → Prop) (Q : α → Prop) (N : Nat) : ∀ (l : List α) (i : Nat) (h : Hs), i + l.length ≤ N → I i h → (∀ a ∈ l, ∀ i h, i < N → I i h → ∃ y h', lcT ft fb fe s (f a) h = .ok y h' ∧ I (i + 1) h' ∧ (y = none ∨ (y = some (g a) ∧ Q a))) →
    ∃ (l' : List α) (h' : Hs), lcL (fun _ => True) ft fb fe s (l.map f) h = .ok (l'.map g) h' ∧ I (i + l.length) h' ∧ l'.Sublist l ∧ ∀ a ∈ l', Q a
  | [], i, h, _, j, _ => ⟨[], h, by rw [List.map_nil, lcL, if_pos trivial]; rfl, j, List.Sublist.refl _, fun a m => by cases m⟩
  | a :: r, i, h, hN, j, k => by
    rw [List.length_cons] at hN
    obtain ⟨y, h1, e, j1, q⟩ := k a List.mem_cons_self i h (by omega) j
    obtain ⟨l', h2, e2, j2, sb, qa⟩ := lcL_sub I Q N r (i + 1) h1 (by omega) j1 fun a' m => k a' (List.mem_cons_of_mem _ m)
    have hl : i + (a :: r).length = i + 1 + r.length := by rw [List.length_cons]; omega
    rcases q with rfl | ⟨rfl, qq⟩
    · refine ⟨l', h2, ?_, by rw [hl]; exact j2, sb.cons a, qa⟩
      rw [List.map_cons, lcL_cons trivial e, e2]
      simp
    · refine ⟨a :: l', h2, ?_, by rw [hl]; exact j2, sb.cons₂ a, fun b m => ?_⟩
      · rw [List.map_cons, lcL_cons trivial e, e2]
        simp
      · rcases List.mem_cons.mp m with z | z
        · rw [z]; exact qq
        · exact qa b z
theorem lcO_sub {α : Type} {m : Bool} {f g : α → D} {ft : D → SD → Option SD} {fb fe : SD → Hs → R D} {vs : List Nat} {s : SD} (I : Nat → Hs → Prop) (Q : α → Prop) (l : List α) (h : Hs) (hl : l.length ≤ 16777216) (i0 : I 0 h) (k : ∀ a ∈ l, ∀ i h, i < l.length → I i h → ∃ y h', lcT ft fb fe (wipeS s vs) (f a) h = .ok y h' ∧ I (i + 1) h' ∧ (y = none ∨ (y = some (g a) ∧ Q a))) :
    ∃ (l' : List α) (h' : Hs), lcO m ft fb fe vs s (src0 (l.map f)) h = newL m (l'.map g) h' ∧ I l.length h' ∧ l'.Sublist l ∧ ∀ a ∈ l', Q a := by
  obtain ⟨l', h', e, j, sb, qa⟩ := lcL_sub I Q l.length l 0 h (by omega) i0 k
  refine ⟨l', h', ?_, by rw [Nat.zero_add] at j; exact j, sb, qa⟩
  unfold lcO
  simp only [src0_ds, src0_c]
  rw [if_pos (by rw [List.length_map]; exact hl), e, bind_ok]
/-- a tape: the script, the place, what is left of the cell -/
structure TapeAt (h : Hs) (t : Nat) (ns : List Int) (p : Int) : Prop where
  ex : ∃ a r : Int, h[t]? = some (.lst [script ns, .int a, .int r]) ∧ 0 ≤ a ∧ a ≤ p ∧ 0 ≤ r
section
variable {h h' : Hs} {t : Nat} {ns : List Int} {p p' : Int}
theorem TapeAt.mono (T : TapeAt h t ns p) (q : p ≤ p') : TapeAt h t ns p' := by
  obtain ⟨a, r, e, a0, a1, r0⟩ := T.ex
  exact ⟨a, r, e, a0, by omega, r0⟩
theorem TapeAt.ext (T : TapeAt h t ns p) (e : Ext h h') : TapeAt h' t ns p := by
  obtain ⟨a, r, q, z⟩ := T.ex
  exact ⟨a, r, e.get q, z⟩
theorem TapeAt.lt (T : TapeAt h t ns p) : t < h.length := by
  obtain ⟨a, r, q, z⟩ := T.ex
  exact lt_of_get q
theorem TapeAt.same (T : TapeAt h t ns p) (e : h'[t]? = h[t]?) : TapeAt h' t ns p := by
  obtain ⟨a, r, q, z⟩ := T.ex
  exact ⟨a, r, by rw [e]; exact q, z⟩
end
/-! ### dicts: keys, and a value for each -/
def natD (i : Nat) : D := .int i
def dkO (k : List Nat) (g : Nat → D) : HO' := .dic (k.map natD) (k.map g)
def fkO (k : List Nat) (g : Nat → D) : HO' := .fdc (k.map natD) (k.map g)
def vkD (k : List Nat) (g : Nat → D) : D := .vd (k.map natD) (k.map g)
def putk (k : List Nat) (q : Nat) : List Nat := if q ∈ k then k else k ++ [q]
def putg (g : Nat → D) (q : Nat) (v : D) : Nat → D := fun x => if x = q then v else g x
theorem kyD_nat {i : Nat} : kyD (natD i) = some (.inl (i : Int)) := rfl
theorem dFind_kg {g : Nat → D} {q : Nat} : ∀ {k : List Nat}, dFind (k.map natD) (k.map g) (.inl (q : Int)) = if q ∈ k then some (g q) else none
  | [] => by simp [dFind]
  | a :: k => by
    have ih := dFind_kg (g := g) (q := q) (k := k)
    unfold dFind at ih ⊢
    rw [List.map_cons, List.map_cons, List.zip_cons_cons, List.find?_cons]
    by_cases z : a = q
    · subst z
      simp [kyD_nat]
    · have z1 : ¬ ((a : Int) = q) := by omega
      have z2 : ¬ q = a := fun w => z w.symm
      simp [kyD_nat, z1, z2]
      simpa using ih
theorem dPut_kg {k : List Nat} {g : Nat → D} {q : Nat} {v : D} : dPut (k.map natD) (k.map g) (.inl (q : Int)) v = ((putk k q).map natD, (putk k q).map (putg g q v)) := by
  unfold dPut
  have e : ((k.map natD).any fun a => decide (kyD a = some (.inl (q : Int)))) = decide (q ∈ k) := by
    rw [List.any_map, Bool.eq_iff_iff, List.any_eq_true, decide_eq_true_eq]
    constructor
    · rintro ⟨a, ha, h1⟩
      have h1 := of_decide_eq_true h1
      rw [kyD_nat] at h1
      injection h1 with h1
      injection h1 with h1
      have : a = q := by omega
      rw [← this]; exact ha
    · intro hq
      exact ⟨q, hq, by simp [kyD_nat]⟩
  rw [e]
  unfold putk
  by_cases z : q ∈ k
  · simp only [z, decide_true, if_true]
    congr 1
    clear e z
    induction k with
    | nil => rfl
    | cons a k ih =>
      simp only [List.map_cons, List.zip_cons_cons, ih]
      congr 1
      unfold putg
      by_cases w : a = q
      · subst w; simp [kyD_nat]
      · have w1 : ¬ ((a : Int) = q) := by omega
        simp [kyD_nat, w, w1]
  · simp only [z, decide_false, if_false]
    simp only [Bool.false_eq_true, if_false, List.map_append, List.map_cons, List.map_nil]
    have e1 : k.map (putg g q v) = k.map g := List.map_congr_left fun x hx => by
      unfold putg
      rw [if_neg (fun w => z (by rw [← w]; exact hx))]
    rw [e1]
    simp [putg, kD, natD]
section
variable {h : Hs} {n : Nat} {k : List Nat} {g : Nat → D} {q : Nat} {v : D}
theorem dicH_dk (e : h[n]? = some (dkO k g)) : dicH h (.ref n) = some (k.map natD, k.map g) := by unfold dicH; simp only [e, dkO]
theorem dicU_dk (e : h[n]? = some (dkO k g)) : dicU h (.ref n) = some (k.map natD, k.map g) := by unfold dicU; simp only [e, dkO]
theorem dicH_fk (e : h[n]? = some (fkO k g)) : dicH h (.ref n) = some (k.map natD, k.map g) := by unfold dicH; simp only [e, fkO]
theorem dicH_vk : dicH h (vkD k g) = some (k.map natD, k.map g) := rfl
theorem gIx_dic {x : D} (e : dicH h x = some (k.map natD, k.map g)) (hq : q ∈ k) : gIx h x (.int (q : Int)) = some (g q) := by
  have e2 : (kyD (.int (q : Int))).bind (fun z => dFind (k.map natD) (k.map g) z) = some (g q) := by
    show dFind (k.map natD) (k.map g) (.inl (q : Int)) = _
    rw [dFind_kg, if_pos hq]
  unfold gIx
  cases x with
  | vd a b => simp only [e]; exact e2
  | ref m => simp only [e]; exact e2
  | _ => simp [dicH] at e
theorem gIn_dic {x : D} (e : dicH h x = some (k.map natD, k.map g)) : gIn h (.int (q : Int)) x = some (.bl (decide (q ∈ k))) := by
  unfold gIn
  rw [e]
  show some (D.bl (dFind (k.map natD) (k.map g) (.inl (q : Int))).isSome) = _
  rw [dFind_kg]
  by_cases z : q ∈ k <;> simp [z]
theorem gNotIn_dic {x : D} (e : dicH h x = some (k.map natD, k.map g)) : gNotIn h (.int (q : Int)) x = some (.bl (!decide (q ∈ k))) := by
  unfold gNotIn
  rw [e]
  show some (D.bl (!(dFind (k.map natD) (k.map g) (.inl (q : Int))).isSome)) = _
  rw [dFind_kg]
  by_cases z : q ∈ k <;> simp [z]
theorem gLen_dic {x : D} (e : dicH h x = some (k.map natD, k.map g)) : gLen h [x] = some (.int k.length) := by
  unfold gLen
  cases x with
  | vd a b => simp [e]
  | ref m => simp [e]
  | _ => simp [dicH] at e
theorem get_dic {x : D} (e : dicU h x = some (k.map natD, k.map g)) : getM x [.int (q : Int)] h = .ok (if q ∈ k then g q else .non) h := by
  unfold getM
  rw [e]
  show R.ok ((dFind (k.map natD) (k.map g) (.inl (q : Int))).getD .non) h = _
  rw [dFind_kg]
  by_cases z : q ∈ k <;> simp [z]
theorem isDic_dic {x : D} (e : dicU h x = some (k.map natD, k.map g)) : isDic h x = true := by unfold isDic; rw [e]; rfl
theorem dicU_vk : dicU h (vkD k g) = some (k.map natD, k.map g) := rfl
theorem storeG_dic (e : h[n]? = some (dkO k g)) (hk : k.length < 16777216) : storeG (.ref n) (.int (q : Int)) v h = some (h.set n (dkO (putk k q) (putg g q v))) := by
  unfold storeG
  simp only [e, dkO]
  have e1 : kyD (.int (q : Int)) = some (.inl (q : Int)) := rfl
  rw [e1]
  dsimp only [Option.bind]
  rw [if_pos (by rw [List.length_map]; exact hk), dPut_kg]
  rfl
theorem isi_dict (e : h[n]? = some (dkO k g)) : isiG "dict" (.ref n) h = .ok (.bl true) h := isi_of (u := "dict") (by unfold tyOf; simp only [e, dkO]) (by decide +kernel)
end
theorem isi_int_int {i : Int} {h : Hs} : isiG "int" (.int i) h = .ok (.bl true) h := isi_of rfl (by decide +kernel)
theorem isi_bool_int {i : Int} {h : Hs} : isiG "bool" (.int i) h = .ok (.bl false) h := isi_of rfl (by decide +kernel)
/-- the lock on a dict that stays -/
theorem dlp_nx {kd i n : Nat} {f : D → SD → Hs → O} {s s' : SD} {h : Hs} {k l : List D} (hs : s[i]? = some (some (.ref n))) (e : h[n]? = some (.dic k l)) (F : forL f (dlpI kd k l) s (h.set n (.fdc k l)) = .nx s' (h.set n (.fdc k l))) : dlpO kd i f s h = .nx s' h := by
  have hn := lt_of_get e
  unfold dlpO
  rw [hs]
  dsimp only
  rw [e]
  dsimp only
  rw [forC_T, F]
  unfold unlO unlH
  dsimp only
  rw [List.getElem?_set_self hn]
  dsimp only
  rw [List.set_set]
  congr 1
  exact (List.set_getElem_self hn ▸ by
    obtain ⟨_, e2⟩ := List.getElem?_eq_some_iff.mp e
    rw [← e2]
    simp)
/-! ### roads -/
def roadD (p : Nat × Nat) : D := .tup [.int p.1, .int p.2]
def roundD (r : List (Nat × Nat)) : D := .tup (r.map roadD)
structure RoundOk (n : Nat) (r : List (Nat × Nat)) : Prop where
  ok : ∀ p ∈ r, p.1 < n ∧ p.2 < n ∧ p.1 ≠ p.2
  up : r.Pairwise fun p q => p.1 < q.1 ∨ (p.1 = q.1 ∧ p.2 < q.2)
  len : r.length ≤ 1000
structure RoadsOk (n : Nat) (rs : List (List (Nat × Nat))) : Prop where
  ok : ∀ r ∈ rs, RoundOk n r
  len : rs.length ≤ 40
theorem enc_nat' : Enc natD 0 where
  lay := fun a => by simp [natD, D.py, PyData.canLay0]
  dp := fun a => by simp [natD, D.py, PyData.depth]
  nr := fun a => by simp [natD]
  eq := fun a b => by
    have := eqD_int (i := (a : Int)) (j := (b : Int))
    have e : PyData.eqv (natD a).py (natD b).py = decide ((a : Int) = b) := this
    rw [e]
    by_cases z : a = b
    · simp [z]
    · have : ¬ ((a : Int) = b) := by omega
      simp [z, this]
@[simp] theorem nr_roadD {p : Nat × Nat} : (roadD p).nr = true := by simp [roadD]
@[simp] theorem nr_roundD {r : List (Nat × Nat)} : (roundD r).nr = true := by simp [roundD]
theorem road_inj : ∀ a b : Nat × Nat, PyData.eqv (roadD a).py (roadD b).py = decide (a = b) := fun a b => by
  have := enc_nat'.tup.eq [a.1, a.2] [b.1, b.2]
  have e : PyData.eqv (roadD a).py (roadD b).py = decide ([a.1, a.2] = [b.1, b.2]) := this
  rw [e]
  by_cases z : a = b
  · simp [z]
  · have : ¬ (a.1 = b.1 ∧ a.2 = b.2) := fun w => z (Prod.ext w.1 w.2)
    simp [z]
    intro h1 h2
    exact this ⟨h1, h2⟩
theorem enc_road : Enc roadD 1 where
  lay := fun a => enc_nat'.tup.lay [a.1, a.2]
  dp := fun a => enc_nat'.tup.dp [a.1, a.2]
  nr := fun a => nr_roadD
  eq := road_inj
theorem enc_round : Enc roundD 2 := enc_road.tup
theorem src_roundD {r : List (Nat × Nat)} {h : Hs} : srcOf (roundD r) h = .ok (src0 (r.map roadD)) h := by unfold roundD; rw [src_tup]
/-- a loop that may be left by break -/
theorem forL_brk {α : Type} {f : α → D} {turn : D → SD → Hs → O} (I : Nat → SD → Hs → Prop) (J : SD → Hs → Prop) (N : Nat) (fin : ∀ i s h, I i s h → J s h) : ∀ (l : List α) (i : Nat) (s : SD) (h : Hs), i + l.length ≤ N → I i s h → (∀ i s h a, a ∈ l → i < N → I i s h → (∃ s' h', turn (f a) s h = .nx s' h' ∧ I (i + 1) s' h') ∨ (∃ s' h', turn (f a) s h = .bk s' h' ∧ J s' h')) →
    ∃ s' h', forL turn (l.map f) s h = .nx s' h' ∧ J s' h'
  | [], i, s, h, _, j, _ => ⟨s, h, forL_nil, fin i s h j⟩
  | a :: r, i, s, h, hN, j, k => by
    rw [List.length_cons] at hN
    rcases k i s h a List.mem_cons_self (by omega) j with ⟨s1, h1, e, j1⟩ | ⟨s1, h1, e, j1⟩
    · obtain ⟨s2, h2, e2, j2⟩ := forL_brk I J N fin r (i + 1) s1 h1 (by omega) j1 fun i s h a m => k i s h a (List.mem_cons_of_mem _ m)
      exact ⟨s2, h2, by rw [List.map_cons, forL_nx e]; exact e2, j2⟩
    · exact ⟨s1, h1, by rw [List.map_cons, forL_bk e], j1⟩
/-- what a tape's changes leave closed -/
theorem TapeAt.cl {h h' : Hs} {t : Nat} {ns : List Int} {p : Int} (T : TapeAt h' t ns p) (o : ∀ k, k < h.length → k ≠ t → h'[k]? = h[k]?) : ClB h h' := fun k o' hk eo => by
  by_cases z : k = t
  · subst z
    obtain ⟨a, r, e6, _⟩ := T.ex
    rw [e6] at eo
    injection eo with eo
    subst eo
    exact .inr (bel_lst (by simp))
  · rw [o k hk z] at eo
    exact .inl eo
theorem TapeAt.at1 {h : Hs} {t : Nat} {ns : List Int} {p : Int} (T : TapeAt h t ns p) : ∃ a : Int, gIx h (.ref t) (.int 1) = some (.int a) := by
  obtain ⟨a, r, e, _⟩ := T.ex
  exact ⟨a, by rw [gIx_ref e]; rfl⟩
end Gx

namespace Gx
open PySem L2
/-! tuples sorted; ways in time -/
theorem gSort_tups {h : Hs} {x : D} {m : Bool} {L : List (List Int)} {d : Nat} (a : LstAt h x (L.map tupD)) (ok : okT d L) : gSort m [x] h = newL m ((sortT L).map tupD) h := by
  have e : lstH h x = some (L.map tupD) := a.lst
  unfold gSort
  dsimp only
  rw [e]
  cases L with
  | nil =>
    have e2 : sortT [] = [] := List.Perm.eq_nil (sortT_perm [])
    show newL m ((sortI []).map .int) h = _
    have e3 : sortI [] = [] := List.Perm.eq_nil (sortI_perm [])
    rw [e2, e3]
    rfl
  | cons b r =>
    have e2 : ((some ((b :: r).map tupD)).bind intsOf) = none := rfl
    have e3 : ((some ((b :: r).map tupD)).bind tupsOf) = some (b :: r) := tupsOf_map
    rw [e2]
    dsimp only
    rw [e3]
    dsimp only
    rw [if_pos ⟨d, ok⟩]
theorem round_len {n : Nat} {r : List (Nat × Nat)} (R : RoundOk n r) : r.length ≤ n * n := by
  have lt : ∀ x ∈ r.map (fun p => p.1 * n + p.2), x < n * n := fun x hx => by
    obtain ⟨p, hp, rfl⟩ := List.mem_map.mp hx
    obtain ⟨h1, h2, _⟩ := R.ok p hp
    have : (p.1 + 1) * n ≤ n * n := Nat.mul_le_mul_right n h1
    rw [Nat.add_mul] at this
    omega
  have nd : (r.map (fun p => p.1 * n + p.2)).Nodup := by
    unfold List.Nodup
    rw [List.pairwise_map]
    refine R.up.imp_of_mem fun {p q} hp hq h => ?_
    obtain ⟨_, h2, _⟩ := R.ok p hp
    rcases h with h | ⟨h, h'⟩
    · have : (p.1 + 1) * n ≤ q.1 * n := Nat.mul_le_mul_right n h
      rw [Nat.add_mul] at this
      omega
    · rw [h]
      omega
  have := pigeon (n * n) _ nd lt
  rwa [List.length_map] at this
theorem code_two {a b : Nat × Nat} (ha : a.1 < 1000 ∧ a.2 < 1000) (hb : b.1 < 1000 ∧ b.2 < 1000) (h : TS.code bigB [(a.1 : Int), a.2] ≤ TS.code bigB [(b.1 : Int), b.2]) : a.1 < b.1 ∨ (a.1 = b.1 ∧ a.2 ≤ b.2) := by
  have e : ∀ x y : Int, TS.code bigB [x, y] = x * bigB ^ 1 + (y * bigB ^ 0 + 0) := fun x y => rfl
  rw [e, e] at h
  simp only [bigB, Int.pow_succ, Int.pow_zero] at h
  omega
/-- a round, its roads turned about and put in order -/
theorem sort_round {n : Nat} {r : List (Nat × Nat)} (R : RoundOk n r) (n7 : n ≤ 7) : ∃ s, RoundOk n s ∧ (∀ i j, (i, j) ∈ s ↔ (j, i) ∈ r) ∧ ∀ h : Hs, gSort false [.vl (r.map fun p => roadD (p.2, p.1))] h = .ok (.vl (s.map roadD)) h := by
  let f : Nat × Nat → List Int := fun p => [(p.1 : Int), p.2]
  have fr : ∀ p, tupD (f p) = roadD p := fun p => rfl
  let sw := r.map fun p => (p.2, p.1)
  have lr := round_len R
  have nn : n * n ≤ 7 * 7 := Nat.mul_le_mul n7 n7
  have swo : ∀ p ∈ sw, p.1 < n ∧ p.2 < n ∧ p.1 ≠ p.2 := fun p hp => by
    obtain ⟨q, hq, rfl⟩ := List.mem_map.mp hp
    obtain ⟨h1, h2, h3⟩ := R.ok q hq
    exact ⟨h2, h1, fun z => h3 z.symm⟩
  have ok : okT 2 (sw.map f) := ⟨by omega, by simp [sw]; omega, fun a ha => by
    obtain ⟨p, hp, rfl⟩ := List.mem_map.mp ha
    obtain ⟨h1, h2, _⟩ := swo p hp
    refine ⟨rfl, fun m hm => ?_⟩
    simp [f] at hm
    unfold bigB
    rcases hm with rfl | rfl <;> omega⟩
  have pm := sortT_perm (sw.map f)
  obtain ⟨s, es⟩ : ∃ s : List (Nat × Nat), sortT (sw.map f) = s.map f := by
    have : ∀ a ∈ sortT (sw.map f), ∃ p, a = f p := fun a ha => by
      obtain ⟨p, _, e⟩ := List.mem_map.mp (pm.mem_iff.mp ha)
      exact ⟨p, e.symm⟩
    generalize sortT (sw.map f) = l at this
    induction l with
    | nil => exact ⟨[], rfl⟩
    | cons a t ih =>
      obtain ⟨p, rfl⟩ := this a List.mem_cons_self
      obtain ⟨s, rfl⟩ := ih fun b hb => this b (List.mem_cons_of_mem _ hb)
      exact ⟨p :: s, rfl⟩
  have finj : ∀ p q, f p = f q → p = q := fun p q h => by
    simp [f] at h
    exact Prod.ext (by omega) (by omega)
  have ps : s.Perm sw := by
    rw [es] at pm
    have h1 := pm.map fun l : List Int => ((l.getD 0 0).toNat, (l.getD 1 0).toNat)
    simp only [List.map_map] at h1
    have e1 : ∀ C : List (Nat × Nat), C.map ((fun l : List Int => ((l.getD 0 0).toNat, (l.getD 1 0).toNat)) ∘ f) = C := fun C => (List.map_congr_left fun p _ => by simp [f]).trans (List.map_id C)
    rw [e1, e1] at h1
    exact h1
  have so : ∀ p ∈ s, p.1 < n ∧ p.2 < n ∧ p.1 ≠ p.2 := fun p hp => swo p (ps.mem_iff.mp hp)
  have nd : s.Nodup := by
    rw [ps.nodup_iff]
    show (r.map _).Nodup
    unfold List.Nodup
    rw [List.pairwise_map]
    refine R.up.imp fun {p q} h e => ?_
    injection e with e1 e2
    omega
  refine ⟨s, ⟨so, ?_, by rw [ps.length_eq]; simp [sw]; omega⟩, fun i j => ?_, fun h => ?_⟩
  · have le := sortT_le (sw.map f)
    rw [es, List.pairwise_map] at le
    have both := List.pairwise_and_iff.mpr ⟨le, nd⟩
    refine both.imp_of_mem fun {p q} hp hq h => ?_
    obtain ⟨p1, p2, _⟩ := so p hp
    obtain ⟨q1, q2, _⟩ := so q hq
    have c := code_two (a := p) (b := q) ⟨by omega, by omega⟩ ⟨by omega, by omega⟩ h.1
    rcases c with c | ⟨c1, c2⟩
    · exact .inl c
    · refine .inr ⟨c1, ?_⟩
      rcases Nat.lt_or_ge p.2 q.2 with z | z
      · exact z
      · exact (h.2 (Prod.ext c1 (by omega))).elim
  · rw [ps.mem_iff]
    show (i, j) ∈ r.map _ ↔ _
    rw [List.mem_map]
    constructor
    · rintro ⟨p, hp, e⟩
      injection e with e1 e2
      have : p = (j, i) := Prod.ext e2 e1
      rw [← this]; exact hp
    · intro h
      exact ⟨(j, i), h, rfl⟩
  · have e1 : r.map (fun p => roadD (p.2, p.1)) = (sw.map f).map tupD := by
      simp only [sw, List.map_map]
      rfl
    rw [gSort_tups (.inl (by rw [e1])) ok, newL_f, es, List.map_map]
    rfl
end Gx

namespace Gx
open PySem L2
/-! rows of lendings come to an end: the plain law -/
/-- the sum of f below n -/
def sm : Nat → (Nat → Int) → Int
  | 0, _ => 0
  | n + 1, f => sm n f + f n
theorem sm_le {f g : Nat → Int} : ∀ {n : Nat}, (∀ i, i < n → f i ≤ g i) → sm n f ≤ sm n g
  | 0, _ => Int.le_refl _
  | n + 1, h => by
    have := sm_le (n := n) fun i hi => h i (by omega)
    have := h n (by omega)
    unfold sm
    omega
theorem sm_sub {f g : Nat → Int} : ∀ {n : Nat}, sm n (fun i => f i - g i) = sm n f - sm n g
  | 0 => rfl
  | n + 1 => by
    have := sm_sub (f := f) (g := g) (n := n)
    show sm n (fun i => f i - g i) + (f n - g n) = sm n f + f n - (sm n g + g n)
    omega
theorem sm_add {f g : Nat → Int} : ∀ {n : Nat}, sm n (fun i => f i + g i) = sm n f + sm n g
  | 0 => rfl
  | n + 1 => by
    have := sm_add (f := f) (g := g) (n := n)
    show sm n (fun i => f i + g i) + (f n + g n) = sm n f + f n + (sm n g + g n)
    omega
theorem sm_nn {f : Nat → Int} : ∀ {n : Nat}, (∀ i, i < n → 0 ≤ f i) → 0 ≤ sm n f
  | 0, _ => Int.le_refl _
  | n + 1, h => by
    have := sm_nn (n := n) fun i hi => h i (by omega)
    have := h n (by omega)
    unfold sm
    omega
/-- terms that are none below nought, with a sum of nought at most -/
theorem sm_zero {f : Nat → Int} : ∀ {n : Nat}, (∀ i, i < n → 0 ≤ f i) → sm n f ≤ 0 → ∀ i, i < n → f i = 0
  | 0, _, _, i, hi => by omega
  | n + 1, h, e, i, hi => by
    have h1 := sm_nn (n := n) fun i hi => h i (by omega)
    have h2 := h n (by omega)
    unfold sm at e
    by_cases z : i = n
    · rw [z]; omega
    · exact sm_zero (n := n) (fun i hi => h i (by omega)) (by omega) i (by omega)
theorem sm_congr {f g : Nat → Int} : ∀ {n : Nat}, (∀ i, i < n → f i = g i) → sm n f = sm n g
  | 0, _ => rfl
  | n + 1, h => by
    have := sm_congr (n := n) fun i hi => h i (by omega)
    have := h n (by omega)
    unfold sm
    omega
theorem sm_const0 : ∀ {n : Nat}, sm n (fun _ => 0) = 0
  | 0 => rfl
  | n + 1 => by
    show sm n (fun _ => 0) + 0 = 0
    rw [sm_const0, Int.add_zero]
theorem sm_swap {a : Nat → Nat → Int} {m : Nat} : ∀ {n : Nat}, sm n (fun i => sm m fun j => a i j) = sm m fun j => sm n fun i => a i j
  | 0 => by
    show 0 = sm m fun _ => 0
    rw [sm_const0]
  | n + 1 => by
    have ih := sm_swap (a := a) (m := m) (n := n)
    show sm n (fun i => sm m fun j => a i j) + sm m (fun j => a n j) = sm m fun j => sm n (fun i => a i j) + a n j
    rw [ih, ← sm_add]
/-- a term is at most the sum of terms that are none below nought -/
theorem sm_term {f : Nat → Int} : ∀ {n : Nat}, (∀ i, i < n → 0 ≤ f i) → ∀ i, i < n → f i ≤ sm n f
  | 0, _, i, hi => by omega
  | n + 1, h, i, hi => by
    have h1 := sm_nn (n := n) fun i hi => h i (by omega)
    have h2 := h n (by omega)
    unfold sm
    by_cases z : i = n
    · rw [z]; omega
    · have := sm_term (n := n) (fun i hi => h i (by omega)) i (by omega)
      omega
/-- the one term that is not nought -/
theorem sm_pos {f : Nat → Int} : ∀ {n : Nat}, 0 < sm n f → ∃ i, i < n ∧ 0 < f i
  | 0, h => by
    unfold sm at h
    omega
  | n + 1, h => by
    unfold sm at h
    by_cases z : 0 < f n
    · exact ⟨n, by omega, z⟩
    · obtain ⟨i, hi, q⟩ := sm_pos (f := f) (n := n) (by omega)
      exact ⟨i, by omega, q⟩
/-- of houses of some kind one has the least rank -/
theorem least_rank {p : Nat → Prop} (rank : Nat → Nat) : ∀ (m h : Nat), rank h ≤ m → p h → ∃ g, p g ∧ ∀ k, p k → rank g ≤ rank k
  | 0, h, e, q => ⟨h, q, fun k _ => by omega⟩
  | m + 1, h, e, q => by
    by_cases z : ∃ k, p k ∧ rank k ≤ m
    · obtain ⟨k, h1, h2⟩ := z
      exact least_rank rank m k h2 h1
    · exact ⟨h, q, fun k hk => by
        by_cases y : rank h ≤ rank k
        · exact y
        · exact (z ⟨k, hk, by omega⟩).elim⟩
/-- where something is still to be lent, a house that has to lend holds something -/
theorem lend_on {n : Nat} {left : Nat → Nat → Int} {held fin : Nat → Int} {rank : Nat → Nat} (l0 : ∀ i j, i < n → j < n → 0 ≤ left i j) (f0 : ∀ i, i < n → 0 ≤ fin i) (hh : ∀ i, i < n → held i = fin i + sm n (fun j => left i j) - sm n fun j => left j i)
    (on : ∀ h, h < n → 0 < sm n (fun j => left h j) → 0 < fin h ∨ ∃ l, l < n ∧ 0 < left h l ∧ rank l < rank h) {h : Nat} (hn : h < n) (hp : 0 < sm n fun j => left h j) : ∃ g, g < n ∧ 0 < sm n (fun j => left g j) ∧ 0 < held g := by
  apply Classical.byContradiction
  intro no
  have low : ∀ g, g < n → 0 < sm n (fun j => left g j) → held g ≤ 0 := fun g hg hs => by
    by_cases z : 0 < held g
    · exact (no ⟨g, hg, hs, z⟩).elim
    · omega
  have o0 : ∀ i, i < n → 0 ≤ sm n fun j => left i j := fun i hi => sm_nn fun j hj => l0 i j hi hj
  have i0 : ∀ i, i < n → 0 ≤ sm n fun j => left j i := fun i hi => sm_nn fun j hj => l0 j i hj hi
  have zero : ∀ i, i < n → (if 0 < sm n (fun j => left i j) then fin i else sm n fun j => left j i) = 0 := by
    refine sm_zero (f := fun i => if 0 < sm n (fun j => left i j) then fin i else sm n fun j => left j i) (fun i hi => ?_) ?_
    · split
      · exact f0 i hi
      · exact i0 i hi
    · have le := sm_le (n := n) (f := fun i => if 0 < sm n (fun j => left i j) then fin i else sm n fun j => left j i) (g := fun i => sm n (fun j => left j i) - sm n fun j => left i j) fun i hi => by
        split
        · rename_i z
          have h1 := low i hi z
          rw [hh i hi] at h1
          omega
        · have := o0 i hi
          omega
      rw [sm_sub] at le
      have sw := sm_swap (a := left) (n := n) (m := n)
      omega
  obtain ⟨g, ⟨gn, gp⟩, gl⟩ := least_rank (p := fun g => g < n ∧ 0 < sm n fun j => left g j) rank (rank h) h (Nat.le_refl _) ⟨hn, hp⟩
  have fg := zero g gn
  rw [if_pos gp] at fg
  rcases on g gn gp with z | ⟨l, ln, lp, lr⟩
  · omega
  · have il : 0 < sm n fun j => left j l := by
      have := sm_term (f := fun j => left j l) (n := n) (fun j hj => l0 j l hj ln) g gn
      omega
    have ll : 0 < sm n fun j => left l j := by
      by_cases z : 0 < sm n fun j => left l j
      · exact z
      · have := zero l ln
        rw [if_neg z] at this
        omega
    have := gl l ⟨ln, ll⟩
    omega
open Classical in
/-- houses out of a set that holds all with something at the end, and all that lend into it: nobody there makes anything, nothing comes from the set -/
theorem out_of {n : Nat} {a : Nat → Nat → Int} {mk fin : Nat → Int} {K : Nat → Prop} (a0 : ∀ i j, i < n → j < n → 0 ≤ a i j) (m0 : ∀ i, i < n → 0 ≤ mk i) (hf : ∀ i, i < n → fin i = mk i + sm n (fun j => a j i) - sm n fun j => a i j) (f0 : ∀ i, i < n → 0 ≤ fin i)
    (k1 : ∀ i, i < n → 0 < fin i → K i) (k2 : ∀ i j, i < n → j < n → K j → 0 < a i j → K i) {h : Nat} (hn : h < n) (nk : ¬ K h) : mk h = 0 ∧ ∀ i, i < n → K i → a i h = 0 := by
  let c : Nat → Nat → Int := fun i j => if K i ∨ K j then 0 else a i j
  let u : Nat → Int := fun h => if K h then 0 else mk h + sm n fun j => if K j then a j h else 0
  have p0 : ∀ h, h < n → 0 ≤ sm n fun j => if K j then a j h else 0 := fun h hn => sm_nn fun j hj => by
    split
    · exact a0 j h hj hn
    · exact Int.le_refl _
  have u0 : ∀ h, h < n → 0 ≤ u h := fun h hn => by
    show 0 ≤ if K h then (0 : Int) else _
    split
    · exact Int.le_refl _
    · have := m0 h hn
      have := p0 h hn
      omega
  have ue : ∀ h, h < n → u h = sm n (fun j => c h j) - sm n fun j => c j h := fun h hn => by
    by_cases z : K h
    · have e1 : sm n (fun j => c h j) = sm n fun _ => 0 := sm_congr fun j _ => if_pos (.inl z)
      have e2 : sm n (fun j => c j h) = sm n fun _ => 0 := sm_congr fun j _ => if_pos (.inr z)
      rw [e1, e2, sm_const0]
      exact if_pos z
    · have e0 : u h = mk h + sm n fun j => if K j then a j h else 0 := if_neg z
      have fz : fin h = 0 := by
        have := f0 h hn
        by_cases y : 0 < fin h
        · exact (z (k1 h hn y)).elim
        · omega
      have e1 : sm n (fun j => c h j) = sm n fun j => a h j := sm_congr fun j hj => by
        show (if K h ∨ K j then (0 : Int) else a h j) = a h j
        by_cases y : K j
        · have := a0 h j hn hj
          rw [if_pos (.inr y)]
          by_cases q : 0 < a h j
          · exact (z (k2 h j hn hj y q)).elim
          · omega
        · rw [if_neg (fun w => w.elim z y)]
      have e2 : sm n (fun j => a j h) = sm n (fun j => if K j then a j h else 0) + sm n fun j => c j h := by
        rw [← sm_add]
        refine sm_congr fun j hj => ?_
        show a j h = (if K j then a j h else 0) + (if K j ∨ K h then (0 : Int) else a j h)
        by_cases y : K j
        · rw [if_pos y, if_pos (.inl y), Int.add_zero]
        · rw [if_neg y, if_neg (fun w => w.elim y z), Int.zero_add]
      have e3 := hf h hn
      omega
  have us : sm n u ≤ 0 := by
    have e1 : sm n u = sm n fun h => sm n (fun j => c h j) - sm n fun j => c j h := sm_congr ue
    rw [e1, sm_sub, sm_swap (a := c)]
    omega
  have uz := sm_zero u0 us h hn
  have e0 : u h = mk h + sm n fun j => if K j then a j h else 0 := if_neg nk
  have h1 := m0 h hn
  have h2 := p0 h hn
  refine ⟨by omega, fun i hi ki => ?_⟩
  have := sm_term (f := fun j => if K j then a j h else 0) (n := n) (fun j hj => by
    split
    · exact a0 j h hj hn
    · exact Int.le_refl _) i hi
  rw [if_pos ki] at this
  have := a0 i h hi hn
  omega
/-- one term changed -/
theorem sm_upd {f : Nat → Int} {j : Nat} {v : Int} : ∀ {n : Nat}, j < n → sm n (fun k => if k = j then v else f k) = sm n f - f j + v
  | 0, h => by omega
  | n + 1, h => by
    show sm n (fun k => if k = j then v else f k) + (if n = j then v else f n) = sm n f + f n - f j + v
    by_cases z : n = j
    · subst z
      rw [if_pos rfl]
      have : sm n (fun k => if k = n then v else f k) = sm n f := sm_congr fun i hi => if_neg (by omega)
      omega
    · rw [if_neg z]
      have := sm_upd (f := f) (v := v) (n := n) (j := j) (by omega)
      omega
/-- one right lent from i to j -/
def lendL (left : Nat → Nat → Int) (i j : Nat) : Nat → Nat → Int := fun x y => if x = i then (if y = j then left i j - 1 else left i y) else left x y
def lendH (held : Nat → Int) (i j : Nat) : Nat → Int := fun x => if x = j then held j + 1 else if x = i then held i - 1 else held x
section
variable {n i j : Nat} {left : Nat → Nat → Int} {held fin : Nat → Int}
theorem lend_row (hj : j < n) : ∀ x, sm n (fun y => lendL left i j x y) = if x = i then sm n (fun y => left i y) - 1 else sm n fun y => left x y := fun x => by
  by_cases z : x = i
  · rw [if_pos z]
    have e : sm n (fun y => lendL left i j x y) = sm n fun y => if y = j then left i j - 1 else left i y := sm_congr fun y _ => by
      show (if x = i then _ else _) = _
      rw [if_pos z]
    rw [e, sm_upd (f := fun y => left i y) hj]
    omega
  · rw [if_neg z]
    exact sm_congr fun y _ => if_neg z
theorem lend_col (hi : i < n) : ∀ y, sm n (fun x => lendL left i j x y) = if y = j then sm n (fun x => left x j) - 1 else sm n fun x => left x y := fun y => by
  by_cases z : y = j
  · rw [if_pos z]
    have e : sm n (fun x => lendL left i j x y) = sm n fun x => if x = i then left i j - 1 else left x j := sm_congr fun x _ => by
      show (if x = i then (if y = j then _ else _) else _) = _
      rw [if_pos z, z]
    rw [e, sm_upd (f := fun x => left x j) hi]
    omega
  · rw [if_neg z]
    refine sm_congr fun x _ => ?_
    show (if x = i then (if y = j then _ else left i y) else left x y) = left x y
    by_cases q : x = i
    · rw [if_pos q, if_neg z, q]
    · rw [if_neg q]
/-- what each house holds is what it has at the end and lends, less what it is lent -/
theorem lend_held (hi : i < n) (hj : j < n) (ne : i ≠ j) (hh : ∀ x, x < n → held x = fin x + sm n (fun y => left x y) - sm n fun y => left y x) : ∀ x, x < n → lendH held i j x = fin x + sm n (fun y => lendL left i j x y) - sm n fun y => lendL left i j y x := fun x hx => by
  have h1 := hh x hx
  have h2 := hh i hi
  have h3 := hh j hj
  rw [lend_row hj, lend_col hi]
  unfold lendH
  by_cases z : x = j
  · rw [if_pos z, if_pos z, if_neg (by omega), z]
    omega
  · rw [if_neg z, if_neg z]
    by_cases q : x = i
    · rw [if_pos q, if_pos q, q]
      omega
    · rw [if_neg q, if_neg q]
      exact h1
/-- one less is left -/
theorem lend_sum (hi : i < n) (hj : j < n) : sm n (fun x => sm n fun y => lendL left i j x y) = sm n (fun x => sm n fun y => left x y) - 1 := by
  have e : sm n (fun x => sm n fun y => lendL left i j x y) = sm n fun x => if x = i then sm n (fun y => left i y) - 1 else sm n fun y => left x y := sm_congr fun x _ => lend_row hj x
  rw [e, sm_upd (f := fun x => sm n fun y => left x y) hi]
  omega
end
/-- how far the lendings have come: m of many are told -/
structure LendP (n : Nat) (t0 : Nat → Nat → Int) (ow : Nat → Option Nat) (fin : Nat → Int) (many : Int) (left : Nat → Nat → Int) (held : Nat → Int) (m : Nat) : Prop where
  l0 : ∀ i j, i < n → j < n → 0 ≤ left i j
  le : ∀ i j, i < n → j < n → left i j ≤ t0 i j
  dg : ∀ i, i < n → left i i = 0
  h0 : ∀ i, i < n → 0 ≤ held i
  hh : ∀ x, x < n → held x = fin x + sm n (fun y => left x y) - sm n fun y => left y x
  last : ∀ i l, i < n → ow i = some l → left i l = t0 i l ∨ ∀ j, j < n → j ≠ l → left i j = 0
  cnt : (m : Int) + sm n (fun x => sm n fun y => left x y) = many
section
variable {n m i j : Nat} {t0 left : Nat → Nat → Int} {ow : Nat → Option Nat} {held fin : Nat → Int} {many : Int}
theorem LendP.step (P : LendP n t0 ow fin many left held m) (hi : i < n) (hj : j < n) (lp : 0 < left i j) (hp : 0 < held i) (nx : ow i = some j → ∀ k, k < n → k ≠ j → ¬ 0 < left i k) : LendP n t0 ow fin many (lendL left i j) (lendH held i j) (m + 1) := by
  have ne : i ≠ j := fun e => by
    have := P.dg i hi
    rw [← e] at lp
    omega
  have eL : ∀ x y, lendL left i j x y = if x = i then (if y = j then left i j - 1 else left i y) else left x y := fun _ _ => rfl
  refine ⟨fun x y hx hy => ?_, fun x y hx hy => ?_, fun x hx => ?_, fun x hx => ?_, lend_held hi hj ne P.hh, fun x l hx e => ?_, ?_⟩
  · have := P.l0 x y hx hy
    have := P.l0 i y hi hy
    rw [eL]
    split
    · split <;> omega
    · omega
  · have := P.le x y hx hy
    rw [eL]
    split
    · rename_i q
      rw [q] at this ⊢
      split
      · rename_i r
        rw [r] at this ⊢
        omega
      · exact this
    · exact this
  · have := P.dg x hx
    rw [eL]
    split
    · rename_i q
      rw [q] at this ⊢
      rw [if_neg ne]
      exact this
    · exact this
  · have := P.h0 x hx
    have := P.h0 j hj
    unfold lendH
    split
    · omega
    · split <;> omega
  · rw [eL]
    by_cases q : x = i
    · rw [if_pos q]
      rw [q] at e
      by_cases r : l = j
      · right
        intro k hk nk
        rw [eL, if_pos q, if_neg (by omega)]
        have h1 := nx (by rw [e, r]) k hk (by omega)
        have h2 := P.l0 i k hi hk
        omega
      · rw [if_neg r, q]
        left
        rcases P.last i l hi e with h | h
        · exact h
        · have := h j hj (by omega)
          omega
    · rw [if_neg q]
      rcases P.last x l hx e with h | h
      · exact .inl h
      · right
        intro k hk nk
        rw [eL, if_neg q]
        exact h k hk nk
  · have := P.cnt
    rw [lend_sum hi hj]
    omega
/-- while something is left, a house that has to lend holds something -/
theorem LendP.go {rank : Nat → Nat} (P : LendP n t0 ow fin many left held m) (f0 : ∀ i, i < n → 0 ≤ fin i) (on : ∀ h, h < n → 0 < sm n (fun j => t0 h j) → 0 < fin h ∨ ∃ l, ow h = some l ∧ l < n ∧ 0 < t0 h l ∧ rank l < rank h) (lt : (m : Int) < many) : ∃ g, g < n ∧ 0 < sm n (fun j => left g j) ∧ 0 < held g := by
  have c := P.cnt
  obtain ⟨x, hx, px⟩ := sm_pos (f := fun x => sm n fun y => left x y) (n := n) (by omega)
  refine lend_on (rank := rank) P.l0 f0 P.hh (fun h hh hs => ?_) hx px
  have hb : 0 < sm n fun j => t0 h j := by
    have := sm_le (n := n) (f := fun j => left h j) (g := fun j => t0 h j) fun j hj => P.le h j hh hj
    omega
  rcases on h hh hb with z | ⟨l, e, hl, tl, rl⟩
  · exact .inl z
  · refine .inr ⟨l, hl, ?_, rl⟩
    rcases P.last h l hh e with q | q
    · rw [q]; exact tl
    · obtain ⟨k, hk, pk⟩ := sm_pos hs
      by_cases y : k = l
      · rw [← y]; exact pk
      · have := q k hk y
        omega
end
/-! of a table -/
theorem sum_map_sm {g : List Int → Int} : ∀ t : List (List Int), (t.map g).sum = sm t.length fun i => g ((t[i]?).getD [])
  | [] => rfl
  | a :: r => by
    have ih := sum_map_sm (g := g) r
    have e : ∀ n, sm (n + 1) (fun i => g (((a :: r)[i]?).getD [])) = g a + sm n fun i => g ((r[i]?).getD []) := fun n => by
      induction n with
      | zero => show (0 : Int) + g a = g a + 0; omega
      | succ n ihn =>
        have e1 : sm (n + 1 + 1) (fun i => g (((a :: r)[i]?).getD [])) = sm (n + 1) (fun i => g (((a :: r)[i]?).getD [])) + g ((r[n]?).getD []) := rfl
        have e2 : sm (n + 1) (fun i => g ((r[i]?).getD [])) = sm n (fun i => g ((r[i]?).getD [])) + g ((r[n]?).getD []) := rfl
        omega
    rw [List.map_cons, List.sum_cons, ih, List.length_cons, e]
theorem sum_take_sm {l : List Int} : ∀ {n : Nat}, n ≤ l.length → (l.take n).sum = sm n fun i => cellA l i
  | 0, _ => by simp [sm]
  | n + 1, h => by
    have ih := sum_take_sm (l := l) (n := n) (by omega)
    have e : l.take (n + 1) = l.take n ++ [l[n]] := by simp
    rw [e, List.sum_append, ih]
    show sm n (fun i => cellA l i) + ([l[n]] : List Int).sum = sm n (fun i => cellA l i) + cellA l n
    rw [cellA_nat (by omega)]
    simp
theorem rights_sm {n : Nat} {t : List (List Int)} (T : Tab n t) {h : Nat} (hn : h < n) : rightsI t h + cel t h n = cel t h h + (sm n (fun x => cel t x h) - cel t h h) - (sm n (fun y => cel t h y) - cel t h h) := by
  have l := T.len
  have r := T.row hn
  have e1 : (t.map fun r => cellA r (h : Int)).sum = sm n fun x => cel t x h := by
    rw [sum_map_sm, l]
    rfl
  have e2 : ((rowA t h).take n).sum = sm n fun y => cel t h y := sum_take_sm (by omega)
  unfold rightsI lentToI lentByI
  rw [l, e1, e2]
  have e3 : cellA (rowA t h) h = cel t h h := rfl
  have e4 : cellA (rowA t h) (n : Nat) = cel t h n := rfl
  omega
end Gx

namespace Gx
open PySem L2
/-! ### bare -/
def N_bare : List Str := ["n", "house"]
def b_bare : List S :=
  [.ret (.bi .tuple [.lc false 1 [.var 0] false [1] [] (.bi .tuple [.op .mul (.lst false [.int 0]) (.op .add (.var 0) (.int 1))]) [1]])]
def n_bare : Nat := 0
noncomputable def gam_bare : Mir := mirA []
noncomputable def f_bare : List D → Hs → R D := runF gam_bare false n_bare 2 1 b_bare
theorem r_bare {ds : List D} {h : Hs} (e : ds.length = 1) : f_bare ds h = fin false h (S.evs gam_bare n_bare b_bare (ds.map some ++ List.replicate 1 none) h) := runF_eq e
def bareI (n : Int) : List (List Int) := (List.range n.toNat).map fun _ => List.replicate (n + 1).toNat 0
theorem bareI_len (n : Int) : (bareI n).length = n.toNat := by simp [bareI]
theorem bareI_wf {n : Int} (h : 0 ≤ n) : wfB (bareI n) = true := wf_of fun r hr => by
  obtain ⟨i, hi, rfl⟩ := List.mem_map.mp hr
  simp [bareI]
  omega
theorem bare_eq {n : Int} {h : Hs} (h0 : 0 ≤ n) (h1 : n ≤ 1000) : f_bare [.int n] h = .ok (tabD (bareI n)) h := by
  rw [r_bare rfl]
  simp (disch := first | (simp; done) | omega) [b_bare, rng1]
  rw [lcM (fun (_ : Nat) => rowD (List.replicate (n + 1).toNat 0)) _ (by simp; omega)]
  · simp [bareI, tabD, Function.comp_def, back_nr]
  · intro a ha
    simp (disch := first | (simp; done) | omega) [lcT, gMul_rep, rowD]
theorem bare_tab (n : Nat) : Tab n (bareI n) := ⟨bareI_wf (by omega), by rw [bareI_len]; omega⟩
theorem bare_cel {n i j : Nat} (hi : i < n) (hj : j < n + 1) : cel (bareI n) i j = 0 := by
  unfold cel
  have e : rowA (bareI n) i = List.replicate ((n : Int) + 1).toNat 0 := by
    rw [rowA_nat (by rw [bareI_len]; omega)]
    simp [bareI]
  rw [e, cellA_nat (by simp; omega)]
  simp
/-! ### need_house -/
def N_need_house : List Str := ["table", "house"]
def b_need_house : List S :=
  [.iff (.not (.ch .le .lt (.int 0) (.var 1) (.bi .len [.var 0]))) [.rs "NoHouse"] []]
def n_need_house : Nat := 0
noncomputable def gam_need_house : Mir := mirA []
noncomputable def f_need_house : List D → Hs → R D := runF gam_need_house false n_need_house 2 2 b_need_house
theorem r_need_house {ds : List D} {h : Hs} (e : ds.length = 2) : f_need_house ds h = fin false h (S.evs gam_need_house n_need_house b_need_house (ds.map some ++ List.replicate 0 none) h) := runF_eq e
theorem need_house_eq {t : List (List Int)} {i : Int} {h : Hs} (h0 : 0 ≤ i) (h1 : i < t.length) : f_need_house [tabD t, .int i] h = .ok .non h := by
  rw [r_need_house rfl]
  simp [b_need_house, Op.p, e_ch (o := .le) (o' := .lt) rfl rfl, chR, h0, h1, back_nr]
theorem need_house_no {t : List (List Int)} {i : Int} {h : Hs} (hn : ¬ (0 ≤ i ∧ i < t.length)) : f_need_house [tabD t, .int i] h = .rs "NoHouse" none h := by
  rw [r_need_house rfl]
  simp [b_need_house, Op.p, e_ch (o := .le) (o' := .lt) rfl rfl, chR]
  by_cases h0 : 0 ≤ i
  · have : ¬ i < t.length := fun z => hn ⟨h0, z⟩
    simp [h0, this]
  · simp [h0]
/-! ### lent_by -/
def N_lent_by : List Str := ["table", "house"]
def b_lent_by : List S :=
  [.ret (.op .sub (.bi .sum [.sl false (.ix (.var 0) (.var 1)) [] [.bi .len [.var 0]]]) (.ix (.ix (.var 0) (.var 1)) (.var 1)))]
def n_lent_by : Nat := 0
noncomputable def gam_lent_by : Mir := mirA []
noncomputable def f_lent_by : List D → Hs → R D := runF gam_lent_by false n_lent_by 2 2 b_lent_by
theorem r_lent_by {ds : List D} {h : Hs} (e : ds.length = 2) : f_lent_by ds h = fin false h (S.evs gam_lent_by n_lent_by b_lent_by (ds.map some ++ List.replicate 0 none) h) := runF_eq e
theorem lent_by_eq {t : List (List Int)} {i : Int} {h : Hs} (w : wfB t = true) (h0 : 0 ≤ i) (h1 : i < t.length) : f_lent_by [tabD t, .int i] h = .ok (.int (lentByI t i)) h := by
  have hl := wf_len w h0 h1
  rw [r_lent_by rfl]
  simp (disch := first | (simp; done) | omega) [b_lent_by, ix_tab, ix_row, lentByI, back_nr]
/-! ### lent_to -/
def N_lent_to : List Str := ["table", "house", "row"]
def b_lent_to : List S :=
  [.ret (.op .sub (.bi .sum [.lc false 0 [.var 0] false [2] [] (.ix (.var 2) (.var 1)) [2]]) (.ix (.ix (.var 0) (.var 1)) (.var 1)))]
def n_lent_to : Nat := 0
noncomputable def gam_lent_to : Mir := mirA []
noncomputable def f_lent_to : List D → Hs → R D := runF gam_lent_to false n_lent_to 3 2 b_lent_to
theorem r_lent_to {ds : List D} {h : Hs} (e : ds.length = 2) : f_lent_to ds h = fin false h (S.evs gam_lent_to n_lent_to b_lent_to (ds.map some ++ List.replicate 1 none) h) := runF_eq e
theorem lent_to_eq {t : List (List Int)} {i : Int} {h : Hs} (w : wfB t = true) (h0 : 0 ≤ i) (h1 : i < t.length) (h2 : t.length ≤ 1000) : f_lent_to [tabD t, .int i] h = .ok (.int (lentToI t i)) h := by
  have hl := wf_len w h0 h1
  rw [r_lent_to rfl]
  simp (disch := first | (simp; done) | omega) [b_lent_to]
  rw [lcM (fun r => .int (cellA r i)) _ (by omega)]
  · simp (disch := first | (simp; done) | omega) [lentToI, ix_tab, ix_row, back_nr]
  · intro r hr
    have := wf_row w hr
    simp (disch := first | (simp; done) | omega) [lcT, ix_row]
/-! ### rights -/
def N_rights : List Str := ["table", "house", "made", "used"]
def b_rights : List S :=
  [.expr (.call 11 [.var 0, .var 1]),
   .set 2 (.ix (.ix (.var 0) (.var 1)) (.var 1)),
   .set 3 (.ix (.ix (.var 0) (.var 1)) (.bi .len [.var 0])),
   .ret (.op .sub (.op .sub (.op .add (.var 2) (.call 13 [.var 0, .var 1])) (.call 12 [.var 0, .var 1])) (.var 3))]
def n_rights : Nat := 0
noncomputable def gam_rights : Mir := mirA [(11, 2, f_need_house), (12, 2, f_lent_by), (13, 2, f_lent_to)]
noncomputable def f_rights : List D → Hs → R D := runF gam_rights false n_rights 4 2 b_rights
theorem k_rights_need_house {ds : List D} {h : Hs} : callR gam_rights 11 ds h = if ds.length = 2 then f_need_house ds h else .stk := callR_at rfl
theorem k_rights_lent_by {ds : List D} {h : Hs} : callR gam_rights 12 ds h = if ds.length = 2 then f_lent_by ds h else .stk := callR_at rfl
theorem k_rights_lent_to {ds : List D} {h : Hs} : callR gam_rights 13 ds h = if ds.length = 2 then f_lent_to ds h else .stk := callR_at rfl
theorem r_rights {ds : List D} {h : Hs} (e : ds.length = 2) : f_rights ds h = fin false h (S.evs gam_rights n_rights b_rights (ds.map some ++ List.replicate 2 none) h) := runF_eq e
theorem rights_eq {t : List (List Int)} {i : Int} {h : Hs} (w : wfB t = true) (h0 : 0 ≤ i) (h1 : i < t.length) (h2 : t.length ≤ 1000) : f_rights [tabD t, .int i] h = .ok (.int (rightsI t i)) h := by
  have hl := wf_len w h0 h1
  rw [r_rights rfl]
  simp (disch := first | (simp; done) | omega) [b_rights, ix_tab, ix_row, k_rights_need_house, k_rights_lent_by, k_rights_lent_to, need_house_eq, lent_by_eq w, lent_to_eq w, rightsI, back_nr]
theorem rights_no {t : List (List Int)} {i : Int} {h : Hs} (hn : ¬ (0 ≤ i ∧ i < t.length)) : f_rights [tabD t, .int i] h = .rs "NoHouse" none h := by
  rw [r_rights rfl]
  simp [b_rights, k_rights_need_house, need_house_no hn]
/-! ### stock -/
def N_stock : List Str := ["table", "house"]
def b_stock : List S :=
  [.ret (.bi .sum [.lc false 1 [.bi .len [.var 0]] false [1] [] (.op .sub (.ix (.ix (.var 0) (.var 1)) (.var 1)) (.ix (.ix (.var 0) (.var 1)) (.bi .len [.var 0]))) [1]])]
def n_stock : Nat := 0
noncomputable def gam_stock : Mir := mirA []
noncomputable def f_stock : List D → Hs → R D := runF gam_stock false n_stock 2 1 b_stock
theorem r_stock {ds : List D} {h : Hs} (e : ds.length = 1) : f_stock ds h = fin false h (S.evs gam_stock n_stock b_stock (ds.map some ++ List.replicate 1 none) h) := runF_eq e
theorem stock_eq {t : List (List Int)} {h : Hs} (w : wfB t = true) (h2 : t.length ≤ 1000) : f_stock [tabD t] h = .ok (.int (stockI t)) h := by
  rw [r_stock rfl]
  simp (disch := first | (simp; done) | omega) [b_stock, rngN]
  rw [lcM (fun (i : Nat) => .int (cellA (rowA t i) i - cellA (rowA t i) t.length)) _ (by simp; omega)]
  · simp [stockI, back_nr]
  · intro i hi
    have hi := List.mem_range.mp hi
    have r1 := wf_len w (h := (i : Int)) (by omega) (by omega)
    simp (disch := first | (simp; done) | omega) [lcT, ix_tab, ix_row]
/-! ### need_alike -/
def N_need_alike : List Str := ["one", "other"]
def b_need_alike : List S :=
  [.iff (.op .ne (.bi .len [.var 0]) (.bi .len [.var 1])) [.rs "NoTable"] []]
def n_need_alike : Nat := 0
noncomputable def gam_need_alike : Mir := mirA []
noncomputable def f_need_alike : List D → Hs → R D := runF gam_need_alike false n_need_alike 2 2 b_need_alike
theorem r_need_alike {ds : List D} {h : Hs} (e : ds.length = 2) : f_need_alike ds h = fin false h (S.evs gam_need_alike n_need_alike b_need_alike (ds.map some ++ List.replicate 0 none) h) := runF_eq e
theorem need_alike_eq {s t : List (List Int)} {h : Hs} (e : s.length = t.length) : f_need_alike [tabD s, tabD t] h = .ok .non h := by
  rw [r_need_alike rfl]
  simp [b_need_alike, e, back_nr]
theorem need_alike_no {s t : List (List Int)} {h : Hs} (e : s.length ≠ t.length) : f_need_alike [tabD s, tabD t] h = .rs "NoTable" none h := by
  rw [r_need_alike rfl]
  have : (s.length : Int) ≠ t.length := by omega
  simp [b_need_alike, this, back_nr]
/-! ### is_row_within -/
def N_is_row_within : List Str := ["row", "other", "a", "b"]
def b_is_row_within : List S :=
  [.ret (.bi .all [.lc false 3 [.var 0, .var 1] true [2, 3] [] (.op .le (.var 2) (.var 3)) [2, 3]])]
def n_is_row_within : Nat := 0
noncomputable def gam_is_row_within : Mir := mirA []
noncomputable def f_is_row_within : List D → Hs → R D := runF gam_is_row_within false n_is_row_within 4 2 b_is_row_within
theorem r_is_row_within {ds : List D} {h : Hs} (e : ds.length = 2) : f_is_row_within ds h = fin false h (S.evs gam_is_row_within n_is_row_within b_is_row_within (ds.map some ++ List.replicate 2 none) h) := runF_eq e
theorem row_within_eq {r l : List Int} {h : Hs} (e : r.length ≤ 100000) : f_is_row_within [rowD r, rowD l] h = .ok (.bl (rowWithin (r, l))) h := by
  rw [r_is_row_within rfl]
  simp (disch := first | (simp; done) | omega) [b_is_row_within]
  rw [lcM (fun q => .bl (decide (q.1 ≤ q.2))) _ (by simp; omega)]
  · simp [rowWithin, back_nr]
  · intro q _
    simp (disch := first | (simp; done) | omega) [lcT, pairI]
/-! ### is_within -/
def N_is_within : List Str := ["one", "other", "row", "line"]
def b_is_within : List S :=
  [.expr (.call 20 [.var 0, .var 1]),
   .ret (.bi .all [.lc false 3 [.var 0, .var 1] true [2, 3] [] (.call 21 [.var 2, .var 3]) [2, 3]])]
def n_is_within : Nat := 0
noncomputable def gam_is_within : Mir := mirA [(20, 2, f_need_alike), (21, 2, f_is_row_within)]
noncomputable def f_is_within : List D → Hs → R D := runF gam_is_within false n_is_within 4 2 b_is_within
theorem k_is_within_need_alike {ds : List D} {h : Hs} : callR gam_is_within 20 ds h = if ds.length = 2 then f_need_alike ds h else .stk := callR_at rfl
theorem k_is_within_is_row_within {ds : List D} {h : Hs} : callR gam_is_within 21 ds h = if ds.length = 2 then f_is_row_within ds h else .stk := callR_at rfl
theorem r_is_within {ds : List D} {h : Hs} (e : ds.length = 2) : f_is_within ds h = fin false h (S.evs gam_is_within n_is_within b_is_within (ds.map some ++ List.replicate 2 none) h) := runF_eq e
theorem is_within_eq {s t : List (List Int)} {h : Hs} (e : s.length = t.length) (h1 : s.length ≤ 1000) (w : wfB s = true) : f_is_within [tabD s, tabD t] h = .ok (.bl (tabWithin s t)) h := by
  rw [r_is_within rfl]
  simp (disch := first | (simp; done) | omega) [b_is_within, k_is_within_need_alike, need_alike_eq e]
  rw [lcM (fun p => .bl (rowWithin p)) _ (by simp; omega)]
  · simp [tabWithin, back_nr]
  · intro p hp
    have hp1 := wf_row w (List.of_mem_zip (a := p.1) (b := p.2) hp).1
    simp (disch := first | (simp; done) | omega) [lcT, pairD, k_is_within_is_row_within, row_within_eq]
theorem is_within_no {s t : List (List Int)} {h : Hs} (e : s.length ≠ t.length) : f_is_within [tabD s, tabD t] h = .rs "NoTable" none h := by
  rw [r_is_within rfl]
  simp [b_is_within, k_is_within_need_alike, need_alike_no e]
/-! ### joined -/
def N_joined : List Str := ["one", "other", "row", "line", "a", "b"]
def b_joined : List S :=
  [.expr (.call 20 [.var 0, .var 1]),
   .ret (.bi .tuple [.lc false 3 [.var 0, .var 1] true [2, 3] [] (.bi .tuple [.lc false 3 [.var 2, .var 3] true [4, 5] [] (.bi .max [.var 4, .var 5]) [4, 5]]) [2, 3]])]
def n_joined : Nat := 0
noncomputable def gam_joined : Mir := mirA [(20, 2, f_need_alike)]
noncomputable def f_joined : List D → Hs → R D := runF gam_joined false n_joined 6 2 b_joined
theorem k_joined_need_alike {ds : List D} {h : Hs} : callR gam_joined 20 ds h = if ds.length = 2 then f_need_alike ds h else .stk := callR_at rfl
theorem r_joined {ds : List D} {h : Hs} (e : ds.length = 2) : f_joined ds h = fin false h (S.evs gam_joined n_joined b_joined (ds.map some ++ List.replicate 4 none) h) := runF_eq e
def joinR (p : List Int × List Int) : List Int := (p.1.zip p.2).map fun q => if q.2 > q.1 then q.2 else q.1
def joinI (s t : List (List Int)) : List (List Int) := (s.zip t).map joinR
theorem joinI_len {s t : List (List Int)} (l : s.length = t.length) : (joinI s t).length = s.length := by simp [joinI, l]
theorem joinR_len {r l : List Int} (e : r.length = l.length) : (joinR (r, l)).length = r.length := by simp [joinR, e]
theorem joinI_row {s t : List (List Int)} {i : Nat} (l : s.length = t.length) (h : i < s.length) : rowA (joinI s t) i = joinR (rowA s i, rowA t i) := by
  rw [rowA_nat (by rw [joinI_len l]; exact h), rowA_nat h, rowA_nat (by omega)]
  simp [joinI]
theorem joinR_cell {r l : List Int} {i : Nat} (e : r.length = l.length) (h : i < r.length) : cellA (joinR (r, l)) i = if cellA l i > cellA r i then cellA l i else cellA r i := by
  rw [cellA_nat (by rw [joinR_len e]; exact h), cellA_nat h, cellA_nat (by omega)]
  simp [joinR]
theorem joinI_wf {s t : List (List Int)} (l : s.length = t.length) (ws : wfB s = true) (wt : wfB t = true) : wfB (joinI s t) = true := by
  unfold wfB
  refine List.all_eq_true.mpr fun r hr => ?_
  rw [joinI_len l]
  obtain ⟨p, hp, rfl⟩ := List.mem_map.mp hr
  obtain ⟨h1, h2⟩ := List.of_mem_zip (a := p.1) (b := p.2) hp
  have a := wf_row ws h1
  have b := wf_row wt h2
  have := joinR_len (r := p.1) (l := p.2) (by omega)
  simp [this, a]
theorem joinR_comm {r l : List Int} (e : r.length = l.length) : joinR (r, l) = joinR (l, r) := by
  refine List.ext_getElem (by simp [joinR, e]) fun i h1 h2 => ?_
  simp [joinR]
  split <;> split <;> omega
theorem joinR_low {r l : List Int} (e : r.length = l.length) (h : ∀ i : Nat, i < r.length → cellA l i ≤ cellA r i) : joinR (r, l) = r := by
  refine List.ext_getElem (by simp [joinR, e]) fun i h1 h2 => ?_
  have := h i h2
  rw [cellA_nat (by omega), cellA_nat h2] at this
  simp [joinR]
  omega
theorem joined_eq {s t : List (List Int)} {h : Hs} (e : s.length = t.length) (h1 : s.length ≤ 1000) (w : wfB s = true) : f_joined [tabD s, tabD t] h = .ok (tabD (joinI s t)) h := by
  rw [r_joined rfl]
  simp (disch := first | (simp; done) | omega) [b_joined, k_joined_need_alike, need_alike_eq e]
  rw [lcM (fun p => rowD (joinR p)) _ (by simp; omega)]
  · simp [joinI, tabD, Function.comp_def, back_nr]
  · intro p hp
    have hp1 := wf_row w (List.of_mem_zip (a := p.1) (b := p.2) hp).1
    simp (disch := first | (simp; done) | omega) [lcT, pairD]
    rw [lcM (fun q => .int (if q.2 > q.1 then q.2 else q.1)) _ (by simp; omega)]
    · simp [joinR, rowD, Function.comp_def]
    · intro q _
      simp (disch := first | (simp; done) | omega) [lcT, pairI]
theorem join_cel {n : Nat} {s t : List (List Int)} (S : Tab n s) (T : Tab n t) {i j : Nat} (hi : i < n) (hj : j < n + 1) : cel (joinI s t) i j = if cel t i j > cel s i j then cel t i j else cel s i j := by
  unfold cel
  rw [joinI_row (by rw [S.len, T.len]) (by rw [S.len]; exact hi), joinR_cell (by rw [S.row hi, T.row hi]) (by rw [S.row hi]; exact hj)]
theorem Tab.join {n : Nat} {s t : List (List Int)} (S : Tab n s) (T : Tab n t) : Tab n (joinI s t) := ⟨joinI_wf (by rw [S.len, T.len]) S.wf T.wf, by rw [joinI_len (by rw [S.len, T.len]), S.len]⟩
theorem Sup.join {n : Nat} {S T : List (List Int)} {ss ts : List (List (List Int))} (a : Sup n S ss) (b : Sup n T ts) : Sup n (joinI S T) (ss ++ ts) where
  tab := a.tab.join b.tab
  at' := fun i j hi hj => by
    rw [join_cel a.tab b.tab hi hj]
    split
    · obtain ⟨t, h1, h2⟩ := b.at' i j hi hj
      exact ⟨t, by simp [h1], h2⟩
    · obtain ⟨t, h1, h2⟩ := a.at' i j hi hj
      exact ⟨t, by simp [h1], h2⟩
  le := fun i j hi hj t ht => by
    rw [join_cel a.tab b.tab hi hj]
    rcases List.mem_append.mp ht with z | z
    · have := a.le i j hi hj t z
      split <;> omega
    · have := b.le i j hi hj t z
      split <;> omega
theorem Sup.fold {n : Nat} : ∀ (ts : List (List (List Int))) {S : List (List Int)} {ss : List (List (List Int))}, Sup n S ss → (∀ t ∈ ts, Tab n t) → Sup n (ts.foldl joinI S) (ss ++ ts)
  | [], S, ss, a, _ => by simpa using a
  | t :: ts, S, ss, a, h => by
    have := Sup.fold ts (a.join (Sup.one (h t List.mem_cons_self))) fun u hu => h u (List.mem_cons_of_mem _ hu)
    simpa using this
theorem within_iff {n : Nat} {s t : List (List Int)} (S : Tab n s) (T : Tab n t) (h : ∀ i j : Nat, i < n → j < n + 1 → cel s i j ≤ cel t i j) : (s.zip t).all (fun p => (p.1.zip p.2).all fun q => decide (q.1 ≤ q.2)) = true := by
  refine List.all_eq_true.mpr fun p hp => List.all_eq_true.mpr fun q hq => ?_
  obtain ⟨i, hi, e⟩ := List.getElem_of_mem hp
  obtain ⟨j, hj, e2⟩ := List.getElem_of_mem hq
  have hi' : i < n := by have := S.len; simp at hi; omega
  have i1 : i < s.length := by rw [S.len]; exact hi'
  have i2 : i < t.length := by rw [T.len]; exact hi'
  have e1 : p = (s[i], t[i]) := by rw [← e]; simp
  subst e1
  have r1 := S.row hi'
  have r2 := T.row hi'
  rw [rowA_nat i1] at r1
  rw [rowA_nat i2] at r2
  have hj' : j < n + 1 := by simp at hj; omega
  have e3 : q = (s[i][j]'(by omega), t[i][j]'(by omega)) := by rw [← e2]; simp
  subst e3
  have := h i j hi' hj'
  unfold cel at this
  rw [rowA_nat i1, rowA_nat i2, cellA_nat (by omega), cellA_nat (by omega)] at this
  exact decide_eq_true this
theorem joined_no {s t : List (List Int)} {h : Hs} (e : s.length ≠ t.length) : f_joined [tabD s, tabD t] h = .rs "NoTable" none h := by
  rw [r_joined rfl]
  simp [b_joined, k_joined_need_alike, need_alike_no e]
/-- a joined table is told by its cells -/
theorem join_of {n : Nat} {s t u : List (List Int)} (S : Tab n s) (T : Tab n t) (U : Tab n u) (h : ∀ i j : Nat, i < n → j < n + 1 → cel u i j = if cel t i j > cel s i j then cel t i j else cel s i j) : joinI s t = u :=
  (S.join T).ext U fun i j hi hj => by rw [join_cel S T hi hj, h i j hi hj]
theorem join_max {n : Nat} {s t : List (List Int)} (S : Tab n s) (T : Tab n t) {i j : Nat} (hi : i < n) (hj : j < n + 1) : cel (joinI s t) i j = max (cel s i j) (cel t i j) := by
  rw [join_cel S T hi hj]
  split <;> omega
theorem join_ofM {n : Nat} {s t u : List (List Int)} (S : Tab n s) (T : Tab n t) (U : Tab n u) (h : ∀ i j : Nat, i < n → j < n + 1 → cel u i j = max (cel s i j) (cel t i j)) : joinI s t = u :=
  (S.join T).ext U fun i j hi hj => by rw [join_max S T hi hj, h i j hi hj]
/-! ### is_deed -/
def N_is_deed : List Str := ["deed"]
def b_is_deed : List S :=
  [.iff (.or (.op .lt (.bi .len [.var 0]) (.int 3)) (.op .lt (.ix (.var 0) (.neg (.int 1))) (.int 1))) [.ret (.bl false)] [],
   .iff (.op .eq (.ix (.var 0) (.int 0)) (.str "lend")) [.ret (.op .eq (.bi .len [.var 0]) (.int 4))] [],
   .ret (.and (.op .eq (.bi .len [.var 0]) (.int 3)) (.or (.op .eq (.ix (.var 0) (.int 0)) (.str "make")) (.op .eq (.ix (.var 0) (.int 0)) (.str "use"))))]
def n_is_deed : Nat := 0
noncomputable def gam_is_deed : Mir := mirA []
noncomputable def f_is_deed : List D → Hs → R D := runF gam_is_deed false n_is_deed 1 1 b_is_deed
theorem r_is_deed {ds : List D} {h : Hs} (e : ds.length = 1) : f_is_deed ds h = fin false h (S.evs gam_is_deed n_is_deed b_is_deed (ds.map some ++ List.replicate 0 none) h) := runF_eq e
theorem is_deed_eq {n : Nat} {d : Deed} {h : Hs} (e : d.ok n) : f_is_deed [deedD d] h = .ok (.bl true) h := by
  rw [r_is_deed rfl]
  cases d with
  | make i k =>
    have : ¬ k < 1 := by have := e.2.2; omega
    simp [b_is_deed, deedD, gEq_str, this, back_nr]
  | lend i j k =>
    have : ¬ k < 1 := by have := e.2.2.2.2.2; omega
    simp [b_is_deed, deedD, gEq_str, this, back_nr]
  | use i k =>
    have : ¬ k < 1 := by have := e.2.2; omega
    simp [b_is_deed, deedD, gEq_str, this, back_nr]
theorem is_deed_k {d : Deed} {h : Hs} (e : 1 ≤ d.k) : f_is_deed [deedD d] h = .ok (.bl true) h := by
  rw [r_is_deed rfl]
  cases d with
  | make i k =>
    have : ¬ k < 1 := by have e : 1 ≤ k := e; omega
    simp [b_is_deed, deedD, gEq_str, this, back_nr]
  | lend i j k =>
    have : ¬ k < 1 := by have e : 1 ≤ k := e; omega
    simp [b_is_deed, deedD, gEq_str, this, back_nr]
  | use i k =>
    have : ¬ k < 1 := by have e : 1 ≤ k := e; omega
    simp [b_is_deed, deedD, gEq_str, this, back_nr]
theorem is_deed_no {w : Wd} {ps : List Int} {h : Hs} (hl : ps.length ≤ 4) (e : deedOf w ps = none) : f_is_deed [anyD w ps] h = .ok (.bl false) h := by
  have i0 : gIx h (anyD w ps) (.int 0) = some (.str w.str) := by unfold anyD; rw [gIx_tup, at_c0]
  have n1 : ∀ {a : D}, gIx h (.tup [.str w.str, a]) (.int (-1)) = some a := by intro a; rw [gIx_tup, at_2_n]
  have n4 : ∀ {a b c d : D}, gIx h (.tup [.str w.str, a, b, c, d]) (.int (-1)) = some d := by intro a b c d; rw [gIx_tup, at_5_n]
  have n5 : ∀ {l : List D}, gIx h (.tup (.str w.str :: l)) (.int 0) = some (.str w.str) := by intro l; rw [gIx_tup, at_c0]
  rw [r_is_deed rfl]
  rcases ps with _ | ⟨a, _ | ⟨b, _ | ⟨c, _ | ⟨d, _ | ⟨x, r⟩⟩⟩⟩⟩
  · simp [b_is_deed, anyD, back_nr]
  · simp [b_is_deed, anyD, back_nr]
  · by_cases z : b < 1
    · simp [b_is_deed, anyD, z, back_nr]
    · cases w <;> simp [deedOf] at e <;> first | omega | simp [b_is_deed, anyD, z, wd_lend, wd_make, wd_use, back_nr]
  · by_cases z : c < 1
    · simp [b_is_deed, anyD, z, back_nr]
    · cases w <;> simp [deedOf] at e <;> first | omega | simp [b_is_deed, anyD, z, wd_lend, wd_make, wd_use, back_nr]
  · by_cases z : d < 1
    · simp [b_is_deed, anyD, z, n4, back_nr]
    · cases w <;> simp [b_is_deed, anyD, z, n4, n5, wd_lend, wd_make, wd_use, back_nr]
  · simp at hl
/-! ### place_of -/
def N_place_of : List Str := ["n", "deed"]
def b_place_of : List S :=
  [.iff (.op .eq (.ix (.var 1) (.int 0)) (.str "make")) [.ret (.ix (.var 1) (.int 1))] [],
   .iff (.op .eq (.ix (.var 1) (.int 0)) (.str "lend")) [.ret (.ix (.var 1) (.int 2))] [],
   .ret (.var 0)]
def n_place_of : Nat := 0
noncomputable def gam_place_of : Mir := mirA []
noncomputable def f_place_of : List D → Hs → R D := runF gam_place_of false n_place_of 2 2 b_place_of
theorem r_place_of {ds : List D} {h : Hs} (e : ds.length = 2) : f_place_of ds h = fin false h (S.evs gam_place_of n_place_of b_place_of (ds.map some ++ List.replicate 0 none) h) := runF_eq e
theorem place_of_eq {n : Nat} {d : Deed} {h : Hs} : f_place_of [.int n, deedD d] h = .ok (.int (d.place n)) h := by
  rw [r_place_of rfl]
  cases d <;> simp [b_place_of, deedD, gEq_str, Deed.place, back_nr]
/-! ### raised -/
def N_raised : List Str := ["table", "house", "place", "k", "row"]
def b_raised : List S :=
  [.set 4 (.bi (.list true) [.ix (.var 0) (.var 1)]),
   .store (.var 4) (.var 2) (.op .add (.ix (.var 4) (.var 2)) (.var 3)),
   .ret (.op .add (.op .add (.sl false (.var 0) [] [.var 1]) (.tup [.bi .tuple [.var 4]])) (.sl false (.var 0) [.op .add (.var 1) (.int 1)] []))]
def n_raised : Nat := 0
noncomputable def gam_raised : Mir := mirA []
noncomputable def f_raised : List D → Hs → R D := runF gam_raised false n_raised 5 4 b_raised
theorem r_raised {ds : List D} {h : Hs} (e : ds.length = 4) : f_raised ds h = fin false h (S.evs gam_raised n_raised b_raised (ds.map some ++ List.replicate 1 none) h) := runF_eq e
theorem raised_eq {n : Nat} {t : List (List Int)} {i p k : Int} {h : Hs} (T : Tab n t) (n8 : n ≤ 1000) (h0 : 0 ≤ i) (h1 : i < n) (p0 : 0 ≤ p) (p1 : p < n + 1) : f_raised [tabD t, .int i, .int p, .int k] h = .ok (tabD (raisedI t i p k)) h := by
  have l := T.len
  have r := wf_len T.wf h0 (by omega)
  rw [r_raised rfl]
  have e1 : ∀ (b : Bool) (h : Hs), gListF b [rowD (rowA t i)] h = newL b ((rowA t i).map .int) h := fun b h => by unfold rowD; rw [gListF_tup]
  have e2 : atI ((rowA t i).map D.int) p = some (.int (cellA (rowA t i) p)) := by
    rw [atI_map p0 (by omega)]
    unfold cellA
    rw [List.getElem?_eq_getElem (by omega)]
    rfl
  have e3 : ∀ (lo hi : Option Int) (b : Bool) (h : Hs), slG b lo hi (tabD t) h = .ok (.tup (cutD (t.map rowD) lo hi)) h := fun lo hi b h => by unfold tabD; rw [slG_tup]
  simp (disch := first | (simp; done) | (simp; omega) | omega) [b_raised, ix_tab, e1, e2, e3, cut_takeI, cut_dropI]
  have e4 : ∀ x : List Int, (t.set i.toNat x).map rowD = List.take i.toNat (t.map rowD) ++ rowD x :: List.drop (i + 1).toNat (t.map rowD) := fun x => by
    rw [List.set_eq_take_append_cons_drop, if_pos (by omega), List.map_append, List.map_cons, List.map_take, List.map_drop, show (i + 1).toNat = i.toNat + 1 by omega]
  have e5 : tabD (raisedI t i p k) = .tup (List.take i.toNat (List.map rowD t) ++ D.tup (((rowA t i).map D.int).set p.toNat (.int (cellA (rowA t i) p + k))) :: List.drop (i + 1).toNat (List.map rowD t)) := by
    unfold tabD raisedI
    rw [e4]
    unfold rowD
    rw [List.map_set]
  rw [← e5]
  simp [back_nr]
/-! ### done -/
def N_done : List Str := ["table", "deed", "house"]
def b_done : List S :=
  [.iff (.not (.call 38 [.var 1])) [.rs "NoDeed"] [],
   .loop false 0 [.sl false (.var 1) [.int 1] [.neg (.int 1)]] false [2] [.expr (.call 11 [.var 0, .var 2])],
   .iff (.and (.op .eq (.ix (.var 1) (.int 0)) (.str "lend")) (.op .eq (.ix (.var 1) (.int 1)) (.ix (.var 1) (.int 2)))) [.rs "NoHouse"] [],
   .iff (.and (.op .ne (.ix (.var 1) (.int 0)) (.str "make")) (.op .lt (.call 14 [.var 0, .ix (.var 1) (.int 1)]) (.ix (.var 1) (.neg (.int 1))))) [.rsS (.call 14 [.var 0, .ix (.var 1) (.int 1)])] [],
   .ret (.call 40 [.var 0, .ix (.var 1) (.int 1), .call 39 [.bi .len [.var 0], .var 1], .ix (.var 1) (.neg (.int 1))])]
def n_done : Nat := 0
noncomputable def gam_done : Mir := mirA [(40, 4, f_raised), (38, 1, f_is_deed), (11, 2, f_need_house), (39, 2, f_place_of), (14, 2, f_rights)]
noncomputable def f_done : List D → Hs → R D := runF gam_done false n_done 3 2 b_done
abbrev L_done_0 : List S := [.expr (.call 11 [.var 0, .var 2])]
noncomputable abbrev T_done_0 : D → SD → Hs → O := turnO (tgF false [2]) (cutB false (S.evs gam_done n_done L_done_0))
theorem k_done_raised {ds : List D} {h : Hs} : callR gam_done 40 ds h = if ds.length = 4 then f_raised ds h else .stk := callR_at rfl
theorem k_done_is_deed {ds : List D} {h : Hs} : callR gam_done 38 ds h = if ds.length = 1 then f_is_deed ds h else .stk := callR_at rfl
theorem k_done_need_house {ds : List D} {h : Hs} : callR gam_done 11 ds h = if ds.length = 2 then f_need_house ds h else .stk := callR_at rfl
theorem k_done_place_of {ds : List D} {h : Hs} : callR gam_done 39 ds h = if ds.length = 2 then f_place_of ds h else .stk := callR_at rfl
theorem k_done_rights {ds : List D} {h : Hs} : callR gam_done 14 ds h = if ds.length = 2 then f_rights ds h else .stk := callR_at rfl
theorem r_done {ds : List D} {h : Hs} (e : ds.length = 2) : f_done ds h = fin false h (S.evs gam_done n_done b_done (ds.map some ++ List.replicate 1 none) h) := runF_eq e
/-- what a deed that may be done makes of a table -/
def doneI (t : List (List Int)) (n : Nat) (d : Deed) : List (List Int) := raisedI t d.house (d.place n) d.k
theorem place_rng {n : Nat} {d : Deed} (e : d.ok n) : 0 ≤ d.house ∧ d.house < n ∧ 0 ≤ d.place n ∧ d.place n < n + 1 := by
  cases d with
  | make i k => exact ⟨e.1, e.2.1, e.1, by have := e.2.1; show i < _; omega⟩
  | lend i j k => exact ⟨e.1, e.2.1, e.2.2.1, by have := e.2.2.2.1; show j < _; omega⟩
  | use i k => exact ⟨e.1, e.2.1, by show (0 : Int) ≤ n; omega, by show (n : Int) < _; omega⟩
theorem done_eq {n : Nat} {t : List (List Int)} {d : Deed} {h : Hs} (T : Tab n t) (n8 : n ≤ 1000) (e : d.ok n) : f_done [tabD t, deedD d] h = if d.free = false ∧ rightsI t d.house < d.k then .rs "Short" (some (rightsI t d.house)) h else .ok (tabD (doneI t n d)) h := by
  have l := T.len
  obtain ⟨a1, a2, a3, a4⟩ := place_rng e
  have q := raised_eq (k := d.k) (h := h) T n8 a1 a2 a3 a4
  have pl := place_of_eq (n := n) (d := d) (h := h)
  have rg : ∀ i : Int, 0 ≤ i → i < n → f_rights [tabD t, .int i] h = .ok (.int (rightsI t i)) h := fun i h0 h1 => rights_eq T.wf h0 (by omega) (by omega)
  have nh : ∀ i : Int, 0 ≤ i → i < n → f_need_house [tabD t, .int i] h = .ok .non h := fun i h0 h1 => need_house_eq h0 (by omega)
  have F : ∀ (is : List Int) (s0 : Option D), (∀ i ∈ is, 0 ≤ i ∧ i < n) → ∃ c, forL (turnO (tgF false [2]) (cutB false (S.evs gam_done n_done [.expr (.call 11 [.var 0, .var 2])]))) (is.map .int) [some (tabD t), some (deedD d), s0] h = .nx [some (tabD t), some (deedD d), c] h := fun is s0 hs => by
    have F := forL_st (f := D.int) (turn := turnO (tgF false [2]) (cutB false (S.evs gam_done n_done [.expr (.call 11 [.var 0, .var 2])]))) (fun (_ : Unit) (c : Option D) => [some (tabD t), some (deedD d), c]) (fun _ => h) (fun b _ => b) (fun _ => True) is () s0 trivial fun b c i hi _ => ⟨⟨some (.int i), by
      obtain ⟨i0, i1⟩ := hs i hi
      simp [turnO, k_done_need_house, nh i i0 i1]⟩, trivial⟩
    exact F.1
  rw [r_done rfl]
  simp [b_done, k_done_is_deed, is_deed_eq e]
  cases d with
  | make i k =>
    obtain ⟨c, F⟩ := F [i] none (by simp; exact ⟨a1, a2⟩)
    simp [deedD, Deed.house, Deed.place, Deed.k] at F q pl ⊢
    rw [F]
    simp [gEq_str, gNe_str, k_done_place_of, k_done_raised, l, pl, q, Deed.free, back_nr, doneI, Deed.house, Deed.place, Deed.k]
  | lend i j k =>
    have ij := e.2.2.2.2.1
    have rr := rg i a1 a2
    obtain ⟨c, F⟩ := F [i, j] none (by simp; exact ⟨⟨a1, a2⟩, e.2.2.1, e.2.2.2.1⟩)
    simp [deedD, Deed.house, Deed.place, Deed.k] at F q pl ⊢
    rw [F]
    by_cases z : rightsI t i < k
    · simp [gEq_str, gNe_str, k_done_rights, rr, z, ij, Deed.free]
    · simp [gEq_str, gNe_str, k_done_rights, k_done_place_of, k_done_raised, rr, z, ij, l, pl, q, Deed.free, back_nr, doneI, Deed.house, Deed.place, Deed.k]
  | use i k =>
    have rr := rg i a1 a2
    obtain ⟨c, F⟩ := F [i] none (by simp; exact ⟨a1, a2⟩)
    simp [deedD, Deed.house, Deed.place, Deed.k] at F q pl ⊢
    rw [F]
    by_cases z : rightsI t i < k
    · simp [gEq_str, gNe_str, k_done_rights, rr, z, Deed.free]
    · simp [gEq_str, gNe_str, k_done_rights, k_done_place_of, k_done_raised, rr, z, l, pl, q, Deed.free, back_nr, doneI, Deed.house, Deed.place, Deed.k]
/-! what is told of a deed -/
def resB (n : Nat) (t : List (List Int)) (w : Wd) (ps : List Int) : D := match deedOf w ps with
  | none => .str "deed"
  | some d => if d.ok n then if d.free = false ∧ rightsI t d.house < d.k then .str "short" else tabD (doneI t n d) else .str "house"
theorem done_no {n : Nat} {t : List (List Int)} {w : Wd} {ps : List Int} {h : Hs} (hl : ps.length ≤ 4) (e : deedOf w ps = none) : f_done [tabD t, anyD w ps] h = .rs "NoDeed" none h := by
  rw [r_done rfl]
  simp [b_done, k_done_is_deed, is_deed_no hl e]
theorem done_house {n : Nat} {t : List (List Int)} {d : Deed} {h : Hs} (T : Tab n t) (n8 : n ≤ 1000) (k1 : 1 ≤ d.k) (e : ¬ d.ok n) : f_done [tabD t, deedD d] h = .rs "NoHouse" none h := by
  have l := T.len
  have ok1 : ∀ {i : Int} {c : Option D}, 0 ≤ i → i < n → T_done_0 (.int i) [some (tabD t), some (deedD d), c] h = .nx [some (tabD t), some (deedD d), some (.int i)] h := fun {i} {c} i0 i1 => by simp [turnO, k_done_need_house, need_house_eq i0 (show i < t.length by omega)]
  have no1 : ∀ {i : Int} {c : Option D}, ¬ (0 ≤ i ∧ i < n) → T_done_0 (.int i) [some (tabD t), some (deedD d), c] h = .rs "NoHouse" none [some (tabD t), some (deedD d), some (.int i)] h := fun {i} {c} z => by simp [turnO, k_done_need_house, need_house_no (show ¬ (0 ≤ i ∧ i < t.length) by omega)]
  rw [r_done rfl]
  simp [b_done, k_done_is_deed, is_deed_k k1]
  cases d with
  | make i k =>
    simp only [Deed.ok, Deed.k] at e k1
    have F := forL_leave (r := []) (no1 (i := i) (c := none) (by omega)) rfl
    simp [deedD] at F ⊢
    rw [F]
    simp
  | use i k =>
    simp only [Deed.ok, Deed.k] at e k1
    have F := forL_leave (r := []) (no1 (i := i) (c := none) (by omega)) rfl
    simp [deedD] at F ⊢
    rw [F]
    simp
  | lend i j k =>
    simp only [Deed.ok, Deed.k] at e k1
    by_cases q1 : 0 ≤ i ∧ i < n
    · by_cases q2 : 0 ≤ j ∧ j < n
      · have F : ∃ c, forL T_done_0 [.int i, .int j] [some (tabD t), some (deedD (.lend i j k)), none] h = .nx [some (tabD t), some (deedD (.lend i j k)), c] h := ⟨_, by rw [forL_nx (ok1 q1.1 q1.2), forL_nx (ok1 q2.1 q2.2), forL_nil]⟩
        obtain ⟨c, F⟩ := F
        have ij : i = j := by omega
        simp [deedD] at F ⊢
        rw [F]
        simp [gEq_str, ij]
      · have F := forL_leave (r := []) (no1 (i := j) (c := some (.int i)) q2) rfl
        have F2 := forL_nx (r := [.int j]) (ok1 (c := none) q1.1 q1.2)
        rw [F] at F2
        simp [deedD] at F2 ⊢
        rw [F2]
        simp
    · have F := forL_leave (r := [.int j]) (no1 (i := i) (c := none) q1) rfl
      simp [deedD] at F ⊢
      rw [F]
      simp
def chgI (d : Deed) (x : Int) : Int := match d with
  | .make i k => if x = i then k else 0
  | .lend i j k => if x = j then k else if x = i then -k else 0
  | .use i k => if x = i then -k else 0
theorem rights_done {n : Nat} {t : List (List Int)} {d : Deed} {x : Nat} (T : Tab n t) (e : d.ok n) (hx : x < n) : rightsI (doneI t n d) x = rightsI t x + chgI d x := by
  obtain ⟨a1, a2, a3, a4⟩ := place_rng e
  unfold doneI
  rw [rights_raised T a1 a2 a3 a4 hx]
  cases d with
  | make i k =>
    simp only [Deed.house, Deed.place, Deed.k, chgI] at *
    by_cases z : i = (x : Int)
    · have : i < (n : Int) := a2
      have : i ≠ (n : Int) := by omega
      simp [z, hx]
      omega
    · have : ¬ (x : Int) = i := fun w => z w.symm
      simp [z, this]
  | lend i j k =>
    have ij := e.2.2.2.2.1
    have jn := e.2.2.2.1
    simp only [Deed.house, Deed.place, Deed.k, chgI] at *
    have : j ≠ (n : Int) := by omega
    by_cases z : j = (x : Int)
    · have z2 : ¬ i = (x : Int) := fun w => ij (by omega)
      simp [z, z2, hx]
    · have z1 : ¬ (x : Int) = j := fun w => z w.symm
      by_cases z2 : i = (x : Int)
      · simp [z, z1, z2, this, jn]
        omega
      · have z3 : ¬ (x : Int) = i := fun w => z2 w.symm
        simp [z, z1, z2, z3]
  | use i k =>
    simp only [Deed.house, Deed.place, Deed.k, chgI] at *
    have nx : ¬ (n : Int) = (x : Int) := by omega
    by_cases z : i = (x : Int)
    · simp [z, nx]
      omega
    · have : ¬ (x : Int) = i := fun w => z w.symm
      simp [z, nx, this]
theorem stock_done {n : Nat} {t : List (List Int)} {d : Deed} (T : Tab n t) (e : d.ok n) : stockI (doneI t n d) - stockI t = ((List.range n).map fun (x : Nat) => chgI d x).sum := by
  obtain ⟨a1, a2, a3, a4⟩ := place_rng e
  have R : Tab n (doneI t n d) := raised_tab T a1 a2
  rw [← rights_sum R.wf, ← rights_sum T.wf, R.len, T.len]
  rw [sum_congr (f := fun (i : Nat) => rightsI (doneI t n d) i) (g := fun (i : Nat) => rightsI t i + chgI d i) fun i hi => rights_done T e (List.mem_range.mp hi), sum_add]
  omega
/-! ### is_busy -/
def N_is_busy : List Str := ["table", "house"]
def b_is_busy : List S :=
  [.ret (.or (.op .gt (.call 12 [.var 0, .var 1]) (.int 0)) (.op .gt (.ix (.ix (.var 0) (.var 1)) (.bi .len [.var 0])) (.int 0)))]
def n_is_busy : Nat := 0
noncomputable def gam_is_busy : Mir := mirA [(12, 2, f_lent_by)]
noncomputable def f_is_busy : List D → Hs → R D := runF gam_is_busy false n_is_busy 2 2 b_is_busy
theorem k_is_busy_lent_by {ds : List D} {h : Hs} : callR gam_is_busy 12 ds h = if ds.length = 2 then f_lent_by ds h else .stk := callR_at rfl
theorem r_is_busy {ds : List D} {h : Hs} (e : ds.length = 2) : f_is_busy ds h = fin false h (S.evs gam_is_busy n_is_busy b_is_busy (ds.map some ++ List.replicate 0 none) h) := runF_eq e
theorem is_busy_eq {n : Nat} {t : List (List Int)} {k : Nat} {h : Hs} (T : Tab n t) (hk : k < n) : f_is_busy [tabD t, .int k] h = .ok (.bl (busyB n t k)) h := by
  have l := T.len
  have r := T.row hk
  have lb := lent_by_eq (i := (k : Int)) (h := h) T.wf (by omega) (by omega)
  rw [r_is_busy rfl]
  simp (disch := first | (simp; done) | omega) [b_is_busy, k_is_busy_lent_by, lb, ix_tab, ix_row, l]
  unfold busyB cel
  by_cases q : 0 < lentByI t k
  · simp [q, back_nr]
  · simp [q, back_nr]
/-! ### rooted -/
def N_rooted : List Str := ["table", "found", "at", "row", "house"]
def b_rooted : List S :=
  [.set 1 (.lc true 1 [.bi .len [.var 0]] false [4] [.op .gt (.ix (.ix (.var 0) (.var 4)) (.var 4)) (.int 0)] (.var 4) [4]),
   .set 2 (.int 0),
   .whl false (.op .lt (.var 2) (.bi .len [.var 1])) [.set 3 (.ix (.var 0) (.ix (.var 1) (.var 2))), .loop false 1 [.bi .len [.var 0]] false [4] [.iff (.and (.op .gt (.ix (.var 3) (.var 4)) (.int 0)) (.op .notIn (.var 4) (.var 1))) [.expr (.mth .append (.var 1) [.var 4])] []], .set 2 (.op .add (.var 2) (.int 1))],
   .ret (.var 1)]
def n_rooted : Nat := 12
noncomputable def gam_rooted : Mir := mirA []
noncomputable def f_rooted : List D → Hs → R D := runF gam_rooted false n_rooted 5 1 b_rooted
abbrev L_rooted_0 : List S := [.set 3 (.ix (.var 0) (.ix (.var 1) (.var 2))), .loop false 1 [.bi .len [.var 0]] false [4] [.iff (.and (.op .gt (.ix (.var 3) (.var 4)) (.int 0)) (.op .notIn (.var 4) (.var 1))) [.expr (.mth .append (.var 1) [.var 4])] []], .set 2 (.op .add (.var 2) (.int 1))]
abbrev L_rooted_1 : List S := [.iff (.and (.op .gt (.ix (.var 3) (.var 4)) (.int 0)) (.op .notIn (.var 4) (.var 1))) [.expr (.mth .append (.var 1) [.var 4])] []]
noncomputable abbrev T_rooted_1 : D → SD → Hs → O := turnO (tgF false [4]) (cutB false (S.evs gam_rooted n_rooted L_rooted_1))
theorem r_rooted {ds : List D} {h : Hs} (e : ds.length = 1) : f_rooted ds h = fin false h (S.evs gam_rooted n_rooted b_rooted (ds.map some ++ List.replicate 4 none) h) := runF_eq e
theorem rooted_eq {n : Nat} {t : List (List Int)} {h : Hs} (T : Tab n t) (n8 : n ≤ 8) : f_rooted [tabD t] h = .ok (natsD (rootsI n t)) h := by
  have l := T.len
  rw [r_rooted rfl]
  simp (disch := first | (simp; done) | omega) [b_rooted, rngN, l]
  rw [lcF (fun (k : Nat) => decide (0 < cel t k k)) (fun (k : Nat) => D.int k) _ (by simp; omega)]
  · simp only [newL_t, thenO_ok]
    have key : ∀ (k a : Nat) (f : List Nat) (x3 x4 : Option D), Part n t f → n + 1 ≤ a + k → a ≤ f.length → ∃ y2 y3 y4, whL (E.ev gam_rooted (.op .lt (.var 2) (.bi .len [.var 1]))) (cutB false (S.evs gam_rooted n_rooted [.set 3 (.ix (.var 0) (.ix (.var 1) (.var 2))), .loop false 1 [.bi .len [.var 0]] false [4] [.iff (.and (.op .gt (.ix (.var 3) (.var 4)) (.int 0)) (.op .notIn (.var 4) (.var 1))) [.expr (.mth .append (.var 1) [.var 4])] []], .set 2 (.op .add (.var 2) (.int 1))])) (k + 1) [some (tabD t), some (.ref h.length), some (.int a), x3, x4] (h ++ [.lst (f.map fun (i : Nat) => D.int i)]) = .nx [some (tabD t), some (.ref h.length), y2, y3, y4] (h ++ [.lst ((bfs n t k a f).map fun (i : Nat) => D.int i)]) := by
      intro k
      induction k with
      | zero =>
        intro a f x3 x4 p h1 h2
        have := p.len
        omega
      | succ k ih =>
        intro a f x3 x4 p h1 h2
        rw [whL]
        by_cases q : a < f.length
        · have e : f[a]? = some f[a] := List.getElem?_eq_getElem q
          have hi := p.lt f[a] (List.getElem_mem q)
          obtain ⟨g, g1, g2, g3⟩ := bfsIn_spec (n := n) (t := t) (a := a) (i := f[a]) (List.range n) f (fun j hj => List.mem_range.mp hj) p e
          have eb : bfs n t (k + 1) a f = bfs n t k (a + 1) (f ++ g) := by
            rw [bfs, if_pos q, e]
            show bfs n t k (a + 1) ((List.range n).foldl (bfsStep t f[a]) f) = _
            rw [g1]
          have ai : atI (f.map fun (i : Nat) => D.int i) (a : Int) = some (.int (f[a] : Nat)) := by
            rw [atI_map (by omega) (by omega)]
            simp
          have r := T.row hi
          have F := forL_sti (f := fun (j : Nat) => D.int j) (turn := turnO (tgF false [4]) (cutB false (S.evs gam_rooted n_rooted [.iff (.and (.op .gt (.ix (.var 3) (.var 4)) (.int 0)) (.op .notIn (.var 4) (.var 1))) [.expr (.mth .append (.var 1) [.var 4])] []])))
            (fun (_ : List Nat) (c : Option D) => [some (tabD t), some (.ref h.length), some (.int a), some (rowD (rowA t f[a])), c]) (fun b => h ++ [.lst (b.map fun (i : Nat) => D.int i)]) (bfsStep t f[a]) (fun i b => b.length ≤ 100 + i) 100 (List.range n) 0 f x4 (by simp; omega) (by have := p.len; omega) ?_
          · obtain ⟨⟨c4, F⟩, -⟩ := F
            rw [g1] at F
            obtain ⟨y2, y3, y4, ih⟩ := ih (a + 1) (f ++ g) (some (rowD (rowA t f[a]))) c4 g2 (by omega) (by simp; omega)
            refine ⟨y2, y3, y4, ?_⟩
            rw [eb, ← ih]
            refine whL_step (by simp [q]) ?_
            simp (disch := first | (simp; done) | omega) [q, ai, ix_tab, rngN, l]
            rw [F]
            simp
          · intro i b c j hj hi' hb
            have hj := List.mem_range.mp hj
            have ni := gNotIn_ref enc_nat (by omega) (a := j) (l := b) (n := h.length) (h := h ++ [.lst (b.map fun (i : Nat) => D.int i)]) (by simp)
            have lm : (b.map fun (i : Nat) => D.int i).length < 16777216 := by rw [List.length_map]; omega
            refine ⟨⟨some (.int j), ?_⟩, ?_⟩
            · simp (disch := first | (simp; done) | omega) [turnE, ix_row, ni, txAppend_of lm]
              unfold bfsStep cel
              by_cases q1 : 0 < cellA (rowA t f[a]) j
              · by_cases q2 : j ∈ b
                · simp [q1, q2]
                · simp [q1, q2]
              · simp [q1]
            · unfold bfsStep
              split
              · simp; omega
              · omega
        · have eb : bfs n t (k + 1) a f = f := by rw [bfs, if_neg q]
          rw [eb]
          exact ⟨_, _, _, whL_end (by simp [q])⟩
    obtain ⟨y2, y3, y4, key⟩ := key 11 0 (makers n t) none none makers_part (by omega) (by omega)
    have em : (List.range n).filter (fun (k : Nat) => decide (0 < cel t k k)) = makers n t := rfl
    rw [em]
    have ef : n_rooted = 12 := rfl
    simp only [Int.ofNat_zero, show (11 + 1 : Nat) = 12 from rfl, ef] at key
    simp [ef]
    rw [key]
    have er : bfs n t 11 0 (makers n t) = rootsI n t := rfl
    rw [er]
    simp [natsD]
    rw [back_a0 (by simp)]
  · intro k hk
    have hk := List.mem_range.mp hk
    have r := T.row hk
    simp (disch := first | (simp; done) | omega) [lcT, ix_tab, ix_row]
    unfold cel
    by_cases q : 0 < cellA (rowA t k) k
    · simp [q]
    · simp [q]
/-! ### comes_about -/
def N_comes_about : List Str := ["table", "house", "roots", "others"]
def b_comes_about : List S :=
  [.loop false 1 [.bi .len [.var 0]] false [1] [.iff (.op .lt (.call 14 [.var 0, .var 1]) (.int 0)) [.ret (.tup [.str "short", .var 1])] []],
   .set 2 (.call 67 [.var 0]),
   .set 3 (.lc false 1 [.bi .len [.var 0]] false [1] [.op .notIn (.var 1) (.var 2)] (.var 1) [1]),
   .iff (.bi .any [.lc false 0 [.var 3] false [1] [] (.call 53 [.var 0, .var 1]) [1]]) [.ret (.tup [.str "rootless", .var 3])] [],
   .ret (.tup [.str "comes", .var 2])]
def n_comes_about : Nat := 0
noncomputable def gam_comes_about : Mir := mirA [(67, 1, f_rooted), (14, 2, f_rights), (53, 2, f_is_busy)]
noncomputable def f_comes_about : List D → Hs → R D := runF gam_comes_about false n_comes_about 4 1 b_comes_about
abbrev L_comes_about_0 : List S := [.iff (.op .lt (.call 14 [.var 0, .var 1]) (.int 0)) [.ret (.tup [.str "short", .var 1])] []]
noncomputable abbrev T_comes_about_0 : D → SD → Hs → O := turnO (tgF false [1]) (cutB false (S.evs gam_comes_about n_comes_about L_comes_about_0))
theorem k_comes_about_rooted {ds : List D} {h : Hs} : callR gam_comes_about 67 ds h = if ds.length = 1 then f_rooted ds h else .stk := callR_at rfl
theorem k_comes_about_rights {ds : List D} {h : Hs} : callR gam_comes_about 14 ds h = if ds.length = 2 then f_rights ds h else .stk := callR_at rfl
theorem k_comes_about_is_busy {ds : List D} {h : Hs} : callR gam_comes_about 53 ds h = if ds.length = 2 then f_is_busy ds h else .stk := callR_at rfl
theorem r_comes_about {ds : List D} {h : Hs} (e : ds.length = 1) : f_comes_about ds h = fin false h (S.evs gam_comes_about n_comes_about b_comes_about (ds.map some ++ List.replicate 3 none) h) := runF_eq e
theorem comes_about_eq {n : Nat} {t : List (List Int)} {h : Hs} (T : Tab n t) (n8 : n ≤ 8) : f_comes_about [tabD t] h = .ok (comesD n t) h := by
  have l := T.len
  have rg := fun (k : Nat) (hk : k < n) => rights_eq (i := (k : Int)) (h := h) T.wf (by omega) (by omega) (by omega)
  rw [r_comes_about rfl]
  simp (disch := first | (simp; done) | omega) [b_comes_about, rngN, l]
  have key : ∀ (ks : List Nat) (c : Option D), (∀ k ∈ ks, k < n) → match ks.find? (fun k : Nat => decide (rightsI t k < 0)) with
      | some k => forL (turnO (tgF false [1]) (cutB false (S.evs gam_comes_about n_comes_about [.iff (.op .lt (.call 14 [.var 0, .var 1]) (.int 0)) [.ret (.tup [.str "short", .var 1])] []]))) (ks.map fun (k : Nat) => D.int k) [some (tabD t), c, none, none] h = .rt (.tup [.str "short", .int k]) h
      | none => ∃ c', forL (turnO (tgF false [1]) (cutB false (S.evs gam_comes_about n_comes_about [.iff (.op .lt (.call 14 [.var 0, .var 1]) (.int 0)) [.ret (.tup [.str "short", .var 1])] []]))) (ks.map fun (k : Nat) => D.int k) [some (tabD t), c, none, none] h = .nx [some (tabD t), c', none, none] h := by
    intro ks
    induction ks with
    | nil => exact fun c _ => ⟨c, forL_nil⟩
    | cons k r ih =>
      intro c hk
      have h1 := rg k (hk k List.mem_cons_self)
      by_cases q : rightsI t k < 0
      · rw [List.find?_cons_of_pos (by simpa using q)]
        dsimp only
        rw [List.map_cons]
        refine forL_rt ?_
        simp [turnE, k_comes_about_rights, h1, q]
      · rw [List.find?_cons_of_neg (by simpa using q)]
        have := ih (some (.int k)) fun k' hk' => hk k' (List.mem_cons_of_mem _ hk')
        rw [List.map_cons, forL_nx (s' := [some (tabD t), some (.int k), none, none]) (h' := h) (by simp [turnE, k_comes_about_rights, h1, q])]
        exact this
  have key := key (List.range n) none fun k hk => List.mem_range.mp hk
  unfold comesD
  cases q : (List.range n).find? fun k : Nat => decide (rightsI t k < 0) with
  | some k =>
    rw [q] at key
    dsimp only at key ⊢
    rw [key]
    simp [back_nr]
  | none =>
    rw [q] at key
    obtain ⟨c, key⟩ := key
    rw [key]
    have ro := fun h => rooted_eq (h := h) T n8
    simp (disch := first | (simp; done) | omega) [k_comes_about_rooted, ro, rngN, l]
    rw [lcF (fun (k : Nat) => decide (k ∉ rootsI n t)) (fun (k : Nat) => D.int k) _ (by simp; omega)]
    · have eo : (List.range n).filter (fun (k : Nat) => decide (k ∉ rootsI n t)) = othersI n t := rfl
      rw [eo]
      have lo : (othersI n t).length ≤ n := by
        have := List.length_filter_le (fun k => decide (k ∉ rootsI n t)) (List.range n)
        rw [List.length_range] at this
        exact this
      simp (disch := first | (simp; done) | omega)
      rw [lcM (fun (k : Nat) => .bl (busyB n t k)) _ (by omega)]
      · have ga := gAny_map (h := h) (p := busyB n t) (l := othersI n t)
        have en : D.vl ((othersI n t).map fun (k : Nat) => D.int k) = natsD (othersI n t) := rfl
        simp only [newL_f, bind_ok, bg_any, DL_d, ga, ofO_some, en]
        unfold reachB
        cases z : (othersI n t).any (busyB n t) <;> simp [back_nr]
      · intro k hk
        have hk := List.mem_range.mp (List.mem_filter.mp hk).1
        simp [lcT, k_comes_about_is_busy, is_busy_eq T hk]
    · intro k hk
      have ni := gNotIn_vl enc_nat (by omega) (a := k) (l := rootsI n t) (h := h)
      have en : D.vl ((rootsI n t).map fun (k : Nat) => D.int k) = natsD (rootsI n t) := rfl
      rw [en] at ni
      by_cases z : k ∈ rootsI n t
      · simp [lcT, ni, z]
      · simp [lcT, ni, z]
/-! ### are_houses -/
def N_are_houses : List Str := ["table", "houses", "house"]
def b_are_houses : List S :=
  [.iff (.op .ne (.xf .lenSet [.var 1]) (.bi .len [.var 1])) [.ret (.bl false)] [],
   .ret (.bi .all [.lc false 0 [.var 1] false [2] [] (.ch .le .lt (.int 0) (.var 2) (.bi .len [.var 0])) [2]])]
def n_are_houses : Nat := 0
noncomputable def gam_are_houses : Mir := mirA []
noncomputable def f_are_houses : List D → Hs → R D := runF gam_are_houses false n_are_houses 3 2 b_are_houses
theorem r_are_houses {ds : List D} {h : Hs} (e : ds.length = 2) : f_are_houses ds h = fin false h (S.evs gam_are_houses n_are_houses b_are_houses (ds.map some ++ List.replicate 1 none) h) := runF_eq e
theorem are_houses_eq {n : Nat} {t : List (List Int)} {hs : List Int} {x : D} {h : Hs} (T : Tab n t) (a : LstAt h x (hs.map .int)) (hl : hs.length ≤ 1000) : f_are_houses [tabD t, x] h = .ok (.bl (areB n hs)) h := by
  obtain ⟨c, hc, es⟩ := a.src
  have gl : gLen h [x] = some (.int hs.length) := by rw [a.len, List.length_map]
  have l := T.len
  have gx : lenSetO [x] h = .ok (.int (setLen hs)) h := lenSet_at a (by omega)
  rw [r_are_houses rfl]
  by_cases q : hs.Nodup
  · have e := setLen_iff.mpr q
    simp [b_are_houses, gx, gl, es, l, e]
    rw [lcO_map (f := D.int) (fun i => .bl (inB n i)) hs hc (by omega)]
    · have ga := gAll_map (h := h) (p := fun (i : Int) => inB n i) (l := hs)
      simp only [newL_f, bind_ok, bg_all, DL_d, ga, ofO_some]
      simp [areB, q, back_nr]
    · intro i _
      simp [lcT, l, inB, chR]
      by_cases z : 0 ≤ i <;> simp [z]
  · have e : ¬ setLen hs = hs.length := fun z => q (setLen_iff.mp z)
    have e' : ¬ ((setLen hs : Int) = hs.length) := by omega
    simp [b_are_houses, gx, gl, es, l, e, e', areB, q, back_nr]
/-! ### is_root_list -/
def N_is_root_list : List Str := ["table", "houses", "at", "house", "other"]
def b_is_root_list : List S :=
  [.iff (.not (.call 54 [.var 0, .var 1])) [.ret (.bl false)] [],
   .loop false 1 [.bi .len [.var 1]] false [2] [.set 3 (.ix (.var 1) (.var 2)), .iff (.and (.op .eq (.ix (.ix (.var 0) (.var 3)) (.var 3)) (.int 0)) (.not (.bi .any [.lc false 0 [.sl false (.var 1) [] [.var 2]] false [4] [] (.op .gt (.ix (.ix (.var 0) (.var 4)) (.var 3)) (.int 0)) [4]]))) [.ret (.bl false)] []],
   .ret (.bi .all [.lc false 1 [.bi .len [.var 0]] false [3] [] (.or (.op .isIn (.var 3) (.var 1)) (.not (.call 53 [.var 0, .var 3]))) [3]])]
def n_is_root_list : Nat := 0
noncomputable def gam_is_root_list : Mir := mirA [(54, 2, f_are_houses), (53, 2, f_is_busy)]
noncomputable def f_is_root_list : List D → Hs → R D := runF gam_is_root_list false n_is_root_list 5 2 b_is_root_list
abbrev L_is_root_list_0 : List S := [.set 3 (.ix (.var 1) (.var 2)), .iff (.and (.op .eq (.ix (.ix (.var 0) (.var 3)) (.var 3)) (.int 0)) (.not (.bi .any [.lc false 0 [.sl false (.var 1) [] [.var 2]] false [4] [] (.op .gt (.ix (.ix (.var 0) (.var 4)) (.var 3)) (.int 0)) [4]]))) [.ret (.bl false)] []]
noncomputable abbrev T_is_root_list_0 : D → SD → Hs → O := turnO (tgF false [2]) (cutB false (S.evs gam_is_root_list n_is_root_list L_is_root_list_0))
theorem k_is_root_list_are_houses {ds : List D} {h : Hs} : callR gam_is_root_list 54 ds h = if ds.length = 2 then f_are_houses ds h else .stk := callR_at rfl
theorem k_is_root_list_is_busy {ds : List D} {h : Hs} : callR gam_is_root_list 53 ds h = if ds.length = 2 then f_is_busy ds h else .stk := callR_at rfl
theorem r_is_root_list {ds : List D} {h : Hs} (e : ds.length = 2) : f_is_root_list ds h = fin false h (S.evs gam_is_root_list n_is_root_list b_is_root_list (ds.map some ++ List.replicate 3 none) h) := runF_eq e
theorem is_root_list_eq {n : Nat} {t : List (List Int)} {hs : List Int} {x : D} {h : Hs} (T : Tab n t) (n8 : n ≤ 1000) (a : LstAt h x (hs.map .int)) (hl : hs.length ≤ 1000) : f_is_root_list [tabD t, x] h = .ok (.bl (rootB n t hs)) h := by
  have gl : gLen h [x] = some (.int hs.length) := by rw [a.len, List.length_map]
  have l := T.len
  have ar := are_houses_eq T a hl
  rw [r_is_root_list rfl]
  by_cases q : ¬ areB n hs = true
  · have q := Bool.eq_false_iff.mpr q
    simp [b_is_root_list, k_is_root_list_are_houses, ar, q, rootB, back_nr]
  have q := Classical.not_not.mp q
  have hin : ∀ o ∈ hs, 0 ≤ o ∧ o < n := fun o ho => by
    unfold areB at q
    rw [Bool.and_eq_true, List.all_eq_true] at q
    exact inB_iff.mp (q.2 o ho)
  have F := forL_all (f := fun (i : Nat) => D.int i) (turn := T_is_root_list_0) (h := h) (z := .bl false) (fun (c : Option D × Option D) => [some (tabD t), some x, c.1, c.2, none]) (rootAt t hs) (List.range hs.length) (none, none) ?_
  · by_cases w : (List.range hs.length).all (rootAt t hs) = true
    · obtain ⟨c, F⟩ := F.1 w
      simp (disch := first | (simp; done) | omega) [b_is_root_list, k_is_root_list_are_houses, ar, q, gl, rngN, l]
      rw [F]
      simp (disch := first | (simp; done) | omega) [l, rngN]
      rw [lcM (fun (i : Nat) => .bl (decide ((i : Int) ∈ hs) || !busyB n t i)) _ (by simp; omega)]
      · have ga := gAll_map (h := h) (p := fun (i : Nat) => decide ((i : Int) ∈ hs) || !busyB n t i) (l := List.range n)
        simp only [newL_f, bind_ok, bg_all, DL_d, ga, ofO_some]
        simp [rootB, q, w, coverB, back_nr]
      · intro i hi
        have hi := List.mem_range.mp hi
        have gi := gIn_lst enc_int (by omega) a (i : Int)
        have ib := is_busy_eq (h := h) T hi
        simp [lcT, gi, k_is_root_list_is_busy, ib]
        by_cases z : (i : Int) ∈ hs <;> simp [z]
    · have F := F.2 (Bool.eq_false_iff.mpr w)
      simp (disch := first | (simp; done) | omega) [b_is_root_list, k_is_root_list_are_houses, ar, q, gl, rngN, l]
      rw [F]
      simp [rootB, w, back_nr]
  · intro c k hk
    have hk := List.mem_range.mp hk
    have ix : gIx h x (.int k) = some (.int (hsA hs k)) := by rw [a.ix, atI_int hk]
    obtain ⟨x0, x1⟩ := hin _ (hsA_mem hk)
    have cx := cel_ix (h := h) T x0 x1 x0 (by omega)
    have rx := ix_tab (t := t) (h := h) x0 (by omega)
    have sl : slG false none (some (k : Int)) x h = .ok (.vl ((hs.take k).map .int)) h := by rw [a.sl, newL_f, cut_row]
    have lc : ∀ s, lcO false (tgF false [4]) (E.evT gam_is_root_list []) (E.ev gam_is_root_list (.op .gt (.ix (.ix (.var 0) (.var 4)) (.var 3)) (.int 0))) [4] [some (tabD t), some x, some (.int k), some (.int (hsA hs k)), s] (src0 ((hs.take k).map .int)) h = .ok (.vl ((hs.take k).map fun o => .bl (decide (0 < celI t o (hsA hs k))))) h := fun s => by
      rw [lcM (fun o => .bl (decide (0 < celI t o (hsA hs k)))) _ (by rw [List.length_take]; omega), newL_f]
      intro o ho
      obtain ⟨o0, o1⟩ := hin _ (List.mem_of_mem_take ho)
      have cx := cel_ix (h := h) T o0 o1 x0 (by omega)
      have rx := ix_tab (t := t) (h := h) o0 (by omega)
      simp [lcT, rx, cx]
    have ga := gAny_map (h := h) (p := fun (o : Int) => decide (0 < celI t o (hsA hs k))) (l := hs.take k)
    have key : T_is_root_list_0 (.int k) [some (tabD t), some x, c.1, c.2, none] h = if rootAt t hs k = true then .nx [some (tabD t), some x, some (.int k), some (.int (hsA hs k)), none] h else .rt (.bl false) h := by
      refine turn_go (tgF_one (by simp)) ?_
      by_cases z : celI t (hsA hs k) (hsA hs k) = 0
      · have er : rootAt t hs k = (hs.take k).any fun o => decide (0 < celI t o (hsA hs k)) := by
          unfold rootAt
          rw [decide_eq_true z, Bool.not_true, Bool.false_or]
        rw [er]
        generalize ((hs.take k).any fun o => decide (0 < celI t o (hsA hs k))) = B at ga
        simp [ix, rx, cx, z, sl, -List.map_take]
        rw [lc]
        simp only [bind_ok, bg_any, DL_d, ga, ofO_some]
        cases B <;> simp
      · simp [ix, rx, cx, z, rootAt]
    refine ⟨fun w => ⟨(some (.int k), some (.int (hsA hs k))), by rw [key, if_pos w]⟩, fun w => ?_⟩
    rw [key, w]
    simp
/-! ### ways_on -/
def N_ways_on : List Str := ["table", "known", "found", "at", "house"]
def b_ways_on : List S :=
  [.set 1 (.lc true 1 [.bi .len [.var 0]] false [4] [.op .gt (.op .add (.call 14 [.var 0, .var 4]) (.ix (.ix (.var 0) (.var 4)) (.bi .len [.var 0]))) (.int 0)] (.var 4) [4]),
   .set 2 (.dnw true),
   .set 3 (.int 0),
   .whl false (.op .lt (.var 3) (.bi .len [.var 1])) [.loop false 1 [.bi .len [.var 0]] false [4] [.iff (.and (.op .notIn (.var 4) (.var 1)) (.op .gt (.ix (.ix (.var 0) (.var 4)) (.ix (.var 1) (.var 3))) (.int 0))) [.store (.var 2) (.var 4) (.ix (.var 1) (.var 3)), .expr (.mth .append (.var 1) [.var 4])] []], .set 3 (.op .add (.var 3) (.int 1))],
   .ret (.var 2)]
def n_ways_on : Nat := 12
noncomputable def gam_ways_on : Mir := mirA [(14, 2, f_rights)]
noncomputable def f_ways_on : List D → Hs → R D := runF gam_ways_on false n_ways_on 5 1 b_ways_on
abbrev L_ways_on_0 : List S := [.loop false 1 [.bi .len [.var 0]] false [4] [.iff (.and (.op .notIn (.var 4) (.var 1)) (.op .gt (.ix (.ix (.var 0) (.var 4)) (.ix (.var 1) (.var 3))) (.int 0))) [.store (.var 2) (.var 4) (.ix (.var 1) (.var 3)), .expr (.mth .append (.var 1) [.var 4])] []], .set 3 (.op .add (.var 3) (.int 1))]
abbrev L_ways_on_1 : List S := [.iff (.and (.op .notIn (.var 4) (.var 1)) (.op .gt (.ix (.ix (.var 0) (.var 4)) (.ix (.var 1) (.var 3))) (.int 0))) [.store (.var 2) (.var 4) (.ix (.var 1) (.var 3)), .expr (.mth .append (.var 1) [.var 4])] []]
noncomputable abbrev T_ways_on_1 : D → SD → Hs → O := turnO (tgF false [4]) (cutB false (S.evs gam_ways_on n_ways_on L_ways_on_1))
theorem k_ways_on_rights {ds : List D} {h : Hs} : callR gam_ways_on 14 ds h = if ds.length = 2 then f_rights ds h else .stk := callR_at rfl
theorem r_ways_on {ds : List D} {h : Hs} (e : ds.length = 1) : f_ways_on ds h = fin false h (S.evs gam_ways_on n_ways_on b_ways_on (ds.map some ++ List.replicate 4 none) h) := runF_eq e
/-- known houses, those among them that were come to, the house onward from each -/
structure Way where
  k : List Nat
  d : List Nat
  g : Nat → D
def wayPut (i : Nat) (w : Way) (j : Nat) : Way := ⟨w.k ++ [j], putk w.d j, putg w.g j (.int i)⟩
def wayStep (t : List (List Int)) (i : Nat) (w : Way) (j : Nat) : Way := if j ∉ w.k ∧ 0 < cel t j i then wayPut i w j else w
structure WayP (n : Nat) (t : List (List Int)) (f0 : List Nat) (w : Way) : Prop where
  lt : ∀ x ∈ w.k, x < n
  nd : w.k.Nodup
  ap : w.k = f0 ++ w.d
  on : ∀ j ∈ w.d, ∃ i : Nat, w.g j = .int i ∧ i < n ∧ 0 < cel t j i ∧ w.k.idxOf i < w.k.idxOf j
  nr : ∀ x, (w.g x).nr = true
section
variable {n : Nat} {t : List (List Int)} {f0 : List Nat} {w : Way}
theorem WayP.sub (P : WayP n t f0 w) {j : Nat} (h : j ∈ w.d) : j ∈ w.k := by
  rw [P.ap]
  exact List.mem_append_right _ h
theorem WayP.put {a i j : Nat} (P : WayP n t f0 w) (e : w.k[a]? = some i) (hj : j < n) (nj : j ∉ w.k) (hp : 0 < cel t j i) : WayP n t f0 (wayPut i w j) := by
  have nd : j ∉ w.d := fun q => nj (P.sub q)
  have pk : putk w.d j = w.d ++ [j] := by unfold putk; rw [if_neg nd]
  have ik : i ∈ w.k := List.mem_of_getElem? e
  have ix : ∀ x, x ∈ w.k → (w.k ++ [j]).idxOf x = w.k.idxOf x := fun x hx => by rw [List.idxOf_append, if_pos hx]
  have lj : (w.k ++ [j]).idxOf j = w.k.length := by rw [List.idxOf_append, if_neg nj]; simp
  refine ⟨fun x hx => ?_, ?_, ?_, fun j' hj' => ?_, fun x => ?_⟩
  · rcases List.mem_append.mp hx with h | h
    · exact P.lt x h
    · rw [List.mem_singleton.mp h]; exact hj
  · show (w.k ++ [j]).Nodup
    rw [List.nodup_append]
    exact ⟨P.nd, by simp, fun x hx y hy => by rw [List.mem_singleton] at hy; rw [hy]; exact fun q => nj (by rw [← q]; exact hx)⟩
  · show w.k ++ [j] = f0 ++ putk w.d j
    rw [pk, P.ap, List.append_assoc]
  · have hj' : j' ∈ putk w.d j := hj'
    rw [pk] at hj'
    show ∃ i' : Nat, putg w.g j (.int i) j' = .int i' ∧ i' < n ∧ 0 < cel t j' i' ∧ (w.k ++ [j]).idxOf i' < (w.k ++ [j]).idxOf j'
    rcases List.mem_append.mp hj' with h | h
    · obtain ⟨i', h1, h2, h3, h4⟩ := P.on j' h
      have k1 := P.sub h
      have k2 : i' ∈ w.k := List.idxOf_lt_length_iff.mp (by have := List.idxOf_lt_length_iff.mpr k1; omega)
      refine ⟨i', ?_, h2, h3, by rw [ix i' k2, ix j' k1]; exact h4⟩
      unfold putg
      rw [if_neg (fun q : j' = j => nd (by rw [← q]; exact h))]
      exact h1
    · rw [List.mem_singleton.mp h]
      refine ⟨i, ?_, P.lt i ik, hp, by rw [ix i ik, lj]; exact List.idxOf_lt_length_iff.mpr ik⟩
      unfold putg
      rw [if_pos rfl]
  · show (putg w.g j (.int i) x).nr = true
    unfold putg
    split
    · simp
    · exact P.nr x
theorem WayP.len (P : WayP n t f0 w) : w.k.length ≤ n := pigeon n w.k P.nd P.lt
theorem WayP.dlen (P : WayP n t f0 w) : w.d.length ≤ n := by
  have := P.len
  rw [P.ap, List.length_append] at this
  omega
theorem ways_in {a i : Nat} : ∀ (l : List Nat) (w : Way), (∀ j ∈ l, j < n) → WayP n t f0 w → w.k[a]? = some i → ∃ s, (l.foldl (wayStep t i) w).k = w.k ++ s ∧ WayP n t f0 (l.foldl (wayStep t i) w) ∧ ∀ j ∈ l, 0 < cel t j i → j ∈ (l.foldl (wayStep t i) w).k
  | [], w, _, P, _ => ⟨[], by simp, P, fun j hj => (by cases hj)⟩
  | j :: r, w, hl, P, e => by
    have hj := hl j List.mem_cons_self
    rw [List.foldl_cons]
    by_cases z : j ∉ w.k ∧ 0 < cel t j i
    · have es : wayStep t i w j = wayPut i w j := by unfold wayStep; rw [if_pos z]
      have P' := P.put e hj z.1 z.2
      rw [es]
      obtain ⟨s, h1, h2, h3⟩ := ways_in (a := a) r (wayPut i w j) (fun x hx => hl x (List.mem_cons_of_mem _ hx)) P' (by
        show (w.k ++ [j])[a]? = some i
        rw [List.getElem?_append_left (by obtain ⟨q, _⟩ := List.getElem?_eq_some_iff.mp e; exact q)]
        exact e)
      have h1' : ((r.foldl (wayStep t i) (wayPut i w j))).k = w.k ++ ([j] ++ s) := by rw [h1]; show w.k ++ [j] ++ s = _; rw [List.append_assoc]
      refine ⟨[j] ++ s, h1', h2, fun x hx hc => ?_⟩
      rcases List.mem_cons.mp hx with rfl | hx
      · rw [h1']; simp
      · exact h3 x hx hc
    · have es : wayStep t i w j = w := by unfold wayStep; rw [if_neg z]
      rw [es]
      obtain ⟨s, h1, h2, h3⟩ := ways_in (a := a) r w (fun x hx => hl x (List.mem_cons_of_mem _ hx)) P e
      refine ⟨s, h1, h2, fun x hx hc => ?_⟩
      rcases List.mem_cons.mp hx with rfl | hx
      · rw [h1]
        by_cases y : x ∈ w.k
        · exact List.mem_append_left _ y
        · exact (z ⟨y, hc⟩).elim
      · exact h3 x hx hc
def ways (n : Nat) (t : List (List Int)) : Nat → Nat → Way → Way
  | 0, _, w => w
  | k + 1, a, w => if a < w.k.length then ways n t k (a + 1) ((List.range n).foldl (wayStep t ((w.k[a]?).getD 0)) w) else w
theorem ways_spec : ∀ (k a : Nat) (w : Way), WayP n t f0 w → (∀ m x : Nat, m < a → w.k[m]? = some x → ∀ j, j < n → 0 < cel t j x → j ∈ w.k) → n + 1 ≤ a + k → a ≤ w.k.length → WayP n t f0 (ways n t k a w) ∧ ∀ x ∈ (ways n t k a w).k, ∀ j, j < n → 0 < cel t j x → j ∈ (ways n t k a w).k
  | 0, a, w, P, c, h1, h2 => by
    have := P.len
    omega
  | k + 1, a, w, P, c, h1, h2 => by
    unfold ways
    by_cases q : a < w.k.length
    · rw [if_pos q]
      have e : w.k[a]? = some w.k[a] := List.getElem?_eq_getElem q
      have eg : (w.k[a]?).getD 0 = w.k[a] := by rw [e]; rfl
      rw [eg]
      obtain ⟨s, g1, g2, g3⟩ := ways_in (n := n) (t := t) (a := a) (i := w.k[a]) (List.range n) w (fun j hj => List.mem_range.mp hj) P e
      generalize (List.range n).foldl (wayStep t w.k[a]) w = w' at *
      refine ways_spec k (a + 1) w' g2 (fun m x hm ex j hj cj => ?_) (by omega) (by rw [g1, List.length_append]; omega)
      rw [g1] at ex
      by_cases z : m = a
      · subst z
        rw [List.getElem?_append_left q, e] at ex
        injection ex with ex
        exact g3 j (List.mem_range.mpr hj) (by rw [ex]; exact cj)
      · rw [List.getElem?_append_left (by omega)] at ex
        rw [g1]
        exact List.mem_append_left _ (c m x (by omega) ex j hj cj)
    · rw [if_neg q]
      refine ⟨P, fun x hx j hj cj => ?_⟩
      obtain ⟨m, hm, ex⟩ := List.getElem_of_mem hx
      exact c m x (by omega) (by rw [List.getElem?_eq_getElem hm, ex]) j hj cj
def waysInit (n : Nat) (t : List (List Int)) : List Nat := (List.range n).filter fun k => decide (0 < rightsI t k + cel t k n)
def way0 (n : Nat) (t : List (List Int)) : Way := ⟨waysInit n t, [], fun _ => .non⟩
def waysI (n : Nat) (t : List (List Int)) : Way := ways n t 11 0 (way0 n t)
theorem way0_ok : WayP n t (waysInit n t) (way0 n t) where
  lt := fun x hx => List.mem_range.mp (List.mem_filter.mp hx).1
  nd := List.nodup_range.filter _
  ap := by simp [way0]
  on := fun j hj => by cases hj
  nr := fun x => by simp [way0]
theorem waysI_spec (n8 : n ≤ 8) : WayP n t (waysInit n t) (waysI n t) ∧ ∀ x ∈ (waysI n t).k, ∀ j, j < n → 0 < cel t j x → j ∈ (waysI n t).k := ways_spec 11 0 _ way0_ok (fun m x hm => by omega) (by omega) (by omega)
end
theorem dk_nrW {k : List Nat} {g : Nat → D} (hg : ∀ x, (g x).nr = true) : (vkD k g).nr = true := by
  unfold vkD
  simp only [D.nr, nrL_all, Bool.and_eq_true, List.all_map]
  exact ⟨List.all_eq_true.mpr fun x _ => by simp [natD], List.all_eq_true.mpr fun x _ => hg x⟩
theorem fz_dkW {h1 : Hs} {c q : Nat} {k : List Nat} {g : Nat → D} (hg : ∀ x, (g x).nr = true) (hc : c ≤ q) (e : h1[q]? = some (dkO k g)) : (D.ref q).fz c (fzR 3 h1 c) = vkD k g := by
  have e1 : (D.ref q).fz c (fzR 3 h1 c) = fzR 3 h1 c q := by unfold D.fz; rw [if_neg (by omega)]
  rw [e1]
  unfold fzR
  rw [e]
  show D.vd (k.map natD) (fzL c _ (k.map g)) = _
  rw [fzL_nr]
  · rfl
  · rw [nrL_all, List.all_map]
    exact List.all_eq_true.mpr fun x _ => hg x
def Way.st (w : Way) : Hs := [.lst (w.k.map fun (i : Nat) => D.int i), dkO w.d w.g]
section
variable {n : Nat} {t : List (List Int)} {h : Hs}
theorem way_turn {a j : Nat} {f0 : List Nat} {w : Way} {x4 : Option D} (T : Tab n t) (n8 : n ≤ 8) (P : WayP n t f0 w) (ha : a < w.k.length) (hj : j < n) : T_ways_on_1 (.int j) [some (tabD t), some (.ref h.length), some (.ref (h.length + 1)), some (.int a), x4] (h ++ w.st) = .nx [some (tabD t), some (.ref h.length), some (.ref (h.length + 1)), some (.int a), some (.int j)] (h ++ (wayStep t w.k[a] w j).st) := by
  have l := T.len
  have lk := P.len
  have ld := P.dlen
  have ia := P.lt w.k[a] (List.getElem_mem ha)
  have ek : (h ++ w.st)[h.length]? = some (.lst (w.k.map fun (i : Nat) => D.int i)) := by simp [Way.st]
  have ed : (h ++ w.st)[h.length + 1]? = some (dkO w.d w.g) := by simp [Way.st]
  have ni := gNotIn_ref enc_nat (by omega) (a := j) (l := w.k) ek
  have r := T.row hj
  have gk : gIx (h ++ w.st) (.ref h.length) (.int (a : Int)) = some (.int (w.k[a] : Nat)) := by
    have : atI (w.k.map fun (i : Nat) => D.int i) (a : Int) = some (.int (w.k[a] : Nat)) := by
      rw [atI_map (by omega) (by omega)]
      simp
    simp [gIx_ref ek, this]
  have st1 := storeG_dic (h := h ++ w.st) (n := h.length + 1) (k := w.d) (g := w.g) (q := j) (v := .int (w.k[a] : Nat)) ed (by omega)
  by_cases z : j ∈ w.k
  · have es : wayStep t w.k[a] w j = w := by unfold wayStep; rw [if_neg (fun q => q.1 z)]
    rw [es]
    simp (disch := first | (simp; done) | omega) [turnE, ni, z]
  · by_cases y : 0 < cel t j w.k[a]
    · have es : wayStep t w.k[a] w j = wayPut w.k[a] w j := by unfold wayStep; rw [if_pos ⟨z, y⟩]
      rw [es]
      have y' : 0 < cellA (rowA t j) w.k[a] := y
      have e1 : (h ++ w.st).set (h.length + 1) (dkO (putk w.d j) (putg w.g j (.int (w.k[a] : Nat)))) = h ++ [.lst (w.k.map fun (i : Nat) => D.int i), dkO (putk w.d j) (putg w.g j (.int (w.k[a] : Nat)))] := by simp [Way.st]
      rw [e1] at st1
      have e2 : (wayPut w.k[a] w j).st = [.lst ((w.k.map fun (i : Nat) => D.int i) ++ [.int j]), dkO (putk w.d j) (putg w.g j (.int (w.k[a] : Nat)))] := by simp [wayPut, Way.st]
      rw [e2]
      have lm : (w.k.map fun (i : Nat) => D.int i).length < 16777216 := by rw [List.length_map]; omega
      simp (disch := first | (simp; done) | omega) [turnE, ni, z, gk, ix_tab, ix_row, y', st1, txAppend_of lm]
    · have es : wayStep t w.k[a] w j = w := by unfold wayStep; rw [if_neg (fun q => y q.2)]
      rw [es]
      have y' : ¬ 0 < cellA (rowA t j) w.k[a] := y
      simp (disch := first | (simp; done) | omega) [turnE, ni, z, gk, ix_tab, ix_row, y']
theorem way_back {f0 : List Nat} {w : Way} (P : WayP n t f0 w) : backR false h (.ref (h.length + 1)) (h ++ w.st) = .ok (vkD w.d w.g) h := by
  have e2 : (h ++ w.st)[h.length + 1]? = some (dkO w.d w.g) := by simp [Way.st]
  have ez : fzD (h ++ w.st) h.length (.ref (h.length + 1)) = vkD w.d w.g := by
    unfold fzD
    exact fz_dkW P.nr (by omega) e2
  have nr := dk_nrW (k := w.d) P.nr
  unfold backR
  dsimp only
  rw [ez, if_pos ⟨D.bel_nr h.length _ nr, clB_app.mpr trivial⟩]
  simp
theorem ways_on_eq (T : Tab n t) (n8 : n ≤ 8) : f_ways_on [tabD t] h = .ok (vkD (waysI n t).d (waysI n t).g) h := by
  have l := T.len
  rw [r_ways_on rfl]
  simp (disch := first | (simp; done) | omega) [b_ways_on, rngN, l]
  rw [lcF (fun (k : Nat) => decide (0 < rightsI t k + cel t k n)) (fun (k : Nat) => D.int k) _ (by simp; omega)]
  · simp only [newL_t, thenO_ok]
    have key : ∀ (k a : Nat) (w : Way) (x4 : Option D), WayP n t (waysInit n t) w → n + 1 ≤ a + k → a ≤ w.k.length → ∃ y3 y4, whL (E.ev gam_ways_on (.op .lt (.var 3) (.bi .len [.var 1]))) (cutB false (S.evs gam_ways_on n_ways_on L_ways_on_0)) (k + 1) [some (tabD t), some (.ref h.length), some (.ref (h.length + 1)), some (.int a), x4] (h ++ w.st) = .nx [some (tabD t), some (.ref h.length), some (.ref (h.length + 1)), y3, y4] (h ++ (ways n t k a w).st) := by
      intro k
      induction k with
      | zero =>
        intro a w x4 P h1 h2
        have := P.len
        omega
      | succ k ih =>
        intro a w x4 P h1 h2
        have ek : (h ++ w.st)[h.length]? = some (.lst (w.k.map fun (i : Nat) => D.int i)) := by simp [Way.st]
        have gl : gLen (h ++ w.st) [.ref h.length] = some (.int w.k.length) := by rw [gLen_ref ek, List.length_map]
        by_cases q : a < w.k.length
        · have e : w.k[a]? = some w.k[a] := List.getElem?_eq_getElem q
          obtain ⟨s, g1, g2, g3⟩ := ways_in (n := n) (t := t) (a := a) (i := w.k[a]) (List.range n) w (fun j hj => List.mem_range.mp hj) P e
          have ew : ways n t (k + 1) a w = ways n t k (a + 1) ((List.range n).foldl (wayStep t w.k[a]) w) := by
            rw [ways, if_pos q, e]
            rfl
          have F := forL_sti (f := fun (j : Nat) => D.int j) (turn := T_ways_on_1) (fun (_ : Way) (c : Option D) => [some (tabD t), some (.ref h.length), some (.ref (h.length + 1)), some (.int a), c]) (fun b => h ++ b.st) (wayStep t w.k[a]) (fun _ b => WayP n t (waysInit n t) b ∧ b.k[a]? = some w.k[a]) 100 (List.range n) 0 w x4 (by simp; omega) ⟨P, e⟩ ?_
          · obtain ⟨⟨c4, F⟩, -⟩ := F
            simp only [T_ways_on_1, L_ways_on_1] at F
            obtain ⟨y3, y4, ih⟩ := ih (a + 1) ((List.range n).foldl (wayStep t w.k[a]) w) c4 g2 (by omega) (by rw [g1, List.length_append]; omega)
            refine ⟨y3, y4, ?_⟩
            rw [ew, ← ih]
            refine whL_step (by simp [gl, q]) ?_
            simp (disch := first | (simp; done) | omega) [L_ways_on_0, rngN, l]
            rw [F]
            simp
          · intro i b c j hj hi' hb
            have hj := List.mem_range.mp hj
            obtain ⟨hb1, hb2⟩ := hb
            obtain ⟨la, ea⟩ := List.getElem?_eq_some_iff.mp hb2
            have wt := way_turn (h := h) (x4 := c) T n8 hb1 la hj
            rw [ea] at wt
            refine ⟨⟨some (.int j), wt⟩, ?_⟩
            by_cases y : j ∉ b.k ∧ 0 < cel t j w.k[a]
            · have es : wayStep t w.k[a] b j = wayPut w.k[a] b j := by unfold wayStep; rw [if_pos y]
              rw [es]
              refine ⟨hb1.put hb2 hj y.1 y.2, ?_⟩
              show (b.k ++ [j])[a]? = _
              rw [List.getElem?_append_left la]
              exact hb2
            · have es : wayStep t w.k[a] b j = b := by unfold wayStep; rw [if_neg y]
              rw [es]
              exact ⟨hb1, hb2⟩
        · have ew : ways n t (k + 1) a w = w := by rw [ways, if_neg q]
          rw [ew]
          exact ⟨_, _, whL_end (by simp [gl, q])⟩
    obtain ⟨y3, y4, key⟩ := key 11 0 (way0 n t) none way0_ok (by omega) (by omega)
    have ef : n_ways_on = 12 := rfl
    have e0 : h ++ (way0 n t).st = h ++ [.lst ((waysInit n t).map fun (i : Nat) => D.int i), .dic [] []] := rfl
    have ei : (List.range n).filter (fun (k : Nat) => decide (0 < rightsI t k + cel t k n)) = waysInit n t := rfl
    rw [ei]
    rw [e0] at key
    simp only [L_ways_on_0, Int.ofNat_zero, show (11 + 1 : Nat) = 12 from rfl, ef] at key
    simp [ef]
    rw [key]
    obtain ⟨P, -⟩ := waysI_spec (t := t) n8
    have er : ways n t 11 0 (way0 n t) = waysI n t := rfl
    rw [er]
    simp
    exact way_back P
  · intro k hk
    have hk := List.mem_range.mp hk
    have r := T.row hk
    have rq := fun h => rights_eq (i := (k : Int)) (h := h) T.wf (by omega) (by omega) (by omega)
    have ea := fun h => ix_tab (h := h) (t := t) (i := (k : Int)) (by omega) (by omega)
    have eb := fun h => ix_row (h := h) (r := rowA t k) (k := (n : Int)) (by omega) (by omega)
    have ec : cel t k n = cellA (rowA t k) n := rfl
    rw [ec]
    by_cases q : 0 < rightsI t k + cellA (rowA t k) n
    · simp (disch := first | (simp; done) | omega) [lcT, k_ways_on_rights, rq, ea, eb, l, q]
    · simp (disch := first | (simp; done) | omega) [lcT, k_ways_on_rights, rq, ea, eb, l, q]
end
/-! ### next_lent -/
def N_next_lent : List Str := ["table", "house", "left", "onward", "last", "other"]
def b_next_lent : List S :=
  [.set 4 (.mth .get (.var 3) [.var 1]),
   .loop false 1 [.bi .len [.var 0]] false [5] [.iff (.and (.op .gt (.ix (.ix (.var 2) (.var 1)) (.var 5)) (.int 0)) (.op .ne (.var 5) (.var 4))) [.ret (.var 5)] []],
   .iff (.and (.op .isNot (.var 4) (.non)) (.op .gt (.ix (.ix (.var 2) (.var 1)) (.var 4)) (.int 0))) [.ret (.var 4)] [],
   .ret (.non)]
def n_next_lent : Nat := 0
noncomputable def gam_next_lent : Mir := mirA []
noncomputable def f_next_lent : List D → Hs → R D := runF gam_next_lent false n_next_lent 6 4 b_next_lent
abbrev L_next_lent_0 : List S := [.iff (.and (.op .gt (.ix (.ix (.var 2) (.var 1)) (.var 5)) (.int 0)) (.op .ne (.var 5) (.var 4))) [.ret (.var 5)] []]
noncomputable abbrev T_next_lent_0 : D → SD → Hs → O := turnO (tgF false [5]) (cutB false (S.evs gam_next_lent n_next_lent L_next_lent_0))
theorem r_next_lent {ds : List D} {h : Hs} (e : ds.length = 4) : f_next_lent ds h = fin false h (S.evs gam_next_lent n_next_lent b_next_lent (ds.map some ++ List.replicate 2 none) h) := runF_eq e
/-- the house onward, or None -/
def optD : Option Nat → D
  | some l => .int l
  | none => .non
theorem gNe_int_opt {h : Hs} {j : Nat} {o : Option Nat} : gNe h (.int j) (optD o) = some (.bl (decide (o ≠ some j))) := by
  cases o with
  | some l =>
    show gNe h (.int j) (.int l) = _
    rw [gNe_int]
    congr 2
    rw [decide_eq_decide]
    constructor
    · intro q e
      injection e with e
      exact q (by rw [e])
    · intro q e
      exact q (by congr 1; omega)
  | none =>
    have : gNe h (.int j) .non = some (.bl true) := rfl
    show gNe h (.int j) .non = _
    rw [this]
    simp
section
variable {n i : Nat} {t : List (List Int)} {lf : Nat → Int} {x row ow : D} {last : Option Nat} {h : Hs}
theorem next_loop (hx : gIx h x (.int (i : Int)) = some row) (hr : ∀ j, j < n → gIx h row (.int (j : Int)) = some (.int (lf j))) : ∀ (l : List Nat) (c : Option D), (∀ j ∈ l, j < n) →
    (∃ j, j ∈ l ∧ 0 < lf j ∧ last ≠ some j ∧ forL T_next_lent_0 (l.map fun (j : Nat) => D.int j) [some (tabD t), some (.int i), some x, some ow, some (optD last), c] h = .rt (.int j) h) ∨
    ((∀ j ∈ l, ¬ (0 < lf j ∧ last ≠ some j)) ∧ ∃ c', forL T_next_lent_0 (l.map fun (j : Nat) => D.int j) [some (tabD t), some (.int i), some x, some ow, some (optD last), c] h = .nx [some (tabD t), some (.int i), some x, some ow, some (optD last), c'] h)
  | [], c, _ => .inr ⟨fun j hj => (by cases hj), c, by simp⟩
  | j :: r, c, hl => by
    have hj := hl j List.mem_cons_self
    have hrj := hr j hj
    have ne := gNe_int_opt (h := h) (j := j) (o := last)
    by_cases z : 0 < lf j ∧ last ≠ some j
    · refine .inl ⟨j, List.mem_cons_self, z.1, z.2, ?_⟩
      rw [List.map_cons, forL_rt]
      simp only [z.2, decide_true, ne_eq, not_false_eq_true] at ne
      simp (disch := first | (simp; done) | omega) [turnE, hx, hrj, z.1, ne]
    · have et : T_next_lent_0 (.int j) [some (tabD t), some (.int i), some x, some ow, some (optD last), c] h = .nx [some (tabD t), some (.int i), some x, some ow, some (optD last), some (.int j)] h := by
        by_cases y : 0 < lf j
        · have y2 : last = some j := by
            apply Classical.byContradiction
            intro q
            exact z ⟨y, q⟩
          simp only [y2, ne_eq, not_true_eq_false, decide_false] at ne
          rw [y2]
          simp (disch := first | (simp; done) | omega) [turnE, hx, hrj, y, ne]
        · simp (disch := first | (simp; done) | omega) [turnE, hx, hrj, y]
      rw [List.map_cons, forL_nx et]
      rcases next_loop hx hr r (some (.int j)) (fun k hk => hl k (List.mem_cons_of_mem _ hk)) with ⟨k, h1, h2, h3, h4⟩ | ⟨h1, c', h2⟩
      · exact .inl ⟨k, List.mem_cons_of_mem _ h1, h2, h3, h4⟩
      · refine .inr ⟨fun k hk => ?_, c', h2⟩
        rcases List.mem_cons.mp hk with rfl | hk
        · exact z
        · exact h1 k hk
theorem next_lent_eq (T : Tab n t) (n8 : n ≤ 8) (hx : gIx h x (.int (i : Int)) = some row) (hr : ∀ j, j < n → gIx h row (.int (j : Int)) = some (.int (lf j))) (hd : isDic h ow = true) (hg : getM ow [.int (i : Int)] h = .ok (optD last) h) (hl : ∀ l, last = some l → l < n) :
    ∃ r : Option Nat, f_next_lent [tabD t, .int i, x, ow] h = .ok (optD r) h ∧ (∀ j, r = some j → j < n ∧ 0 < lf j ∧ (last = some j → ∀ k, k < n → k ≠ j → ¬ 0 < lf k)) ∧ (r = none → ∀ j, j < n → ¬ 0 < lf j) := by
  have l := T.len
  rw [r_next_lent rfl]
  simp (disch := first | (simp; done) | omega) [b_next_lent, hd, hg, rngN, l]
  have F := next_loop (t := t) (ow := ow) (last := last) hx hr (List.range n) none fun j hj => List.mem_range.mp hj
  simp only [T_next_lent_0, L_next_lent_0] at F
  rcases F with ⟨j, h1, h2, h3, F⟩ | ⟨no, c, F⟩
  · refine ⟨some j, ?_, fun k e => ?_, fun e => (by cases e)⟩
    · rw [F]
      simp [optD, back_nr]
    · injection e with e
      subst e
      exact ⟨List.mem_range.mp h1, h2, fun e => (h3 e).elim⟩
  · have no : ∀ j, j < n → last ≠ some j → lf j ≤ 0 := fun j hj q => by
      have := no j (List.mem_range.mpr hj)
      by_cases y : 0 < lf j
      · exact (this ⟨y, q⟩).elim
      · omega
    cases last with
    | none =>
      refine ⟨none, ?_, fun k e => (by cases e), fun _ j hj => no j hj (by simp)⟩
      rw [F]
      have ni : ∀ h, gIsNot h .non .non = some (.bl false) := fun h => by simp [gIsNot, gIs0]
      simp [optD, ni, back_nr]
    | some m =>
      have hm := hl m rfl
      have hrm := hr m hm
      have ni : ∀ h, gIsNot h (.int m) .non = some (.bl true) := fun h => by simp [gIsNot, gIs0]
      by_cases y : 0 < lf m
      · refine ⟨some m, ?_, fun k e => ?_, fun e => (by cases e)⟩
        · rw [F]
          simp (disch := first | (simp; done) | omega) [optD, ni, hx, hrm, y, back_nr]
        · injection e with e
          subst e
          exact ⟨hm, y, fun _ k hk ne => no k hk (fun q => ne (by injection q with q; exact q.symm))⟩
      · refine ⟨none, ?_, fun k e => (by cases e), fun _ j hj => ?_⟩
        · rw [F]
          simp (disch := first | (simp; done) | omega) [optD, ni, hx, hrm, y, back_nr]
        · by_cases q : m = j
          · rw [← q]; omega
          · exact no j hj (fun e => q (by injection e))
end
/-! ### lendings -/
def N_lendings : List Str := ["table", "onward", "left", "held", "found", "many", "house", "other", "i", "j", "row"]
def b_lendings : List S :=
  [.set 1 (.call 73 [.var 0]),
   .set 2 (.lc true 1 [.bi .len [.var 0]] false [8] [] (.lc true 1 [.bi .len [.var 0]] false [9] [] (.ite (.op .eq (.var 8) (.var 9)) (.int 0) (.ix (.ix (.var 0) (.var 8)) (.var 9))) [9]) [8]),
   .set 3 (.lc true 1 [.bi .len [.var 0]] false [6] [] (.ix (.ix (.var 0) (.var 6)) (.var 6)) [6]),
   .set 4 (.lst true []),
   .set 5 (.bi .sum [.lc false 0 [.var 2] false [10] [] (.bi .sum [.var 10]) [10]]),
   .whl false (.op .lt (.bi .len [.var 4]) (.var 5)) [.loop false 1 [.bi .len [.var 0]] false [6] [.set 7 (.call 74 [.var 0, .var 6, .var 2, .var 1]), .iff (.and (.op .gt (.ix (.var 3) (.var 6)) (.int 0)) (.op .isNot (.var 7) (.non))) [.store (.ix (.var 2) (.var 6)) (.var 7) (.op .sub (.ix (.ix (.var 2) (.var 6)) (.var 7)) (.int 1)), .store (.var 3) (.var 6) (.op .sub (.ix (.var 3) (.var 6)) (.int 1)), .store (.var 3) (.var 7) (.op .add (.ix (.var 3) (.var 7)) (.int 1)), .expr (.mth .append (.var 4) [.tup [.str "lend", .var 6, .var 7, .int 1]])] []]],
   .ret (.var 4)]
def n_lendings : Nat := 302
noncomputable def gam_lendings : Mir := mirA [(73, 1, f_ways_on), (74, 4, f_next_lent)]
noncomputable def f_lendings : List D → Hs → R D := runF gam_lendings false n_lendings 11 1 b_lendings
abbrev L_lendings_0 : List S := [.loop false 1 [.bi .len [.var 0]] false [6] [.set 7 (.call 74 [.var 0, .var 6, .var 2, .var 1]), .iff (.and (.op .gt (.ix (.var 3) (.var 6)) (.int 0)) (.op .isNot (.var 7) (.non))) [.store (.ix (.var 2) (.var 6)) (.var 7) (.op .sub (.ix (.ix (.var 2) (.var 6)) (.var 7)) (.int 1)), .store (.var 3) (.var 6) (.op .sub (.ix (.var 3) (.var 6)) (.int 1)), .store (.var 3) (.var 7) (.op .add (.ix (.var 3) (.var 7)) (.int 1)), .expr (.mth .append (.var 4) [.tup [.str "lend", .var 6, .var 7, .int 1]])] []]]
abbrev L_lendings_1 : List S := [.set 7 (.call 74 [.var 0, .var 6, .var 2, .var 1]), .iff (.and (.op .gt (.ix (.var 3) (.var 6)) (.int 0)) (.op .isNot (.var 7) (.non))) [.store (.ix (.var 2) (.var 6)) (.var 7) (.op .sub (.ix (.ix (.var 2) (.var 6)) (.var 7)) (.int 1)), .store (.var 3) (.var 6) (.op .sub (.ix (.var 3) (.var 6)) (.int 1)), .store (.var 3) (.var 7) (.op .add (.ix (.var 3) (.var 7)) (.int 1)), .expr (.mth .append (.var 4) [.tup [.str "lend", .var 6, .var 7, .int 1]])] []]
noncomputable abbrev T_lendings_1 : D → SD → Hs → O := turnO (tgF false [6]) (cutB false (S.evs gam_lendings n_lendings L_lendings_1))
theorem k_lendings_ways_on {ds : List D} {h : Hs} : callR gam_lendings 73 ds h = if ds.length = 1 then f_ways_on ds h else .stk := callR_at rfl
theorem k_lendings_next_lent {ds : List D} {h : Hs} : callR gam_lendings 74 ds h = if ds.length = 4 then f_next_lent ds h else .stk := callR_at rfl
theorem r_lendings {ds : List D} {h : Hs} (e : ds.length = 1) : f_lendings ds h = fin false h (S.evs gam_lendings n_lendings b_lendings (ds.map some ++ List.replicate 10 none) h) := runF_eq e
-- needs ways_on
-- needs next_lent
/-- what houses lend to others -/
def lentC (t : List (List Int)) : Nat → Nat → Int := fun i j => if j = i then 0 else cel t i j
def onwI (n : Nat) (t : List (List Int)) (h : Nat) : Option Nat := if h ∈ (waysI n t).d then (match (waysI n t).g h with | .int i => some i.toNat | _ => none) else none
def finI (n : Nat) (t : List (List Int)) : Nat → Int := fun h => rightsI t h + cel t h n
section
variable {n : Nat} {t : List (List Int)}
theorem lentC_row {h : Nat} (hn : h < n) : sm n (fun j => lentC t h j) = sm n (fun j => cel t h j) - cel t h h := by
  have := sm_upd (f := fun j => cel t h j) (v := 0) hn
  show sm n (fun j => if j = h then 0 else cel t h j) = _
  omega
theorem lentC_col {h : Nat} (hn : h < n) : sm n (fun j => lentC t j h) = sm n (fun j => cel t j h) - cel t h h := by
  have e : sm n (fun j => lentC t j h) = sm n fun j => if j = h then 0 else cel t j h := sm_congr fun j _ => by
    show (if h = j then _ else _) = _
    by_cases z : j = h
    · rw [if_pos z, if_pos z.symm]
    · rw [if_neg z, if_neg (fun q => z q.symm)]
  have := sm_upd (f := fun j => cel t j h) (v := 0) hn
  omega
theorem fin_lent (T : Tab n t) {h : Nat} (hn : h < n) : finI n t h = cel t h h + sm n (fun j => lentC t j h) - sm n fun j => lentC t h j := by
  have := rights_sm T hn
  rw [lentC_row hn, lentC_col hn]
  unfold finI
  omega
theorem comes_fin (T : Tab n t) (nn : NNt n t) (c : comesB n t = true) {h : Nat} (hn : h < n) : 0 ≤ finI n t h := by
  unfold comesB at c
  rw [Bool.and_eq_true] at c
  have := of_decide_eq_true (List.all_eq_true.mp c.1 h (List.mem_range.mpr hn))
  have := nn h n hn (by omega)
  unfold finI
  omega
/-- each house that lends has something at the end, or a house onward -/
theorem onward_ok (T : Tab n t) (n8 : n ≤ 8) (nn : NNt n t) (c : comesB n t = true) : ∀ h, h < n → 0 < sm n (fun j => lentC t h j) → 0 < finI n t h ∨ ∃ l, onwI n t h = some l ∧ l < n ∧ 0 < lentC t h l ∧ (waysI n t).k.idxOf l < (waysI n t).k.idxOf h := by
  intro h hn hs
  obtain ⟨P, cl⟩ := waysI_spec (t := t) n8
  have a0 : ∀ i j, i < n → j < n → 0 ≤ lentC t i j := fun i j hi hj => by
    show 0 ≤ if j = i then (0 : Int) else _
    split
    · omega
    · exact nn i j hi (by omega)
  have kin : ∀ i, i < n → 0 < finI n t i → i ∈ (waysI n t).k := fun i hi q => by
    rw [P.ap]
    exact List.mem_append_left _ (List.mem_filter.mpr ⟨List.mem_range.mpr hi, decide_eq_true q⟩)
  by_cases z : h ∈ (waysI n t).k
  · rw [P.ap] at z
    rcases List.mem_append.mp z with z | z
    · exact .inl (of_decide_eq_true (List.mem_filter.mp z).2)
    · obtain ⟨i, e, hi, ci, ri⟩ := P.on h z
      refine .inr ⟨i, ?_, hi, ?_, ri⟩
      · unfold onwI
        rw [if_pos z, e]
        rfl
      · have ne : i ≠ h := fun q => by rw [q] at ri; omega
        show 0 < if i = h then (0 : Int) else _
        rw [if_neg ne]
        exact ci
  · exfalso
    have out := fun {x : Nat} (hx : x < n) (nx : x ∉ (waysI n t).k) => out_of (n := n) (a := lentC t) (mk := fun i => cel t i i) (fin := finI n t) (K := fun i => i ∈ (waysI n t).k) a0 (fun i hi => nn i i hi (by omega)) (fun i hi => fin_lent T hi) (fun i hi => comes_fin T nn c hi) kin (fun i j hi hj kj q => cl j kj i hi (by
      have q : 0 < if j = i then (0 : Int) else cel t i j := q
      split at q
      · omega
      · exact q)) hx nx
    have rk : ∀ x, Reach n t x → x ∈ (waysI n t).k := fun x r => by
      induction r with
      | @mk i hi ci =>
        apply Classical.byContradiction
        intro nx
        have := (out hi nx).1
        omega
      | @to i j ri hj cij ih =>
        apply Classical.byContradiction
        intro nx
        have q := (out hj nx).2 i ri.lt ih
        have ne : ¬ j = i := fun q => nx (q ▸ ih)
        have q : (if j = i then (0 : Int) else cel t i j) = 0 := q
        rw [if_neg ne] at q
        omega
    have nr : h ∉ rootsI n t := fun q => z (rk h ((roots_iff n8).mp q))
    unfold comesB reachB at c
    rw [Bool.and_eq_true] at c
    have nb : busyB n t h = false := by
      have := c.2
      simp only [Bool.not_eq_true', List.any_eq_false] at this
      have := this h (List.mem_filter.mpr ⟨List.mem_range.mpr hn, decide_eq_true nr⟩)
      simpa using this
    unfold busyB at nb
    rw [Bool.or_eq_false_iff] at nb
    have lb := of_decide_eq_false nb.1
    have e2 : lentByI t h = sm n (fun j => cel t h j) - cel t h h := by
      unfold lentByI
      rw [T.len, sum_take_sm (by have := T.row hn; omega)]
      rfl
    rw [lentC_row hn] at hs
    omega
end
/-! the walk -/
def leftL (n : Nat) (left : Nat → Nat → Int) : List (List Int) := (List.range n).map fun i => (List.range n).map fun j => left i j
def heldL (n : Nat) (held : Nat → Int) : List Int := (List.range n).map held
def lendD (p : Nat × Nat) : D := .tup [.str "lend", .int p.1, .int p.2, .int 1]
/-- a row of lendings: each by a house that holds something -/
inductive Run (n : Nat) (l0 : Nat → Nat → Int) (h0 : Nat → Int) : List (Nat × Nat) → (Nat → Nat → Int) → (Nat → Int) → Prop where
  | nil : Run n l0 h0 [] l0 h0
  | snoc {ps l hd i j} : Run n l0 h0 ps l hd → i < n → j < n → i ≠ j → 0 < l i j → 0 < hd i → Run n l0 h0 (ps ++ [(i, j)]) (lendL l i j) (lendH hd i j)
theorem leftL_len {n : Nat} {l : Nat → Nat → Int} : (leftL n l).length = n := by simp [leftL]
theorem leftL_at {n i : Nat} {l : Nat → Nat → Int} (hi : i < n) : (leftL n l)[i]? = some ((List.range n).map fun j => l i j) := by
  simp [leftL, hi]
theorem heldL_len {n : Nat} {f : Nat → Int} : (heldL n f).length = n := by simp [heldL]
theorem heldL_at {n i : Nat} {f : Nat → Int} (hi : i < n) : atI ((heldL n f).map D.int) (i : Int) = some (.int (f i)) := by
  rw [atI_map (by omega) (by rw [heldL_len]; omega)]
  simp [heldL]
theorem heldL_set {n i : Nat} {f : Nat → Int} {v : Int} (hi : i < n) : (heldL n f).set i v = heldL n fun x => if x = i then v else f x := by
  refine List.ext_getElem (by simp [heldL]) fun k h1 h2 => ?_
  rw [List.getElem_set]
  simp only [heldL, List.getElem_map, List.getElem_range]
  by_cases z : i = k
  · rw [if_pos z, if_pos z.symm]
  · rw [if_neg z, if_neg (fun q => z q.symm)]
theorem lendH_two {i j : Nat} {f : Nat → Int} (ne : i ≠ j) : (fun x => if x = j then ((fun x => if x = i then f i - 1 else f x) j) + 1 else (fun x => if x = i then f i - 1 else f x) x) = lendH f i j := by
  funext x
  unfold lendH
  by_cases z : x = j
  · rw [if_pos z, if_pos z]
    dsimp only
    rw [if_neg (fun q => ne q.symm)]
  · rw [if_neg z, if_neg z]
theorem leftL_lend {n i j : Nat} {l : Nat → Nat → Int} (hi : i < n) : (leftL n l).set i (((List.range n).map fun y => l i y).set j (l i j - 1)) = leftL n (lendL l i j) := by
  refine List.ext_getElem (by simp [leftL]) fun k h1 h2 => ?_
  rw [List.getElem_set]
  simp only [leftL, List.getElem_map, List.getElem_range]
  by_cases z : i = k
  · rw [if_pos z]
    subst z
    refine List.ext_getElem (by simp) fun y h3 h4 => ?_
    rw [List.getElem_set]
    simp only [List.getElem_map, List.getElem_range]
    unfold lendL
    rw [if_pos rfl]
    by_cases w : j = y
    · rw [if_pos w, if_pos w.symm]
    · rw [if_neg w, if_neg (fun q => w q.symm)]
  · rw [if_neg z]
    refine List.map_congr_left fun y _ => ?_
    unfold lendL
    rw [if_neg (fun q => z q.symm)]
/-- the store of the lendings: left is object a, its rows are the objects ms; held is b, found is c -/
structure LnS (h hs : Hs) (n a b c : Nat) (ms : List Nat) (left : Nat → Nat → Int) (held : Nat → Int) (ds : List D) : Prop where
  ext : Ext h hs
  rows : Rows hs a ms (leftL n left)
  hb : hs[b]? = some (.lst ((heldL n held).map D.int))
  hc : hs[c]? = some (.lst ds)
  ml : ∀ m ∈ ms, h.length ≤ m
  bl : h.length ≤ b
  cl : h.length ≤ c
  nb : b ∉ ms
  nc : c ∉ ms
  ab : b ≠ a
  ac : c ≠ a
  bc : b ≠ c
section
variable {n : Nat} {h hs : Hs} {a b c : Nat} {ms : List Nat} {left : Nat → Nat → Int} {held : Nat → Int} {ds : List D}
theorem LnS.rix (S : LnS h hs n a b c ms left held ds) {i : Nat} (hi : i < n) : ∃ m, ms[i]? = some m ∧ gIx hs (.ref a) (.int (i : Int)) = some (.ref m) ∧ hs[m]? = some (.lst (((List.range n).map fun y => left i y).map .int)) := by
  obtain ⟨m, e1, e2, e3⟩ := S.rows.ix (i := (i : Int)) (by omega) (by rw [leftL_len]; omega)
  simp only [Int.toNat_natCast] at e1 e3
  refine ⟨m, e1, e2, ?_⟩
  rw [e3]
  simp [leftL]
theorem LnS.lend (S : LnS h hs n a b c ms left held ds) {i j m : Nat} (hi : i < n) (hj : j < n) (ne : i ≠ j) (em : ms[i]? = some m) (d : D) :
    let h1 := hs.set m (.lst ((((List.range n).map fun y => left i y).set j (left i j - 1)).map D.int))
    let h2 := h1.set b (.lst ((heldL n fun x => if x = i then held i - 1 else held x).map D.int))
    let h3 := h2.set b (.lst ((heldL n (lendH held i j)).map D.int))
    LnS h (h3.set c (.lst (ds ++ [d]))) n a b c ms (lendL left i j) (lendH held i j) (ds ++ [d]) := by
  have hm := List.mem_of_getElem? em
  have mb : m ≠ b := fun q => S.nb (q ▸ hm)
  have mc : m ≠ c := fun q => S.nc (q ▸ hm)
  have lb := lt_of_get S.hb
  have lc := lt_of_get S.hc
  have R1 := S.rows.setRow em (((List.range n).map fun y => left i y).set j (left i j - 1))
  rw [leftL_lend hi] at R1
  refine ⟨(((S.ext.set (S.ml m hm) _).set S.bl _).set S.bl _).set S.cl _, ((R1.other _ S.ab S.nb).other _ S.ab S.nb).other _ S.ac S.nc, ?_, ?_, S.ml, S.bl, S.cl, S.nb, S.nc, S.ab, S.ac, S.bc⟩
  · rw [List.getElem?_set_ne (fun q => S.bc q.symm), List.getElem?_set_self (by simp; omega)]
  · rw [List.getElem?_set_self (by simp; omega)]
end
theorem gIx_lends {h : Hs} {n m j : Nat} {f : Nat → Int} (e : h[m]? = some (.lst (((List.range n).map f).map D.int))) (hj : j < n) : gIx h (.ref m) (.int (j : Int)) = some (.int (f j)) := by
  rw [gIx_ref e, atI_map (by omega) (by simp; omega)]
  simp
section
variable {n : Nat} {t : List (List Int)} {h hs : Hs} {a b c : Nat} {ms : List Nat} {left : Nat → Nat → Int} {held : Nat → Int} {ds : List D} {many : Int}
theorem onw_get (n8 : n ≤ 8) {i : Nat} {h : Hs} : getM (vkD (waysI n t).d (waysI n t).g) [.int (i : Int)] h = .ok (optD (onwI n t i)) h ∧ ∀ l, onwI n t i = some l → l < n := by
  obtain ⟨P, -⟩ := waysI_spec (t := t) n8
  rw [get_dic dicU_vk]
  unfold onwI
  by_cases z : i ∈ (waysI n t).d
  · obtain ⟨k, e, hk, -⟩ := P.on i z
    rw [if_pos z, if_pos z, e]
    refine ⟨rfl, fun l q => ?_⟩
    injection q with q
    omega
  · rw [if_neg z, if_neg z]
    exact ⟨rfl, fun l q => (by cases q)⟩
theorem lend_turn {i : Nat} {x6 x7 : Option D} (T : Tab n t) (n8 : n ≤ 8) (S : LnS h hs n a b c ms left held ds) (hi : i < n) (hd : ds.length < 1000) (dg : left i i = 0) :
    ∃ y7, T_lendings_1 (.int i) [some (tabD t), some (vkD (waysI n t).d (waysI n t).g), some (.ref a), some (.ref b), some (.ref c), some (.int many), x6, x7, none, none, none] hs = .nx [some (tabD t), some (vkD (waysI n t).d (waysI n t).g), some (.ref a), some (.ref b), some (.ref c), some (.int many), some (.int i), y7, none, none, none] hs ∧ ¬ (0 < sm n (fun j => left i j) ∧ 0 < held i) ∨
    ∃ j y7 hs', T_lendings_1 (.int i) [some (tabD t), some (vkD (waysI n t).d (waysI n t).g), some (.ref a), some (.ref b), some (.ref c), some (.int many), x6, x7, none, none, none] hs = .nx [some (tabD t), some (vkD (waysI n t).d (waysI n t).g), some (.ref a), some (.ref b), some (.ref c), some (.int many), some (.int i), y7, none, none, none] hs' ∧ j < n ∧ i ≠ j ∧ 0 < left i j ∧ 0 < held i ∧ (onwI n t i = some j → ∀ k, k < n → k ≠ j → ¬ 0 < left i k) ∧ LnS h hs' n a b c ms (lendL left i j) (lendH held i j) (ds ++ [lendD (i, j)]) := by
  obtain ⟨m, em, gm, rm⟩ := S.rix hi
  obtain ⟨hg, hl⟩ := onw_get (t := t) n8 (i := i) (h := hs)
  have gr : ∀ j, j < n → gIx hs (.ref m) (.int (j : Int)) = some (.int (left i j)) := fun j hj => gIx_lends rm hj
  obtain ⟨r, er, r1, r2⟩ := next_lent_eq (x := .ref a) (row := .ref m) (ow := vkD (waysI n t).d (waysI n t).g) (lf := fun j => left i j) (last := onwI n t i) (h := hs) T n8 gm gr (isDic_dic dicU_vk) hg hl
  have gb : gIx hs (.ref b) (.int (i : Int)) = some (.int (held i)) := by rw [gIx_ref S.hb, heldL_at hi]
  cases r with
  | none =>
    have z : ¬ 0 < sm n fun j => left i j := fun q => by
      obtain ⟨k, hk, pk⟩ := sm_pos q
      exact r2 rfl k hk pk
    refine ⟨some .non, .inl ⟨?_, fun q => z q.1⟩⟩
    by_cases y : 0 < held i
    · simp [turnE, k_lendings_next_lent, er, optD, gb, y]
    · simp [turnE, k_lendings_next_lent, er, optD, gb, y]
  | some j =>
    obtain ⟨hj, lp, ln⟩ := r1 j rfl
    have ne : i ≠ j := fun q => by
      rw [← q] at lp
      omega
    by_cases y : 0 < held i
    · refine ⟨some (.int j), .inr ⟨j, some (.int j), _, ?_, hj, ne, lp, y, fun q => ln q, S.lend hi hj ne em (lendD (i, j))⟩⟩
      have hm := List.mem_of_getElem? em
      have mb : m ≠ b := fun q => S.nb (q ▸ hm)
      have mc : m ≠ c := fun q => S.nc (q ▸ hm)
      have lb := lt_of_get S.hb
      have s1 : storeG (.ref m) (.int (j : Int)) (.int (left i j - 1)) hs = some (hs.set m (.lst ((((List.range n).map fun y => left i y).set j (left i j - 1)).map D.int))) := by
        rw [storeG_of rm (by omega) (by simp; omega), Int.toNat_natCast, List.map_set]
      have grj := gr j hj
      generalize eh1 : hs.set m (.lst ((((List.range n).map fun y => left i y).set j (left i j - 1)).map D.int)) = h1 at *
      have b1 : h1[b]? = some (.lst ((heldL n held).map D.int)) := by rw [← eh1, List.getElem?_set_ne mb]; exact S.hb
      have c1 : h1[c]? = some (.lst ds) := by rw [← eh1, List.getElem?_set_ne mc]; exact S.hc
      have g1 : gIx h1 (.ref b) (.int (i : Int)) = some (.int (held i)) := by rw [gIx_ref b1, heldL_at hi]
      have s2 : storeG (.ref b) (.int (i : Int)) (.int (held i - 1)) h1 = some (h1.set b (.lst ((heldL n fun x => if x = i then held i - 1 else held x).map D.int))) := by
        rw [storeG_of b1 (by omega) (by simp [heldL_len]; omega), Int.toNat_natCast, ← heldL_set hi, List.map_set]
      have l1 := lt_of_get b1
      have b2 : (h1.set b (.lst ((heldL n fun x => if x = i then held i - 1 else held x).map D.int)))[b]? = some (.lst ((heldL n fun x => if x = i then held i - 1 else held x).map D.int)) := List.getElem?_set_self l1
      have c2 : (h1.set b (.lst ((heldL n fun x => if x = i then held i - 1 else held x).map D.int)))[c]? = some (.lst ds) := by rw [List.getElem?_set_ne S.bc]; exact c1
      generalize eh2 : h1.set b (.lst ((heldL n fun x => if x = i then held i - 1 else held x).map D.int)) = h2 at *
      have g2 : gIx h2 (.ref b) (.int (j : Int)) = some (.int (held j)) := by rw [gIx_ref b2, heldL_at hj, if_neg (fun q => ne q.symm)]
      have s3 : storeG (.ref b) (.int (j : Int)) (.int (held j + 1)) h2 = some (h2.set b (.lst ((heldL n (lendH held i j)).map D.int))) := by
        rw [storeG_of b2 (by omega) (by simp [heldL_len]; omega), Int.toNat_natCast, ← List.map_set, heldL_set hj]
        rfl
      have c3 : (h2.set b (.lst ((heldL n (lendH held i j)).map D.int)))[c]? = some (.lst ds) := by rw [List.getElem?_set_ne S.bc]; exact c2
      generalize eh3 : h2.set b (.lst ((heldL n (lendH held i j)).map D.int)) = h3 at *
      have ni : gIsNot hs (.int (j : Int)) .non = some (.bl true) := by simp [gIsNot, gIs0]
      have ap := lstM_of c3 (txAppend_of (h := h3) (d := lendD (i, j)) (l := ds) (by omega))
      unfold lendD at ap ⊢
      simp [turnE, k_lendings_next_lent, er, optD, gb, y, ni, gm, grj, s1, g1, s2, g2, s3, isLst_ref c3, ap]
    · refine ⟨some (.int j), .inl ⟨?_, fun q => y q.2⟩⟩
      simp [turnE, k_lendings_next_lent, er, optD, gb, y]
end
theorem range_sm {f : Nat → Int} : ∀ {n : Nat}, ((List.range n).map f).sum = sm n f
  | 0 => rfl
  | n + 1 => by
    rw [List.range_succ, List.map_append, List.sum_append, range_sm (n := n)]
    simp [sm]
section
variable {n : Nat} {t : List (List Int)} {h : Hs} {a b c : Nat} {ms : List Nat} {many : Int}
/-- how far the lendings have come, in the store too -/
structure LnP (t : List (List Int)) (h hs : Hs) (n a b c : Nat) (ms : List Nat) (many : Int) (left : Nat → Nat → Int) (held : Nat → Int) (ps : List (Nat × Nat)) : Prop where
  s : LnS h hs n a b c ms left held (ps.map lendD)
  p : LendP n (lentC t) (onwI n t) (finI n t) many left held ps.length
  r : Run n (lentC t) (fun i => cel t i i) ps left held
theorem LendP.most {n m : Nat} {t0 left : Nat → Nat → Int} {ow : Nat → Option Nat} {held fin : Nat → Int} {many : Int} (P : LendP n t0 ow fin many left held m) : (m : Int) ≤ many := by
  have := P.cnt
  have := sm_nn (n := n) (f := fun x => sm n fun y => left x y) fun i hi => sm_nn fun j hj => P.l0 i j hi hj
  omega
theorem lend_pass {left : Nat → Nat → Int} {held : Nat → Int} {ps : List (Nat × Nat)} {x6 x7 : Option D} {hs : Hs} (T : Tab n t) (n8 : n ≤ 8) (nn : NNt n t) (cm : comesB n t = true) (m3 : many ≤ 300) (L : LnP t h hs n a b c ms many left held ps) (lt : (ps.length : Int) < many) :
    ∃ left' held' ps' y6 y7 hs', forL T_lendings_1 ((List.range n).map fun (i : Nat) => D.int i) [some (tabD t), some (vkD (waysI n t).d (waysI n t).g), some (.ref a), some (.ref b), some (.ref c), some (.int many), x6, x7, none, none, none] hs = .nx [some (tabD t), some (vkD (waysI n t).d (waysI n t).g), some (.ref a), some (.ref b), some (.ref c), some (.int many), y6, y7, none, none, none] hs' ∧ LnP t h hs' n a b c ms many left' held' ps' ∧ ps.length < ps'.length := by
  have F := forL_relI (f := fun (i : Nat) => D.int i) (turn := T_lendings_1) (fun i (_ : Unit) s hx => ∃ left' held' ps' y6 y7, s = [some (tabD t), some (vkD (waysI n t).d (waysI n t).g), some (.ref a), some (.ref b), some (.ref c), some (.int many), y6, y7, none, none, none] ∧ LnP t h hx n a b c ms many left' held' ps' ∧ (ps.length < ps'.length ∨ (left' = left ∧ held' = held ∧ ps' = ps ∧ ∀ k, k < i → ¬ (0 < sm n (fun j => left k j) ∧ 0 < held k)))) (fun b _ => b) (List.range n) () _ hs ⟨left, held, ps, x6, x7, rfl, L, .inr ⟨rfl, rfl, rfl, fun k hk => by omega⟩⟩ ?_
  · obtain ⟨s', h', F, left', held', ps', y6, y7, rfl, L', z⟩ := F
    rcases z with z | ⟨rfl, rfl, rfl, z⟩
    · exact ⟨left', held', ps', y6, y7, h', F, L', z⟩
    · exfalso
      obtain ⟨g, g1, g2, g3⟩ := L.p.go (rank := fun x => (waysI n t).k.idxOf x) (fun i hi => comes_fin T nn cm hi) (onward_ok T n8 nn cm) lt
      rw [List.length_range] at z
      exact z g g1 ⟨g2, g3⟩
  · rintro i b s hx k ek ⟨left', held', ps', y6, y7, rfl, L', z⟩
    obtain ⟨hk, ek⟩ := List.getElem?_eq_some_iff.mp ek
    rw [List.length_range] at hk
    rw [List.getElem_range] at ek
    subst ek
    have lm := L'.p.most
    obtain ⟨w7, w⟩ := lend_turn (many := many) (x6 := y6) (x7 := y7) T n8 L'.s hk (by rw [List.length_map]; omega) (L'.p.dg i hk)
    rcases w with ⟨w1, w2⟩ | ⟨j, w7, hs2, w1, w2, w3, w4, w5, w6, w8⟩
    · refine ⟨_, _, .inl w1, left', held', ps', _, _, rfl, L', ?_⟩
      rcases z with z | ⟨z1, z2, z3, z⟩
      · exact .inl z
      · refine .inr ⟨z1, z2, z3, fun k hk' => ?_⟩
        by_cases q : k = i
        · rw [q, ← z1, ← z2]
          exact w2
        · exact z k (by omega)
    · refine ⟨_, _, .inl w1, lendL left' i j, lendH held' i j, ps' ++ [(i, j)], _, _, rfl, ⟨?_, ?_, L'.r.snoc hk w2 w3 w4 w5⟩, .inl ?_⟩
      · rw [List.map_append]
        exact w8
      · rw [List.length_append]
        exact L'.p.step hk w2 w4 w5 w6
      · rw [List.length_append, List.length_singleton]
        rcases z with z | ⟨-, -, z, -⟩
        · omega
        · rw [z]
          omega
theorem lend_while {hs : Hs} (T : Tab n t) (n8 : n ≤ 8) (nn : NNt n t) (cm : comesB n t = true) (m3 : many ≤ 300) : ∀ (k : Nat) (left : Nat → Nat → Int) (held : Nat → Int) (ps : List (Nat × Nat)) (x6 x7 : Option D) (hs : Hs), LnP t h hs n a b c ms many left held ps → many ≤ ps.length + k →
    ∃ left' held' ps' y6 y7 hs', whL (E.ev gam_lendings (.op .lt (.bi .len [.var 4]) (.var 5))) (cutB false (S.evs gam_lendings n_lendings L_lendings_0)) (k + 1) [some (tabD t), some (vkD (waysI n t).d (waysI n t).g), some (.ref a), some (.ref b), some (.ref c), some (.int many), x6, x7, none, none, none] hs = .nx [some (tabD t), some (vkD (waysI n t).d (waysI n t).g), some (.ref a), some (.ref b), some (.ref c), some (.int many), y6, y7, none, none, none] hs' ∧ LnP t h hs' n a b c ms many left' held' ps' ∧ (ps'.length : Int) = many := by
  have l := T.len
  intro k
  induction k with
  | zero =>
    intro left held ps x6 x7 hs L hk
    have lm := L.p.most
    have gl : gLen hs [.ref c] = some (.int ps.length) := by rw [gLen_ref L.s.hc, List.length_map]
    exact ⟨left, held, ps, x6, x7, hs, whL_end (by simp [gl]; omega), L, by omega⟩
  | succ k ih =>
    intro left held ps x6 x7 hs L hk
    have lm := L.p.most
    have gl : gLen hs [.ref c] = some (.int ps.length) := by rw [gLen_ref L.s.hc, List.length_map]
    by_cases q : (ps.length : Int) < many
    · obtain ⟨left', held', ps', y6, y7, hs', F, L', lt⟩ := lend_pass (x6 := x6) (x7 := x7) T n8 nn cm m3 L q
      obtain ⟨left2, held2, ps2, z6, z7, hs2, F2, L2, e2⟩ := ih left' held' ps' y6 y7 hs' L' (by omega)
      refine ⟨left2, held2, ps2, z6, z7, hs2, ?_, L2, e2⟩
      rw [← F2]
      refine whL_step (by simp [gl, q]) ?_
      simp only [T_lendings_1, L_lendings_1] at F
      simp (disch := first | (simp; done) | omega) [L_lendings_0, rngN, l]
      rw [F]
      simp
    · exact ⟨left, held, ps, x6, x7, hs, whL_end (by simp [gl]; omega), L, by omega⟩
theorem lendings_eq (T : Tab n t) (n8 : n ≤ 8) (nn : NNt n t) (cm : comesB n t = true) (m3 : sm n (fun x => sm n fun y => lentC t x y) ≤ 300) :
    ∃ left held ps, f_lendings [tabD t] h = .ok (.vl (ps.map lendD)) h ∧ Run n (lentC t) (fun i => cel t i i) ps left held ∧ (ps.length : Int) = sm n (fun x => sm n fun y => lentC t x y) ∧ ∀ i j, i < n → j < n → left i j = 0 := by
  have l := T.len
  rw [r_lendings rfl]
  simp (disch := first | (simp; done) | omega) [b_lendings, k_lendings_ways_on, ways_on_eq T n8, rngN, l]
  have G := lc_rows0 (f := fun (i : Nat) => D.int i) (ft := tgF false [8]) (fb := E.evT gam_lendings []) (fe := E.ev gam_lendings (.lc true 1 [.bi .len [.var 0]] false [9] [] (.ite (.op .eq (.var 8) (.var 9)) (.int 0) (.ix (.ix (.var 0) (.var 8)) (.var 9))) [9])) (s := [some (tabD t), some (vkD (waysI n t).d (waysI n t).g), none, none, none, none, none, none, none, none, none]) (vs := [8]) (fun i => (List.range n).map fun j => lentC t i j) (List.range n) h (by simp; omega) ?_
  · obtain ⟨h1, a, ms, e1, x1, R, ml, al⟩ := G
    rw [e1]
    have la := lt_of_get R.out
    have lm := R.lt
    simp (disch := first | (simp; done) | omega) [rngN, l]
    rw [lcM (fun (i : Nat) => D.int (cel t i i)) _ (by simp; omega)]
    · simp
      have x2 := (Ext.refl h1).app [HO'.lst ((List.range n).map fun i => D.int (cel t i i)), HO'.lst []]
      have R2 := R.ext x2
      have em : ms.map D.ref = (List.range n).map fun i => D.ref (ms[i]?.getD 0) := by
        have lr := R.len
        rw [List.length_map, List.length_range] at lr
        refine List.ext_getElem (by simp [lr]) fun i h1 h2 => ?_
        simp at h1
        simp [List.getElem?_eq_getElem h1]
      have hb : (h1 ++ [HO'.lst ((List.range n).map fun i => D.int (cel t i i)), HO'.lst []])[h1.length]? = some (.lst ((heldL n fun i => cel t i i).map D.int)) := by simp [heldL]
      have hc : (h1 ++ [HO'.lst ((List.range n).map fun i => D.int (cel t i i)), HO'.lst []])[h1.length + 1]? = some (.lst []) := by simp
      generalize eh2 : h1 ++ [HO'.lst ((List.range n).map fun i => D.int (cel t i i)), HO'.lst []] = h2 at *
      have sr : srcOf (.ref a) h2 = .ok ⟨ms.map .ref, fun h' => h'[a]? = some (.lst (ms.map .ref))⟩ h2 := src_ref R2.out
      rw [sr, em]
      simp only [bind_ok]
      rw [lcO_map (fun (i : Nat) => D.int (sm n fun j => lentC t i j)) (List.range n) (by rw [← em]; exact R2.out) (by simp; omega)]
      · have gs := gSum_mapf (h := h2) (p := fun (i : Nat) => sm n fun j => lentC t i j) (l := List.range n)
        rw [range_sm] at gs
        simp [gs]
        have l0 : ∀ i j, i < n → j < n → 0 ≤ lentC t i j := fun i j hi hj => by
          show 0 ≤ if j = i then (0 : Int) else _
          split
          · omega
          · exact nn i j hi (by omega)
        have L : LnP t h h2 n a h1.length (h1.length + 1) ms (sm n fun x => sm n fun y => lentC t x y) (lentC t) (fun i => cel t i i) [] := {
          s := ⟨x1.trans x2, R2, hb, hc, ml, x1.len, by have := x1.len; omega, fun q => by have := lm _ q; omega, fun q => by have := lm _ q; omega, by omega, by omega, by omega⟩
          p := ⟨l0, fun _ _ _ _ => Int.le_refl _, fun i _ => if_pos rfl, fun i hi => nn i i hi (by omega), fun x hx => by
            have := fin_lent T hx
            omega, fun i l _ _ => .inl rfl, by simp⟩
          r := .nil }
        obtain ⟨left, held, ps, y6, y7, hs', F, L', e⟩ := lend_while (hs := h2) T n8 nn cm m3 301 (lentC t) (fun i => cel t i i) [] none none h2 L (by simp; omega)
        have ef : n_lendings = 301 + 1 := rfl
        simp only [L_lendings_0] at F
        rw [← ef] at F
        rw [F]
        refine ⟨left, held, ps, ?_, L'.r, e, ?_⟩
        · simp
          exact back_extL L'.s.ext L'.s.cl L'.s.hc (by simp [lendD])
        · have c := L'.p.cnt
          have z := sm_zero (n := n) (f := fun x => sm n fun y => left x y) (fun i hi => sm_nn fun j hj => L'.p.l0 i j hi hj) (by omega)
          intro i j hi hj
          exact sm_zero (n := n) (f := fun y => left i y) (fun j hj => L'.p.l0 i j hi hj) (by rw [z i hi]; exact Int.le_refl _) j hj
      · intro k hk
        have hk := List.mem_range.mp hk
        have lr := R2.len
        rw [List.length_map, List.length_range] at lr
        have em2 : ms[k]? = some (ms[k]'(by omega)) := List.getElem?_eq_getElem (by omega)
        have q := R2.row k _ _ em2 (leftL_at hk)
        have gs : gSum h2 [.ref (ms[k]'(by omega))] = some (.int (sm n fun j => lentC t k j)) := by
          rw [← range_sm]
          have im : intsOf (((List.range n).map fun j => lentC t k j).map D.int) = some _ := intsOf_map _
          generalize ((List.range n).map fun j => lentC t k j) = z at q im ⊢
          simp [gSum, seqH, lstH, q, im]
        simp [lcT, em2, gs]
    · intro k hk
      have hk := List.mem_range.mp hk
      have r := T.row hk
      have ea := fun h => ix_tab (h := h) (t := t) (i := (k : Int)) (by omega) (by omega)
      have eb := fun h => ix_row (h := h) (r := rowA t k) (k := (k : Int)) (by omega) (by omega)
      simp [lcT, ea, eb]
      rfl
  · intro i hi h' _
    have hi := List.mem_range.mp hi
    have r := T.row hi
    simp (disch := first | (simp; done) | omega) [lcT, rngN, l]
    rw [lcM (fun (j : Nat) => D.int (lentC t i j)) _ (by simp; omega)]
    · simp
    · intro j hj
      have hj := List.mem_range.mp hj
      have ea := fun h => ix_tab (h := h) (t := t) (i := (i : Int)) (by omega) (by omega)
      have eb := fun h => ix_row (h := h) (r := rowA t i) (k := (j : Int)) (by omega) (by omega)
      by_cases z : j = i
      · subst z
        simp [lcT, lentC]
      · have z' : ¬ (i : Int) = j := fun q => z (by omega)
        simp [lcT, z, z', ea, eb, lentC]
        rfl
end
/-! ### steps -/
def N_steps : List Str := ["table", "found", "house", "row", "k"]
def b_steps : List S :=
  [.iff (.op .ne (.ix (.call 68 [.var 0]) (.int 0)) (.str "comes")) [.rs "NoTable"] [],
   .iff (.op .gt (.bi .sum [.lc false 0 [.var 0] false [3] [] (.bi .sum [.var 3]) [3]]) (.cst (.int (300)))) [.rs "TooMany"] [],
   .set 1 (.lst true []),
   .loop false 1 [.bi .len [.var 0]] false [2] [.expr (.mth .extend (.var 1) [.lc false 1 [.ix (.ix (.var 0) (.var 2)) (.var 2)] false [4] [] (.tup [.str "make", .var 2, .int 1]) [4]])],
   .expr (.mth .extend (.var 1) [.call 75 [.var 0]]),
   .loop false 1 [.bi .len [.var 0]] false [2] [.expr (.mth .extend (.var 1) [.lc false 1 [.ix (.ix (.var 0) (.var 2)) (.bi .len [.var 0])] false [4] [] (.tup [.str "use", .var 2, .int 1]) [4]])],
   .ret (.var 1)]
def n_steps : Nat := 0
noncomputable def gam_steps : Mir := mirA [(75, 1, f_lendings), (68, 1, f_comes_about)]
noncomputable def f_steps : List D → Hs → R D := runF gam_steps false n_steps 5 1 b_steps
abbrev L_steps_0 : List S := [.expr (.mth .extend (.var 1) [.lc false 1 [.ix (.ix (.var 0) (.var 2)) (.var 2)] false [4] [] (.tup [.str "make", .var 2, .int 1]) [4]])]
noncomputable abbrev T_steps_0 : D → SD → Hs → O := turnO (tgF false [2]) (cutB false (S.evs gam_steps n_steps L_steps_0))
abbrev L_steps_1 : List S := [.expr (.mth .extend (.var 1) [.lc false 1 [.ix (.ix (.var 0) (.var 2)) (.bi .len [.var 0])] false [4] [] (.tup [.str "use", .var 2, .int 1]) [4]])]
noncomputable abbrev T_steps_1 : D → SD → Hs → O := turnO (tgF false [2]) (cutB false (S.evs gam_steps n_steps L_steps_1))
theorem k_steps_lendings {ds : List D} {h : Hs} : callR gam_steps 75 ds h = if ds.length = 1 then f_lendings ds h else .stk := callR_at rfl
theorem k_steps_comes_about {ds : List D} {h : Hs} : callR gam_steps 68 ds h = if ds.length = 1 then f_comes_about ds h else .stk := callR_at rfl
theorem r_steps {ds : List D} {h : Hs} (e : ds.length = 1) : f_steps ds h = fin false h (S.evs gam_steps n_steps b_steps (ds.map some ++ List.replicate 4 none) h) := runF_eq e
-- needs lendings
def makesL (t : List (List Int)) (i : Nat) : List Deed := List.replicate (cel t i i).toNat (.make i 1)
def usesL (n : Nat) (t : List (List Int)) (i : Nat) : List Deed := List.replicate (cel t i n).toNat (.use i 1)
def lendsL (ps : List (Nat × Nat)) : List Deed := ps.map fun p => .lend p.1 p.2 1
/-- the sum of all numbers -/
def allI (n : Nat) (t : List (List Int)) : Int := sm n fun i => sm (n + 1) fun j => cel t i j
section
variable {n : Nat} {t : List (List Int)} {h : Hs}
theorem all_parts : allI n t = sm n (fun i => cel t i i) + sm n (fun x => sm n fun y => lentC t x y) + sm n fun i => cel t i n := by
  unfold allI
  rw [← sm_add, ← sm_add]
  refine sm_congr fun i hi => ?_
  rw [lentC_row hi]
  show sm n (fun j => cel t i j) + cel t i n = _
  omega
theorem flat_len {f : Nat → List Deed} {g : Nat → Int} (e : ∀ i, i < n → ((f i).length : Int) = g i) : (((List.range n).flatMap f).length : Int) = sm n g := by
  induction n with
  | zero => rfl
  | succ n ih =>
    rw [List.range_succ, List.flatMap_append, List.length_append]
    have := ih fun i hi => e i (by omega)
    have := e n (by omega)
    simp only [List.flatMap_cons, List.flatMap_nil, List.append_nil]
    show _ = sm n g + g n
    omega
theorem foldl_flat {α β : Type} {g : α → List β} : ∀ {l : List α} {b : List β}, l.foldl (fun b a => b ++ g a) b = b ++ l.flatMap g
  | [], b => by simp
  | a :: r, b => by rw [List.foldl_cons, foldl_flat (l := r)]; simp
/-- a list grown by a list for each -/
theorem grow_loop {turn : D → SD → Hs → O} (n8 : n ≤ 8) (st : Option D → SD) (g : Nat → List Deed) (b : List Deed) (c : Option D) (hb : b.length ≤ 1000) (hg : ∀ i, i < n → (g i).length ≤ 1000) (k : ∀ (acc : List Deed) c i, i < n → acc.length + (g i).length < 16777216 → turn (.int i) (st c) (h ++ [.lst (acc.map deedD)]) = .nx (st (some (.int i))) (h ++ [.lst ((acc ++ g i).map deedD)])) :
    ∃ c', forL turn ((List.range n).map fun (i : Nat) => D.int i) (st c) (h ++ [.lst (b.map deedD)]) = .nx (st c') (h ++ [.lst ((b ++ (List.range n).flatMap g).map deedD)]) := by
  have F := (forL_sti (f := fun (i : Nat) => D.int i) (turn := turn) (fun (_ : List Deed) c => st c) (fun b => h ++ [.lst (b.map deedD)]) (fun b i => b ++ g i) (fun i b => b.length ≤ 1000 + 1000 * i) n (List.range n) 0 b c (by simp) (by omega) fun j b c i hi hj hb => by
    have hi := List.mem_range.mp hi
    have := hg i hi
    exact ⟨⟨_, k b c i hi (by omega)⟩, by rw [List.length_append]; omega⟩).1
  rw [foldl_flat] at F
  exact F
theorem ext_ok {h : Hs} {l m : List D} (hl : l.length + m.length < 16777216) : txExtend h l [.vl m] = some (l ++ m, .non) := by
  unfold txExtend
  simp [lstW, lstH]
  omega
theorem rows_sum (T : Tab n t) : (t.map fun r => r.sum).sum = allI n t := by
  rw [sum_map_sm, T.len]
  refine sm_congr fun i hi => ?_
  have r := T.row hi
  have e : (t[i]?).getD [] = rowA t i := by rw [rowA_nat (by rw [T.len]; exact hi), List.getElem?_eq_getElem (by rw [T.len]; exact hi)]; rfl
  rw [e]
  have q := sum_take_sm (l := rowA t i) (n := n + 1) (by omega)
  rw [List.take_of_length_le (by omega)] at q
  exact q
/-- a list grown by so many of one -/
theorem steps_body (T : Tab n t) (n8 : n ≤ 8) (nn : NNt n t) (cm : comesB n t = true) (m3 : allI n t ≤ 300) :
    ∃ left held ps, S.evs gam_steps n_steps b_steps [some (tabD t), none, none, none, none] h = .rt (.ref h.length) (h ++ [.lst (((List.range n).flatMap (makesL t) ++ lendsL ps ++ (List.range n).flatMap (usesL n t)).map deedD)]) ∧ Run n (lentC t) (fun i => cel t i i) ps left held ∧ (ps.length : Int) = sm n (fun x => sm n fun y => lentC t x y) ∧ ∀ i j, i < n → j < n → left i j = 0 := by
  have l := T.len
  have ap := all_parts (n := n) (t := t)
  have p1 := sm_nn (n := n) (f := fun i => cel t i i) fun i hi => nn i i hi (by omega)
  have p2 := sm_nn (n := n) (f := fun x => sm n fun y => lentC t x y) fun i hi => sm_nn fun j hj => by
    show 0 ≤ if j = i then (0 : Int) else _
    split
    · omega
    · exact nn i j hi (by omega)
  have p3 := sm_nn (n := n) (f := fun i => cel t i n) fun i hi => nn i n hi (by omega)
  have c1 := fun h => comes_about_eq (h := h) T n8
  rw [comes_yes cm] at c1
  have gn : ∀ h, gNe h (.str "comes") (.str "comes") = some (.bl false) := fun h => by rw [gNe_str shp_comes shp_comes]; rfl
  obtain ⟨left, held, ps, e1, e2, e3, e4⟩ := lendings_eq (h := h ++ [.lst (((List.range n).flatMap (makesL t)).map deedD)]) T n8 nn cm (by omega)
  refine ⟨left, held, ps, ?_, e2, e3, e4⟩
  simp [b_steps, k_steps_comes_about, c1, ix20, gn]
  rw [lcM (fun (r : List Int) => D.int r.sum) t (by omega)]
  · have gs := gSum_mapf (h := h) (p := fun (r : List Int) => r.sum) (l := t)
    rw [rows_sum T] at gs
    have m3' : ¬ 300 < allI n t := by omega
    simp (disch := first | (simp; done) | omega) [gs, m3', rngN, l]
    have cb : ∀ i j, i < n → j < n + 1 → 0 ≤ cel t i j ∧ cel t i j ≤ 300 := fun i j hi hj => by
      have z0 := nn i j hi hj
      have z1 := sm_term (n := n + 1) (f := fun j => cel t i j) (fun j hj => nn i j hi hj) j hj
      have z2 := sm_term (n := n) (f := fun i => sm (n + 1) fun j => cel t i j) (fun i hi => sm_nn fun j hj => nn i j hi hj) i hi
      unfold allI at m3
      omega
    have lm : ∀ i, i < n → (makesL t i).length ≤ 300 := fun i hi => by
      have := cb i i hi (by omega)
      unfold makesL
      rw [List.length_replicate]
      omega
    have lu : ∀ i, i < n → (usesL n t i).length ≤ 300 := fun i hi => by
      have := cb i n hi (by omega)
      unfold usesL
      rw [List.length_replicate]
      omega
    have fl : ∀ {f : Nat → List Deed} {m : Nat}, m ≤ n → (∀ i, i < n → (f i).length ≤ 300) → ((List.range m).flatMap f).length ≤ 300 * m := fun {f} {m} hm hf => by
      induction m with
      | zero => simp
      | succ m ih =>
        rw [List.range_succ, List.flatMap_append, List.length_append]
        simp only [List.flatMap_cons, List.flatMap_nil, List.append_nil]
        have := ih (by omega)
        have := hf m (by omega)
        omega
    have f1 := flat_len (n := n) (f := makesL t) (g := fun i => cel t i i) fun i hi => by
      have := cb i i hi (by omega)
      unfold makesL
      rw [List.length_replicate]
      omega
    have l2 : (lendsL ps).length = ps.length := by simp [lendsL]
    have F1 := grow_loop (n := n) (h := h) (turn := T_steps_0) n8 (fun c => [some (tabD t), some (.ref h.length), c, none, none]) (makesL t) [] none (by simp) (fun i hi => by have := lm i hi; omega) ?_
    · obtain ⟨c1, F1⟩ := F1
      have F2 := grow_loop (n := n) (h := h) (turn := T_steps_1) n8 (fun c => [some (tabD t), some (.ref h.length), c, none, none]) (usesL n t) ((List.range n).flatMap (makesL t) ++ lendsL ps) c1 (by rw [List.length_append]; omega) (fun i hi => by have := lu i hi; omega) ?_
      · obtain ⟨c2, F2⟩ := F2
        simp only [T_steps_0, L_steps_0, T_steps_1, L_steps_1] at F1 F2
        simp only [List.map_nil, List.nil_append] at F1
        rw [F1]
        have ex := lstM_of (h := h ++ [.lst (((List.range n).flatMap (makesL t)).map deedD)]) (n := h.length) (by simp) (ext_ok (h := h ++ [.lst (((List.range n).flatMap (makesL t)).map deedD)]) (l := ((List.range n).flatMap (makesL t)).map deedD) (m := ps.map lendD) (by rw [List.length_map, List.length_map]; omega))
        have el : ((List.range n).flatMap (makesL t)).map deedD ++ ps.map lendD = ((List.range n).flatMap (makesL t) ++ lendsL ps).map deedD := by
          have e5 : (lendsL ps).map deedD = ps.map lendD := by
            unfold lendsL
            rw [List.map_map]
            rfl
          rw [List.map_append, e5]
        rw [el] at ex
        have es : ∀ o, (h ++ [HO'.lst (((List.range n).flatMap (makesL t)).map deedD)]).set h.length o = h ++ [o] := fun o => by simp
        rw [es] at ex
        simp only [seq_nx]
        generalize ed : ((List.range n).flatMap (makesL t) ++ lendsL ps) = ds1 at *
        simp [k_steps_lendings, e1, ex]
        simp (disch := first | (simp; done) | omega) [rngN, l]
        rw [F2]
        rw [← ed]
        simp
      · intro acc c i hi ha
        have r := T.row hi
        have c0 := cb i n hi (by omega)
        have ea := fun h => ix_tab (h := h) (t := t) (i := (i : Int)) (by omega) (by omega)
        have eb := fun h => ix_row (h := h) (r := rowA t i) (k := (n : Int)) (by omega) (by omega)
        have ec : cellA (rowA t i) n = cel t i n := rfl
        have rg := fun h => rng1 (h := h) (j := cel t i n) (by omega) (by omega)
        simp [turnE, l, ea, eb, ec, rg]
        rw [lcM (fun (_ : Nat) => deedD (.use i 1)) _ (by simp; omega) fun k hk => by simp [lcT, deedD]]
        have em : (List.range (cel t i n).toNat).map (fun _ => deedD (.use i 1)) = (usesL n t i).map deedD := by
          unfold usesL
          rw [List.map_const', List.length_range, List.map_replicate]
        have ex := lstM_of (h := h ++ [.lst (acc.map deedD)]) (n := h.length) (by simp) (ext_ok (h := h ++ [.lst (acc.map deedD)]) (l := acc.map deedD) (m := (usesL n t i).map deedD) (by rw [List.length_map, List.length_map]; omega))
        rw [em]
        simp [ex]
    · intro acc c i hi ha
      have r := T.row hi
      have c0 := cb i i hi (by omega)
      have ea := fun h => ix_tab (h := h) (t := t) (i := (i : Int)) (by omega) (by omega)
      have eb := fun h => ix_row (h := h) (r := rowA t i) (k := (i : Int)) (by omega) (by omega)
      have ec : cellA (rowA t i) i = cel t i i := rfl
      have rg := fun h => rng1 (h := h) (j := cel t i i) (by omega) (by omega)
      simp [turnE, l, ea, eb, ec, rg]
      rw [lcM (fun (_ : Nat) => deedD (.make i 1)) _ (by simp; omega) fun k hk => by simp [lcT, deedD]]
      have em : (List.range (cel t i i).toNat).map (fun _ => deedD (.make i 1)) = (makesL t i).map deedD := by
        unfold makesL
        rw [List.map_const', List.length_range, List.map_replicate]
      have ex := lstM_of (h := h ++ [.lst (acc.map deedD)]) (n := h.length) (by simp) (ext_ok (h := h ++ [.lst (acc.map deedD)]) (l := acc.map deedD) (m := (makesL t i).map deedD) (by rw [List.length_map, List.length_map]; omega))
      rw [em]
      simp [ex]
  · intro r hr
    simp [lcT, rowD]
theorem steps_eq (T : Tab n t) (n8 : n ≤ 8) (nn : NNt n t) (cm : comesB n t = true) (m3 : allI n t ≤ 300) :
    ∃ left held ps, f_steps [tabD t] h = .ok (.vl (((List.range n).flatMap (makesL t) ++ lendsL ps ++ (List.range n).flatMap (usesL n t)).map deedD)) h ∧ Run n (lentC t) (fun i => cel t i i) ps left held ∧ (ps.length : Int) = sm n (fun x => sm n fun y => lentC t x y) ∧ ∀ i j, i < n → j < n → left i j = 0 := by
  obtain ⟨left, held, ps, e1, e2, e3, e4⟩ := steps_body (h := h) T n8 nn cm m3
  refine ⟨left, held, ps, ?_, e2, e3, e4⟩
  rw [r_steps rfl]
  have e0 : (List.map some [tabD t] ++ List.replicate 4 none : SD) = [some (tabD t), none, none, none, none] := rfl
  rw [e0, e1]
  rw [fin_rt]
  exact back_extL ⟨_, rfl⟩ (Nat.le_refl _) (by simp) (by simp)
theorem steps_len (nn : NNt n t) {ps : List (Nat × Nat)} (e : (ps.length : Int) = sm n (fun x => sm n fun y => lentC t x y)) : ((((List.range n).flatMap (makesL t) ++ lendsL ps ++ (List.range n).flatMap (usesL n t))).length : Int) = allI n t := by
  have f1 := flat_len (n := n) (f := makesL t) (g := fun i => cel t i i) fun i hi => by
    have := nn i i hi (by omega)
    unfold makesL
    rw [List.length_replicate]
    omega
  have f2 := flat_len (n := n) (f := usesL n t) (g := fun i => cel t i n) fun i hi => by
    have := nn i n hi (by omega)
    unfold usesL
    rw [List.length_replicate]
    omega
  rw [List.length_append, List.length_append, all_parts]
  unfold lendsL
  rw [List.length_map]
  omega
end
/-! ### _law_b_draw -/
def N_law_b_draw : List Str := ["script", "k", "mixed", "cell"]
def b_law_b_draw : List S :=
  [.iff (.op .lt (.var 1) (.bi .len [.var 0])) [.ret (.op .mod (.ix (.var 0) (.var 1)) (.op .pow (.int 10) (.int 40)))] [],
   .set 2 (.op .mul (.int 1000003) (.op .add (.var 1) (.int 1))),
   .loop false 0 [.sl false (.var 0) [] [.int 7]] false [3] [.set 2 (.op .mod (.op .add (.op .add (.op .mul (.var 2) (.int 69621)) (.op .mod (.var 3) (.int 998244353))) (.int 1)) (.int 1000000007))],
   .set 2 (.op .mod (.op .mul (.var 2) (.var 2)) (.int 1000000007)),
   .set 2 (.op .mod (.op .mul (.op .add (.var 2) (.op .mul (.op .mul (.int 7919) (.var 1)) (.var 1))) (.int 48271)) (.int 2147483647)),
   .ret (.op .fdiv (.op .mod (.op .mul (.var 2) (.var 2)) (.int 2147483647)) (.int 8))]
def n_law_b_draw : Nat := 0
noncomputable def gam_law_b_draw : Mir := mirA []
noncomputable def f_law_b_draw : List D → Hs → R D := runF gam_law_b_draw false n_law_b_draw 4 2 b_law_b_draw
abbrev L_law_b_draw_0 : List S := [.set 2 (.op .mod (.op .add (.op .add (.op .mul (.var 2) (.int 69621)) (.op .mod (.var 3) (.int 998244353))) (.int 1)) (.int 1000000007))]
noncomputable abbrev T_law_b_draw_0 : D → SD → Hs → O := turnO (tgF false [3]) (cutB false (S.evs gam_law_b_draw n_law_b_draw L_law_b_draw_0))
theorem r_law_b_draw {ds : List D} {h : Hs} (e : ds.length = 2) : f_law_b_draw ds h = fin false h (S.evs gam_law_b_draw n_law_b_draw b_law_b_draw (ds.map some ++ List.replicate 2 none) h) := runF_eq e
def mixI (ns : List Int) (k : Int) : Int := (ns.take 7).foldl (fun m c => (m * 69621 + c % 998244353 + 1) % 1000000007) (1000003 * (k + 1))
def mix2 (ns : List Int) (k : Int) : Int := ((mixI ns k * mixI ns k % 1000000007 + 7919 * k * k) * 48271) % 2147483647
def drawI (ns : List Int) (k : Int) : Int := if k < ns.length then (ns[k.toNat]?).getD 0 % 10 ^ 40 else (mix2 ns k * mix2 ns k % 2147483647) / 8
theorem drawI_bd (ns : List Int) (k : Int) : 0 ≤ drawI ns k ∧ drawI ns k < 10 ^ 40 := by
  unfold drawI
  split
  · exact ⟨Int.emod_nonneg _ (by decide), Int.emod_lt_of_pos _ (by decide)⟩
  · have h1 := Int.emod_nonneg (mix2 ns k * mix2 ns k) (b := 2147483647) (by decide)
    have h2 := Int.emod_lt_of_pos (mix2 ns k * mix2 ns k) (b := 2147483647) (by decide)
    have : (10 : Int) ^ 40 = 10000000000000000000000000000000000000000 := by decide
    omega
theorem mixI_bd (ns : List Int) (k : Int) (h0 : 0 ≤ k) (h1 : k ≤ 10 ^ 20) : (mixI ns k).natAbs < 2 ^ 100 := by
  have : ∀ (l : List Int) (m : Int), m.natAbs < 2 ^ 100 → (l.foldl (fun m c => (m * 69621 + c % 998244353 + 1) % 1000000007) m).natAbs < 2 ^ 100 := by
    intro l
    induction l with
    | nil => exact fun m h => h
    | cons c r ih =>
      intro m h
      refine ih _ ?_
      show ((m * 69621 + c % 998244353 + 1) % 1000000007).natAbs < 2 ^ 100
      have h1 := Int.emod_nonneg (m * 69621 + c % 998244353 + 1) (b := 1000000007) (by decide)
      have h2 := Int.emod_lt_of_pos (m * 69621 + c % 998244353 + 1) (b := 1000000007) (by decide)
      omega
  exact this _ _ (by omega)
theorem draw_eq {ns : List Int} {k : Int} {h : Hs} (k0 : 0 ≤ k) (k1 : k ≤ 10 ^ 20) : f_law_b_draw [script ns, .int k] h = .ok (.int (drawI ns k)) h := by
  rw [r_law_b_draw rfl]
  unfold script
  simp [b_law_b_draw]
  by_cases hl : k < ns.length
  · have e1 : ns[k.toNat]? = some (ns[k.toNat]'(by omega)) := List.getElem?_eq_getElem (by omega)
    simp [hl, gIx_slm k0 hl, drawI, e1, back_nr]
  · have hm := mixI_bd ns k k0 k1
    rw [if_neg hl, gMul_int (by omega) (by omega)]
    have e7 : cutD (ns.map D.int) none (some 7) = (ns.take 7).map .int := by rw [cut_takeI (by decide), List.map_take]; rfl
    have F := forL_fold (β := Int × Option D) (f := D.int) (turn := turnO (tgF false [3]) (cutB false (S.evs gam_law_b_draw n_law_b_draw [.set 2 (.op .mod (.op .add (.op .add (.op .mul (.var 2) (.int 69621)) (.op .mod (.var 3) (.int 998244353))) (.int 1)) (.int 1000000007))]))) (fun b => [some (D.sl (ns.map .int)), some (D.int k), some (.int b.1), b.2]) (fun _ => h) (fun b c => ((b.1 * 69621 + c % 998244353 + 1) % 1000000007, some (.int c))) (fun b => b.1.natAbs < 2 ^ 100) (ns.take 7) (1000003 * (k + 1), none) (by show Int.natAbs _ < _; omega) (fun b a _ hb => by
      have h1 := Int.emod_nonneg (b.1 * 69621 + a % 998244353 + 1) (b := 1000000007) (by decide)
      have h2 := Int.emod_lt_of_pos (b.1 * 69621 + a % 998244353 + 1) (b := 1000000007) (by decide)
      refine ⟨?_, by show Int.natAbs _ < _; omega⟩
      simp [turnO]
      rw [gMul_int (by omega) (by omega)]
      simp)
    have F1 := F.1
    have F2 : (List.foldl (fun (b : Int × Option D) (c : Int) => ((b.1 * 69621 + c % 998244353 + 1) % 1000000007, some (D.int c))) (1000003 * (k + 1), none) (ns.take 7)).1 = mixI ns k := foldl_fst (f := fun m c => (m * 69621 + c % 998244353 + 1) % 1000000007)
    rw [F2] at F1
    generalize hy : (List.foldl (fun (b : Int × Option D) (c : Int) => ((b.1 * 69621 + c % 998244353 + 1) % 1000000007, some (D.int c))) (1000003 * (k + 1), none) (ns.take 7)).2 = y at F1
    dsimp only at F1
    simp [e7, -List.map_take]
    rw [F1]
    have a1 := Int.emod_nonneg (mixI ns k * mixI ns k) (b := 1000000007) (by decide)
    have a2 := Int.emod_lt_of_pos (mixI ns k * mixI ns k) (b := 1000000007) (by decide)
    have a3 := Int.emod_nonneg ((mixI ns k * mixI ns k % 1000000007 + 7919 * k * k) * 48271) (b := 2147483647) (by decide)
    have a4 := Int.emod_lt_of_pos ((mixI ns k * mixI ns k % 1000000007 + 7919 * k * k) * 48271) (b := 2147483647) (by decide)
    have a5 : 0 ≤ 7919 * k * k := Int.mul_nonneg (by omega) k0
    have a6 : 7919 * k * k ≤ 7919 * 10 ^ 20 * 10 ^ 20 := Int.mul_le_mul (by omega) k1 k0 (by decide)
    simp (disch := first | (simp; done) | omega) [gMul_int, gFdiv_int]
    simp [drawI, hl, mix2, back_nr]
/-! ### _law_b_rights -/
def N_law_b_rights : List Str := ["table", "house", "n", "total", "other"]
def b_law_b_rights : List S :=
  [.set 2 (.bi .len [.var 0]),
   .set 3 (.int 0),
   .loop false 1 [.var 2] false [4] [.set 3 (.op .add (.var 3) (.ix (.ix (.var 0) (.var 4)) (.var 1))), .iff (.op .ne (.var 4) (.var 1)) [.set 3 (.op .sub (.var 3) (.ix (.ix (.var 0) (.var 1)) (.var 4)))] []],
   .ret (.op .sub (.var 3) (.ix (.ix (.var 0) (.var 1)) (.var 2)))]
def n_law_b_rights : Nat := 0
noncomputable def gam_law_b_rights : Mir := mirA []
noncomputable def f_law_b_rights : List D → Hs → R D := runF gam_law_b_rights false n_law_b_rights 5 2 b_law_b_rights
abbrev L_law_b_rights_0 : List S := [.set 3 (.op .add (.var 3) (.ix (.ix (.var 0) (.var 4)) (.var 1))), .iff (.op .ne (.var 4) (.var 1)) [.set 3 (.op .sub (.var 3) (.ix (.ix (.var 0) (.var 1)) (.var 4)))] []]
noncomputable abbrev T_law_b_rights_0 : D → SD → Hs → O := turnO (tgF false [4]) (cutB false (S.evs gam_law_b_rights n_law_b_rights L_law_b_rights_0))
theorem r_law_b_rights {ds : List D} {h : Hs} (e : ds.length = 2) : f_law_b_rights ds h = fin false h (S.evs gam_law_b_rights n_law_b_rights b_law_b_rights (ds.map some ++ List.replicate 3 none) h) := runF_eq e
theorem law_rights_tb {n : Nat} {x : D} {t : List (List Int)} {i : Nat} {h : Hs} (B : TbAt h x n t) (hi : i < n) (n8 : n ≤ 1000) : f_law_b_rights [x, .int i] h = .ok (.int (rightsI t i)) h := by
  have l := B.tab.len
  have gl := B.len
  obtain ⟨yi, i1, i2⟩ := B.ix i hi
  rw [r_law_b_rights rfl]
  simp (disch := first | (simp; done) | omega) [b_law_b_rights, gl, rngN]
  have F := (forL_fold (β := Int × Option D) (f := fun (i : Nat) => D.int i) (turn := turnO (tgF false [4]) (cutB false (S.evs gam_law_b_rights n_law_b_rights [.set 3 (.op .add (.var 3) (.ix (.ix (.var 0) (.var 4)) (.var 1))), .iff (.op .ne (.var 4) (.var 1)) [.set 3 (.op .sub (.var 3) (.ix (.ix (.var 0) (.var 1)) (.var 4)))] []]))) (fun b => [some x, some (.int i), some (.int n), some (.int b.1), b.2]) (fun _ => h) (fun b (j : Nat) => (b.1 + lrI t i j, some (.int j))) (fun _ => True) (List.range n) (0, none) trivial ?_).1
  · rw [F, seq_nx, foldl_fst (f := fun m (j : Nat) => m + lrI t i j), foldl_sum, Int.zero_add]
    have i3 := i2 n (by omega)
    simp (disch := first | (simp; done) | omega) [i1, i3, back_nr]
    have := lr_sum B.tab.wf (h := (i : Int)) (by omega) (by omega)
    rw [l] at this
    exact this
  · intro b j hj _
    have hj := List.mem_range.mp hj
    refine ⟨?_, trivial⟩
    obtain ⟨yj, j1, j2⟩ := B.ix j hj
    have j3 := j2 i (by omega)
    have i4 := i2 j (by omega)
    simp (disch := first | (simp; done) | omega) [turnE, j1, j3]
    unfold lrI cel
    by_cases c1 : (j : Int) = i
    · simp [c1]
    · unfold cel at i4
      simp [c1, i1, i4]
      omega
theorem law_rights_eq {t : List (List Int)} {i : Int} {h : Hs} (w : wfB t = true) (h0 : 0 ≤ i) (h1 : i < t.length) (h2 : t.length ≤ 1000) : f_law_b_rights [tabD t, .int i] h = .ok (.int (rightsI t i)) h := by
  have := law_rights_tb (h := h) (Tab.at' ⟨w, rfl⟩) (i := i.toNat) (by omega) h2
  rwa [Int.toNat_of_nonneg h0] at this
/-! ### _law_b_deed -/
def N_law_b_deed_v1 : List Str := ["table", "draw", "n", "word", "house", "has", "way", "k"]
def b_law_b_deed_v1 : List S :=
  [.set 2 (.bi .len [.var 0]),
   .set 3 (.ix (.lst false [.str "make", .str "lend", .str "use", .str "lend"]) (.op .mod (.var 1) (.int 4))),
   .set 4 (.op .mod (.op .fdiv (.var 1) (.int 5)) (.var 2)),
   .set 5 (.call 16 [.var 0, .var 4]),
   .set 6 (.op .mod (.op .fdiv (.var 1) (.int 16)) (.int 5)),
   .set 7 (.ix (.lst false [.int 1, .var 5, .op .add (.var 5) (.int 1), .op .add (.int 1) (.op .mod (.op .fdiv (.var 1) (.int 960)) (.op .pow (.int 10) (.int 20))), .op .add (.int 1) (.op .mod (.op .fdiv (.var 1) (.int 960)) (.int 5))]) (.var 6)),
   .iff (.op .lt (.var 7) (.int 1)) [.set 7 (.int 1)] [],
   .iff (.op .eq (.var 3) (.str "make")) [.set 7 (.bi .min [.var 7, .op .pow (.int 10) (.int 20)])] [],
   .iff (.op .eq (.var 3) (.str "lend")) [.ret (.tup [.var 3, .var 4, .op .mod (.op .add (.op .add (.var 4) (.int 1)) (.op .mod (.op .fdiv (.var 1) (.int 80)) (.op .sub (.var 2) (.int 1)))) (.var 2), .var 7])] [],
   .ret (.tup [.var 3, .var 4, .var 7])]
def n_law_b_deed_v1 : Nat := 0
noncomputable def gam_law_b_deed_v1 : Mir := mirA [(16, 2, f_law_b_rights)]
noncomputable def f_law_b_deed_v1 : List D → Hs → R D := runF gam_law_b_deed_v1 false n_law_b_deed_v1 8 2 b_law_b_deed_v1
theorem k_law_b_deed_v1_law_b_rights {ds : List D} {h : Hs} : callR gam_law_b_deed_v1 16 ds h = if ds.length = 2 then f_law_b_rights ds h else .stk := callR_at rfl
theorem r_law_b_deed_v1 {ds : List D} {h : Hs} (e : ds.length = 2) : f_law_b_deed_v1 ds h = fin false h (S.evs gam_law_b_deed_v1 n_law_b_deed_v1 b_law_b_deed_v1 (ds.map some ++ List.replicate 6 none) h) := runF_eq e
theorem deed1_eq {n : Nat} {t : List (List Int)} {x : Int} {h : Hs} (T : Tab n t) (n2 : 2 ≤ n) (n8 : n ≤ 1000) : ∃ d : Deed, d.ok n ∧ f_law_b_deed_v1 [tabD t, .int x] h = .ok (deedD d) h := by
  have l := T.len
  have q0 := Int.emod_nonneg (x / 5) (b := (n : Int)) (by omega)
  have q1 := Int.emod_lt_of_pos (x / 5) (b := (n : Int)) (by omega)
  have rr : ∀ i : Int, 0 ≤ i → i < n → f_law_b_rights [tabD t, .int i] h = .ok (.int (rightsI t i)) h := fun i h0 h1 => law_rights_eq T.wf h0 (by omega) (by omega)
  rw [r_law_b_deed_v1 rfl]
  have w : x % 4 = 0 ∨ x % 4 = 1 ∨ x % 4 = 2 ∨ x % 4 = 3 := by omega
  have i5 : ∀ (a b c d e : Int) (k : Int), 0 ≤ k → k < 5 → ∃ z, ∀ h, gIx h (.vl [.int a, .int b, .int c, .int d, .int e]) (.int k) = some (.int z) := fun a b c d e k h0 h1 => ⟨_, fun h => gIx_vlm (f := D.int) (l := [a, b, c, d, e]) h0 (by simpa using h1)⟩
  have i4 : ∀ h, gIx h (.vl [.str "make", .str "lend", .str "use", .str "lend"]) (.int (x % 4)) = some (.str (if x % 4 = 0 then "make" else if x % 4 = 2 then "use" else "lend")) := fun h => by
    rcases w with w | w | w | w <;> simp [w, gIx_vl] <;> rfl
  obtain ⟨z, i5⟩ := i5 1 (rightsI t (x / 5 % n)) (rightsI t (x / 5 % n) + 1) (1 + x / 960 % 100000000000000000000) (1 + x / 960 % 5) (x / 16 % 5) (by omega) (by omega)
  simp (disch := first | (simp; done) | omega) [b_law_b_deed_v1, l, i4, gFdiv_int, k_law_b_deed_v1_law_b_rights, rr, q0, q1]
  rw [i5]
  generalize x / 5 % (n : Int) = i at q0 q1
  have fin0 : ∀ {d : Deed}, d.ok n → ∃ d', d'.ok n ∧ backR false h (deedD d) h = .ok (deedD d') h := fun {d} e => ⟨d, e, by simp [back_nr]⟩
  have hmk : ∀ y : Int, 1 ≤ y → ∃ d : Deed, d.ok n ∧ backR false h (.tup [.str "make", .int i, .int y]) h = .ok (deedD d) h := fun y hy => fin0 (d := .make i y) ⟨q0, q1, hy⟩
  have hus : ∀ y : Int, 1 ≤ y → ∃ d : Deed, d.ok n ∧ backR false h (.tup [.str "use", .int i, .int y]) h = .ok (deedD d) h := fun y hy => fin0 (d := .use i y) ⟨q0, q1, hy⟩
  have hle : ∀ y : Int, 1 ≤ y → ∃ d : Deed, d.ok n ∧ backR false h (.tup [.str "lend", .int i, .int ((i + 1 + x / 80 % ((n : Int) - 1)) % n), .int y]) h = .ok (deedD d) h := fun y hy => by
    have r0 := Int.emod_nonneg (x / 80) (b := (n : Int) - 1) (by omega)
    have r1 := Int.emod_lt_of_pos (x / 80) (b := (n : Int) - 1) (by omega)
    generalize x / 80 % ((n : Int) - 1) = r at r0 r1
    have m0 := Int.emod_nonneg (i + 1 + r) (b := (n : Int)) (by omega)
    have m1 := Int.emod_lt_of_pos (i + 1 + r) (b := (n : Int)) (by omega)
    refine fin0 (d := .lend i ((i + 1 + r) % n) y) ⟨q0, q1, m0, m1, ?_, hy⟩
    by_cases c : i + 1 + r < n
    · rw [Int.emod_eq_of_lt (by omega) c]
      omega
    · have e : i + 1 + r = (i + 1 + r - n) + (n : Int) * 1 := by omega
      rw [e, Int.add_mul_emod_self_left, Int.emod_eq_of_lt (by omega) (by omega)]
      omega
  by_cases q : z < 1
  · rcases w with w | w | w | w
    · simp [q, w, gEq_str]
      exact hmk 1 (by omega)
    · simp (disch := first | (simp; done) | omega) [q, w, gEq_str, gFdiv_int]
      exact hle 1 (by omega)
    · simp [q, w, gEq_str]
      exact hus 1 (by omega)
    · simp (disch := first | (simp; done) | omega) [q, w, gEq_str, gFdiv_int]
      exact hle 1 (by omega)
  · rcases w with w | w | w | w
    · simp [q, w, gEq_str]
      exact hmk _ (by split <;> omega)
    · simp (disch := first | (simp; done) | omega) [q, w, gEq_str, gFdiv_int]
      exact hle z (by omega)
    · simp [q, w, gEq_str]
      exact hus z (by omega)
    · simp (disch := first | (simp; done) | omega) [q, w, gEq_str, gFdiv_int]
      exact hle z (by omega)
/-! ### _law_b_told -/
def N_law_b_told_v3 : List Str := ["table", "deed", "told"]
def b_law_b_told_v3 : List S :=
  [.set 2 (.non),
   .tr ["NoTable", "NoHouse", "NoDeed", "TooMany", "Short"] "Short" none [.set 2 (.call 41 [.var 0, .var 1])] [.set 2 (.non)],
   .ret (.var 2)]
def n_law_b_told_v3 : Nat := 0
noncomputable def gam_law_b_told_v3 : Mir := mirA [(41, 2, f_done)]
noncomputable def f_law_b_told_v3 : List D → Hs → R D := runF gam_law_b_told_v3 false n_law_b_told_v3 3 2 b_law_b_told_v3
theorem k_law_b_told_v3_done {ds : List D} {h : Hs} : callR gam_law_b_told_v3 41 ds h = if ds.length = 2 then f_done ds h else .stk := callR_at rfl
theorem r_law_b_told_v3 {ds : List D} {h : Hs} (e : ds.length = 2) : f_law_b_told_v3 ds h = fin false h (S.evs gam_law_b_told_v3 n_law_b_told_v3 b_law_b_told_v3 (ds.map some ++ List.replicate 1 none) h) := runF_eq e
theorem told3_eq {n : Nat} {t : List (List Int)} {d : Deed} {h : Hs} (T : Tab n t) (n8 : n ≤ 1000) (e : d.ok n) : f_law_b_told_v3 [tabD t, deedD d] h = .ok (if d.free = false ∧ rightsI t d.house < d.k then .non else tabD (doneI t n d)) h := by
  rw [r_law_b_told_v3 rfl]
  by_cases z : d.free = false ∧ rightsI t d.house < d.k
  · have q := done_eq (h := h) T n8 e
    rw [if_pos z] at q
    simp [b_law_b_told_v3, k_law_b_told_v3_done, q, if_pos z, back_nr]
  · have q := done_eq (h := h) T n8 e
    rw [if_neg z] at q
    simp [b_law_b_told_v3, k_law_b_told_v3_done, q, if_neg z, back_nr]
/-! ### _law_b_stands -/
def N_law_b_stands : List Str := ["before", "table", "due", "found"]
def b_law_b_stands : List S :=
  [.set 3 (.call 68 [.var 1]),
   .iff (.or (.op .ne (.ix (.var 3) (.int 0)) (.str "comes")) (.op .isNot (.call 55 [.var 1, .ix (.var 3) (.int 1)]) (.bl true))) [.ret (.bl false)] [],
   .ret (.and (.op .is (.call 22 [.var 0, .var 1]) (.bl true)) (.op .eq (.call 15 [.var 1]) (.var 2)))]
def n_law_b_stands : Nat := 0
noncomputable def gam_law_b_stands : Mir := mirA [(68, 1, f_comes_about), (55, 2, f_is_root_list), (22, 2, f_is_within), (15, 1, f_stock)]
noncomputable def f_law_b_stands : List D → Hs → R D := runF gam_law_b_stands false n_law_b_stands 4 3 b_law_b_stands
theorem k_law_b_stands_comes_about {ds : List D} {h : Hs} : callR gam_law_b_stands 68 ds h = if ds.length = 1 then f_comes_about ds h else .stk := callR_at rfl
theorem k_law_b_stands_is_root_list {ds : List D} {h : Hs} : callR gam_law_b_stands 55 ds h = if ds.length = 2 then f_is_root_list ds h else .stk := callR_at rfl
theorem k_law_b_stands_is_within {ds : List D} {h : Hs} : callR gam_law_b_stands 22 ds h = if ds.length = 2 then f_is_within ds h else .stk := callR_at rfl
theorem k_law_b_stands_stock {ds : List D} {h : Hs} : callR gam_law_b_stands 15 ds h = if ds.length = 1 then f_stock ds h else .stk := callR_at rfl
theorem r_law_b_stands {ds : List D} {h : Hs} (e : ds.length = 3) : f_law_b_stands ds h = fin false h (S.evs gam_law_b_stands n_law_b_stands b_law_b_stands (ds.map some ++ List.replicate 1 none) h) := runF_eq e
-- needs joined
theorem stands_eq {n : Nat} {s t : List (List Int)} {d : Int} {h : Hs} (S : Tab n s) (T : Tab n t) (C : Comes n t) (n8 : n ≤ 8) (w : ∀ i j : Nat, i < n → j < n + 1 → cel s i j ≤ cel t i j) (e : stockI t = d) : f_law_b_stands [tabD s, tabD t, .int d] h = .ok (.bl true) h := by
  have c1 := fun h => comes_about_eq (h := h) T n8
  rw [comes_yes (C.b n8)] at c1
  have er : natsD (rootsI n t) = .vl (((rootsI n t).map fun (i : Nat) => (i : Int)).map .int) := by simp [natsD, Function.comp_def]
  have lr : (rootsI n t).length ≤ n := (roots_part n8).1.len
  have c2 := fun h => is_root_list_eq (h := h) (x := natsD (rootsI n t)) (hs := (rootsI n t).map fun (i : Nat) => (i : Int)) T (by omega) (by rw [er]; exact .vl) (by rw [List.length_map]; omega)
  have c3 : rootB n t ((rootsI n t).map fun (i : Nat) => (i : Int)) = true := by
    rw [part_root (roots_part n8).1 C.nn, List.all_eq_true]
    intro i hi
    have cb := C.b n8
    unfold comesB reachB at cb
    rw [Bool.and_eq_true, Bool.not_eq_true', List.any_eq_false] at cb
    by_cases q : i ∈ rootsI n t
    · simp [q]
    · have := cb.2 i (List.mem_filter.mpr ⟨hi, decide_eq_true q⟩)
      simp [q, this]
  have c4 := fun h => is_within_eq (h := h) (s := s) (t := t) (by rw [S.len, T.len]) (by rw [S.len]; omega) S.wf
  have c5 : tabWithin s t = true := within_iff S T w
  have c6 := fun h => stock_eq (h := h) T.wf (by rw [T.len]; omega)
  rw [r_law_b_stands rfl]
  simp [b_law_b_stands, k_law_b_stands_comes_about, c1, ix20, ix21, gNe_str shp_comes shp_comes, k_law_b_stands_is_root_list, c2, c3, k_law_b_stands_is_within, c4, c5, k_law_b_stands_stock, c6, e, back_nr]
def N_law : List Str := ["script", "draw", "n", "table", "before", "due", "many", "k", "deed", "found", "fits", "house", "mixed", "total", "i", "row"]
def b_law : List S :=
  [.set 1 (.call 4 [.var 0, .int 0]),
   .set 2 (.op .add (.int 2) (.op .mod (.var 1) (.int 3))),
   .iff (.op .eq (.op .mod (.op .fdiv (.var 1) (.int 3)) (.int 6)) (.int 1)) [.set 2 (.op .add (.int 5) (.op .mod (.op .fdiv (.var 1) (.int 18)) (.int 4)))] [],
   .set 3 (.call 3 [.var 2]),
   .set 4 (.call 3 [.var 2]),
   .set 5 (.int 0),
   .set 6 (.bi .max [.int 8, .bi .min [.int 60, .op .sub (.bi .len [.var 0]) (.int 1)]]),
   .loop false 1 [.var 6] false [7] [.set 8 (.call 88 [.var 3, .call 4 [.var 0, .op .add (.int 1) (.var 7)]]), .set 9 (.call 89 [.var 3, .var 8]), .set 10 (.or (.op .eq (.ix (.var 8) (.int 0)) (.str "make")) (.op .le (.ix (.var 8) (.neg (.int 1))) (.call 16 [.var 3, .ix (.var 8) (.int 1)]))), .iff (.op .ne (.op .isNot (.var 9) (.non)) (.var 10)) [.ret (.bl false)] [], .iff (.var 10) [.set 5 (.op .add (.var 5) (.ix (.dsp [.inr "make", .inr "use", .inr "lend"] [.ix (.var 8) (.neg (.int 1)), .op .sub (.int 0) (.ix (.var 8) (.neg (.int 1))), .int 0]) (.ix (.var 8) (.int 0)))), .iff (.not (.call 90 [.var 3, .var 9, .var 5])) [.ret (.bl false)] [], .set 3 (.var 9)] [], .iff (.op .eq (.var 7) (.op .mod (.op .fdiv (.var 1) (.int 3)) (.var 6))) [.set 4 (.var 3)] []],
   .set 11 (.op .mod (.op .fdiv (.var 1) (.int 3)) (.var 2)),
   .set 12 (.bi .tuple [.lc false 1 [.var 2] false [14] [] (.ite (.op .eq (.var 14) (.var 11)) (.ix (.var 4) (.var 14)) (.ix (.var 3) (.var 14))) [14]]),
   .iff (.or (.op .isNot (.call 22 [.var 12, .var 3]) (.bl true)) (.or (.op .ne (.call 27 [.var 12, .var 3]) (.var 3)) (.op .ne (.call 27 [.var 4, .var 3]) (.var 3)))) [.ret (.bl false)] [],
   .set 13 (.bi .sum [.lc false 0 [.var 3] false [15] [] (.bi .sum [.var 15]) [15]]),
   .ret (.or (.op .gt (.var 13) (.int 300)) (.op .eq (.bi .len [.call 76 [.var 3]]) (.var 13)))]
def n_law : Nat := 0
noncomputable def gam_law : Mir := mirA [(4, 2, f_law_b_draw), (3, 1, f_bare), (88, 2, f_law_b_deed_v1), (89, 2, f_law_b_told_v3), (22, 2, f_is_within), (27, 2, f_joined), (16, 2, f_law_b_rights), (90, 3, f_law_b_stands), (76, 1, f_steps)]
noncomputable def f_law : List D → Hs → R D := runF gam_law false n_law 16 1 b_law
abbrev L_law_0 : List S := [.set 8 (.call 88 [.var 3, .call 4 [.var 0, .op .add (.int 1) (.var 7)]]), .set 9 (.call 89 [.var 3, .var 8]), .set 10 (.or (.op .eq (.ix (.var 8) (.int 0)) (.str "make")) (.op .le (.ix (.var 8) (.neg (.int 1))) (.call 16 [.var 3, .ix (.var 8) (.int 1)]))), .iff (.op .ne (.op .isNot (.var 9) (.non)) (.var 10)) [.ret (.bl false)] [], .iff (.var 10) [.set 5 (.op .add (.var 5) (.ix (.dsp [.inr "make", .inr "use", .inr "lend"] [.ix (.var 8) (.neg (.int 1)), .op .sub (.int 0) (.ix (.var 8) (.neg (.int 1))), .int 0]) (.ix (.var 8) (.int 0)))), .iff (.not (.call 90 [.var 3, .var 9, .var 5])) [.ret (.bl false)] [], .set 3 (.var 9)] [], .iff (.op .eq (.var 7) (.op .mod (.op .fdiv (.var 1) (.int 3)) (.var 6))) [.set 4 (.var 3)] []]
noncomputable abbrev T_law_0 : D → SD → Hs → O := turnO (tgF false [7]) (cutB false (S.evs gam_law n_law L_law_0))
theorem k_law_law_b_draw {ds : List D} {h : Hs} : callR gam_law 4 ds h = if ds.length = 2 then f_law_b_draw ds h else .stk := callR_at rfl
theorem k_law_bare {ds : List D} {h : Hs} : callR gam_law 3 ds h = if ds.length = 1 then f_bare ds h else .stk := callR_at rfl
theorem k_law_law_b_deed_v1 {ds : List D} {h : Hs} : callR gam_law 88 ds h = if ds.length = 2 then f_law_b_deed_v1 ds h else .stk := callR_at rfl
theorem k_law_law_b_told_v3 {ds : List D} {h : Hs} : callR gam_law 89 ds h = if ds.length = 2 then f_law_b_told_v3 ds h else .stk := callR_at rfl
theorem k_law_is_within {ds : List D} {h : Hs} : callR gam_law 22 ds h = if ds.length = 2 then f_is_within ds h else .stk := callR_at rfl
theorem k_law_joined {ds : List D} {h : Hs} : callR gam_law 27 ds h = if ds.length = 2 then f_joined ds h else .stk := callR_at rfl
theorem k_law_law_b_rights {ds : List D} {h : Hs} : callR gam_law 16 ds h = if ds.length = 2 then f_law_b_rights ds h else .stk := callR_at rfl
theorem k_law_law_b_stands {ds : List D} {h : Hs} : callR gam_law 90 ds h = if ds.length = 3 then f_law_b_stands ds h else .stk := callR_at rfl
theorem k_law_steps {ds : List D} {h : Hs} : callR gam_law 76 ds h = if ds.length = 1 then f_steps ds h else .stk := callR_at rfl
theorem r_law {ds : List D} {h : Hs} (e : ds.length = 1) : f_law ds h = fin false h (S.evs gam_law n_law b_law (ds.map some ++ List.replicate 15 none) h) := runF_eq e
theorem done_comes {n : Nat} {W : List (List Int)} {d : Deed} (C : Comes n W) (e : d.ok n) (q : d.free = true ∨ d.k ≤ rightsI W d.house) : Comes n (doneI W n d) := by
  obtain ⟨a1, a2, a3, a4⟩ := place_rng e
  have k1 : 1 ≤ d.k := by cases d <;> simp [Deed.ok] at e <;> simp [Deed.k] <;> omega
  have := C.raise (i := d.house.toNat) (p := (d.place n).toNat) (s := d.k) (by omega) (by omega) k1 (by
    rw [Int.toNat_of_nonneg a1]
    rcases q with q | q
    · cases d with
      | make i k => exact .inl rfl
      | lend i j k => simp [Deed.free] at q
      | use i k => simp [Deed.free] at q
    · exact .inr q)
  rw [Int.toNat_of_nonneg a1, Int.toNat_of_nonneg a3] at this
  exact this
def dueI : Deed → Int
  | .make _ k => k
  | .lend _ _ _ => 0
  | .use _ k => -k
theorem chg_sum {n : Nat} {d : Deed} (e : d.ok n) : ((List.range n).map fun (x : Nat) => chgI d x).sum = dueI d := by
  cases d with
  | make i k =>
    obtain ⟨h0, h1, _⟩ := e
    refine Eq.trans (sum_congr fun x _ => ?_) (sum_if (n := n) (p := i.toNat) (k := k) (by omega))
    show (if (x : Int) = i then k else 0) = _
    by_cases z : (x : Int) = i
    · rw [if_pos z, if_pos (by omega)]
    · rw [if_neg z, if_neg (by omega)]
  | use i k =>
    obtain ⟨h0, h1, _⟩ := e
    refine Eq.trans (sum_congr fun x _ => ?_) (sum_if (n := n) (p := i.toNat) (k := -k) (by omega))
    show (if (x : Int) = i then -k else 0) = _
    by_cases z : (x : Int) = i
    · rw [if_pos z, if_pos (by omega)]
    · rw [if_neg z, if_neg (by omega)]
  | lend i j k =>
    obtain ⟨h0, h1, h2, h3, h4, _⟩ := e
    have u := sum_if (n := n) (p := i.toNat) (k := 0 - k) (by omega)
    have v := sum_if (n := n) (p := j.toNat) (k := k) (by omega)
    have s : ((List.range n).map fun (x : Nat) => chgI (.lend i j k) x).sum = ((List.range n).map fun (x : Nat) => (if x = i.toNat then 0 - k else 0) + if x = j.toNat then k else 0).sum := sum_congr fun x _ => by
      show (if (x : Int) = j then k else if (x : Int) = i then -k else 0) = _
      by_cases z : (x : Int) = j
      · rw [if_pos z, if_neg (by omega), if_pos (by omega)]; omega
      · rw [if_neg z]
        by_cases z2 : (x : Int) = i
        · rw [if_pos z2, if_pos (by omega), if_neg (by omega)]; omega
        · rw [if_neg z2, if_neg (by omega), if_neg (by omega)]; omega
    show _ = (0 : Int)
    rw [s, sum_add, u, v]
    omega
def Deed.word : Deed → Str
  | .make _ _ => "make"
  | .lend _ _ _ => "lend"
  | .use _ _ => "use"
theorem due_ix' {h : Hs} {d : Deed} : gIx h (.vd [.str "make", .str "use", .str "lend"] [.int d.k, .int (-d.k), .int 0]) (.str d.word) = some (.int (dueI d)) := by
  cases d <;> rfl
theorem isNot_tab {h : Hs} {t : List (List Int)} : gIsNot h (tabD t) .non = some (.bl true) := by simp [tabD, gIsNot, gIs0]
abbrev St14 (ns : List Int) (dr n : Int) (t u : List (List Int)) (due many : Int) (x7 x8 x9 x10 : Option D) : SD := [some (script ns), some (.int dr), some (.int n), some (tabD t), some (tabD u), some (.int due), some (.int many), x7, x8, x9, x10, none, none, none, none, none]
theorem turn14 {ns : List Int} {dr due many : Int} {n k : Nat} {t u : List (List Int)} {x7 x8 x9 x10 : Option D} {h : Hs} (C : Comes n t) (U : Tab n u) (le : ∀ i j : Nat, i < n → j < n + 1 → cel u i j ≤ cel t i j) (ed : stockI t = due) (n2 : 2 ≤ n) (n8 : n ≤ 8) (hk : k < 1000) (dr0 : 0 ≤ dr) (dr1 : dr < 10 ^ 40) (m0 : 0 < many) :
    ∃ t' u' due' y8 y9 y10, T_law_0 (.int k) (St14 ns dr n t u due many x7 x8 x9 x10) h = .nx (St14 ns dr n t' u' due' many (some (.int k)) y8 y9 y10) h ∧ Comes n t' ∧ Tab n u' ∧ (∀ i j : Nat, i < n → j < n + 1 → cel u' i j ≤ cel t' i j) ∧ stockI t' = due' := by
  have T := C.tab
  have dw := draw_eq (ns := ns) (k := 1 + (k : Int)) (h := h) (by omega) (by omega)
  obtain ⟨d, e, q1⟩ := deed1_eq (x := drawI ns (1 + k)) (h := h) T n2 (by omega)
  obtain ⟨a1, a2, a3, a4⟩ := place_rng e
  have q2 := told3_eq (h := h) T (by omega) e
  have ix0 : gIx h (deedD d) (.int 0) = some (.str d.word) := by cases d <;> simp [deedD, Deed.word]
  have ix1 : gIx h (deedD d) (.int 1) = some (.int d.house) := by cases d <;> simp [deedD, Deed.house]
  have ixn : gIx h (deedD d) (.int (-1)) = some (.int d.k) := by cases d <;> simp [deedD, Deed.k]
  have mk : gEq h (.str d.word) (.str "make") = some (.bl d.free) := by cases d <;> simp [gEq_str, Deed.free, Deed.word]
  have rl := law_rights_eq (h := h) T.wf a1 (by rw [T.len]; exact a2) (by rw [T.len]; omega)
  have dx := due_ix' (h := h) (d := d)
  have nn := isNot_tab (h := h) (t := doneI t n d)
  have nn0 : gIsNot h .non .non = some (.bl false) := gIsNot_non_non
  have k1 : 1 ≤ d.k := by cases d <;> simp [Deed.ok] at e <;> simp [Deed.k] <;> omega
  by_cases z : d.free = false ∧ rightsI t d.house < d.k
  · rw [if_pos z] at q2
    have z2 : ¬ d.k ≤ rightsI t d.house := by omega
    by_cases w : (k : Int) = dr / 3 % many
    · refine ⟨t, t, due, some (deedD d), some .non, some (.bl false), ?_, C, T, fun _ _ _ _ => Int.le_refl _, ed⟩
      simp (disch := first | (simp; done) | omega) [turnE, k_law_law_b_draw, dw, k_law_law_b_deed_v1, q1, k_law_law_b_told_v3, q2, ix0, ix1, ixn, mk, k_law_law_b_rights, rl, nn, nn0, gFdiv_int, z.1, z2, w.symm]
    · refine ⟨t, u, due, some (deedD d), some .non, some (.bl false), ?_, C, U, le, ed⟩
      simp (disch := first | (simp; done) | omega) [turnE, k_law_law_b_draw, dw, k_law_law_b_deed_v1, q1, k_law_law_b_told_v3, q2, ix0, ix1, ixn, mk, k_law_law_b_rights, rl, nn, nn0, gFdiv_int, z.1, z2, w]
  · rw [if_neg z] at q2
    have z' : d.free = true ∨ d.k ≤ rightsI t d.house := by
      by_cases y : d.free = true
      · exact .inl y
      · refine .inr (Int.not_lt.mp fun w => z ⟨by simpa using y, w⟩)
    have C2 := done_comes C e z'
    have le2 : ∀ i j : Nat, i < n → j < n + 1 → cel t i j ≤ cel (doneI t n d) i j := fun i j hi hj => by
      have c := raised_cel (k := d.k) T a1 a2 a3 a4 hi hj
      unfold doneI
      rw [c]
      split <;> omega
    have s2 : stockI (doneI t n d) = due + dueI d := by
      have := stock_done T e
      rw [chg_sum e] at this
      omega
    have st := stands_eq (h := h) T C2.tab C2 n8 le2 s2
    by_cases w : (k : Int) = dr / 3 % many
    · refine ⟨doneI t n d, doneI t n d, due + dueI d, some (deedD d), some (tabD (doneI t n d)), some (.bl true), ?_, C2, C2.tab, fun _ _ _ _ => Int.le_refl _, s2⟩
      cases y : d.free
      · have y2 : d.k ≤ rightsI t d.house := by simpa [y] using z'
        simp (disch := first | (simp; done) | omega) [turnE, k_law_law_b_draw, dw, k_law_law_b_deed_v1, q1, k_law_law_b_told_v3, q2, ix0, ix1, ixn, mk, k_law_law_b_rights, rl, nn, nn0, gFdiv_int, w.symm, dx, k_law_law_b_stands, st, y, y2]
      · simp (disch := first | (simp; done) | omega) [turnE, k_law_law_b_draw, dw, k_law_law_b_deed_v1, q1, k_law_law_b_told_v3, q2, ix0, ix1, ixn, mk, k_law_law_b_rights, rl, nn, nn0, gFdiv_int, w.symm, dx, k_law_law_b_stands, st, y]
    · refine ⟨doneI t n d, u, due + dueI d, some (deedD d), some (tabD (doneI t n d)), some (.bl true), ?_, C2, U, fun i j hi hj => ?_, s2⟩
      · cases y : d.free
        · have y2 : d.k ≤ rightsI t d.house := by simpa [y] using z'
          simp (disch := first | (simp; done) | omega) [turnE, k_law_law_b_draw, dw, k_law_law_b_deed_v1, q1, k_law_law_b_told_v3, q2, ix0, ix1, ixn, mk, k_law_law_b_rights, rl, nn, nn0, gFdiv_int, w, dx, k_law_law_b_stands, st, y, y2]
        · simp (disch := first | (simp; done) | omega) [turnE, k_law_law_b_draw, dw, k_law_law_b_deed_v1, q1, k_law_law_b_told_v3, q2, ix0, ix1, ixn, mk, k_law_law_b_rights, rl, nn, nn0, gFdiv_int, w, dx, k_law_law_b_stands, st, y]
      · have := le i j hi hj
        have := le2 i j hi hj
        omega
theorem bare_zero {n : Nat} : bareI n = zeroI n := (bare_tab n).ext zero_tab fun i j hi hj => by rw [bare_cel hi hj, zero_cel hi hj]
theorem zero_stock {n : Nat} : stockI (zeroI n) = 0 := by
  unfold stockI
  rw [zero_tab.len]
  refine Eq.trans (sum_congr (g := fun _ => 0) fun i hi => ?_) sum_zero
  have hi := List.mem_range.mp hi
  have e1 := zero_cel (n := n) (j := i) hi (by omega)
  have e2 := zero_cel (n := n) (j := n) hi (by omega)
  unfold cel at e1 e2
  rw [e1, e2]
  rfl
def mixT (n : Nat) (a : Int) (u t : List (List Int)) : List (List Int) := (List.range n).map fun (i : Nat) => if (i : Int) = a then rowA u i else rowA t i
theorem mix_tab {n : Nat} {a : Int} {u t : List (List Int)} (U : Tab n u) (T : Tab n t) : Tab n (mixT n a u t) := by
  have l : (mixT n a u t).length = n := by simp [mixT]
  refine ⟨wf_of fun r hr => ?_, l⟩
  obtain ⟨i, hi, rfl⟩ := List.mem_map.mp hr
  have hi := List.mem_range.mp hi
  rw [l]
  split
  · exact U.row hi
  · exact T.row hi
theorem mix_cel {n : Nat} {a : Int} {u t : List (List Int)} {i j : Nat} (hi : i < n) : cel (mixT n a u t) i j = if (i : Int) = a then cel u i j else cel t i j := by
  unfold cel
  have e : rowA (mixT n a u t) i = if (i : Int) = a then rowA u i else rowA t i := by
    rw [rowA_nat (by simp [mixT]; exact hi)]
    simp [mixT]
  rw [e]
  split <;> rfl
theorem law_h (ns : List Int) (hl : ns.length ≤ 63) (h : Hs) : f_law [script ns] h = .ok (.bl true) h := by
  rw [r_law rfl]
  obtain ⟨d0, d1⟩ := drawI_bd ns 0
  have dw := draw_eq (ns := ns) (k := 0) (h := h) (by omega) (by omega)
  generalize drawI ns 0 = dr at *
  obtain ⟨n, n2, n8, en⟩ : ∃ n : Nat, 2 ≤ n ∧ n ≤ 8 ∧ (n : Int) = if dr / 3 % 6 = 1 then 5 + dr / 18 % 4 else 2 + dr % 3 := by
    refine ⟨(if dr / 3 % 6 = 1 then 5 + dr / 18 % 4 else 2 + dr % 3).toNat, ?_⟩
    split <;> omega
  have ls : gLen h [script ns] = some (.int ns.length) := by unfold script; simp
  have e1 : S.evs gam_law n_law (b_law.take 3) [some (script ns), none, none, none, none, none, none, none, none, none, none, none, none, none, none, none] h = .nx [some (script ns), some (.int dr), some (.int n), none, none, none, none, none, none, none, none, none, none, none, none, none] h := by
    simp (disch := first | (simp; done) | omega) [b_law, k_law_law_b_draw, dw, gFdiv_int]
    by_cases q : dr / 3 % 6 = 1
    · simp [q] at en
      simp (disch := first | (simp; done) | omega) [q, ← en, gFdiv_int]
    · simp [q] at en
      simp [q, ← en]
  rw [show b_law = b_law.take 3 ++ b_law.drop 3 from rfl, evs_append]
  rw [show (List.map some [script ns] ++ List.replicate 15 none : SD) = [some (script ns), none, none, none, none, none, none, none, none, none, none, none, none, none, none, none] from rfl, e1, seq_nx]
  have bq := fun h => bare_eq (n := (n : Int)) (h := h) (by omega) (by omega)
  simp (disch := first | (simp; done) | omega) [b_law, k_law_bare, bq, ls]
  obtain ⟨m, em, m1, m2⟩ : ∃ m : Nat, (m : Int) = (if 8 < if (ns.length : Int) - 1 < 60 then (ns.length : Int) - 1 else 60 then if (ns.length : Int) - 1 < 60 then (ns.length : Int) - 1 else 60 else 8) ∧ 8 ≤ m ∧ m ≤ 60 := by
    refine ⟨(if 8 < if (ns.length : Int) - 1 < 60 then (ns.length : Int) - 1 else 60 then if (ns.length : Int) - 1 < 60 then (ns.length : Int) - 1 else 60 else 8).toNat, ?_⟩
    split <;> split <;> omega
  rw [← em, rngN (by omega), thenO_ok]
  simp only [src0_ds, src0_c, forC_T]
  have F := forL_rel (f := fun (k : Nat) => D.int k) (turn := T_law_0) (fun (_ : Unit) s h' => ∃ t u due x7 x8 x9 x10, s = St14 ns dr n t u due m x7 x8 x9 x10 ∧ h' = h ∧ Comes n t ∧ Tab n u ∧ (∀ i j : Nat, i < n → j < n + 1 → cel u i j ≤ cel t i j) ∧ stockI t = due) (fun b _ => b) (List.range m) () _ h ⟨bareI n, bareI n, 0, none, none, none, none, rfl, rfl, by rw [bare_zero]; exact zero_comes, bare_tab n, fun _ _ _ _ => Int.le_refl _, by rw [bare_zero]; exact zero_stock⟩ ?_
  · obtain ⟨s', h', F, t, u, due, x7, x8, x9, x10, rfl, rfl, C, U, le, ed⟩ := F
    simp only [T_law_0, L_law_0] at F
    rw [F]
    have T := C.tab
    have l := T.len
    have q0 := Int.emod_nonneg (dr / 3) (b := (n : Int)) (by omega)
    have q1 := Int.emod_lt_of_pos (dr / 3) (b := (n : Int)) (by omega)
    simp (disch := first | (simp; done) | omega) [gFdiv_int, rngN]
    generalize dr / 3 % (n : Int) = a at *
    rw [lcM (fun (i : Nat) => rowD (if (i : Int) = a then rowA u i else rowA t i)) _ (by simp; omega)]
    · have M := mix_tab (a := a) U T
      have et : D.tup ((List.range n).map fun (i : Nat) => rowD (if (i : Int) = a then rowA u i else rowA t i)) = tabD (mixT n a u t) := by
        unfold tabD mixT
        rw [List.map_map]
        rfl
      have lm : ∀ i j : Nat, i < n → j < n + 1 → cel (mixT n a u t) i j ≤ cel t i j := fun i j hi hj => by
        rw [mix_cel hi]
        split
        · exact le i j hi hj
        · exact Int.le_refl _
      have w1 := is_within_eq (h := h') (s := mixT n a u t) (t := t) (by rw [M.len, l]) (by rw [M.len]; omega) M.wf
      rw [(tabWithin_iff M T).mpr lm] at w1
      have j1 := joined_eq (h := h') (s := mixT n a u t) (t := t) (by rw [M.len, l]) (by rw [M.len]; omega) M.wf
      rw [join_of M T T fun i j hi hj => by have := lm i j hi hj; split <;> omega] at j1
      have j2 := joined_eq (h := h') (s := u) (t := t) (by rw [U.len, l]) (by rw [U.len]; omega) U.wf
      rw [join_of U T T fun i j hi hj => by have := le i j hi hj; split <;> omega] at j2
      simp [et, k_law_is_within, w1, k_law_joined, j1, j2, gNe_enc enc_tab]
      rw [lcM (fun (r : List Int) => D.int r.sum) t (by omega)]
      · have gs := gSum_mapf (h := h') (p := fun (r : List Int) => r.sum) (l := t)
        rw [rows_sum T] at gs
        by_cases z : 300 < allI n t
        · simp [gs, z, back_nr]
        · obtain ⟨left, held, ps, e1, -, e3, -⟩ := steps_eq (h := h') T n8 C.nn (C.b n8) (by omega)
          have sl := steps_len C.nn e3
          generalize ((List.range n).flatMap (makesL t) ++ lendsL ps ++ (List.range n).flatMap (usesL n t)) = dd at e1 sl
          simp [gs, z, k_law_steps, e1, back_nr]
          exact sl
      · intro r hr
        simp [lcT, rowD]
    · intro k hk
      have hk := List.mem_range.mp hk
      have ea := fun h => ix_tab (h := h) (t := t) (i := (k : Int)) (by omega) (by omega)
      have eb := fun h => ix_tab (h := h) (t := u) (i := (k : Int)) (by omega) (by rw [U.len]; omega)
      by_cases z : (k : Int) = a
      · rw [z] at eb
        simp [lcT, z, eb]
      · simp [lcT, z, ea, eb]
  · rintro b s h' k hk ⟨t, u, due, x7, x8, x9, x10, rfl, rfl, C, U, le, ed⟩
    have hk := List.mem_range.mp hk
    obtain ⟨t', u', due', y8, y9, y10, e, C', U', le', ed'⟩ := turn14 (ns := ns) (dr := dr) (due := due) (many := m) (k := k) (x7 := x7) (x8 := x8) (x9 := x9) (x10 := x10) (h := h') C U le ed n2 n8 (by omega) d0 d1 (by omega)
    exact ⟨_, _, .inl e, t', u', due', _, y8, y9, y10, rfl, rfl, C', U', le', ed'⟩
theorem law_true (ns : List Int) (hl : ns.length ≤ 63) : ∃ h', f_law [script ns] [] = .ok (.bl true) h' := ⟨_, law_h ns hl []⟩
end Gx
namespace K14
open PySem L2 Gx
def top (i : Nat) : Stmt := PySem.Challenge.pw_lendwharf_k14_whole_row_of_deeds.main.body.getD i (.Pass ⟨0, 0, 0, 0⟩)
def blts : List Str := ["ValueError", "tuple", "sum", "all", "list", "range", "any", "len", "max", "min", "set", "zip"]
def csts : List (Str × D) := [("MOST_STEPS", .int (300))]
def F0 (K : PySem.W.Frag) : Fr := ⟨K, fun x => (PySem.W.nsIn K mainGlobals x).join.getD .none, none⟩
def exs : List Str := ["NoTable", "NoHouse", "NoDeed", "TooMany", "Short"]
def ask : List Str := ["Short"]
def fid_bare : List (Str × Nat) := []
def g_bare : Cfg := ⟨N_bare, defScope (top 8), blts, fid_bare, csts, [], [], true, exs, ask⟩
theorem c_bare : mapO (compS 30 g_bare 30) (defBody (top 8)) = some b_bare := comp_eq (by decide +kernel)
theorem s_bare : FnScope N_bare ["n"] (defScope (top 8)) := ⟨rfl, rfl, rfl, by decide +kernel, rfl, by decide +kernel, by decide +kernel⟩
def fid_need_house : List (Str × Nat) := []
def g_need_house : Cfg := ⟨N_need_house, defScope (top 9), blts, fid_need_house, csts, [], [], true, exs, ask⟩
theorem c_need_house : mapO (compS 30 g_need_house 30) (defBody (top 9)) = some b_need_house := comp_eq (by decide +kernel)
theorem s_need_house : FnScope N_need_house ["table", "house"] (defScope (top 9)) := ⟨rfl, rfl, rfl, by decide +kernel, rfl, by decide +kernel, by decide +kernel⟩
def fid_lent_by : List (Str × Nat) := []
def g_lent_by : Cfg := ⟨N_lent_by, defScope (top 10), blts, fid_lent_by, csts, [], [], true, exs, ask⟩
theorem c_lent_by : mapO (compS 30 g_lent_by 30) (defBody (top 10)) = some b_lent_by := comp_eq (by decide +kernel)
theorem s_lent_by : FnScope N_lent_by ["table", "house"] (defScope (top 10)) := ⟨rfl, rfl, rfl, by decide +kernel, rfl, by decide +kernel, by decide +kernel⟩
def fid_lent_to : List (Str × Nat) := []
def g_lent_to : Cfg := ⟨N_lent_to, defScope (top 11), blts, fid_lent_to, csts, [], [], true, exs, ask⟩
theorem c_lent_to : mapO (compS 30 g_lent_to 30) (defBody (top 11)) = some b_lent_to := comp_eq (by decide +kernel)
theorem s_lent_to : FnScope N_lent_to ["table", "house"] (defScope (top 11)) := ⟨rfl, rfl, rfl, by decide +kernel, rfl, by decide +kernel, by decide +kernel⟩
def fid_rights : List (Str × Nat) := [("need_house", 11), ("lent_by", 12), ("lent_to", 13)]
def g_rights : Cfg := ⟨N_rights, defScope (top 12), blts, fid_rights, csts, [], [], true, exs, ask⟩
theorem c_rights : mapO (compS 30 g_rights 30) (defBody (top 12)) = some b_rights := comp_eq (by decide +kernel)
theorem s_rights : FnScope N_rights ["table", "house"] (defScope (top 12)) := ⟨rfl, rfl, rfl, by decide +kernel, rfl, by decide +kernel, by decide +kernel⟩
def fid_stock : List (Str × Nat) := []
def g_stock : Cfg := ⟨N_stock, defScope (top 13), blts, fid_stock, csts, [], [], true, exs, ask⟩
theorem c_stock : mapO (compS 30 g_stock 30) (defBody (top 13)) = some b_stock := comp_eq (by decide +kernel)
theorem s_stock : FnScope N_stock ["table"] (defScope (top 13)) := ⟨rfl, rfl, rfl, by decide +kernel, rfl, by decide +kernel, by decide +kernel⟩
def fid_need_alike : List (Str × Nat) := []
def g_need_alike : Cfg := ⟨N_need_alike, defScope (top 14), blts, fid_need_alike, csts, [], [], true, exs, ask⟩
theorem c_need_alike : mapO (compS 30 g_need_alike 30) (defBody (top 14)) = some b_need_alike := comp_eq (by decide +kernel)
theorem s_need_alike : FnScope N_need_alike ["one", "other"] (defScope (top 14)) := ⟨rfl, rfl, rfl, by decide +kernel, rfl, by decide +kernel, by decide +kernel⟩
def fid_is_row_within : List (Str × Nat) := []
def g_is_row_within : Cfg := ⟨N_is_row_within, defScope (top 15), blts, fid_is_row_within, csts, [], [], true, exs, ask⟩
theorem c_is_row_within : mapO (compS 30 g_is_row_within 30) (defBody (top 15)) = some b_is_row_within := comp_eq (by decide +kernel)
theorem s_is_row_within : FnScope N_is_row_within ["row", "other"] (defScope (top 15)) := ⟨rfl, rfl, rfl, by decide +kernel, rfl, by decide +kernel, by decide +kernel⟩
def fid_is_within : List (Str × Nat) := [("need_alike", 20), ("is_row_within", 21)]
def g_is_within : Cfg := ⟨N_is_within, defScope (top 16), blts, fid_is_within, csts, [], [], true, exs, ask⟩
theorem c_is_within : mapO (compS 30 g_is_within 30) (defBody (top 16)) = some b_is_within := comp_eq (by decide +kernel)
theorem s_is_within : FnScope N_is_within ["one", "other"] (defScope (top 16)) := ⟨rfl, rfl, rfl, by decide +kernel, rfl, by decide +kernel, by decide +kernel⟩
def fid_joined : List (Str × Nat) := [("need_alike", 20)]
def g_joined : Cfg := ⟨N_joined, defScope (top 17), blts, fid_joined, csts, [], [], true, exs, ask⟩
theorem c_joined : mapO (compS 30 g_joined 30) (defBody (top 17)) = some b_joined := comp_eq (by decide +kernel)
theorem s_joined : FnScope N_joined ["one", "other"] (defScope (top 17)) := ⟨rfl, rfl, rfl, by decide +kernel, rfl, by decide +kernel, by decide +kernel⟩
def fid_is_deed : List (Str × Nat) := []
def g_is_deed : Cfg := ⟨N_is_deed, defScope (top 19), blts, fid_is_deed, csts, [], [], true, exs, ask⟩
theorem c_is_deed : mapO (compS 30 g_is_deed 30) (defBody (top 19)) = some b_is_deed := comp_eq (by decide +kernel)
theorem s_is_deed : FnScope N_is_deed ["deed"] (defScope (top 19)) := ⟨rfl, rfl, rfl, by decide +kernel, rfl, by decide +kernel, by decide +kernel⟩
def fid_place_of : List (Str × Nat) := []
def g_place_of : Cfg := ⟨N_place_of, defScope (top 20), blts, fid_place_of, csts, [], [], true, exs, ask⟩
theorem c_place_of : mapO (compS 30 g_place_of 30) (defBody (top 20)) = some b_place_of := comp_eq (by decide +kernel)
theorem s_place_of : FnScope N_place_of ["n", "deed"] (defScope (top 20)) := ⟨rfl, rfl, rfl, by decide +kernel, rfl, by decide +kernel, by decide +kernel⟩
def fid_raised : List (Str × Nat) := []
def g_raised : Cfg := ⟨N_raised, defScope (top 21), blts, fid_raised, csts, [(58, 10)], [], true, exs, ask⟩
theorem c_raised : mapO (compS 30 g_raised 30) (defBody (top 21)) = some b_raised := comp_eq (by decide +kernel)
theorem s_raised : FnScope N_raised ["table", "house", "place", "k"] (defScope (top 21)) := ⟨rfl, rfl, rfl, by decide +kernel, rfl, by decide +kernel, by decide +kernel⟩
def fid_done : List (Str × Nat) := [("raised", 40), ("is_deed", 38), ("need_house", 11), ("place_of", 39), ("rights", 14)]
def g_done : Cfg := ⟨N_done, defScope (top 22), blts, fid_done, csts, [], [], true, exs, ask⟩
theorem c_done : mapO (compS 30 g_done 30) (defBody (top 22)) = some b_done := comp_eq (by decide +kernel)
theorem s_done : FnScope N_done ["table", "deed"] (defScope (top 22)) := ⟨rfl, rfl, rfl, by decide +kernel, rfl, by decide +kernel, by decide +kernel⟩
def fid_is_busy : List (Str × Nat) := [("lent_by", 12)]
def g_is_busy : Cfg := ⟨N_is_busy, defScope (top 25), blts, fid_is_busy, csts, [], [], true, exs, ask⟩
theorem c_is_busy : mapO (compS 30 g_is_busy 30) (defBody (top 25)) = some b_is_busy := comp_eq (by decide +kernel)
theorem s_is_busy : FnScope N_is_busy ["table", "house"] (defScope (top 25)) := ⟨rfl, rfl, rfl, by decide +kernel, rfl, by decide +kernel, by decide +kernel⟩
def fid_rooted : List (Str × Nat) := []
def g_rooted : Cfg := ⟨N_rooted, defScope (top 26), blts, fid_rooted, csts, [(76, 12)], [], true, exs, ask⟩
theorem c_rooted : mapO (compS 30 g_rooted 30) (defBody (top 26)) = some b_rooted := comp_eq (by decide +kernel)
theorem s_rooted : FnScope N_rooted ["table"] (defScope (top 26)) := ⟨rfl, rfl, rfl, by decide +kernel, rfl, by decide +kernel, by decide +kernel⟩
def fid_comes_about : List (Str × Nat) := [("rooted", 67), ("rights", 14), ("is_busy", 53)]
def g_comes_about : Cfg := ⟨N_comes_about, defScope (top 27), blts, fid_comes_about, csts, [], [], true, exs, ask⟩
theorem c_comes_about : mapO (compS 30 g_comes_about 30) (defBody (top 27)) = some b_comes_about := comp_eq (by decide +kernel)
theorem s_comes_about : FnScope N_comes_about ["table"] (defScope (top 27)) := ⟨rfl, rfl, rfl, by decide +kernel, rfl, by decide +kernel, by decide +kernel⟩
def fid_are_houses : List (Str × Nat) := []
def g_are_houses : Cfg := ⟨N_are_houses, defScope (top 28), blts, fid_are_houses, csts, [], [], true, exs, ask⟩
theorem c_are_houses : mapO (compS 30 g_are_houses 30) (defBody (top 28)) = some b_are_houses := comp_eq (by decide +kernel)
theorem s_are_houses : FnScope N_are_houses ["table", "houses"] (defScope (top 28)) := ⟨rfl, rfl, rfl, by decide +kernel, rfl, by decide +kernel, by decide +kernel⟩
def fid_is_root_list : List (Str × Nat) := [("are_houses", 54), ("is_busy", 53)]
def g_is_root_list : Cfg := ⟨N_is_root_list, defScope (top 29), blts, fid_is_root_list, csts, [], [], true, exs, ask⟩
theorem c_is_root_list : mapO (compS 30 g_is_root_list 30) (defBody (top 29)) = some b_is_root_list := comp_eq (by decide +kernel)
theorem s_is_root_list : FnScope N_is_root_list ["table", "houses"] (defScope (top 29)) := ⟨rfl, rfl, rfl, by decide +kernel, rfl, by decide +kernel, by decide +kernel⟩
def fid_ways_on : List (Str × Nat) := [("rights", 14)]
def g_ways_on : Cfg := ⟨N_ways_on, defScope (top 30), blts, fid_ways_on, csts, [(107, 12), (108, 12)], [], true, exs, ask⟩
theorem c_ways_on : mapO (compS 30 g_ways_on 30) (defBody (top 30)) = some b_ways_on := comp_eq (by decide +kernel)
theorem s_ways_on : FnScope N_ways_on ["table"] (defScope (top 30)) := ⟨rfl, rfl, rfl, by decide +kernel, rfl, by decide +kernel, by decide +kernel⟩
def fid_next_lent : List (Str × Nat) := []
def g_next_lent : Cfg := ⟨N_next_lent, defScope (top 31), blts, fid_next_lent, csts, [], [], true, exs, ask⟩
theorem c_next_lent : mapO (compS 30 g_next_lent 30) (defBody (top 31)) = some b_next_lent := comp_eq (by decide +kernel)
theorem s_next_lent : FnScope N_next_lent ["table", "house", "left", "onward"] (defScope (top 31)) := ⟨rfl, rfl, rfl, by decide +kernel, rfl, by decide +kernel, by decide +kernel⟩
def fid_lendings : List (Str × Nat) := [("ways_on", 73), ("next_lent", 74)]
def g_lendings : Cfg := ⟨N_lendings, defScope (top 32), blts, fid_lendings, csts, [(127, 11), (127, 12), (128, 11), (129, 12)], [], true, exs, ask⟩
theorem c_lendings : mapO (compS 30 g_lendings 30) (defBody (top 32)) = some b_lendings := comp_eq (by decide +kernel)
theorem s_lendings : FnScope N_lendings ["table"] (defScope (top 32)) := ⟨rfl, rfl, rfl, by decide +kernel, rfl, by decide +kernel, by decide +kernel⟩
def fid_steps : List (Str × Nat) := [("lendings", 75), ("comes_about", 68)]
def g_steps : Cfg := ⟨N_steps, defScope (top 33), blts, fid_steps, csts, [(145, 12)], [], true, exs, ask⟩
theorem c_steps : mapO (compS 30 g_steps 30) (defBody (top 33)) = some b_steps := comp_eq (by decide +kernel)
theorem s_steps : FnScope N_steps ["table"] (defScope (top 33)) := ⟨rfl, rfl, rfl, by decide +kernel, rfl, by decide +kernel, by decide +kernel⟩
def fid_law_b_draw : List (Str × Nat) := []
def g_law_b_draw : Cfg := ⟨N_law_b_draw, defScope (top 35), blts, fid_law_b_draw, csts, [], [], true, exs, ask⟩
theorem c_law_b_draw : mapO (compS 30 g_law_b_draw 30) (defBody (top 35)) = some b_law_b_draw := comp_eq (by decide +kernel)
theorem s_law_b_draw : FnScope N_law_b_draw ["script", "k"] (defScope (top 35)) := ⟨rfl, rfl, rfl, by decide +kernel, rfl, by decide +kernel, by decide +kernel⟩
def fid_law_b_rights : List (Str × Nat) := []
def g_law_b_rights : Cfg := ⟨N_law_b_rights, defScope (top 36), blts, fid_law_b_rights, csts, [], [], true, exs, ask⟩
theorem c_law_b_rights : mapO (compS 30 g_law_b_rights 30) (defBody (top 36)) = some b_law_b_rights := comp_eq (by decide +kernel)
theorem s_law_b_rights : FnScope N_law_b_rights ["table", "house"] (defScope (top 36)) := ⟨rfl, rfl, rfl, by decide +kernel, rfl, by decide +kernel, by decide +kernel⟩
def fid_law_b_deed_v1 : List (Str × Nat) := [("_law_b_rights", 16)]
def g_law_b_deed_v1 : Cfg := ⟨N_law_b_deed_v1, defScope (top 37), blts, fid_law_b_deed_v1, csts, [], [], true, exs, ask⟩
theorem c_law_b_deed_v1 : mapO (compS 30 g_law_b_deed_v1 30) (defBody (top 37)) = some b_law_b_deed_v1 := comp_eq (by decide +kernel)
theorem s_law_b_deed_v1 : FnScope N_law_b_deed_v1 ["table", "draw"] (defScope (top 37)) := ⟨rfl, rfl, rfl, by decide +kernel, rfl, by decide +kernel, by decide +kernel⟩
def fid_law_b_told_v3 : List (Str × Nat) := [("done", 41)]
def g_law_b_told_v3 : Cfg := ⟨N_law_b_told_v3, defScope (top 38), blts, fid_law_b_told_v3, csts, [], [], true, exs, ask⟩
theorem c_law_b_told_v3 : mapO (compS 30 g_law_b_told_v3 30) (defBody (top 38)) = some b_law_b_told_v3 := comp_eq (by decide +kernel)
theorem s_law_b_told_v3 : FnScope N_law_b_told_v3 ["table", "deed"] (defScope (top 38)) := ⟨rfl, rfl, rfl, by decide +kernel, rfl, by decide +kernel, by decide +kernel⟩
def fid_law_b_stands : List (Str × Nat) := [("comes_about", 68), ("is_root_list", 55), ("is_within", 22), ("stock", 15)]
def g_law_b_stands : Cfg := ⟨N_law_b_stands, defScope (top 39), blts, fid_law_b_stands, csts, [], [], true, exs, ask⟩
theorem c_law_b_stands : mapO (compS 30 g_law_b_stands 30) (defBody (top 39)) = some b_law_b_stands := comp_eq (by decide +kernel)
theorem s_law_b_stands : FnScope N_law_b_stands ["before", "table", "due"] (defScope (top 39)) := ⟨rfl, rfl, rfl, by decide +kernel, rfl, by decide +kernel, by decide +kernel⟩
def fid_law : List (Str × Nat) := [("_law_b_draw", 4), ("bare", 3), ("_law_b_deed", 88), ("_law_b_told", 89), ("is_within", 22), ("joined", 27), ("_law_b_rights", 16), ("_law_b_stands", 90), ("steps", 76)]
def g_law : Cfg := ⟨N_law, defScope (top 40), blts, fid_law, csts, [], [], true, exs, ask⟩
theorem c_law : mapO (compS 30 g_law 30) (defBody (top 40)) = some b_law := comp_eq (by decide +kernel)
theorem s_law : FnScope N_law ["script"] (defScope (top 40)) := ⟨rfl, rfl, rfl, by decide +kernel, rfl, by decide +kernel, by decide +kernel⟩
theorem all_mk {P : Program} {w : World} {K : PySem.W.Frag} {h : Heap} {mg : Str → Option Value} {fa : Addr} (X : K.In h) (G : h.Ns mainGlobals mg) (hfa : mg "law" = some (.ref fa))
    {f_bare : Addr} {od_bare an_bare : Option Addr} {sl_bare : Array (Option Value)} {oc_bare kV_bare dc_bare pm_bare cd_bare ct_bare : Value}
    {f_need_house : Addr} {od_need_house an_need_house : Option Addr} {sl_need_house : Array (Option Value)} {oc_need_house kV_need_house dc_need_house pm_need_house cd_need_house ct_need_house : Value}
    {f_lent_by : Addr} {od_lent_by an_lent_by : Option Addr} {sl_lent_by : Array (Option Value)} {oc_lent_by kV_lent_by dc_lent_by pm_lent_by cd_lent_by ct_lent_by : Value}
    {f_lent_to : Addr} {od_lent_to an_lent_to : Option Addr} {sl_lent_to : Array (Option Value)} {oc_lent_to kV_lent_to dc_lent_to pm_lent_to cd_lent_to ct_lent_to : Value}
    {f_rights : Addr} {od_rights an_rights : Option Addr} {sl_rights : Array (Option Value)} {oc_rights kV_rights dc_rights pm_rights cd_rights ct_rights : Value}
    {f_stock : Addr} {od_stock an_stock : Option Addr} {sl_stock : Array (Option Value)} {oc_stock kV_stock dc_stock pm_stock cd_stock ct_stock : Value}
    {f_need_alike : Addr} {od_need_alike an_need_alike : Option Addr} {sl_need_alike : Array (Option Value)} {oc_need_alike kV_need_alike dc_need_alike pm_need_alike cd_need_alike ct_need_alike : Value}
    {f_is_row_within : Addr} {od_is_row_within an_is_row_within : Option Addr} {sl_is_row_within : Array (Option Value)} {oc_is_row_within kV_is_row_within dc_is_row_within pm_is_row_within cd_is_row_within ct_is_row_within : Value}
    {f_is_within : Addr} {od_is_within an_is_within : Option Addr} {sl_is_within : Array (Option Value)} {oc_is_within kV_is_within dc_is_within pm_is_within cd_is_within ct_is_within : Value}
    {f_joined : Addr} {od_joined an_joined : Option Addr} {sl_joined : Array (Option Value)} {oc_joined kV_joined dc_joined pm_joined cd_joined ct_joined : Value}
    {f_is_deed : Addr} {od_is_deed an_is_deed : Option Addr} {sl_is_deed : Array (Option Value)} {oc_is_deed kV_is_deed dc_is_deed pm_is_deed cd_is_deed ct_is_deed : Value}
    {f_place_of : Addr} {od_place_of an_place_of : Option Addr} {sl_place_of : Array (Option Value)} {oc_place_of kV_place_of dc_place_of pm_place_of cd_place_of ct_place_of : Value}
    {f_raised : Addr} {od_raised an_raised : Option Addr} {sl_raised : Array (Option Value)} {oc_raised kV_raised dc_raised pm_raised cd_raised ct_raised : Value}
    {f_done : Addr} {od_done an_done : Option Addr} {sl_done : Array (Option Value)} {oc_done kV_done dc_done pm_done cd_done ct_done : Value}
    {f_is_busy : Addr} {od_is_busy an_is_busy : Option Addr} {sl_is_busy : Array (Option Value)} {oc_is_busy kV_is_busy dc_is_busy pm_is_busy cd_is_busy ct_is_busy : Value}
    {f_rooted : Addr} {od_rooted an_rooted : Option Addr} {sl_rooted : Array (Option Value)} {oc_rooted kV_rooted dc_rooted pm_rooted cd_rooted ct_rooted : Value}
    {f_comes_about : Addr} {od_comes_about an_comes_about : Option Addr} {sl_comes_about : Array (Option Value)} {oc_comes_about kV_comes_about dc_comes_about pm_comes_about cd_comes_about ct_comes_about : Value}
    {f_are_houses : Addr} {od_are_houses an_are_houses : Option Addr} {sl_are_houses : Array (Option Value)} {oc_are_houses kV_are_houses dc_are_houses pm_are_houses cd_are_houses ct_are_houses : Value}
    {f_is_root_list : Addr} {od_is_root_list an_is_root_list : Option Addr} {sl_is_root_list : Array (Option Value)} {oc_is_root_list kV_is_root_list dc_is_root_list pm_is_root_list cd_is_root_list ct_is_root_list : Value}
    {f_ways_on : Addr} {od_ways_on an_ways_on : Option Addr} {sl_ways_on : Array (Option Value)} {oc_ways_on kV_ways_on dc_ways_on pm_ways_on cd_ways_on ct_ways_on : Value}
    {f_next_lent : Addr} {od_next_lent an_next_lent : Option Addr} {sl_next_lent : Array (Option Value)} {oc_next_lent kV_next_lent dc_next_lent pm_next_lent cd_next_lent ct_next_lent : Value}
    {f_lendings : Addr} {od_lendings an_lendings : Option Addr} {sl_lendings : Array (Option Value)} {oc_lendings kV_lendings dc_lendings pm_lendings cd_lendings ct_lendings : Value}
    {f_steps : Addr} {od_steps an_steps : Option Addr} {sl_steps : Array (Option Value)} {oc_steps kV_steps dc_steps pm_steps cd_steps ct_steps : Value}
    {f_law_b_draw : Addr} {od_law_b_draw an_law_b_draw : Option Addr} {sl_law_b_draw : Array (Option Value)} {oc_law_b_draw kV_law_b_draw dc_law_b_draw pm_law_b_draw cd_law_b_draw ct_law_b_draw : Value}
    {f_law_b_rights : Addr} {od_law_b_rights an_law_b_rights : Option Addr} {sl_law_b_rights : Array (Option Value)} {oc_law_b_rights kV_law_b_rights dc_law_b_rights pm_law_b_rights cd_law_b_rights ct_law_b_rights : Value}
    {f_law_b_deed_v1 : Addr} {od_law_b_deed_v1 an_law_b_deed_v1 : Option Addr} {sl_law_b_deed_v1 : Array (Option Value)} {oc_law_b_deed_v1 kV_law_b_deed_v1 dc_law_b_deed_v1 pm_law_b_deed_v1 cd_law_b_deed_v1 ct_law_b_deed_v1 : Value}
    {f_law_b_told_v3 : Addr} {od_law_b_told_v3 an_law_b_told_v3 : Option Addr} {sl_law_b_told_v3 : Array (Option Value)} {oc_law_b_told_v3 kV_law_b_told_v3 dc_law_b_told_v3 pm_law_b_told_v3 cd_law_b_told_v3 ct_law_b_told_v3 : Value}
    {f_law_b_stands : Addr} {od_law_b_stands an_law_b_stands : Option Addr} {sl_law_b_stands : Array (Option Value)} {oc_law_b_stands kV_law_b_stands dc_law_b_stands pm_law_b_stands cd_law_b_stands ct_law_b_stands : Value}
    {f_law : Addr} {od_law an_law : Option Addr} {sl_law : Array (Option Value)} {oc_law kV_law dc_law pm_law cd_law ct_law : Value}
    {t0 : Tok}
    {C_NoTable : Addr}
    {C_NoHouse : Addr}
    {C_NoDeed : Addr}
    {C_TooMany : Addr}
    {C_Short : Addr}
    {S_nm S_q : Str} {S_N S_w fI : Addr} {S_bs : List Value} {S_sn : List Str} {S_sub : List Value} {S_ab : Bool} {S_col : Option Bool} {S_dd : Option Addr} {S_0 S_1 S_2 S_3 S_5 : Option Value} {S_od S_an : Option Addr} {S_sl : Array (Option Value)} {S_oc S_dc S_pm S_cd S_ct : Value} {S_p1 S_p2 S_q1 S_q2 S_q3 S_q4 : Pos}
    (a_bare : PySem.W.nsIn K mainGlobals "bare" = some (some (.ref f_bare))) (l_bare : K.lookup f_bare = some ⟨oc_bare, od_bare, .func (PySem.W.fnOf "bare" "bare" (defArgs (top 8)) (defBody (top 8)) (defScope (top 8)) .none kV_bare dc_bare pm_bare an_bare cd_bare ct_bare), sl_bare⟩) (q_bare : PySem.W.codeIn K cd_bare "bare" = true) (k_bare : PySem.W.keepIn K (.ref f_bare) = true)
    (a_need_house : PySem.W.nsIn K mainGlobals "need_house" = some (some (.ref f_need_house))) (l_need_house : K.lookup f_need_house = some ⟨oc_need_house, od_need_house, .func (PySem.W.fnOf "need_house" "need_house" (defArgs (top 9)) (defBody (top 9)) (defScope (top 9)) .none kV_need_house dc_need_house pm_need_house an_need_house cd_need_house ct_need_house), sl_need_house⟩) (q_need_house : PySem.W.codeIn K cd_need_house "need_house" = true) (k_need_house : PySem.W.keepIn K (.ref f_need_house) = true)
    (a_lent_by : PySem.W.nsIn K mainGlobals "lent_by" = some (some (.ref f_lent_by))) (l_lent_by : K.lookup f_lent_by = some ⟨oc_lent_by, od_lent_by, .func (PySem.W.fnOf "lent_by" "lent_by" (defArgs (top 10)) (defBody (top 10)) (defScope (top 10)) .none kV_lent_by dc_lent_by pm_lent_by an_lent_by cd_lent_by ct_lent_by), sl_lent_by⟩) (q_lent_by : PySem.W.codeIn K cd_lent_by "lent_by" = true) (k_lent_by : PySem.W.keepIn K (.ref f_lent_by) = true)
    (a_lent_to : PySem.W.nsIn K mainGlobals "lent_to" = some (some (.ref f_lent_to))) (l_lent_to : K.lookup f_lent_to = some ⟨oc_lent_to, od_lent_to, .func (PySem.W.fnOf "lent_to" "lent_to" (defArgs (top 11)) (defBody (top 11)) (defScope (top 11)) .none kV_lent_to dc_lent_to pm_lent_to an_lent_to cd_lent_to ct_lent_to), sl_lent_to⟩) (q_lent_to : PySem.W.codeIn K cd_lent_to "lent_to" = true) (k_lent_to : PySem.W.keepIn K (.ref f_lent_to) = true)
    (a_rights : PySem.W.nsIn K mainGlobals "rights" = some (some (.ref f_rights))) (l_rights : K.lookup f_rights = some ⟨oc_rights, od_rights, .func (PySem.W.fnOf "rights" "rights" (defArgs (top 12)) (defBody (top 12)) (defScope (top 12)) .none kV_rights dc_rights pm_rights an_rights cd_rights ct_rights), sl_rights⟩) (q_rights : PySem.W.codeIn K cd_rights "rights" = true) (k_rights : PySem.W.keepIn K (.ref f_rights) = true)
    (a_stock : PySem.W.nsIn K mainGlobals "stock" = some (some (.ref f_stock))) (l_stock : K.lookup f_stock = some ⟨oc_stock, od_stock, .func (PySem.W.fnOf "stock" "stock" (defArgs (top 13)) (defBody (top 13)) (defScope (top 13)) .none kV_stock dc_stock pm_stock an_stock cd_stock ct_stock), sl_stock⟩) (q_stock : PySem.W.codeIn K cd_stock "stock" = true) (k_stock : PySem.W.keepIn K (.ref f_stock) = true)
    (a_need_alike : PySem.W.nsIn K mainGlobals "need_alike" = some (some (.ref f_need_alike))) (l_need_alike : K.lookup f_need_alike = some ⟨oc_need_alike, od_need_alike, .func (PySem.W.fnOf "need_alike" "need_alike" (defArgs (top 14)) (defBody (top 14)) (defScope (top 14)) .none kV_need_alike dc_need_alike pm_need_alike an_need_alike cd_need_alike ct_need_alike), sl_need_alike⟩) (q_need_alike : PySem.W.codeIn K cd_need_alike "need_alike" = true) (k_need_alike : PySem.W.keepIn K (.ref f_need_alike) = true)
    (a_is_row_within : PySem.W.nsIn K mainGlobals "is_row_within" = some (some (.ref f_is_row_within))) (l_is_row_within : K.lookup f_is_row_within = some ⟨oc_is_row_within, od_is_row_within, .func (PySem.W.fnOf "is_row_within" "is_row_within" (defArgs (top 15)) (defBody (top 15)) (defScope (top 15)) .none kV_is_row_within dc_is_row_within pm_is_row_within an_is_row_within cd_is_row_within ct_is_row_within), sl_is_row_within⟩) (q_is_row_within : PySem.W.codeIn K cd_is_row_within "is_row_within" = true) (k_is_row_within : PySem.W.keepIn K (.ref f_is_row_within) = true)
    (a_is_within : PySem.W.nsIn K mainGlobals "is_within" = some (some (.ref f_is_within))) (l_is_within : K.lookup f_is_within = some ⟨oc_is_within, od_is_within, .func (PySem.W.fnOf "is_within" "is_within" (defArgs (top 16)) (defBody (top 16)) (defScope (top 16)) .none kV_is_within dc_is_within pm_is_within an_is_within cd_is_within ct_is_within), sl_is_within⟩) (q_is_within : PySem.W.codeIn K cd_is_within "is_within" = true) (k_is_within : PySem.W.keepIn K (.ref f_is_within) = true)
    (a_joined : PySem.W.nsIn K mainGlobals "joined" = some (some (.ref f_joined))) (l_joined : K.lookup f_joined = some ⟨oc_joined, od_joined, .func (PySem.W.fnOf "joined" "joined" (defArgs (top 17)) (defBody (top 17)) (defScope (top 17)) .none kV_joined dc_joined pm_joined an_joined cd_joined ct_joined), sl_joined⟩) (q_joined : PySem.W.codeIn K cd_joined "joined" = true) (k_joined : PySem.W.keepIn K (.ref f_joined) = true)
    (a_is_deed : PySem.W.nsIn K mainGlobals "is_deed" = some (some (.ref f_is_deed))) (l_is_deed : K.lookup f_is_deed = some ⟨oc_is_deed, od_is_deed, .func (PySem.W.fnOf "is_deed" "is_deed" (defArgs (top 19)) (defBody (top 19)) (defScope (top 19)) .none kV_is_deed dc_is_deed pm_is_deed an_is_deed cd_is_deed ct_is_deed), sl_is_deed⟩) (q_is_deed : PySem.W.codeIn K cd_is_deed "is_deed" = true) (k_is_deed : PySem.W.keepIn K (.ref f_is_deed) = true)
    (a_place_of : PySem.W.nsIn K mainGlobals "place_of" = some (some (.ref f_place_of))) (l_place_of : K.lookup f_place_of = some ⟨oc_place_of, od_place_of, .func (PySem.W.fnOf "place_of" "place_of" (defArgs (top 20)) (defBody (top 20)) (defScope (top 20)) .none kV_place_of dc_place_of pm_place_of an_place_of cd_place_of ct_place_of), sl_place_of⟩) (q_place_of : PySem.W.codeIn K cd_place_of "place_of" = true) (k_place_of : PySem.W.keepIn K (.ref f_place_of) = true)
    (a_raised : PySem.W.nsIn K mainGlobals "raised" = some (some (.ref f_raised))) (l_raised : K.lookup f_raised = some ⟨oc_raised, od_raised, .func (PySem.W.fnOf "raised" "raised" (defArgs (top 21)) (defBody (top 21)) (defScope (top 21)) .none kV_raised dc_raised pm_raised an_raised cd_raised ct_raised), sl_raised⟩) (q_raised : PySem.W.codeIn K cd_raised "raised" = true) (k_raised : PySem.W.keepIn K (.ref f_raised) = true)
    (a_done : PySem.W.nsIn K mainGlobals "done" = some (some (.ref f_done))) (l_done : K.lookup f_done = some ⟨oc_done, od_done, .func (PySem.W.fnOf "done" "done" (defArgs (top 22)) (defBody (top 22)) (defScope (top 22)) .none kV_done dc_done pm_done an_done cd_done ct_done), sl_done⟩) (q_done : PySem.W.codeIn K cd_done "done" = true) (k_done : PySem.W.keepIn K (.ref f_done) = true)
    (a_is_busy : PySem.W.nsIn K mainGlobals "is_busy" = some (some (.ref f_is_busy))) (l_is_busy : K.lookup f_is_busy = some ⟨oc_is_busy, od_is_busy, .func (PySem.W.fnOf "is_busy" "is_busy" (defArgs (top 25)) (defBody (top 25)) (defScope (top 25)) .none kV_is_busy dc_is_busy pm_is_busy an_is_busy cd_is_busy ct_is_busy), sl_is_busy⟩) (q_is_busy : PySem.W.codeIn K cd_is_busy "is_busy" = true) (k_is_busy : PySem.W.keepIn K (.ref f_is_busy) = true)
    (a_rooted : PySem.W.nsIn K mainGlobals "rooted" = some (some (.ref f_rooted))) (l_rooted : K.lookup f_rooted = some ⟨oc_rooted, od_rooted, .func (PySem.W.fnOf "rooted" "rooted" (defArgs (top 26)) (defBody (top 26)) (defScope (top 26)) .none kV_rooted dc_rooted pm_rooted an_rooted cd_rooted ct_rooted), sl_rooted⟩) (q_rooted : PySem.W.codeIn K cd_rooted "rooted" = true) (k_rooted : PySem.W.keepIn K (.ref f_rooted) = true)
    (a_comes_about : PySem.W.nsIn K mainGlobals "comes_about" = some (some (.ref f_comes_about))) (l_comes_about : K.lookup f_comes_about = some ⟨oc_comes_about, od_comes_about, .func (PySem.W.fnOf "comes_about" "comes_about" (defArgs (top 27)) (defBody (top 27)) (defScope (top 27)) .none kV_comes_about dc_comes_about pm_comes_about an_comes_about cd_comes_about ct_comes_about), sl_comes_about⟩) (q_comes_about : PySem.W.codeIn K cd_comes_about "comes_about" = true) (k_comes_about : PySem.W.keepIn K (.ref f_comes_about) = true)
    (a_are_houses : PySem.W.nsIn K mainGlobals "are_houses" = some (some (.ref f_are_houses))) (l_are_houses : K.lookup f_are_houses = some ⟨oc_are_houses, od_are_houses, .func (PySem.W.fnOf "are_houses" "are_houses" (defArgs (top 28)) (defBody (top 28)) (defScope (top 28)) .none kV_are_houses dc_are_houses pm_are_houses an_are_houses cd_are_houses ct_are_houses), sl_are_houses⟩) (q_are_houses : PySem.W.codeIn K cd_are_houses "are_houses" = true) (k_are_houses : PySem.W.keepIn K (.ref f_are_houses) = true)
    (a_is_root_list : PySem.W.nsIn K mainGlobals "is_root_list" = some (some (.ref f_is_root_list))) (l_is_root_list : K.lookup f_is_root_list = some ⟨oc_is_root_list, od_is_root_list, .func (PySem.W.fnOf "is_root_list" "is_root_list" (defArgs (top 29)) (defBody (top 29)) (defScope (top 29)) .none kV_is_root_list dc_is_root_list pm_is_root_list an_is_root_list cd_is_root_list ct_is_root_list), sl_is_root_list⟩) (q_is_root_list : PySem.W.codeIn K cd_is_root_list "is_root_list" = true) (k_is_root_list : PySem.W.keepIn K (.ref f_is_root_list) = true)
    (a_ways_on : PySem.W.nsIn K mainGlobals "ways_on" = some (some (.ref f_ways_on))) (l_ways_on : K.lookup f_ways_on = some ⟨oc_ways_on, od_ways_on, .func (PySem.W.fnOf "ways_on" "ways_on" (defArgs (top 30)) (defBody (top 30)) (defScope (top 30)) .none kV_ways_on dc_ways_on pm_ways_on an_ways_on cd_ways_on ct_ways_on), sl_ways_on⟩) (q_ways_on : PySem.W.codeIn K cd_ways_on "ways_on" = true) (k_ways_on : PySem.W.keepIn K (.ref f_ways_on) = true)
    (a_next_lent : PySem.W.nsIn K mainGlobals "next_lent" = some (some (.ref f_next_lent))) (l_next_lent : K.lookup f_next_lent = some ⟨oc_next_lent, od_next_lent, .func (PySem.W.fnOf "next_lent" "next_lent" (defArgs (top 31)) (defBody (top 31)) (defScope (top 31)) .none kV_next_lent dc_next_lent pm_next_lent an_next_lent cd_next_lent ct_next_lent), sl_next_lent⟩) (q_next_lent : PySem.W.codeIn K cd_next_lent "next_lent" = true) (k_next_lent : PySem.W.keepIn K (.ref f_next_lent) = true)
    (a_lendings : PySem.W.nsIn K mainGlobals "lendings" = some (some (.ref f_lendings))) (l_lendings : K.lookup f_lendings = some ⟨oc_lendings, od_lendings, .func (PySem.W.fnOf "lendings" "lendings" (defArgs (top 32)) (defBody (top 32)) (defScope (top 32)) .none kV_lendings dc_lendings pm_lendings an_lendings cd_lendings ct_lendings), sl_lendings⟩) (q_lendings : PySem.W.codeIn K cd_lendings "lendings" = true) (k_lendings : PySem.W.keepIn K (.ref f_lendings) = true)
    (a_steps : PySem.W.nsIn K mainGlobals "steps" = some (some (.ref f_steps))) (l_steps : K.lookup f_steps = some ⟨oc_steps, od_steps, .func (PySem.W.fnOf "steps" "steps" (defArgs (top 33)) (defBody (top 33)) (defScope (top 33)) .none kV_steps dc_steps pm_steps an_steps cd_steps ct_steps), sl_steps⟩) (q_steps : PySem.W.codeIn K cd_steps "steps" = true) (k_steps : PySem.W.keepIn K (.ref f_steps) = true)
    (a_law_b_draw : PySem.W.nsIn K mainGlobals "_law_b_draw" = some (some (.ref f_law_b_draw))) (l_law_b_draw : K.lookup f_law_b_draw = some ⟨oc_law_b_draw, od_law_b_draw, .func (PySem.W.fnOf "_law_b_draw" "_law_b_draw" (defArgs (top 35)) (defBody (top 35)) (defScope (top 35)) .none kV_law_b_draw dc_law_b_draw pm_law_b_draw an_law_b_draw cd_law_b_draw ct_law_b_draw), sl_law_b_draw⟩) (q_law_b_draw : PySem.W.codeIn K cd_law_b_draw "_law_b_draw" = true) (k_law_b_draw : PySem.W.keepIn K (.ref f_law_b_draw) = true)
    (a_law_b_rights : PySem.W.nsIn K mainGlobals "_law_b_rights" = some (some (.ref f_law_b_rights))) (l_law_b_rights : K.lookup f_law_b_rights = some ⟨oc_law_b_rights, od_law_b_rights, .func (PySem.W.fnOf "_law_b_rights" "_law_b_rights" (defArgs (top 36)) (defBody (top 36)) (defScope (top 36)) .none kV_law_b_rights dc_law_b_rights pm_law_b_rights an_law_b_rights cd_law_b_rights ct_law_b_rights), sl_law_b_rights⟩) (q_law_b_rights : PySem.W.codeIn K cd_law_b_rights "_law_b_rights" = true) (k_law_b_rights : PySem.W.keepIn K (.ref f_law_b_rights) = true)
    (a_law_b_deed_v1 : PySem.W.nsIn K mainGlobals "_law_b_deed" = some (some (.ref f_law_b_deed_v1))) (l_law_b_deed_v1 : K.lookup f_law_b_deed_v1 = some ⟨oc_law_b_deed_v1, od_law_b_deed_v1, .func (PySem.W.fnOf "_law_b_deed" "_law_b_deed" (defArgs (top 37)) (defBody (top 37)) (defScope (top 37)) .none kV_law_b_deed_v1 dc_law_b_deed_v1 pm_law_b_deed_v1 an_law_b_deed_v1 cd_law_b_deed_v1 ct_law_b_deed_v1), sl_law_b_deed_v1⟩) (q_law_b_deed_v1 : PySem.W.codeIn K cd_law_b_deed_v1 "_law_b_deed" = true) (k_law_b_deed_v1 : PySem.W.keepIn K (.ref f_law_b_deed_v1) = true)
    (a_law_b_told_v3 : PySem.W.nsIn K mainGlobals "_law_b_told" = some (some (.ref f_law_b_told_v3))) (l_law_b_told_v3 : K.lookup f_law_b_told_v3 = some ⟨oc_law_b_told_v3, od_law_b_told_v3, .func (PySem.W.fnOf "_law_b_told" "_law_b_told" (defArgs (top 38)) (defBody (top 38)) (defScope (top 38)) .none kV_law_b_told_v3 dc_law_b_told_v3 pm_law_b_told_v3 an_law_b_told_v3 cd_law_b_told_v3 ct_law_b_told_v3), sl_law_b_told_v3⟩) (q_law_b_told_v3 : PySem.W.codeIn K cd_law_b_told_v3 "_law_b_told" = true) (k_law_b_told_v3 : PySem.W.keepIn K (.ref f_law_b_told_v3) = true)
    (a_law_b_stands : PySem.W.nsIn K mainGlobals "_law_b_stands" = some (some (.ref f_law_b_stands))) (l_law_b_stands : K.lookup f_law_b_stands = some ⟨oc_law_b_stands, od_law_b_stands, .func (PySem.W.fnOf "_law_b_stands" "_law_b_stands" (defArgs (top 39)) (defBody (top 39)) (defScope (top 39)) .none kV_law_b_stands dc_law_b_stands pm_law_b_stands an_law_b_stands cd_law_b_stands ct_law_b_stands), sl_law_b_stands⟩) (q_law_b_stands : PySem.W.codeIn K cd_law_b_stands "_law_b_stands" = true) (k_law_b_stands : PySem.W.keepIn K (.ref f_law_b_stands) = true)
    (a_law : PySem.W.nsIn K mainGlobals "law" = some (some (.ref f_law))) (l_law : K.lookup f_law = some ⟨oc_law, od_law, .func (PySem.W.fnOf "law" "law" (defArgs (top 40)) (defBody (top 40)) (defScope (top 40)) .none kV_law dc_law pm_law an_law cd_law ct_law), sl_law⟩) (q_law : PySem.W.codeIn K cd_law "law" = true) (k_law : PySem.W.keepIn K (.ref f_law) = true)
    (z0 : PySem.W.nsIn K mainGlobals "ValueError" = some none)
    (z1 : PySem.W.nsIn K mainGlobals "tuple" = some none)
    (z2 : PySem.W.nsIn K mainGlobals "sum" = some none)
    (z3 : PySem.W.nsIn K mainGlobals "all" = some none)
    (z4 : PySem.W.nsIn K mainGlobals "list" = some none)
    (z5 : PySem.W.nsIn K mainGlobals "range" = some none)
    (z6 : PySem.W.nsIn K mainGlobals "any" = some none)
    (z7 : PySem.W.nsIn K mainGlobals "len" = some none)
    (z8 : PySem.W.nsIn K mainGlobals "max" = some none)
    (z9 : PySem.W.nsIn K mainGlobals "min" = some none)
    (z10 : PySem.W.nsIn K mainGlobals "set" = some none)
    (z11 : PySem.W.nsIn K mainGlobals "zip" = some none)
    (y0 : PySem.W.nsIn K mainGlobals "MOST_STEPS" = some (some (.int (300) t0)))
    (nE_NoTable : PySem.W.nsIn K mainGlobals "NoTable" = some (some (.ref C_NoTable)))
    (bE_NoTable : PySem.W.subIn K (.ref C_NoTable) (.type "BaseException") = some true)
    (tE_NoTable : PySem.W.typeIn K (.ref C_NoTable) = some (.type "type"))
    (hE_NoTable : PySem.W.hasDictIn K C_NoTable = true)
    (nE_NoHouse : PySem.W.nsIn K mainGlobals "NoHouse" = some (some (.ref C_NoHouse)))
    (bE_NoHouse : PySem.W.subIn K (.ref C_NoHouse) (.type "BaseException") = some true)
    (tE_NoHouse : PySem.W.typeIn K (.ref C_NoHouse) = some (.type "type"))
    (hE_NoHouse : PySem.W.hasDictIn K C_NoHouse = true)
    (nE_NoDeed : PySem.W.nsIn K mainGlobals "NoDeed" = some (some (.ref C_NoDeed)))
    (bE_NoDeed : PySem.W.subIn K (.ref C_NoDeed) (.type "BaseException") = some true)
    (tE_NoDeed : PySem.W.typeIn K (.ref C_NoDeed) = some (.type "type"))
    (hE_NoDeed : PySem.W.hasDictIn K C_NoDeed = true)
    (nE_TooMany : PySem.W.nsIn K mainGlobals "TooMany" = some (some (.ref C_TooMany)))
    (bE_TooMany : PySem.W.subIn K (.ref C_TooMany) (.type "BaseException") = some true)
    (tE_TooMany : PySem.W.typeIn K (.ref C_TooMany) = some (.type "type"))
    (hE_TooMany : PySem.W.hasDictIn K C_TooMany = true)
    (nE_Short : PySem.W.nsIn K mainGlobals "Short" = some (some (.ref C_Short)))
    (bE_Short : PySem.W.subIn K (.ref C_Short) (.type "BaseException") = some true)
    (tE_Short : PySem.W.typeIn K (.ref C_Short) = some (.type "type"))
    (hE_Short : PySem.W.hasDictIn K C_Short = true)
    (yE_n : PySem.W.specialIn K (.builtin "object.__class__") "__get__" = some (some (.builtin "getset_descriptor.__get__")))
    (yE_t : PySem.W.takesIn K (.builtin "object.__class__") = some true)
    (gE_NoTable : PySem.W.findIn K (.ref C_NoTable) "__getattribute__" = some (some (.builtin "BaseException.__getattribute__")))
    (kE_NoTable : PySem.W.findIn K (.ref C_NoTable) "__getattr__" = some none)
    (aE_NoTable : PySem.W.findIn K (.ref C_NoTable) "__class__" = some (some (.builtin "object.__class__")))
    (mE_NoTable : PySem.W.mroIn K C_NoTable (.type "object") = some true)
    (sE_NoTable : PySem.W.subIn K (.ref C_NoTable) (.ref C_NoTable) = some true)
    (vE_NoTable : PySem.W.subIn K (.ref C_NoTable) (.type "ValueError") = some true)
    (pE_NoTable : PySem.W.keepIn K (.ref C_NoTable) = true)
    (xE_NoTable : PySem.W.excIn K C_NoTable [.type "ValueError", .type "Exception", .type "BaseException", .type "object"] "ValueError.__new__" = true)
    (gE_NoHouse : PySem.W.findIn K (.ref C_NoHouse) "__getattribute__" = some (some (.builtin "BaseException.__getattribute__")))
    (kE_NoHouse : PySem.W.findIn K (.ref C_NoHouse) "__getattr__" = some none)
    (aE_NoHouse : PySem.W.findIn K (.ref C_NoHouse) "__class__" = some (some (.builtin "object.__class__")))
    (mE_NoHouse : PySem.W.mroIn K C_NoHouse (.type "object") = some true)
    (sE_NoHouse : PySem.W.subIn K (.ref C_NoHouse) (.ref C_NoHouse) = some true)
    (vE_NoHouse : PySem.W.subIn K (.ref C_NoHouse) (.type "ValueError") = some true)
    (pE_NoHouse : PySem.W.keepIn K (.ref C_NoHouse) = true)
    (xE_NoHouse : PySem.W.excIn K C_NoHouse [.type "ValueError", .type "Exception", .type "BaseException", .type "object"] "ValueError.__new__" = true)
    (gE_NoDeed : PySem.W.findIn K (.ref C_NoDeed) "__getattribute__" = some (some (.builtin "BaseException.__getattribute__")))
    (kE_NoDeed : PySem.W.findIn K (.ref C_NoDeed) "__getattr__" = some none)
    (aE_NoDeed : PySem.W.findIn K (.ref C_NoDeed) "__class__" = some (some (.builtin "object.__class__")))
    (mE_NoDeed : PySem.W.mroIn K C_NoDeed (.type "object") = some true)
    (sE_NoDeed : PySem.W.subIn K (.ref C_NoDeed) (.ref C_NoDeed) = some true)
    (vE_NoDeed : PySem.W.subIn K (.ref C_NoDeed) (.type "ValueError") = some true)
    (pE_NoDeed : PySem.W.keepIn K (.ref C_NoDeed) = true)
    (xE_NoDeed : PySem.W.excIn K C_NoDeed [.type "ValueError", .type "Exception", .type "BaseException", .type "object"] "ValueError.__new__" = true)
    (gE_TooMany : PySem.W.findIn K (.ref C_TooMany) "__getattribute__" = some (some (.builtin "BaseException.__getattribute__")))
    (kE_TooMany : PySem.W.findIn K (.ref C_TooMany) "__getattr__" = some none)
    (aE_TooMany : PySem.W.findIn K (.ref C_TooMany) "__class__" = some (some (.builtin "object.__class__")))
    (mE_TooMany : PySem.W.mroIn K C_TooMany (.type "object") = some true)
    (sE_TooMany : PySem.W.subIn K (.ref C_TooMany) (.ref C_TooMany) = some true)
    (vE_TooMany : PySem.W.subIn K (.ref C_TooMany) (.type "ValueError") = some true)
    (pE_TooMany : PySem.W.keepIn K (.ref C_TooMany) = true)
    (xE_TooMany : PySem.W.excIn K C_TooMany [.type "ValueError", .type "Exception", .type "BaseException", .type "object"] "ValueError.__new__" = true)
    (gE_Short : PySem.W.findIn K (.ref C_Short) "__getattribute__" = some (some (.builtin "BaseException.__getattribute__")))
    (kE_Short : PySem.W.findIn K (.ref C_Short) "__getattr__" = some none)
    (aE_Short : PySem.W.findIn K (.ref C_Short) "__class__" = some (some (.builtin "object.__class__")))
    (mE_Short : PySem.W.mroIn K C_Short (.type "object") = some true)
    (sE_Short : PySem.W.subIn K (.ref C_Short) (.ref C_Short) = some true)
    (vE_Short : PySem.W.subIn K (.ref C_Short) (.type "ValueError") = some true)
    (pE_Short : PySem.W.keepIn K (.ref C_Short) = true)
    (S_cls : K.lookup C_Short = some (excClassObj S_nm S_q C_Short S_N S_bs [.ref S_w, .type "ValueError", .type "Exception", .type "BaseException", .type "object"] true S_sn S_sub S_ab S_col S_dd S_0 S_1 S_2 S_3 S_5 "ValueError.__new__"))
    (S_sa : PySem.W.findIn K (.ref C_Short) "__setattr__" = some (some (.builtin "object.__setattr__")))
    (S_no : PySem.W.findIn K (.ref C_Short) "had" = some none)
    (S_ic : PySem.W.findIn K (.ref C_Short) "__init__" = some (some (.ref fI)))
    (S_tc : PySem.W.typeIn K (.ref fI) = some (.type "function"))
    (S_fn : K.lookup fI = some ⟨S_oc, S_od, .func (PySem.W.fnOf "__init__" "Short.__init__" (PySem.ShortX.iA S_p1 S_p2) (PySem.ShortX.iB S_q1 S_q2 S_q3 S_q4) PySem.ShortX.iS .none .none S_dc S_pm S_an S_cd S_ct), S_sl⟩)
    (S_cd' : PySem.W.codeIn K S_cd "Short.__init__" = true)
    (oE_NoTable_Short : PySem.W.subIn K (.ref C_NoTable) (.ref C_Short) = some false)
    (oE_NoHouse_Short : PySem.W.subIn K (.ref C_NoHouse) (.ref C_Short) = some false)
    (oE_NoDeed_Short : PySem.W.subIn K (.ref C_NoDeed) (.ref C_Short) = some false)
    (oE_TooMany_Short : PySem.W.subIn K (.ref C_TooMany) (.ref C_Short) = some false)
    : ∃ fd : FuncData, (∀ (s : Shared) (v : Value), BindsTo s fd ⟨[v], []⟩ [("script", v)]) ∧ ∀ base : Heap, K.In base → base.Ns mainGlobals mg → FnOk P w K mg base (L2N.CX P w) 6 fa fd ["script"] (spOf (F0 K) 1 Gx.f_law) := by
  have e := hfa.symm.trans (PySem.W.mg_of X G a_law)
  cases e
  have hb : ∀ x ∈ blts, mg x = none := blt_cons (PySem.W.mg_none_of X G z0) (blt_cons (PySem.W.mg_none_of X G z1) (blt_cons (PySem.W.mg_none_of X G z2) (blt_cons (PySem.W.mg_none_of X G z3) (blt_cons (PySem.W.mg_none_of X G z4) (blt_cons (PySem.W.mg_none_of X G z5) (blt_cons (PySem.W.mg_none_of X G z6) (blt_cons (PySem.W.mg_none_of X G z7) (blt_cons (PySem.W.mg_none_of X G z8) (blt_cons (PySem.W.mg_none_of X G z9) (blt_cons (PySem.W.mg_none_of X G z10) (blt_cons (PySem.W.mg_none_of X G z11) (blt_nil))))))))))))
  have hc : CstOk (F0 K) mg csts := cst_int (PySem.W.mg_of X G y0) (cst_nil)
  have F_bare := fun_mk (st := top 8) l_bare q_bare k_bare
  have B_bare := F_bare.binds (ps := ["n"]) fun _ _ _ _ _ _ us hl => match us, hl with | [_], _ => rfl
  have F_need_house := fun_mk (st := top 9) l_need_house q_need_house k_need_house
  have B_need_house := F_need_house.binds (ps := ["table", "house"]) fun _ _ _ _ _ _ us hl => match us, hl with | [_, _], _ => rfl
  have F_lent_by := fun_mk (st := top 10) l_lent_by q_lent_by k_lent_by
  have B_lent_by := F_lent_by.binds (ps := ["table", "house"]) fun _ _ _ _ _ _ us hl => match us, hl with | [_, _], _ => rfl
  have F_lent_to := fun_mk (st := top 11) l_lent_to q_lent_to k_lent_to
  have B_lent_to := F_lent_to.binds (ps := ["table", "house"]) fun _ _ _ _ _ _ us hl => match us, hl with | [_, _], _ => rfl
  have F_rights := fun_mk (st := top 12) l_rights q_rights k_rights
  have B_rights := F_rights.binds (ps := ["table", "house"]) fun _ _ _ _ _ _ us hl => match us, hl with | [_, _], _ => rfl
  have F_stock := fun_mk (st := top 13) l_stock q_stock k_stock
  have B_stock := F_stock.binds (ps := ["table"]) fun _ _ _ _ _ _ us hl => match us, hl with | [_], _ => rfl
  have F_need_alike := fun_mk (st := top 14) l_need_alike q_need_alike k_need_alike
  have B_need_alike := F_need_alike.binds (ps := ["one", "other"]) fun _ _ _ _ _ _ us hl => match us, hl with | [_, _], _ => rfl
  have F_is_row_within := fun_mk (st := top 15) l_is_row_within q_is_row_within k_is_row_within
  have B_is_row_within := F_is_row_within.binds (ps := ["row", "other"]) fun _ _ _ _ _ _ us hl => match us, hl with | [_, _], _ => rfl
  have F_is_within := fun_mk (st := top 16) l_is_within q_is_within k_is_within
  have B_is_within := F_is_within.binds (ps := ["one", "other"]) fun _ _ _ _ _ _ us hl => match us, hl with | [_, _], _ => rfl
  have F_joined := fun_mk (st := top 17) l_joined q_joined k_joined
  have B_joined := F_joined.binds (ps := ["one", "other"]) fun _ _ _ _ _ _ us hl => match us, hl with | [_, _], _ => rfl
  have F_is_deed := fun_mk (st := top 19) l_is_deed q_is_deed k_is_deed
  have B_is_deed := F_is_deed.binds (ps := ["deed"]) fun _ _ _ _ _ _ us hl => match us, hl with | [_], _ => rfl
  have F_place_of := fun_mk (st := top 20) l_place_of q_place_of k_place_of
  have B_place_of := F_place_of.binds (ps := ["n", "deed"]) fun _ _ _ _ _ _ us hl => match us, hl with | [_, _], _ => rfl
  have F_raised := fun_mk (st := top 21) l_raised q_raised k_raised
  have B_raised := F_raised.binds (ps := ["table", "house", "place", "k"]) fun _ _ _ _ _ _ us hl => match us, hl with | [_, _, _, _], _ => rfl
  have F_done := fun_mk (st := top 22) l_done q_done k_done
  have B_done := F_done.binds (ps := ["table", "deed"]) fun _ _ _ _ _ _ us hl => match us, hl with | [_, _], _ => rfl
  have F_is_busy := fun_mk (st := top 25) l_is_busy q_is_busy k_is_busy
  have B_is_busy := F_is_busy.binds (ps := ["table", "house"]) fun _ _ _ _ _ _ us hl => match us, hl with | [_, _], _ => rfl
  have F_rooted := fun_mk (st := top 26) l_rooted q_rooted k_rooted
  have B_rooted := F_rooted.binds (ps := ["table"]) fun _ _ _ _ _ _ us hl => match us, hl with | [_], _ => rfl
  have F_comes_about := fun_mk (st := top 27) l_comes_about q_comes_about k_comes_about
  have B_comes_about := F_comes_about.binds (ps := ["table"]) fun _ _ _ _ _ _ us hl => match us, hl with | [_], _ => rfl
  have F_are_houses := fun_mk (st := top 28) l_are_houses q_are_houses k_are_houses
  have B_are_houses := F_are_houses.binds (ps := ["table", "houses"]) fun _ _ _ _ _ _ us hl => match us, hl with | [_, _], _ => rfl
  have F_is_root_list := fun_mk (st := top 29) l_is_root_list q_is_root_list k_is_root_list
  have B_is_root_list := F_is_root_list.binds (ps := ["table", "houses"]) fun _ _ _ _ _ _ us hl => match us, hl with | [_, _], _ => rfl
  have F_ways_on := fun_mk (st := top 30) l_ways_on q_ways_on k_ways_on
  have B_ways_on := F_ways_on.binds (ps := ["table"]) fun _ _ _ _ _ _ us hl => match us, hl with | [_], _ => rfl
  have F_next_lent := fun_mk (st := top 31) l_next_lent q_next_lent k_next_lent
  have B_next_lent := F_next_lent.binds (ps := ["table", "house", "left", "onward"]) fun _ _ _ _ _ _ us hl => match us, hl with | [_, _, _, _], _ => rfl
  have F_lendings := fun_mk (st := top 32) l_lendings q_lendings k_lendings
  have B_lendings := F_lendings.binds (ps := ["table"]) fun _ _ _ _ _ _ us hl => match us, hl with | [_], _ => rfl
  have F_steps := fun_mk (st := top 33) l_steps q_steps k_steps
  have B_steps := F_steps.binds (ps := ["table"]) fun _ _ _ _ _ _ us hl => match us, hl with | [_], _ => rfl
  have F_law_b_draw := fun_mk (st := top 35) l_law_b_draw q_law_b_draw k_law_b_draw
  have B_law_b_draw := F_law_b_draw.binds (ps := ["script", "k"]) fun _ _ _ _ _ _ us hl => match us, hl with | [_, _], _ => rfl
  have F_law_b_rights := fun_mk (st := top 36) l_law_b_rights q_law_b_rights k_law_b_rights
  have B_law_b_rights := F_law_b_rights.binds (ps := ["table", "house"]) fun _ _ _ _ _ _ us hl => match us, hl with | [_, _], _ => rfl
  have F_law_b_deed_v1 := fun_mk (st := top 37) l_law_b_deed_v1 q_law_b_deed_v1 k_law_b_deed_v1
  have B_law_b_deed_v1 := F_law_b_deed_v1.binds (ps := ["table", "draw"]) fun _ _ _ _ _ _ us hl => match us, hl with | [_, _], _ => rfl
  have F_law_b_told_v3 := fun_mk (st := top 38) l_law_b_told_v3 q_law_b_told_v3 k_law_b_told_v3
  have B_law_b_told_v3 := F_law_b_told_v3.binds (ps := ["table", "deed"]) fun _ _ _ _ _ _ us hl => match us, hl with | [_, _], _ => rfl
  have F_law_b_stands := fun_mk (st := top 39) l_law_b_stands q_law_b_stands k_law_b_stands
  have B_law_b_stands := F_law_b_stands.binds (ps := ["before", "table", "due"]) fun _ _ _ _ _ _ us hl => match us, hl with | [_, _, _], _ => rfl
  have F_law := fun_mk (st := top 40) l_law q_law k_law
  have B_law := F_law.binds (ps := ["script"]) fun _ _ _ _ _ _ us hl => match us, hl with | [_], _ => rfl
  refine ⟨PySem.W.fnOf "law" "law" (defArgs (top 40)) (defBody (top 40)) (defScope (top 40)) .none kV_law dc_law pm_law an_law cd_law ct_law, fun s v => .of_eq rfl, fun base _ _ => ?_⟩
  have cE_NoTable : (F0 K).cls "NoTable" = .ref C_NoTable := by show (PySem.W.nsIn K mainGlobals "NoTable").join.getD .none = _; rw [nE_NoTable]; rfl
  have cE_NoHouse : (F0 K).cls "NoHouse" = .ref C_NoHouse := by show (PySem.W.nsIn K mainGlobals "NoHouse").join.getD .none = _; rw [nE_NoHouse]; rfl
  have cE_NoDeed : (F0 K).cls "NoDeed" = .ref C_NoDeed := by show (PySem.W.nsIn K mainGlobals "NoDeed").join.getD .none = _; rw [nE_NoDeed]; rfl
  have cE_TooMany : (F0 K).cls "TooMany" = .ref C_TooMany := by show (PySem.W.nsIn K mainGlobals "TooMany").join.getD .none = _; rw [nE_TooMany]; rfl
  have cE_Short : (F0 K).cls "Short" = .ref C_Short := by show (PySem.W.nsIn K mainGlobals "Short").join.getD .none = _; rw [nE_Short]; rfl
  have hx : ExcT (F0 K) mg exs ask := by
    refine ⟨mem_all ?_, mem_all ?_, mem_all ?_, ?_⟩
    · exact ⟨⟨C_NoTable, cE_NoTable, ⟨gE_NoTable, kE_NoTable, bE_NoTable, hE_NoTable, aE_NoTable, yE_n, yE_t, mE_NoTable⟩⟩, ⟨C_NoHouse, cE_NoHouse, ⟨gE_NoHouse, kE_NoHouse, bE_NoHouse, hE_NoHouse, aE_NoHouse, yE_n, yE_t, mE_NoHouse⟩⟩, ⟨C_NoDeed, cE_NoDeed, ⟨gE_NoDeed, kE_NoDeed, bE_NoDeed, hE_NoDeed, aE_NoDeed, yE_n, yE_t, mE_NoDeed⟩⟩, ⟨C_TooMany, cE_TooMany, ⟨gE_TooMany, kE_TooMany, bE_TooMany, hE_TooMany, aE_TooMany, yE_n, yE_t, mE_TooMany⟩⟩, ⟨C_Short, cE_Short, ⟨gE_Short, kE_Short, bE_Short, hE_Short, aE_Short, yE_n, yE_t, mE_Short⟩⟩, trivial⟩
    · exact ⟨⟨.inl ⟨C_Short, PySem.W.mg_of X G nE_Short, mem_all ⟨row_own cE_NoTable hE_Short tE_Short oE_NoTable_Short sE_NoTable bE_Short (by decide), row_own cE_NoHouse hE_Short tE_Short oE_NoHouse_Short sE_NoHouse bE_Short (by decide), row_own cE_NoDeed hE_Short tE_Short oE_NoDeed_Short sE_NoDeed bE_Short (by decide), row_own cE_TooMany hE_Short tE_Short oE_TooMany_Short sE_TooMany bE_Short (by decide), row_own cE_Short hE_Short tE_Short sE_Short sE_Short bE_Short (by decide), trivial⟩⟩⟩, trivial⟩
    · exact ⟨(fun _ => ⟨C_NoTable, cE_NoTable, ⟨PySem.W.mg_of X G nE_NoTable, pE_NoTable, xE_NoTable, bE_NoTable, tE_NoTable⟩⟩), (fun _ => ⟨C_NoHouse, cE_NoHouse, ⟨PySem.W.mg_of X G nE_NoHouse, pE_NoHouse, xE_NoHouse, bE_NoHouse, tE_NoHouse⟩⟩), (fun _ => ⟨C_NoDeed, cE_NoDeed, ⟨PySem.W.mg_of X G nE_NoDeed, pE_NoDeed, xE_NoDeed, bE_NoDeed, tE_NoDeed⟩⟩), (fun _ => ⟨C_TooMany, cE_TooMany, ⟨PySem.W.mg_of X G nE_TooMany, pE_TooMany, xE_TooMany, bE_TooMany, tE_TooMany⟩⟩), (fun z => (z rfl).elim), trivial⟩
    · exact fun _ => ⟨C_Short, fI, cE_Short, { gC := PySem.W.mg_of X G nE_Short, cls := ⟨S_nm, S_q, S_N, S_bs, _, S_sn, S_sub, S_ab, S_col, S_dd, S_0, S_1, S_2, S_3, S_5, S_cls, rfl⟩, sa := S_sa, ga := gE_Short, gg := kE_Short, noN := S_no, iC := S_ic, tC := S_tc, kC := pE_Short, exC := bE_Short, tyC := tE_Short, hdC := hE_Short, te := PySem.W.exm_ref bE_Short hE_Short tE_Short sE_Short, fn := ⟨_, _, _, _, _, _, _, _, _, _, _, _, _, _, S_fn, S_cd'⟩ }⟩
  have G_bare : FnOk P w K mg base (L2N.CX P w) 1 f_bare _ _ (spOf (F0 K) 1 Gx.f_bare) := fn_run (P := P) (w := w) (base := base) (F := F0 K) (Γ := gam_bare) (k := 0) (n := n_bare) (keep := false) (c := g_bare) F_bare s_bare rfl c_bare hb (low_nil) hc hx rfl
  have G_need_house : FnOk P w K mg base (L2N.CX P w) 1 f_need_house _ _ (spOf (F0 K) 2 Gx.f_need_house) := fn_run (P := P) (w := w) (base := base) (F := F0 K) (Γ := gam_need_house) (k := 0) (n := n_need_house) (keep := false) (c := g_need_house) F_need_house s_need_house rfl c_need_house hb (low_nil) hc hx rfl
  have G_lent_by : FnOk P w K mg base (L2N.CX P w) 1 f_lent_by _ _ (spOf (F0 K) 2 Gx.f_lent_by) := fn_run (P := P) (w := w) (base := base) (F := F0 K) (Γ := gam_lent_by) (k := 0) (n := n_lent_by) (keep := false) (c := g_lent_by) F_lent_by s_lent_by rfl c_lent_by hb (low_nil) hc hx rfl
  have G_lent_to : FnOk P w K mg base (L2N.CX P w) 1 f_lent_to _ _ (spOf (F0 K) 2 Gx.f_lent_to) := fn_run (P := P) (w := w) (base := base) (F := F0 K) (Γ := gam_lent_to) (k := 0) (n := n_lent_to) (keep := false) (c := g_lent_to) F_lent_to s_lent_to rfl c_lent_to hb (low_nil) hc hx rfl
  have G_rights : FnOk P w K mg base (L2N.CX P w) 2 f_rights _ _ (spOf (F0 K) 2 Gx.f_rights) := fn_run (P := P) (w := w) (base := base) (F := F0 K) (Γ := gam_rights) (k := 1) (n := n_rights) (keep := false) (c := g_rights) F_rights s_rights rfl c_rights hb (low_cons (PySem.W.mg_of X G a_need_house) k_need_house B_need_house (G_need_house.mono (by decide)) rfl (low_cons (PySem.W.mg_of X G a_lent_by) k_lent_by B_lent_by (G_lent_by.mono (by decide)) rfl (low_cons (PySem.W.mg_of X G a_lent_to) k_lent_to B_lent_to (G_lent_to.mono (by decide)) rfl (low_nil)))) hc hx rfl
  have G_stock : FnOk P w K mg base (L2N.CX P w) 1 f_stock _ _ (spOf (F0 K) 1 Gx.f_stock) := fn_run (P := P) (w := w) (base := base) (F := F0 K) (Γ := gam_stock) (k := 0) (n := n_stock) (keep := false) (c := g_stock) F_stock s_stock rfl c_stock hb (low_nil) hc hx rfl
  have G_need_alike : FnOk P w K mg base (L2N.CX P w) 1 f_need_alike _ _ (spOf (F0 K) 2 Gx.f_need_alike) := fn_run (P := P) (w := w) (base := base) (F := F0 K) (Γ := gam_need_alike) (k := 0) (n := n_need_alike) (keep := false) (c := g_need_alike) F_need_alike s_need_alike rfl c_need_alike hb (low_nil) hc hx rfl
  have G_is_row_within : FnOk P w K mg base (L2N.CX P w) 1 f_is_row_within _ _ (spOf (F0 K) 2 Gx.f_is_row_within) := fn_run (P := P) (w := w) (base := base) (F := F0 K) (Γ := gam_is_row_within) (k := 0) (n := n_is_row_within) (keep := false) (c := g_is_row_within) F_is_row_within s_is_row_within rfl c_is_row_within hb (low_nil) hc hx rfl
  have G_is_within : FnOk P w K mg base (L2N.CX P w) 2 f_is_within _ _ (spOf (F0 K) 2 Gx.f_is_within) := fn_run (P := P) (w := w) (base := base) (F := F0 K) (Γ := gam_is_within) (k := 1) (n := n_is_within) (keep := false) (c := g_is_within) F_is_within s_is_within rfl c_is_within hb (low_cons (PySem.W.mg_of X G a_need_alike) k_need_alike B_need_alike (G_need_alike.mono (by decide)) rfl (low_cons (PySem.W.mg_of X G a_is_row_within) k_is_row_within B_is_row_within (G_is_row_within.mono (by decide)) rfl (low_nil))) hc hx rfl
  have G_joined : FnOk P w K mg base (L2N.CX P w) 2 f_joined _ _ (spOf (F0 K) 2 Gx.f_joined) := fn_run (P := P) (w := w) (base := base) (F := F0 K) (Γ := gam_joined) (k := 1) (n := n_joined) (keep := false) (c := g_joined) F_joined s_joined rfl c_joined hb (low_cons (PySem.W.mg_of X G a_need_alike) k_need_alike B_need_alike (G_need_alike.mono (by decide)) rfl (low_nil)) hc hx rfl
  have G_is_deed : FnOk P w K mg base (L2N.CX P w) 1 f_is_deed _ _ (spOf (F0 K) 1 Gx.f_is_deed) := fn_run (P := P) (w := w) (base := base) (F := F0 K) (Γ := gam_is_deed) (k := 0) (n := n_is_deed) (keep := false) (c := g_is_deed) F_is_deed s_is_deed rfl c_is_deed hb (low_nil) hc hx rfl
  have G_place_of : FnOk P w K mg base (L2N.CX P w) 1 f_place_of _ _ (spOf (F0 K) 2 Gx.f_place_of) := fn_run (P := P) (w := w) (base := base) (F := F0 K) (Γ := gam_place_of) (k := 0) (n := n_place_of) (keep := false) (c := g_place_of) F_place_of s_place_of rfl c_place_of hb (low_nil) hc hx rfl
  have G_raised : FnOk P w K mg base (L2N.CX P w) 1 f_raised _ _ (spOf (F0 K) 4 Gx.f_raised) := fn_run (P := P) (w := w) (base := base) (F := F0 K) (Γ := gam_raised) (k := 0) (n := n_raised) (keep := false) (c := g_raised) F_raised s_raised rfl c_raised hb (low_nil) hc hx rfl
  have G_done : FnOk P w K mg base (L2N.CX P w) 3 f_done _ _ (spOf (F0 K) 2 Gx.f_done) := fn_run (P := P) (w := w) (base := base) (F := F0 K) (Γ := gam_done) (k := 2) (n := n_done) (keep := false) (c := g_done) F_done s_done rfl c_done hb (low_cons (PySem.W.mg_of X G a_raised) k_raised B_raised (G_raised.mono (by decide)) rfl (low_cons (PySem.W.mg_of X G a_is_deed) k_is_deed B_is_deed (G_is_deed.mono (by decide)) rfl (low_cons (PySem.W.mg_of X G a_need_house) k_need_house B_need_house (G_need_house.mono (by decide)) rfl (low_cons (PySem.W.mg_of X G a_place_of) k_place_of B_place_of (G_place_of.mono (by decide)) rfl (low_cons (PySem.W.mg_of X G a_rights) k_rights B_rights (G_rights.mono (by decide)) rfl (low_nil)))))) hc hx rfl
  have G_is_busy : FnOk P w K mg base (L2N.CX P w) 2 f_is_busy _ _ (spOf (F0 K) 2 Gx.f_is_busy) := fn_run (P := P) (w := w) (base := base) (F := F0 K) (Γ := gam_is_busy) (k := 1) (n := n_is_busy) (keep := false) (c := g_is_busy) F_is_busy s_is_busy rfl c_is_busy hb (low_cons (PySem.W.mg_of X G a_lent_by) k_lent_by B_lent_by (G_lent_by.mono (by decide)) rfl (low_nil)) hc hx rfl
  have G_rooted : FnOk P w K mg base (L2N.CX P w) 1 f_rooted _ _ (spOf (F0 K) 1 Gx.f_rooted) := fn_run (P := P) (w := w) (base := base) (F := F0 K) (Γ := gam_rooted) (k := 0) (n := n_rooted) (keep := false) (c := g_rooted) F_rooted s_rooted rfl c_rooted hb (low_nil) hc hx rfl
  have G_comes_about : FnOk P w K mg base (L2N.CX P w) 3 f_comes_about _ _ (spOf (F0 K) 1 Gx.f_comes_about) := fn_run (P := P) (w := w) (base := base) (F := F0 K) (Γ := gam_comes_about) (k := 2) (n := n_comes_about) (keep := false) (c := g_comes_about) F_comes_about s_comes_about rfl c_comes_about hb (low_cons (PySem.W.mg_of X G a_rooted) k_rooted B_rooted (G_rooted.mono (by decide)) rfl (low_cons (PySem.W.mg_of X G a_rights) k_rights B_rights (G_rights.mono (by decide)) rfl (low_cons (PySem.W.mg_of X G a_is_busy) k_is_busy B_is_busy (G_is_busy.mono (by decide)) rfl (low_nil)))) hc hx rfl
  have G_are_houses : FnOk P w K mg base (L2N.CX P w) 1 f_are_houses _ _ (spOf (F0 K) 2 Gx.f_are_houses) := fn_run (P := P) (w := w) (base := base) (F := F0 K) (Γ := gam_are_houses) (k := 0) (n := n_are_houses) (keep := false) (c := g_are_houses) F_are_houses s_are_houses rfl c_are_houses hb (low_nil) hc hx rfl
  have G_is_root_list : FnOk P w K mg base (L2N.CX P w) 3 f_is_root_list _ _ (spOf (F0 K) 2 Gx.f_is_root_list) := fn_run (P := P) (w := w) (base := base) (F := F0 K) (Γ := gam_is_root_list) (k := 2) (n := n_is_root_list) (keep := false) (c := g_is_root_list) F_is_root_list s_is_root_list rfl c_is_root_list hb (low_cons (PySem.W.mg_of X G a_are_houses) k_are_houses B_are_houses (G_are_houses.mono (by decide)) rfl (low_cons (PySem.W.mg_of X G a_is_busy) k_is_busy B_is_busy (G_is_busy.mono (by decide)) rfl (low_nil))) hc hx rfl
  have G_ways_on : FnOk P w K mg base (L2N.CX P w) 3 f_ways_on _ _ (spOf (F0 K) 1 Gx.f_ways_on) := fn_run (P := P) (w := w) (base := base) (F := F0 K) (Γ := gam_ways_on) (k := 2) (n := n_ways_on) (keep := false) (c := g_ways_on) F_ways_on s_ways_on rfl c_ways_on hb (low_cons (PySem.W.mg_of X G a_rights) k_rights B_rights (G_rights.mono (by decide)) rfl (low_nil)) hc hx rfl
  have G_next_lent : FnOk P w K mg base (L2N.CX P w) 1 f_next_lent _ _ (spOf (F0 K) 4 Gx.f_next_lent) := fn_run (P := P) (w := w) (base := base) (F := F0 K) (Γ := gam_next_lent) (k := 0) (n := n_next_lent) (keep := false) (c := g_next_lent) F_next_lent s_next_lent rfl c_next_lent hb (low_nil) hc hx rfl
  have G_lendings : FnOk P w K mg base (L2N.CX P w) 4 f_lendings _ _ (spOf (F0 K) 1 Gx.f_lendings) := fn_run (P := P) (w := w) (base := base) (F := F0 K) (Γ := gam_lendings) (k := 3) (n := n_lendings) (keep := false) (c := g_lendings) F_lendings s_lendings rfl c_lendings hb (low_cons (PySem.W.mg_of X G a_ways_on) k_ways_on B_ways_on (G_ways_on.mono (by decide)) rfl (low_cons (PySem.W.mg_of X G a_next_lent) k_next_lent B_next_lent (G_next_lent.mono (by decide)) rfl (low_nil))) hc hx rfl
  have G_steps : FnOk P w K mg base (L2N.CX P w) 5 f_steps _ _ (spOf (F0 K) 1 Gx.f_steps) := fn_run (P := P) (w := w) (base := base) (F := F0 K) (Γ := gam_steps) (k := 4) (n := n_steps) (keep := false) (c := g_steps) F_steps s_steps rfl c_steps hb (low_cons (PySem.W.mg_of X G a_lendings) k_lendings B_lendings (G_lendings.mono (by decide)) rfl (low_cons (PySem.W.mg_of X G a_comes_about) k_comes_about B_comes_about (G_comes_about.mono (by decide)) rfl (low_nil))) hc hx rfl
  have G_law_b_draw : FnOk P w K mg base (L2N.CX P w) 1 f_law_b_draw _ _ (spOf (F0 K) 2 Gx.f_law_b_draw) := fn_run (P := P) (w := w) (base := base) (F := F0 K) (Γ := gam_law_b_draw) (k := 0) (n := n_law_b_draw) (keep := false) (c := g_law_b_draw) F_law_b_draw s_law_b_draw rfl c_law_b_draw hb (low_nil) hc hx rfl
  have G_law_b_rights : FnOk P w K mg base (L2N.CX P w) 1 f_law_b_rights _ _ (spOf (F0 K) 2 Gx.f_law_b_rights) := fn_run (P := P) (w := w) (base := base) (F := F0 K) (Γ := gam_law_b_rights) (k := 0) (n := n_law_b_rights) (keep := false) (c := g_law_b_rights) F_law_b_rights s_law_b_rights rfl c_law_b_rights hb (low_nil) hc hx rfl
  have G_law_b_deed_v1 : FnOk P w K mg base (L2N.CX P w) 2 f_law_b_deed_v1 _ _ (spOf (F0 K) 2 Gx.f_law_b_deed_v1) := fn_run (P := P) (w := w) (base := base) (F := F0 K) (Γ := gam_law_b_deed_v1) (k := 1) (n := n_law_b_deed_v1) (keep := false) (c := g_law_b_deed_v1) F_law_b_deed_v1 s_law_b_deed_v1 rfl c_law_b_deed_v1 hb (low_cons (PySem.W.mg_of X G a_law_b_rights) k_law_b_rights B_law_b_rights (G_law_b_rights.mono (by decide)) rfl (low_nil)) hc hx rfl
  have G_law_b_told_v3 : FnOk P w K mg base (L2N.CX P w) 4 f_law_b_told_v3 _ _ (spOf (F0 K) 2 Gx.f_law_b_told_v3) := fn_run (P := P) (w := w) (base := base) (F := F0 K) (Γ := gam_law_b_told_v3) (k := 3) (n := n_law_b_told_v3) (keep := false) (c := g_law_b_told_v3) F_law_b_told_v3 s_law_b_told_v3 rfl c_law_b_told_v3 hb (low_cons (PySem.W.mg_of X G a_done) k_done B_done (G_done.mono (by decide)) rfl (low_nil)) hc hx rfl
  have G_law_b_stands : FnOk P w K mg base (L2N.CX P w) 4 f_law_b_stands _ _ (spOf (F0 K) 3 Gx.f_law_b_stands) := fn_run (P := P) (w := w) (base := base) (F := F0 K) (Γ := gam_law_b_stands) (k := 3) (n := n_law_b_stands) (keep := false) (c := g_law_b_stands) F_law_b_stands s_law_b_stands rfl c_law_b_stands hb (low_cons (PySem.W.mg_of X G a_comes_about) k_comes_about B_comes_about (G_comes_about.mono (by decide)) rfl (low_cons (PySem.W.mg_of X G a_is_root_list) k_is_root_list B_is_root_list (G_is_root_list.mono (by decide)) rfl (low_cons (PySem.W.mg_of X G a_is_within) k_is_within B_is_within (G_is_within.mono (by decide)) rfl (low_cons (PySem.W.mg_of X G a_stock) k_stock B_stock (G_stock.mono (by decide)) rfl (low_nil))))) hc hx rfl
  exact fn_run (P := P) (w := w) (base := base) (F := F0 K) (Γ := gam_law) (k := 5) (n := n_law) (keep := false) (c := g_law) F_law s_law rfl c_law hb (low_cons (PySem.W.mg_of X G a_law_b_draw) k_law_b_draw B_law_b_draw (G_law_b_draw.mono (by decide)) rfl (low_cons (PySem.W.mg_of X G a_bare) k_bare B_bare (G_bare.mono (by decide)) rfl (low_cons (PySem.W.mg_of X G a_law_b_deed_v1) k_law_b_deed_v1 B_law_b_deed_v1 (G_law_b_deed_v1.mono (by decide)) rfl (low_cons (PySem.W.mg_of X G a_law_b_told_v3) k_law_b_told_v3 B_law_b_told_v3 (G_law_b_told_v3.mono (by decide)) rfl (low_cons (PySem.W.mg_of X G a_is_within) k_is_within B_is_within (G_is_within.mono (by decide)) rfl (low_cons (PySem.W.mg_of X G a_joined) k_joined B_joined (G_joined.mono (by decide)) rfl (low_cons (PySem.W.mg_of X G a_law_b_rights) k_law_b_rights B_law_b_rights (G_law_b_rights.mono (by decide)) rfl (low_cons (PySem.W.mg_of X G a_law_b_stands) k_law_b_stands B_law_b_stands (G_law_b_stands.mono (by decide)) rfl (low_cons (PySem.W.mg_of X G a_steps) k_steps B_steps (G_steps.mono (by decide)) rfl (low_nil)))))))))) hc hx rfl
end K14
open PySem PySem.W PyProof.Rows
set_option maxHeartbeats 0 in
theorem PySem.Challenge.cw_lendwharf_k14_whole_row_of_deeds_holds : PySem.Challenge.rw_lendwharf_k14_whole_row_of_deeds.Holds := by
  w_on; o_law; k_head; (case hw => w_witness2)
  k_fill
  refine Gx.law_walk (l := PySem.Challenge.rw_lendwharf_k14_whole_row_of_deeds) (k := 6) (x := "script") (F0 := K14.F0) rfl rfl ⟨rfl, by decide, by decide⟩ (fun _ => rfl) Gx.law_true (fun _ => rfl) (fun w h Y => PySem.W.kIn_of Y) ?F
  case F =>
    intro w mg fa h KX G hmg
    refine' K14.all_mk KX G hmg ?a_bare ?l_bare ?q_bare ?k_bare ?a_need_house ?l_need_house ?q_need_house ?k_need_house ?a_lent_by ?l_lent_by ?q_lent_by ?k_lent_by ?a_lent_to ?l_lent_to ?q_lent_to ?k_lent_to ?a_rights ?l_rights ?q_rights ?k_rights ?a_stock ?l_stock ?q_stock ?k_stock ?a_need_alike ?l_need_alike ?q_need_alike ?k_need_alike ?a_is_row_within ?l_is_row_within ?q_is_row_within ?k_is_row_within ?a_is_within ?l_is_within ?q_is_within ?k_is_within ?a_joined ?l_joined ?q_joined ?k_joined ?a_is_deed ?l_is_deed ?q_is_deed ?k_is_deed ?a_place_of ?l_place_of ?q_place_of ?k_place_of ?a_raised ?l_raised ?q_raised ?k_raised ?a_done ?l_done ?q_done ?k_done ?a_is_busy ?l_is_busy ?q_is_busy ?k_is_busy ?a_rooted ?l_rooted ?q_rooted ?k_rooted ?a_comes_about ?l_comes_about ?q_comes_about ?k_comes_about ?a_are_houses ?l_are_houses ?q_are_houses ?k_are_houses ?a_is_root_list ?l_is_root_list ?q_is_root_list ?k_is_root_list ?a_ways_on ?l_ways_on ?q_ways_on ?k_ways_on ?a_next_lent ?l_next_lent ?q_next_lent ?k_next_lent ?a_lendings ?l_lendings ?q_lendings ?k_lendings ?a_steps ?l_steps ?q_steps ?k_steps ?a_law_b_draw ?l_law_b_draw ?q_law_b_draw ?k_law_b_draw ?a_law_b_rights ?l_law_b_rights ?q_law_b_rights ?k_law_b_rights ?a_law_b_deed_v1 ?l_law_b_deed_v1 ?q_law_b_deed_v1 ?k_law_b_deed_v1 ?a_law_b_told_v3 ?l_law_b_told_v3 ?q_law_b_told_v3 ?k_law_b_told_v3 ?a_law_b_stands ?l_law_b_stands ?q_law_b_stands ?k_law_b_stands ?a_law ?l_law ?q_law ?k_law ?z0 ?z1 ?z2 ?z3 ?z4 ?z5 ?z6 ?z7 ?z8 ?z9 ?z10 ?z11 ?y0 ?nE_NoTable ?bE_NoTable ?tE_NoTable ?hE_NoTable ?nE_NoHouse ?bE_NoHouse ?tE_NoHouse ?hE_NoHouse ?nE_NoDeed ?bE_NoDeed ?tE_NoDeed ?hE_NoDeed ?nE_TooMany ?bE_TooMany ?tE_TooMany ?hE_TooMany ?nE_Short ?bE_Short ?tE_Short ?hE_Short ?yE_n ?yE_t ?gE_NoTable ?kE_NoTable ?aE_NoTable ?mE_NoTable ?sE_NoTable ?vE_NoTable ?pE_NoTable ?xE_NoTable ?gE_NoHouse ?kE_NoHouse ?aE_NoHouse ?mE_NoHouse ?sE_NoHouse ?vE_NoHouse ?pE_NoHouse ?xE_NoHouse ?gE_NoDeed ?kE_NoDeed ?aE_NoDeed ?mE_NoDeed ?sE_NoDeed ?vE_NoDeed ?pE_NoDeed ?xE_NoDeed ?gE_TooMany ?kE_TooMany ?aE_TooMany ?mE_TooMany ?sE_TooMany ?vE_TooMany ?pE_TooMany ?xE_TooMany ?gE_Short ?kE_Short ?aE_Short ?mE_Short ?sE_Short ?vE_Short ?pE_Short ?S_cls ?S_sa ?S_no ?S_ic ?S_tc ?S_fn ?S_cd' ?oE_NoTable_Short ?oE_NoHouse_Short ?oE_NoDeed_Short ?oE_TooMany_Short
    (case a_bare => k_is); (case l_bare => k_is); (case q_bare => k_is); (case k_bare => k_is); (case a_need_house => k_is); (case l_need_house => k_is); (case q_need_house => k_is); (case k_need_house => k_is)
    (case a_lent_by => k_is); (case l_lent_by => k_is); (case q_lent_by => k_is); (case k_lent_by => k_is); (case a_lent_to => k_is); (case l_lent_to => k_is); (case q_lent_to => k_is); (case k_lent_to => k_is)
    (case a_rights => k_is); (case l_rights => k_is); (case q_rights => k_is); (case k_rights => k_is); (case a_stock => k_is); (case l_stock => k_is); (case q_stock => k_is); (case k_stock => k_is)
    (case a_need_alike => k_is); (case l_need_alike => k_is); (case q_need_alike => k_is); (case k_need_alike => k_is); (case a_is_row_within => k_is); (case l_is_row_within => k_is); (case q_is_row_within => k_is); (case k_is_row_within => k_is)
    (case a_is_within => k_is); (case l_is_within => k_is); (case q_is_within => k_is); (case k_is_within => k_is); (case a_joined => k_is); (case l_joined => k_is); (case q_joined => k_is); (case k_joined => k_is)
    (case a_is_deed => k_is); (case l_is_deed => k_is); (case q_is_deed => k_is); (case k_is_deed => k_is); (case a_place_of => k_is); (case l_place_of => k_is); (case q_place_of => k_is); (case k_place_of => k_is)
    (case a_raised => k_is); (case l_raised => k_is); (case q_raised => k_is); (case k_raised => k_is); (case a_done => k_is); (case l_done => k_is); (case q_done => k_is); (case k_done => k_is)
    (case a_is_busy => k_is); (case l_is_busy => k_is); (case q_is_busy => k_is); (case k_is_busy => k_is); (case a_rooted => k_is); (case l_rooted => k_is); (case q_rooted => k_is); (case k_rooted => k_is)
    (case a_comes_about => k_is); (case l_comes_about => k_is); (case q_comes_about => k_is); (case k_comes_about => k_is); (case a_are_houses => k_is); (case l_are_houses => k_is); (case q_are_houses => k_is); (case k_are_houses => k_is)
    (case a_is_root_list => k_is); (case l_is_root_list => k_is); (case q_is_root_list => k_is); (case k_is_root_list => k_is); (case a_ways_on => k_is); (case l_ways_on => k_is); (case q_ways_on => k_is); (case k_ways_on => k_is)
    (case a_next_lent => k_is); (case l_next_lent => k_is); (case q_next_lent => k_is); (case k_next_lent => k_is); (case a_lendings => k_is); (case l_lendings => k_is); (case q_lendings => k_is); (case k_lendings => k_is)
    (case a_steps => k_is); (case l_steps => k_is); (case q_steps => k_is); (case k_steps => k_is); (case a_law_b_draw => k_is); (case l_law_b_draw => k_is); (case q_law_b_draw => k_is); (case k_law_b_draw => k_is)
    (case a_law_b_rights => k_is); (case l_law_b_rights => k_is); (case q_law_b_rights => k_is); (case k_law_b_rights => k_is); (case a_law_b_deed_v1 => k_is); (case l_law_b_deed_v1 => k_is); (case q_law_b_deed_v1 => k_is); (case k_law_b_deed_v1 => k_is)
    (case a_law_b_told_v3 => k_is); (case l_law_b_told_v3 => k_is); (case q_law_b_told_v3 => k_is); (case k_law_b_told_v3 => k_is); (case a_law_b_stands => k_is); (case l_law_b_stands => k_is); (case q_law_b_stands => k_is); (case k_law_b_stands => k_is)
    (case a_law => k_is); (case l_law => k_is); (case q_law => k_is); (case k_law => k_is); (case z0 => k_is); (case z1 => k_is); (case z2 => k_is); (case z3 => k_is)
    (case z4 => k_is); (case z5 => k_is); (case z6 => k_is); (case z7 => k_is); (case z8 => k_is); (case z9 => k_is); (case z10 => k_is); (case z11 => k_is)
    (case y0 => k_is); (case nE_NoTable => k_is); (case bE_NoTable => k_is); (case tE_NoTable => k_is); (case hE_NoTable => k_is); (case nE_NoHouse => k_is); (case bE_NoHouse => k_is); (case tE_NoHouse => k_is)
    (case hE_NoHouse => k_is); (case nE_NoDeed => k_is); (case bE_NoDeed => k_is); (case tE_NoDeed => k_is); (case hE_NoDeed => k_is); (case nE_TooMany => k_is); (case bE_TooMany => k_is); (case tE_TooMany => k_is)
    (case hE_TooMany => k_is); (case nE_Short => k_is); (case bE_Short => k_is); (case tE_Short => k_is); (case hE_Short => k_is); (case yE_n => k_is); (case yE_t => k_is); (case gE_NoTable => k_is)
    (case kE_NoTable => k_is); (case aE_NoTable => k_is); (case mE_NoTable => k_is); (case sE_NoTable => k_is); (case vE_NoTable => k_is); (case pE_NoTable => k_is); (case xE_NoTable => k_exc); (case gE_NoHouse => k_is)
    (case kE_NoHouse => k_is); (case aE_NoHouse => k_is); (case mE_NoHouse => k_is); (case sE_NoHouse => k_is); (case vE_NoHouse => k_is); (case pE_NoHouse => k_is); (case xE_NoHouse => k_exc); (case gE_NoDeed => k_is)
    (case kE_NoDeed => k_is); (case aE_NoDeed => k_is); (case mE_NoDeed => k_is); (case sE_NoDeed => k_is); (case vE_NoDeed => k_is); (case pE_NoDeed => k_is); (case xE_NoDeed => k_exc); (case gE_TooMany => k_is)
    (case kE_TooMany => k_is); (case aE_TooMany => k_is); (case mE_TooMany => k_is); (case sE_TooMany => k_is); (case vE_TooMany => k_is); (case pE_TooMany => k_is); (case xE_TooMany => k_exc); (case gE_Short => k_is)
    (case kE_Short => k_is); (case aE_Short => k_is); (case mE_Short => k_is); (case sE_Short => k_is); (case vE_Short => k_is); (case pE_Short => k_is); (case S_cls => k_is); (case S_sa => k_is)
    (case S_no => k_is); (case S_ic => k_is); (case S_tc => k_is); (case S_fn => k_is); (case S_cd' => k_is); (case oE_NoTable_Short => k_is); (case oE_NoHouse_Short => k_is); (case oE_NoDeed_Short => k_is)
    (case oE_TooMany_Short => k_is)
#print axioms PySem.Challenge.cw_lendwharf_k14_whole_row_of_deeds_holds
