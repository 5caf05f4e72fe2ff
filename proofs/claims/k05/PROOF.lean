import PyProof.Rows.All
import Wide.All
import OpenK.AllK
import Wide.FinOn
import HandS.ForMost
import HandS.ForExc
import HandS.Wide
import HandS.TupAny
import HandS.TupLe
import HandS.Deep
import HandS.Style
import HandS.IsInst
import HandS.Flow
import KE.KTupSum
import HandS.Zip
import HandS.More
import HandS.WordsExc
import HandS.EndBits
import PySem.Challenge.RW_lendwharf_k05_knowing_more
set_option Elab.async false
set_option linter.all false
set_option maxRecDepth 100000
set_option maxHeartbeats 4000000
/-! Fe1: plain data D with ownership flags, how a value in the abstract heap stands for it (Rep), and how that carries over. -/
namespace Fe
open PySem L2
inductive Fl where
  | own | cl | bw | bo
  deriving DecidableEq
inductive D where
  | non | bl (b : Bool) | int (i : Int) | str (x : Str)
  | tup (l : List D) | lst (f : Fl) (l : List D) | dk (f : Fl) (ks : List Key) (l : List D)
mutual
def D.toBw : D → D
  | .non => .non
  | .bl b => .bl b
  | .int i => .int i
  | .str x => .str x
  | .tup l => .tup (toBwL l)
  | .lst f l => .lst (match f with | .own => .bw | .cl => .cl | .bw => .bw | .bo => .bw) (toBwL l)
  | .dk f k l => .dk (match f with | .own => .bw | .cl => .cl | .bw => .bw | .bo => .bw) k (toBwL l)
def toBwL : List D → List D
  | [] => []
  | d :: r => d.toBw :: toBwL r
end
mutual
def D.toBo : D → D
  | .non => .non
  | .bl b => .bl b
  | .int i => .int i
  | .str x => .str x
  | .tup l => .tup (toBoL l)
  | .lst f l => .lst (match f with | .own => .bo | .cl => .cl | .bw => .bw | .bo => .bo) (toBoL l)
  | .dk f k l => .dk (match f with | .own => .bo | .cl => .cl | .bw => .bw | .bo => .bo) k (toBoL l)
def toBoL : List D → List D
  | [] => []
  | d :: r => d.toBo :: toBoL r
end
mutual
def D.frz : D → D
  | .non => .non
  | .bl b => .bl b
  | .int i => .int i
  | .str x => .str x
  | .tup l => .tup (frzL l)
  | .lst f l => .lst (match f with | .own => .cl | .cl => .cl | .bw => .bw | .bo => .bo) (frzL l)
  | .dk f k l => .dk (match f with | .own => .cl | .cl => .cl | .bw => .bw | .bo => .bo) k (frzL l)
def frzL : List D → List D
  | [] => []
  | d :: r => d.frz :: frzL r
end
mutual
/-- nothing borrowed in it -/
def D.noBw : D → Bool
  | .non => true
  | .bl _ => true
  | .int _ => true
  | .str _ => true
  | .tup l => noBwL l
  | .lst f l => (match f with | .bw => false | .bo => false | _ => true) && noBwL l
  | .dk f _ l => (match f with | .bw => false | .bo => false | _ => true) && noBwL l
def noBwL : List D → Bool
  | [] => true
  | d :: r => d.noBw && noBwL r
end
mutual
/-- nothing borrowed of the frame's own in it -/
def D.noBo : D → Bool
  | .non => true
  | .bl _ => true
  | .int _ => true
  | .str _ => true
  | .tup l => noBoL l
  | .lst f l => (match f with | .bo => false | _ => true) && noBoL l
  | .dk f _ l => (match f with | .bo => false | _ => true) && noBoL l
def noBoL : List D → Bool
  | [] => true
  | d :: r => d.noBo && noBoL r
end
mutual
/-- nothing own in it -/
def D.noOw : D → Bool
  | .non => true
  | .bl _ => true
  | .int _ => true
  | .str _ => true
  | .tup l => noOwL l
  | .lst f l => (match f with | .own => false | _ => true) && noOwL l
  | .dk f _ l => (match f with | .own => false | _ => true) && noOwL l
def noOwL : List D → Bool
  | [] => true
  | d :: r => d.noOw && noOwL r
end
theorem nil_all {P : Addr → Prop} : ∀ p ∈ ([] : List Addr), P p := fun _ h => nomatch h
/-- a list of the written part -/
def KLst (K : PySem.W.Frag) (a : Addr) (xs : List V) : Prop :=
  ∃ (o : Obj) (its : Array Value) (n : Nat), K.lookup a = some o ∧ o.cls = .type "list" ∧ o.dict = none ∧ o.data = .seq its n ∧ its.size ≤ sizeLine ∧ Vals xs its.toList
/-- what may be own: a list, a dict -/
def Mt : Option HO → Prop
  | some (.lst _) => True
  | some (.dK _) => True
  | _ => False
theorem Mt.ne {o : Option HO} (h : Mt o) : o ≠ none := fun z => by rw [z] at h; exact h
theorem Mt.tup {xs : List V} (h : Mt (some (.tup xs))) : False := h
theorem Mt.frz {o : Obj} {u : HO} (h : Mt (some (.frz o u))) : False := h
section
variable (K : PySem.W.Frag)
mutual
/-- v stands for d in H: a closed list lies where C allows it, a borrowed one where B does, the own ones are at A, in order -/
def Rep (C : Addr → Prop) (B : Bool → Addr → Prop) (H : Hp) : D → V → List Addr → Prop
  | .non, v, A => v = .non ∧ A = []
  | .bl b, v, A => v = .bl b ∧ A = []
  | .int i, v, A => v = .int i ∧ A = []
  | .str x, v, A => v = .str x ∧ A = []
  | .tup l, v, A => ∃ p xs, v = .ref p ∧ SqT K H p xs ∧ RepL C B H l xs A
  | .lst .own l, v, A => ∃ p xs A1, v = .ref p ∧ H p = some (.lst xs) ∧ A = p :: A1 ∧ RepL C B H l xs A1
  | .lst .cl l, v, A => ∃ p xs, v = .ref p ∧ ((Rd H p (.lst xs) ∧ C p) ∨ KLst K p xs) ∧ A = [] ∧ RepL C B H l xs []
  | .lst .bw l, v, A => ∃ p xs, v = .ref p ∧ (Rd H p (.lst xs) ∧ B false p) ∧ A = [] ∧ RepL C B H l xs []
  | .lst .bo l, v, A => ∃ p xs, v = .ref p ∧ (Rd H p (.lst xs) ∧ B true p) ∧ A = [] ∧ RepL C B H l xs []
  | .dk .own k l, v, A => ∃ p kvs A1, v = .ref p ∧ H p = some (.dK kvs) ∧ kvs.map (·.1) = k ∧ A = p :: A1 ∧ RepL C B H l (kvs.map (·.2)) A1
  | .dk .cl k l, v, A => ∃ p kvs, v = .ref p ∧ (Rd H p (.dK kvs) ∧ C p) ∧ kvs.map (·.1) = k ∧ A = [] ∧ RepL C B H l (kvs.map (·.2)) []
  | .dk .bw k l, v, A => ∃ p kvs, v = .ref p ∧ (Rd H p (.dK kvs) ∧ B false p) ∧ kvs.map (·.1) = k ∧ A = [] ∧ RepL C B H l (kvs.map (·.2)) []
  | .dk .bo k l, v, A => ∃ p kvs, v = .ref p ∧ (Rd H p (.dK kvs) ∧ B true p) ∧ kvs.map (·.1) = k ∧ A = [] ∧ RepL C B H l (kvs.map (·.2)) []
def RepL (C : Addr → Prop) (B : Bool → Addr → Prop) (H : Hp) : List D → List V → List Addr → Prop
  | [], vs, A => vs = [] ∧ A = []
  | d :: r, vs, A => ∃ v vr A1 A2, vs = v :: vr ∧ A = A1 ++ A2 ∧ Rep C B H d v A1 ∧ RepL C B H r vr A2
end
end
section
variable {K : PySem.W.Frag} {C C' : Addr → Prop} {B B' : Bool → Addr → Prop} {H H' : Hp}
theorem rep_non {v A} : Rep K C B H .non v A ↔ v = .non ∧ A = [] := by simp only [Rep]
theorem rep_bl {b v A} : Rep K C B H (.bl b) v A ↔ v = .bl b ∧ A = [] := by simp only [Rep]
theorem rep_int {i v A} : Rep K C B H (.int i) v A ↔ v = .int i ∧ A = [] := by simp only [Rep]
theorem rep_str {x v A} : Rep K C B H (.str x) v A ↔ v = .str x ∧ A = [] := by simp only [Rep]
theorem rep_tup {l v A} : Rep K C B H (.tup l) v A ↔ ∃ p xs, v = .ref p ∧ SqT K H p xs ∧ RepL K C B H l xs A := by simp only [Rep]
theorem rep_own {l v A} : Rep K C B H (.lst .own l) v A ↔ ∃ p xs A1, v = .ref p ∧ H p = some (.lst xs) ∧ A = p :: A1 ∧ RepL K C B H l xs A1 := by simp only [Rep]
theorem rep_cl {l v A} : Rep K C B H (.lst .cl l) v A ↔ ∃ p xs, v = .ref p ∧ ((Rd H p (.lst xs) ∧ C p) ∨ KLst K p xs) ∧ A = [] ∧ RepL K C B H l xs [] := by simp only [Rep]
theorem rep_bw {l v A} : Rep K C B H (.lst .bw l) v A ↔ ∃ p xs, v = .ref p ∧ (Rd H p (.lst xs) ∧ B false p) ∧ A = [] ∧ RepL K C B H l xs [] := by simp only [Rep]
theorem rep_bo {l v A} : Rep K C B H (.lst .bo l) v A ↔ ∃ p xs, v = .ref p ∧ (Rd H p (.lst xs) ∧ B true p) ∧ A = [] ∧ RepL K C B H l xs [] := by simp only [Rep]
theorem rep_dkown {k l v A} : Rep K C B H (.dk .own k l) v A ↔ ∃ p kvs A1, v = .ref p ∧ H p = some (.dK kvs) ∧ kvs.map (·.1) = k ∧ A = p :: A1 ∧ RepL K C B H l (kvs.map (·.2)) A1 := by simp only [Rep]
theorem rep_dkcl {k l v A} : Rep K C B H (.dk .cl k l) v A ↔ ∃ p kvs, v = .ref p ∧ (Rd H p (.dK kvs) ∧ C p) ∧ kvs.map (·.1) = k ∧ A = [] ∧ RepL K C B H l (kvs.map (·.2)) [] := by simp only [Rep]
theorem rep_dkbw {k l v A} : Rep K C B H (.dk .bw k l) v A ↔ ∃ p kvs, v = .ref p ∧ (Rd H p (.dK kvs) ∧ B false p) ∧ kvs.map (·.1) = k ∧ A = [] ∧ RepL K C B H l (kvs.map (·.2)) [] := by simp only [Rep]
theorem rep_dkbo {k l v A} : Rep K C B H (.dk .bo k l) v A ↔ ∃ p kvs, v = .ref p ∧ (Rd H p (.dK kvs) ∧ B true p) ∧ kvs.map (·.1) = k ∧ A = [] ∧ RepL K C B H l (kvs.map (·.2)) [] := by simp only [Rep]
theorem repL_nil {vs A} : RepL K C B H [] vs A ↔ vs = [] ∧ A = [] := by simp only [RepL]
theorem repL_cons {d r vs A} : RepL K C B H (d :: r) vs A ↔ ∃ v vr A1 A2, vs = v :: vr ∧ A = A1 ++ A2 ∧ Rep K C B H d v A1 ∧ RepL K C B H r vr A2 := by simp only [RepL]
theorem RepL.length : ∀ {l : List D} {xs : List V} {A : List Addr}, RepL K C B H l xs A → xs.length = l.length
  | [], _, _, h => by obtain ⟨rfl, _⟩ := repL_nil.mp h; rfl
  | d :: r, _, _, h => by
    obtain ⟨v, vr, A1, A2, rfl, _, _, h2⟩ := repL_cons.mp h
    simp [RepL.length h2]

/-- what must carry over -/
structure Tr (C : Addr → Prop) (B : Bool → Addr → Prop) (C' : Addr → Prop) (B' : Bool → Addr → Prop) (H H' : Hp) : Prop where
  c : ∀ p u, C p → Rd H p u → C' p ∧ Rd H' p u
  b : ∀ k p u, B k p → Rd H p u → B' k p ∧ Rd H' p u
  t : ∀ p xs, Rd H p (.tup xs) → Rd H' p (.tup xs)
theorem sqT_tr (t : ∀ p xs, Rd H p (.tup xs) → Rd H' p (.tup xs)) {p xs} (h : SqT K H p xs) : SqT K H' p xs := by
  rcases h with h | h
  · exact .inl (t p xs h)
  · exact .inr h
mutual
theorem Rep.tr (T : Tr C B C' B' H H') : ∀ (d : D) {v : V} {A : List Addr}, (∀ p ∈ A, ∀ o, H p = some o → H' p = some o) → Rep K C B H d v A → Rep K C' B' H' d v A
  | .non, _, _, _, h => rep_non.mpr (rep_non.mp h)
  | .bl _, _, _, _, h => rep_bl.mpr (rep_bl.mp h)
  | .int _, _, _, _, h => rep_int.mpr (rep_int.mp h)
  | .str _, _, _, _, h => rep_str.mpr (rep_str.mp h)
  | .tup l, _, _, hA, h => by
    obtain ⟨p, xs, e, hs, hl⟩ := rep_tup.mp h
    exact rep_tup.mpr ⟨p, xs, e, sqT_tr T.t hs, RepL.tr T l hA hl⟩
  | .lst .own l, _, _, hA, h => by
    obtain ⟨p, xs, A1, e, hs, eA, hl⟩ := rep_own.mp h
    exact rep_own.mpr ⟨p, xs, A1, e, hA p (by rw [eA]; exact List.mem_cons_self) _ hs, eA, RepL.tr T l (fun q hq => hA q (by rw [eA]; exact List.mem_cons_of_mem _ hq)) hl⟩
  | .lst .cl l, _, _, hA, h => by
    obtain ⟨p, xs, e, hs, eA, hl⟩ := rep_cl.mp h
    refine rep_cl.mpr ⟨p, xs, e, ?_, eA, RepL.tr T l nil_all hl⟩
    rcases hs with ⟨h1, h2⟩ | h1
    · exact .inl ⟨(T.c p _ h2 h1).2, (T.c p _ h2 h1).1⟩
    · exact .inr h1
  | .lst .bw l, _, _, hA, h => by
    obtain ⟨p, xs, e, ⟨h1, h2⟩, eA, hl⟩ := rep_bw.mp h
    exact rep_bw.mpr ⟨p, xs, e, ⟨(T.b _ p _ h2 h1).2, (T.b _ p _ h2 h1).1⟩, eA, RepL.tr T l nil_all hl⟩
  | .lst .bo l, _, _, hA, h => by
    obtain ⟨p, xs, e, ⟨h1, h2⟩, eA, hl⟩ := rep_bo.mp h
    exact rep_bo.mpr ⟨p, xs, e, ⟨(T.b _ p _ h2 h1).2, (T.b _ p _ h2 h1).1⟩, eA, RepL.tr T l nil_all hl⟩
  | .dk .own k l, _, _, hA, h => by
    obtain ⟨p, xs, A1, e, hs, ek, eA, hl⟩ := rep_dkown.mp h
    exact rep_dkown.mpr ⟨p, xs, A1, e, hA p (by rw [eA]; exact List.mem_cons_self) _ hs, ek, eA, RepL.tr T l (fun q hq => hA q (by rw [eA]; exact List.mem_cons_of_mem _ hq)) hl⟩
  | .dk .cl k l, _, _, hA, h => by
    obtain ⟨p, xs, e, ⟨h1, h2⟩, ek, eA, hl⟩ := rep_dkcl.mp h
    exact rep_dkcl.mpr ⟨p, xs, e, ⟨(T.c p _ h2 h1).2, (T.c p _ h2 h1).1⟩, ek, eA, RepL.tr T l nil_all hl⟩
  | .dk .bw k l, _, _, hA, h => by
    obtain ⟨p, xs, e, ⟨h1, h2⟩, ek, eA, hl⟩ := rep_dkbw.mp h
    exact rep_dkbw.mpr ⟨p, xs, e, ⟨(T.b _ p _ h2 h1).2, (T.b _ p _ h2 h1).1⟩, ek, eA, RepL.tr T l nil_all hl⟩
  | .dk .bo k l, _, _, hA, h => by
    obtain ⟨p, xs, e, ⟨h1, h2⟩, ek, eA, hl⟩ := rep_dkbo.mp h
    exact rep_dkbo.mpr ⟨p, xs, e, ⟨(T.b _ p _ h2 h1).2, (T.b _ p _ h2 h1).1⟩, ek, eA, RepL.tr T l nil_all hl⟩
theorem RepL.tr (T : Tr C B C' B' H H') : ∀ (l : List D) {xs : List V} {A : List Addr}, (∀ p ∈ A, ∀ o, H p = some o → H' p = some o) → RepL K C B H l xs A → RepL K C' B' H' l xs A
  | [], _, _, _, h => repL_nil.mpr (repL_nil.mp h)
  | d :: r, _, _, hA, h => by
    obtain ⟨v, vr, A1, A2, e, eA, h1, h2⟩ := repL_cons.mp h
    exact repL_cons.mpr ⟨v, vr, A1, A2, e, eA, Rep.tr T d (fun p hp => hA p (by rw [eA]; exact List.mem_append_left _ hp)) h1, RepL.tr T r (fun p hp => hA p (by rw [eA]; exact List.mem_append_right _ hp)) h2⟩
end
mutual
theorem Rep.toBw (hC : ∀ p, C p → C' p) (hB : ∀ k p, B k p → B' false p) : ∀ (d : D) {v : V} {A : List Addr}, (∀ p ∈ A, B' false p) → Rep K C B H d v A → Rep K C' B' H d.toBw v []
  | .non, _, _, _, h => rep_non.mpr ⟨(rep_non.mp h).1, rfl⟩
  | .bl _, _, _, _, h => rep_bl.mpr ⟨(rep_bl.mp h).1, rfl⟩
  | .int _, _, _, _, h => rep_int.mpr ⟨(rep_int.mp h).1, rfl⟩
  | .str _, _, _, _, h => rep_str.mpr ⟨(rep_str.mp h).1, rfl⟩
  | .tup l, _, _, hA, h => by
    obtain ⟨p, xs, e, hs, hl⟩ := rep_tup.mp h
    exact rep_tup.mpr ⟨p, xs, e, hs, RepL.toBw hC hB l hA hl⟩
  | .lst .own l, _, _, hA, h => by
    obtain ⟨p, xs, A1, e, hs, eA, hl⟩ := rep_own.mp h
    exact rep_bw.mpr ⟨p, xs, e, ⟨.inl hs, hA p (by rw [eA]; exact List.mem_cons_self)⟩, rfl, RepL.toBw hC hB l (fun q hq => hA q (by rw [eA]; exact List.mem_cons_of_mem _ hq)) hl⟩
  | .lst .cl l, _, _, hA, h => by
    obtain ⟨p, xs, e, hs, eA, hl⟩ := rep_cl.mp h
    refine rep_cl.mpr ⟨p, xs, e, ?_, rfl, RepL.toBw hC hB l nil_all hl⟩
    rcases hs with ⟨h1, h2⟩ | h1
    · exact .inl ⟨h1, hC _ h2⟩
    · exact .inr h1
  | .lst .bw l, _, _, hA, h => by
    obtain ⟨p, xs, e, ⟨h1, h2⟩, eA, hl⟩ := rep_bw.mp h
    exact rep_bw.mpr ⟨p, xs, e, ⟨h1, hB _ _ h2⟩, rfl, RepL.toBw hC hB l nil_all hl⟩
  | .lst .bo l, _, _, hA, h => by
    obtain ⟨p, xs, e, ⟨h1, h2⟩, eA, hl⟩ := rep_bo.mp h
    exact rep_bw.mpr ⟨p, xs, e, ⟨h1, hB _ _ h2⟩, rfl, RepL.toBw hC hB l nil_all hl⟩
  | .dk .own k l, _, _, hA, h => by
    obtain ⟨p, xs, A1, e, hs, ek, eA, hl⟩ := rep_dkown.mp h
    exact rep_dkbw.mpr ⟨p, xs, e, ⟨.inl hs, hA p (by rw [eA]; exact List.mem_cons_self)⟩, ek, rfl, RepL.toBw hC hB l (fun q hq => hA q (by rw [eA]; exact List.mem_cons_of_mem _ hq)) hl⟩
  | .dk .cl k l, _, _, hA, h => by
    obtain ⟨p, xs, e, ⟨h1, h2⟩, ek, eA, hl⟩ := rep_dkcl.mp h
    exact rep_dkcl.mpr ⟨p, xs, e, ⟨h1, hC _ h2⟩, ek, rfl, RepL.toBw hC hB l nil_all hl⟩
  | .dk .bw k l, _, _, hA, h => by
    obtain ⟨p, xs, e, ⟨h1, h2⟩, ek, eA, hl⟩ := rep_dkbw.mp h
    exact rep_dkbw.mpr ⟨p, xs, e, ⟨h1, hB _ _ h2⟩, ek, rfl, RepL.toBw hC hB l nil_all hl⟩
  | .dk .bo k l, _, _, hA, h => by
    obtain ⟨p, xs, e, ⟨h1, h2⟩, ek, eA, hl⟩ := rep_dkbo.mp h
    exact rep_dkbw.mpr ⟨p, xs, e, ⟨h1, hB _ _ h2⟩, ek, rfl, RepL.toBw hC hB l nil_all hl⟩
theorem RepL.toBw (hC : ∀ p, C p → C' p) (hB : ∀ k p, B k p → B' false p) : ∀ (l : List D) {xs : List V} {A : List Addr}, (∀ p ∈ A, B' false p) → RepL K C B H l xs A → RepL K C' B' H (toBwL l) xs []
  | [], _, _, _, h => repL_nil.mpr ⟨(repL_nil.mp h).1, rfl⟩
  | d :: r, _, _, hA, h => by
    obtain ⟨v, vr, A1, A2, e, eA, h1, h2⟩ := repL_cons.mp h
    exact repL_cons.mpr ⟨v, vr, [], [], e, rfl, Rep.toBw hC hB d (fun p hp => hA p (by rw [eA]; exact List.mem_append_left _ hp)) h1, RepL.toBw hC hB r (fun p hp => hA p (by rw [eA]; exact List.mem_append_right _ hp)) h2⟩
end
mutual
theorem Rep.toBo (hC : ∀ p, C p → C' p) (hB : ∀ k p, B k p → B' k p) : ∀ (d : D) {v : V} {A : List Addr}, (∀ p ∈ A, B' true p) → Rep K C B H d v A → Rep K C' B' H d.toBo v []
  | .non, _, _, _, h => rep_non.mpr ⟨(rep_non.mp h).1, rfl⟩
  | .bl _, _, _, _, h => rep_bl.mpr ⟨(rep_bl.mp h).1, rfl⟩
  | .int _, _, _, _, h => rep_int.mpr ⟨(rep_int.mp h).1, rfl⟩
  | .str _, _, _, _, h => rep_str.mpr ⟨(rep_str.mp h).1, rfl⟩
  | .tup l, _, _, hA, h => by
    obtain ⟨p, xs, e, hs, hl⟩ := rep_tup.mp h
    exact rep_tup.mpr ⟨p, xs, e, hs, RepL.toBo hC hB l hA hl⟩
  | .lst .own l, _, _, hA, h => by
    obtain ⟨p, xs, A1, e, hs, eA, hl⟩ := rep_own.mp h
    exact rep_bo.mpr ⟨p, xs, e, ⟨.inl hs, hA p (by rw [eA]; exact List.mem_cons_self)⟩, rfl, RepL.toBo hC hB l (fun q hq => hA q (by rw [eA]; exact List.mem_cons_of_mem _ hq)) hl⟩
  | .lst .cl l, _, _, hA, h => by
    obtain ⟨p, xs, e, hs, eA, hl⟩ := rep_cl.mp h
    refine rep_cl.mpr ⟨p, xs, e, ?_, rfl, RepL.toBo hC hB l nil_all hl⟩
    rcases hs with ⟨h1, h2⟩ | h1
    · exact .inl ⟨h1, hC _ h2⟩
    · exact .inr h1
  | .lst .bw l, _, _, hA, h => by
    obtain ⟨p, xs, e, ⟨h1, h2⟩, eA, hl⟩ := rep_bw.mp h
    exact rep_bw.mpr ⟨p, xs, e, ⟨h1, hB _ _ h2⟩, rfl, RepL.toBo hC hB l nil_all hl⟩
  | .lst .bo l, _, _, hA, h => by
    obtain ⟨p, xs, e, ⟨h1, h2⟩, eA, hl⟩ := rep_bo.mp h
    exact rep_bo.mpr ⟨p, xs, e, ⟨h1, hB _ _ h2⟩, rfl, RepL.toBo hC hB l nil_all hl⟩
  | .dk .own k l, _, _, hA, h => by
    obtain ⟨p, xs, A1, e, hs, ek, eA, hl⟩ := rep_dkown.mp h
    exact rep_dkbo.mpr ⟨p, xs, e, ⟨.inl hs, hA p (by rw [eA]; exact List.mem_cons_self)⟩, ek, rfl, RepL.toBo hC hB l (fun q hq => hA q (by rw [eA]; exact List.mem_cons_of_mem _ hq)) hl⟩
  | .dk .cl k l, _, _, hA, h => by
    obtain ⟨p, xs, e, ⟨h1, h2⟩, ek, eA, hl⟩ := rep_dkcl.mp h
    exact rep_dkcl.mpr ⟨p, xs, e, ⟨h1, hC _ h2⟩, ek, rfl, RepL.toBo hC hB l nil_all hl⟩
  | .dk .bw k l, _, _, hA, h => by
    obtain ⟨p, xs, e, ⟨h1, h2⟩, ek, eA, hl⟩ := rep_dkbw.mp h
    exact rep_dkbw.mpr ⟨p, xs, e, ⟨h1, hB _ _ h2⟩, ek, rfl, RepL.toBo hC hB l nil_all hl⟩
  | .dk .bo k l, _, _, hA, h => by
    obtain ⟨p, xs, e, ⟨h1, h2⟩, ek, eA, hl⟩ := rep_dkbo.mp h
    exact rep_dkbo.mpr ⟨p, xs, e, ⟨h1, hB _ _ h2⟩, ek, rfl, RepL.toBo hC hB l nil_all hl⟩
theorem RepL.toBo (hC : ∀ p, C p → C' p) (hB : ∀ k p, B k p → B' k p) : ∀ (l : List D) {xs : List V} {A : List Addr}, (∀ p ∈ A, B' true p) → RepL K C B H l xs A → RepL K C' B' H (toBoL l) xs []
  | [], _, _, _, h => repL_nil.mpr ⟨(repL_nil.mp h).1, rfl⟩
  | d :: r, _, _, hA, h => by
    obtain ⟨v, vr, A1, A2, e, eA, h1, h2⟩ := repL_cons.mp h
    exact repL_cons.mpr ⟨v, vr, [], [], e, rfl, Rep.toBo hC hB d (fun p hp => hA p (by rw [eA]; exact List.mem_append_left _ hp)) h1, RepL.toBo hC hB r (fun p hp => hA p (by rw [eA]; exact List.mem_append_right _ hp)) h2⟩
end
mutual
theorem Rep.frz (hC : ∀ p, C p → C' p) (hB : ∀ k p, B k p → B' k p) : ∀ (d : D) {v : V} {A : List Addr}, (∀ p ∈ A, C' p) → Rep K C B H d v A → Rep K C' B' H d.frz v []
  | .non, _, _, _, h => rep_non.mpr ⟨(rep_non.mp h).1, rfl⟩
  | .bl _, _, _, _, h => rep_bl.mpr ⟨(rep_bl.mp h).1, rfl⟩
  | .int _, _, _, _, h => rep_int.mpr ⟨(rep_int.mp h).1, rfl⟩
  | .str _, _, _, _, h => rep_str.mpr ⟨(rep_str.mp h).1, rfl⟩
  | .tup l, _, _, hA, h => by
    obtain ⟨p, xs, e, hs, hl⟩ := rep_tup.mp h
    exact rep_tup.mpr ⟨p, xs, e, hs, RepL.frz hC hB l hA hl⟩
  | .lst .own l, _, _, hA, h => by
    obtain ⟨p, xs, A1, e, hs, eA, hl⟩ := rep_own.mp h
    exact rep_cl.mpr ⟨p, xs, e, .inl ⟨.inl hs, hA p (by rw [eA]; exact List.mem_cons_self)⟩, rfl, RepL.frz hC hB l (fun q hq => hA q (by rw [eA]; exact List.mem_cons_of_mem _ hq)) hl⟩
  | .lst .cl l, _, _, hA, h => by
    obtain ⟨p, xs, e, hs, eA, hl⟩ := rep_cl.mp h
    refine rep_cl.mpr ⟨p, xs, e, ?_, rfl, RepL.frz hC hB l nil_all hl⟩
    rcases hs with ⟨h1, h2⟩ | h1
    · exact .inl ⟨h1, hC _ h2⟩
    · exact .inr h1
  | .lst .bw l, _, _, hA, h => by
    obtain ⟨p, xs, e, ⟨h1, h2⟩, eA, hl⟩ := rep_bw.mp h
    exact rep_bw.mpr ⟨p, xs, e, ⟨h1, hB _ _ h2⟩, rfl, RepL.frz hC hB l nil_all hl⟩
  | .lst .bo l, _, _, hA, h => by
    obtain ⟨p, xs, e, ⟨h1, h2⟩, eA, hl⟩ := rep_bo.mp h
    exact rep_bo.mpr ⟨p, xs, e, ⟨h1, hB _ _ h2⟩, rfl, RepL.frz hC hB l nil_all hl⟩
  | .dk .own k l, _, _, hA, h => by
    obtain ⟨p, xs, A1, e, hs, ek, eA, hl⟩ := rep_dkown.mp h
    exact rep_dkcl.mpr ⟨p, xs, e, ⟨.inl hs, hA p (by rw [eA]; exact List.mem_cons_self)⟩, ek, rfl, RepL.frz hC hB l (fun q hq => hA q (by rw [eA]; exact List.mem_cons_of_mem _ hq)) hl⟩
  | .dk .cl k l, _, _, hA, h => by
    obtain ⟨p, xs, e, ⟨h1, h2⟩, ek, eA, hl⟩ := rep_dkcl.mp h
    exact rep_dkcl.mpr ⟨p, xs, e, ⟨h1, hC _ h2⟩, ek, rfl, RepL.frz hC hB l nil_all hl⟩
  | .dk .bw k l, _, _, hA, h => by
    obtain ⟨p, xs, e, ⟨h1, h2⟩, ek, eA, hl⟩ := rep_dkbw.mp h
    exact rep_dkbw.mpr ⟨p, xs, e, ⟨h1, hB _ _ h2⟩, ek, rfl, RepL.frz hC hB l nil_all hl⟩
  | .dk .bo k l, _, _, hA, h => by
    obtain ⟨p, xs, e, ⟨h1, h2⟩, ek, eA, hl⟩ := rep_dkbo.mp h
    exact rep_dkbo.mpr ⟨p, xs, e, ⟨h1, hB _ _ h2⟩, ek, rfl, RepL.frz hC hB l nil_all hl⟩
theorem RepL.frz (hC : ∀ p, C p → C' p) (hB : ∀ k p, B k p → B' k p) : ∀ (l : List D) {xs : List V} {A : List Addr}, (∀ p ∈ A, C' p) → RepL K C B H l xs A → RepL K C' B' H (frzL l) xs []
  | [], _, _, _, h => repL_nil.mpr ⟨(repL_nil.mp h).1, rfl⟩
  | d :: r, _, _, hA, h => by
    obtain ⟨v, vr, A1, A2, e, eA, h1, h2⟩ := repL_cons.mp h
    exact repL_cons.mpr ⟨v, vr, [], [], e, rfl, Rep.frz hC hB d (fun p hp => hA p (by rw [eA]; exact List.mem_append_left _ hp)) h1, RepL.frz hC hB r (fun p hp => hA p (by rw [eA]; exact List.mem_append_right _ hp)) h2⟩
end
mutual
theorem Rep.noBw : ∀ (d : D) {v : V} {A : List Addr}, d.noBw = true → Rep K C B H d v A → Rep K C B' H d v A
  | .non, _, _, _, h => rep_non.mpr (rep_non.mp h)
  | .bl _, _, _, _, h => rep_bl.mpr (rep_bl.mp h)
  | .int _, _, _, _, h => rep_int.mpr (rep_int.mp h)
  | .str _, _, _, _, h => rep_str.mpr (rep_str.mp h)
  | .tup l, _, _, n, h => by
    obtain ⟨p, xs, e, hs, hl⟩ := rep_tup.mp h
    exact rep_tup.mpr ⟨p, xs, e, hs, RepL.noBw l (by simpa [D.noBw] using n) hl⟩
  | .lst .own l, _, _, n, h => by
    obtain ⟨p, xs, A1, e, hs, eA, hl⟩ := rep_own.mp h
    exact rep_own.mpr ⟨p, xs, A1, e, hs, eA, RepL.noBw l (by simpa [D.noBw] using n) hl⟩
  | .lst .cl l, _, _, n, h => by
    obtain ⟨p, xs, e, hs, eA, hl⟩ := rep_cl.mp h
    exact rep_cl.mpr ⟨p, xs, e, hs, eA, RepL.noBw l (by simpa [D.noBw] using n) hl⟩
  | .lst .bw l, _, _, n, h => by simp [D.noBw] at n
  | .lst .bo l, _, _, n, h => by simp [D.noBw] at n
  | .dk .own k l, _, _, n, h => by
    obtain ⟨p, xs, A1, e, hs, ek, eA, hl⟩ := rep_dkown.mp h
    exact rep_dkown.mpr ⟨p, xs, A1, e, hs, ek, eA, RepL.noBw l (by simpa [D.noBw] using n) hl⟩
  | .dk .cl k l, _, _, n, h => by
    obtain ⟨p, xs, e, hs, ek, eA, hl⟩ := rep_dkcl.mp h
    exact rep_dkcl.mpr ⟨p, xs, e, hs, ek, eA, RepL.noBw l (by simpa [D.noBw] using n) hl⟩
  | .dk .bw k l, _, _, n, h => by simp [D.noBw] at n
  | .dk .bo k l, _, _, n, h => by simp [D.noBw] at n
theorem RepL.noBw : ∀ (l : List D) {xs : List V} {A : List Addr}, noBwL l = true → RepL K C B H l xs A → RepL K C B' H l xs A
  | [], _, _, _, h => repL_nil.mpr (repL_nil.mp h)
  | d :: r, _, _, n, h => by
    obtain ⟨v, vr, A1, A2, e, eA, h1, h2⟩ := repL_cons.mp h
    have n' : d.noBw = true ∧ noBwL r = true := by simpa [noBwL] using n
    exact repL_cons.mpr ⟨v, vr, A1, A2, e, eA, Rep.noBw d n'.1 h1, RepL.noBw r n'.2 h2⟩
end
mutual
theorem Rep.noBo (hB : ∀ p, B false p → B' false p) : ∀ (d : D) {v : V} {A : List Addr}, d.noBo = true → Rep K C B H d v A → Rep K C B' H d v A
  | .non, _, _, _, h => rep_non.mpr (rep_non.mp h)
  | .bl _, _, _, _, h => rep_bl.mpr (rep_bl.mp h)
  | .int _, _, _, _, h => rep_int.mpr (rep_int.mp h)
  | .str _, _, _, _, h => rep_str.mpr (rep_str.mp h)
  | .tup l, _, _, n, h => by
    obtain ⟨p, xs, e, hs, hl⟩ := rep_tup.mp h
    exact rep_tup.mpr ⟨p, xs, e, hs, RepL.noBo hB l (by simpa [D.noBo] using n) hl⟩
  | .lst .own l, _, _, n, h => by
    obtain ⟨p, xs, A1, e, hs, eA, hl⟩ := rep_own.mp h
    exact rep_own.mpr ⟨p, xs, A1, e, hs, eA, RepL.noBo hB l (by simpa [D.noBo] using n) hl⟩
  | .lst .cl l, _, _, n, h => by
    obtain ⟨p, xs, e, hs, eA, hl⟩ := rep_cl.mp h
    exact rep_cl.mpr ⟨p, xs, e, hs, eA, RepL.noBo hB l (by simpa [D.noBo] using n) hl⟩
  | .lst .bw l, _, _, n, h => by
    obtain ⟨p, xs, e, hs, eA, hl⟩ := rep_bw.mp h
    exact rep_bw.mpr ⟨p, xs, e, ⟨hs.1, hB _ hs.2⟩, eA, RepL.noBo hB l (by simpa [D.noBo] using n) hl⟩
  | .lst .bo l, _, _, n, h => by simp [D.noBo] at n
  | .dk .own k l, _, _, n, h => by
    obtain ⟨p, xs, A1, e, hs, ek, eA, hl⟩ := rep_dkown.mp h
    exact rep_dkown.mpr ⟨p, xs, A1, e, hs, ek, eA, RepL.noBo hB l (by simpa [D.noBo] using n) hl⟩
  | .dk .cl k l, _, _, n, h => by
    obtain ⟨p, xs, e, hs, ek, eA, hl⟩ := rep_dkcl.mp h
    exact rep_dkcl.mpr ⟨p, xs, e, hs, ek, eA, RepL.noBo hB l (by simpa [D.noBo] using n) hl⟩
  | .dk .bw k l, _, _, n, h => by
    obtain ⟨p, xs, e, hs, ek, eA, hl⟩ := rep_dkbw.mp h
    exact rep_dkbw.mpr ⟨p, xs, e, ⟨hs.1, hB _ hs.2⟩, ek, eA, RepL.noBo hB l (by simpa [D.noBo] using n) hl⟩
  | .dk .bo k l, _, _, n, h => by simp [D.noBo] at n
theorem RepL.noBo (hB : ∀ p, B false p → B' false p) : ∀ (l : List D) {xs : List V} {A : List Addr}, noBoL l = true → RepL K C B H l xs A → RepL K C B' H l xs A
  | [], _, _, _, h => repL_nil.mpr (repL_nil.mp h)
  | d :: r, _, _, n, h => by
    obtain ⟨v, vr, A1, A2, e, eA, h1, h2⟩ := repL_cons.mp h
    have n' : d.noBo = true ∧ noBoL r = true := by simpa [noBoL] using n
    exact repL_cons.mpr ⟨v, vr, A1, A2, e, eA, Rep.noBo hB d n'.1 h1, RepL.noBo hB r n'.2 h2⟩
end
mutual
/-- the own ones are tracked -/
theorem Rep.trk : ∀ (d : D) {v : V} {A : List Addr}, Rep K C B H d v A → ∀ p ∈ A, Mt (H p)
  | .non, _, _, h => by obtain ⟨_, rfl⟩ := rep_non.mp h; intro _ z; cases z
  | .bl _, _, _, h => by obtain ⟨_, rfl⟩ := rep_bl.mp h; intro _ z; cases z
  | .int _, _, _, h => by obtain ⟨_, rfl⟩ := rep_int.mp h; intro _ z; cases z
  | .str _, _, _, h => by obtain ⟨_, rfl⟩ := rep_str.mp h; intro _ z; cases z
  | .tup l, _, _, h => by
    obtain ⟨p, xs, e, hs, hl⟩ := rep_tup.mp h
    exact RepL.trk l hl
  | .lst .own l, _, _, h => by
    obtain ⟨p, xs, A1, e, hs, rfl, hl⟩ := rep_own.mp h
    intro q hq
    rcases List.mem_cons.mp hq with rfl | hq
    · rw [hs]; trivial
    · exact RepL.trk l hl q hq
  | .lst .cl l, _, _, h => by obtain ⟨p, xs, e, hs, rfl, hl⟩ := rep_cl.mp h; intro _ z; cases z
  | .lst .bw l, _, _, h => by obtain ⟨p, xs, e, hs, rfl, hl⟩ := rep_bw.mp h; intro _ z; cases z
  | .lst .bo l, _, _, h => by obtain ⟨p, xs, e, hs, rfl, hl⟩ := rep_bo.mp h; intro _ z; cases z
  | .dk .own k l, _, _, h => by
    obtain ⟨p, xs, A1, e, hs, ek, rfl, hl⟩ := rep_dkown.mp h
    intro q hq
    rcases List.mem_cons.mp hq with rfl | hq
    · rw [hs]; trivial
    · exact RepL.trk l hl q hq
  | .dk .cl k l, _, _, h => by obtain ⟨p, xs, e, hs, _, rfl, hl⟩ := rep_dkcl.mp h; intro _ z; cases z
  | .dk .bw k l, _, _, h => by obtain ⟨p, xs, e, hs, _, rfl, hl⟩ := rep_dkbw.mp h; intro _ z; cases z
  | .dk .bo k l, _, _, h => by obtain ⟨p, xs, e, hs, _, rfl, hl⟩ := rep_dkbo.mp h; intro _ z; cases z
theorem RepL.trk : ∀ (l : List D) {xs : List V} {A : List Addr}, RepL K C B H l xs A → ∀ p ∈ A, Mt (H p)
  | [], _, _, h => by obtain ⟨_, rfl⟩ := repL_nil.mp h; intro _ z; cases z
  | d :: r, _, _, h => by
    obtain ⟨v, vr, A1, A2, e, rfl, h1, h2⟩ := repL_cons.mp h
    intro q hq
    rcases List.mem_append.mp hq with hq | hq
    · exact Rep.trk d h1 q hq
    · exact RepL.trk r h2 q hq
end
mutual
theorem Rep.noOw : ∀ (d : D) {v : V} {A : List Addr}, d.noOw = true → Rep K C B H d v A → A = []
  | .non, _, _, _, h => (rep_non.mp h).2
  | .bl _, _, _, _, h => (rep_bl.mp h).2
  | .int _, _, _, _, h => (rep_int.mp h).2
  | .str _, _, _, _, h => (rep_str.mp h).2
  | .tup l, _, _, n, h => by
    obtain ⟨p, xs, e, hs, hl⟩ := rep_tup.mp h
    exact RepL.noOw l (by simpa [D.noOw] using n) hl
  | .lst .own l, _, _, n, h => by simp [D.noOw] at n
  | .lst .cl l, _, _, n, h => by obtain ⟨p, xs, e, hs, eA, hl⟩ := rep_cl.mp h; exact eA
  | .lst .bw l, _, _, n, h => by obtain ⟨p, xs, e, hs, eA, hl⟩ := rep_bw.mp h; exact eA
  | .lst .bo l, _, _, n, h => by obtain ⟨p, xs, e, hs, eA, hl⟩ := rep_bo.mp h; exact eA
  | .dk .own k l, _, _, n, h => by simp [D.noOw] at n
  | .dk .cl k l, _, _, n, h => by obtain ⟨p, xs, e, hs, ek, eA, hl⟩ := rep_dkcl.mp h; exact eA
  | .dk .bw k l, _, _, n, h => by obtain ⟨p, xs, e, hs, ek, eA, hl⟩ := rep_dkbw.mp h; exact eA
  | .dk .bo k l, _, _, n, h => by obtain ⟨p, xs, e, hs, ek, eA, hl⟩ := rep_dkbo.mp h; exact eA
theorem RepL.noOw : ∀ (l : List D) {xs : List V} {A : List Addr}, noOwL l = true → RepL K C B H l xs A → A = []
  | [], _, _, _, h => (repL_nil.mp h).2
  | d :: r, _, _, n, h => by
    obtain ⟨v, vr, A1, A2, e, eA, h1, h2⟩ := repL_cons.mp h
    have n' : d.noOw = true ∧ noOwL r = true := by simpa [noOwL] using n
    rw [eA, Rep.noOw d n'.1 h1, RepL.noOw r n'.2 h2]
    rfl
end
/-- the items of a list, whatever its kind -/
theorem rep_list {f : Fl} {l : List D} {v : V} {A : List Addr} (h : Rep K C B H (.lst f l) v A) : ∃ p xs A1, v = .ref p ∧ SqL K H p xs ∧ RepL K C B H l xs A1 ∧ (∀ q ∈ A1, q ∈ A) ∧ (A.Nodup → A1.Nodup) := by
  cases f with
  | own =>
    obtain ⟨p, xs, A1, e, hs, rfl, hl⟩ := rep_own.mp h
    exact ⟨p, xs, A1, e, .inl (.inl hs), hl, fun q hq => List.mem_cons_of_mem _ hq, fun n => (List.nodup_cons.mp n).2⟩
  | cl =>
    obtain ⟨p, xs, e, hs, rfl, hl⟩ := rep_cl.mp h
    exact ⟨p, xs, [], e, hs.elim (fun z => .inl z.1) (fun z => .inr z), hl, fun q hq => hq, fun n => n⟩
  | bw =>
    obtain ⟨p, xs, e, hs, rfl, hl⟩ := rep_bw.mp h
    exact ⟨p, xs, [], e, .inl hs.1, hl, fun q hq => hq, fun n => n⟩
  | bo =>
    obtain ⟨p, xs, e, hs, rfl, hl⟩ := rep_bo.mp h
    exact ⟨p, xs, [], e, .inl hs.1, hl, fun q hq => hq, fun n => n⟩
/-- an item -/
theorem RepL.get : ∀ {l : List D} {xs : List V} {A : List Addr} {i : Nat} {d : D}, RepL K C B H l xs A → l[i]? = some d → ∃ v A1, xs[i]? = some v ∧ Rep K C B H d v A1 ∧ (∀ p ∈ A1, p ∈ A) ∧ (A.Nodup → A1.Nodup)
  | [], _, _, _, _, _, e => by simp at e
  | d0 :: r, _, _, 0, d, h, e => by
    obtain ⟨v, vr, A1, A2, rfl, rfl, h1, h2⟩ := repL_cons.mp h
    simp at e; subst e
    exact ⟨v, A1, rfl, h1, fun p hp => List.mem_append_left _ hp, fun n => (List.nodup_append.mp n).1⟩
  | d0 :: r, _, _, i + 1, d, h, e => by
    obtain ⟨v, vr, A1, A2, rfl, rfl, h1, h2⟩ := repL_cons.mp h
    obtain ⟨w, A3, q1, q2, q3, q4⟩ := RepL.get (i := i) (d := d) h2 (by simpa using e)
    exact ⟨w, A3, by simpa using q1, q2, fun p hp => List.mem_append_right _ (q3 p hp), fun n => q4 (List.nodup_append.mp n).2.1⟩
theorem RepL.append : ∀ {l l2 : List D} {xs ys : List V} {A A2 : List Addr}, RepL K C B H l xs A → RepL K C B H l2 ys A2 → RepL K C B H (l ++ l2) (xs ++ ys) (A ++ A2)
  | [], l2, _, ys, _, A2, h, h2 => by
    obtain ⟨rfl, rfl⟩ := repL_nil.mp h
    exact h2
  | d :: r, l2, _, ys, _, A2, h, h2 => by
    obtain ⟨v, vr, A1, A3, rfl, rfl, h1, h3⟩ := repL_cons.mp h
    exact repL_cons.mpr ⟨v, vr ++ ys, A1, A3 ++ A2, rfl, by rw [List.append_assoc], h1, RepL.append h3 h2⟩
theorem RepL.one {d : D} {v : V} {A : List Addr} (h : Rep K C B H d v A) : RepL K C B H [d] [v] A := repL_cons.mpr ⟨v, [], A, [], rfl, by simp, h, repL_nil.mpr ⟨rfl, rfl⟩⟩
end
end Fe

/-! Fe2: the state of a def's body as plain data, values that an expression makes, the judgements. -/
namespace Fe
open PySem L2
inductive R (α : Type) where
  | ok (a : α) | rs (c : Str) (p : Option Int) | stk
def R.bind {α β : Type} (x : R α) (f : α → R β) : R β := match x with
  | .ok a => f a
  | .rs c p => .rs c p
  | .stk => .stk
theorem R.bind_ok {α β : Type} {a : α} {f : α → R β} : (R.ok a).bind f = f a := rfl
theorem R.bind_stk {α β : Type} {f : α → R β} : (R.stk).bind f = .stk := rfl
theorem R.bind_rs {α β : Type} {c p} {f : α → R β} : (R.rs c p).bind f = .rs c p := rfl
theorem R.bind_eq_ok {α β : Type} {x : R α} {f : α → R β} {b : β} (h : x.bind f = .ok b) : ∃ a, x = .ok a ∧ f a = .ok b := by
  cases x with
  | ok a => exact ⟨a, rfl, h⟩
  | rs c p => cases h
  | stk => cases h
/-- what is fixed through a body: the written part, the heap and the closed places at its entry, the own exceptions' classes -/
structure Fr where
  K : PySem.W.Frag
  H0 : Hp
  C0 : Addr → Prop
  cls : Str → Value
structure Gh where
  C : Addr → Prop
  B : Addr → Prop
  O : Nat → List Addr
abbrev SD := List (Option D)
def Gh.BO (G : Gh) : Bool → Addr → Prop
  | false, p => G.B p
  | true, p => ∃ i, p ∈ G.O i
/-- what a slot may hold borrowed: from outside alone -/
def Bs (B : Addr → Prop) : Bool → Addr → Prop
  | false, p => B p
  | true, _ => False
structure St (F : Fr) (G : Gh) (H : Hp) (σ : L2.St) (s : SD) : Prop where
  slot : ∀ (i : Nat) d, s[i]? = some (some d) → ∃ v, σ[i]? = some (some v) ∧ Rep F.K G.C (Bs G.B) H d v (G.O i)
  nd : ∀ i, (G.O i).Nodup
  dj : ∀ i j p, p ∈ G.O i → p ∈ G.O j → i = j
  ct : ∀ p, G.C p → H p ≠ none ∧ ∀ i, p ∉ G.O i
  bt : ∀ p, G.B p → H p ≠ none ∧ ∀ i, p ∉ G.O i
  ot : ∀ i p, p ∈ G.O i → Mt (H p)
  c0 : ∀ p, G.C p → F.C0 p ∨ F.H0 p = none
  o0 : ∀ i p, p ∈ G.O i → F.H0 p = none
  h0 : Same F.H0 H
  len : s.length = σ.length
/-- values made since H: what they own is of A or new, what is closed in them is in C or new -/
structure ValsA (K : PySem.W.Frag) (A : List Addr) (C : Addr → Prop) (B : Bool → Addr → Prop) (H H' : Hp) (vs : List V) (ds : List D) : Prop where
  same : Same H H'
  ex : ∃ A2 C2, A2.Nodup ∧ (∀ p ∈ A2, p ∈ A ∨ H p = none) ∧ (∀ p, C2 p → (C p ∨ H p = none) ∧ H' p ≠ none ∧ p ∉ A2) ∧ RepL K C2 B H' ds vs A2
abbrev ValA (K : PySem.W.Frag) (A : List Addr) (C : Addr → Prop) (B : Bool → Addr → Prop) (H H' : Hp) (v : V) (d : D) : Prop := ValsA K A C B H H' [v] [d]
abbrev Val (K : PySem.W.Frag) (C : Addr → Prop) (B : Bool → Addr → Prop) (H H' : Hp) (v : V) (d : D) : Prop := ValsA K [] C B H H' [v] [d]
abbrev ValL (K : PySem.W.Frag) (C : Addr → Prop) (B : Bool → Addr → Prop) (H H' : Hp) (vs : List V) (ds : List D) : Prop := ValsA K [] C B H H' vs ds
section
variable {K : PySem.W.Frag} {A A' : List Addr} {C C' : Addr → Prop} {B B' : Bool → Addr → Prop} {H H' H1 H2 : Hp} {v : V} {d : D} {vs : List V} {ds : List D}
theorem same_rd (e : Same H H') {p : Addr} {u : HO} (h : Rd H p u) : Rd H' p u := by
  rcases h with h | ⟨o, h⟩
  · exact .inl (e _ _ h)
  · exact .inr ⟨o, e _ _ h⟩
theorem same_ne (e : Same H H') {p : Addr} (h : H p ≠ none) : H' p ≠ none := fun z => h (e.free z)
theorem same_mt (e : Same H H') {p : Addr} (h : Mt (H p)) : Mt (H' p) := by
  cases q : H p with
  | none => rw [q] at h; exact h.elim
  | some o => rw [e p o q]; rw [q] at h; exact h
theorem same_upd {p : Addr} {o : HO} (h : H p = none) : Same H (upd H p o) := fun b u e => by
  rw [upd_ne (ne_of_none e h)]
  exact e
theorem tr_same (e : Same H H') : Tr C B C B H H' := ⟨fun p u c r => ⟨c, same_rd e r⟩, fun _ p u c r => ⟨c, same_rd e r⟩, fun p xs r => same_rd e r⟩
theorem rep_one {A2 : List Addr} : RepL K C B H [d] [v] A2 ↔ Rep K C B H d v A2 := by
  constructor
  · intro h
    obtain ⟨v', vr, A1, A3, e, eA, h1, h2⟩ := repL_cons.mp h
    obtain ⟨rfl, rfl⟩ := repL_nil.mp h2
    injection e with e1 _
    subst e1
    rw [eA, List.append_nil]
    exact h1
  · exact RepL.one
theorem ValsA.later (x : ValsA K A C B H H1 vs ds) (e : Same H1 H2) : ValsA K A C B H H2 vs ds := by
  obtain ⟨A2, C2, n, a, c, r⟩ := x.ex
  exact ⟨x.same.trans e, A2, C2, n, a, fun p hp => ⟨(c p hp).1, same_ne e (c p hp).2.1, (c p hp).2.2⟩, RepL.tr (tr_same e) ds (fun p _ o q => e p o q) r⟩
/-- seen from an earlier heap -/
theorem ValsA.since (x : ValsA K A C B H1 H2 vs ds) (e : Same H H1) (hA : ∀ p ∈ A, p ∈ A' ∨ H p = none) (hC : ∀ p, C p → C' p ∨ H p = none) : ValsA K A' C' B H H2 vs ds := by
  obtain ⟨A2, C2, n, a, c, r⟩ := x.ex
  refine ⟨e.trans x.same, A2, C2, n, fun p hp => ?_, fun p hp => ⟨?_, (c p hp).2⟩, r⟩
  · rcases a p hp with z | z
    · exact hA p z
    · exact .inr (e.free z)
  · rcases (c p hp).1 with z | z
    · exact hC p z
    · exact .inr (e.free z)
theorem ValsA.nil (e : Same H H') : ValsA K A C B H H' [] [] := ⟨e, [], fun _ => False, List.nodup_nil, nil_all, fun _ z => z.elim, repL_nil.mpr ⟨rfl, rfl⟩⟩
theorem ValsA.cons (hC : ∀ p, C p → H p ≠ none) (x : Val K C B H H1 v d) (y : ValL K C B H1 H2 vs ds) : ValL K C B H H2 (v :: vs) (d :: ds) := by
  obtain ⟨A1, C1, n1, a1, c1, r1⟩ := (x.later y.same).ex
  obtain ⟨A1', C1', n1', a1', c1', r1'⟩ := x.ex
  obtain ⟨A2, C2, n2, a2, c2, r2⟩ := y.ex
  have t1 : ∀ p ∈ A1', H1 p ≠ none := fun p hp => (RepL.trk _ r1' p hp).ne
  have hr1 : RepL K C1' B H2 [d] [v] A1' := RepL.tr (tr_same y.same) _ (fun p _ o q => y.same p o q) r1'
  refine ⟨x.same.trans y.same, A1' ++ A2, fun p => C1' p ∨ C2 p, List.nodup_append.mpr ⟨n1', n2, fun p hp q hq e => ?_⟩, fun p hp => ?_, fun p hp => ?_, ?_⟩
  · subst e
    rcases a2 p hq with z | z
    · cases z
    · exact t1 p hp z
  · rcases List.mem_append.mp hp with hp | hp
    · exact a1' p hp
    · rcases a2 p hp with z | z
      · cases z
      · exact .inr (x.same.free z)
  · rcases hp with hp | hp
    · refine ⟨(c1' p hp).1, same_ne y.same (c1' p hp).2.1, fun z => ?_⟩
      rcases List.mem_append.mp z with z | z
      · exact (c1' p hp).2.2 z
      · rcases a2 p z with z | z
        · cases z
        · exact (c1' p hp).2.1 z
    · refine ⟨?_, (c2 p hp).2.1, fun z => ?_⟩
      · rcases (c2 p hp).1 with z | z
        · exact .inl z
        · exact .inr (x.same.free z)
      · rcases List.mem_append.mp z with z | z
        · rcases (c2 p hp).1 with q | q
          · rcases a1' p z with w | w
            · cases w
            · exact hC p q w
          · exact t1 p z q
        · exact (c2 p hp).2.2 z
  · have k1 : Tr C1' B (fun p => C1' p ∨ C2 p) B H2 H2 := ⟨fun p u c r => ⟨.inl c, r⟩, fun _ p u c r => ⟨c, r⟩, fun p xs r => r⟩
    have k2 : Tr C2 B (fun p => C1' p ∨ C2 p) B H2 H2 := ⟨fun p u c r => ⟨.inr c, r⟩, fun _ p u c r => ⟨c, r⟩, fun p xs r => r⟩
    exact repL_cons.mpr ⟨v, vs, A1', A2, rfl, rfl, Rep.tr k1 d (fun _ _ _ q => q) (rep_one.mp hr1), RepL.tr k2 ds (fun _ _ _ q => q) r2⟩
theorem ValsA.flat (r : RepL K C B H ds vs []) (h : ∀ p, C p → H p ≠ none) : ValsA K A C B H H vs ds :=
  ⟨Same.refl H, [], C, List.nodup_nil, nil_all, fun p c => ⟨.inl c, h p c, fun z => nomatch z⟩, r⟩
theorem ValsA.noBw (x : ValsA K A C B H H' vs ds) (n : noBwL ds = true) : ValsA K A C B' H H' vs ds := by
  obtain ⟨A2, C2, n2, a, c, r⟩ := x.ex
  exact ⟨x.same, A2, C2, n2, a, c, RepL.noBw ds n r⟩
theorem val_int {i : Int} : ValA K A C B H H (.int i) (.int i) := ⟨Same.refl H, [], fun _ => False, List.nodup_nil, nil_all, fun _ z => z.elim, rep_one.mpr (rep_int.mpr ⟨rfl, rfl⟩)⟩
theorem val_bl {i : Bool} : ValA K A C B H H (.bl i) (.bl i) := ⟨Same.refl H, [], fun _ => False, List.nodup_nil, nil_all, fun _ z => z.elim, rep_one.mpr (rep_bl.mpr ⟨rfl, rfl⟩)⟩
theorem val_str {i : Str} : ValA K A C B H H (.str i) (.str i) := ⟨Same.refl H, [], fun _ => False, List.nodup_nil, nil_all, fun _ z => z.elim, rep_one.mpr (rep_str.mpr ⟨rfl, rfl⟩)⟩
theorem val_non : ValA K A C B H H .non .non := ⟨Same.refl H, [], fun _ => False, List.nodup_nil, nil_all, fun _ z => z.elim, rep_one.mpr (rep_non.mpr ⟨rfl, rfl⟩)⟩
end
/-- what an exception carries -/
def Pay (H : Hp) : Option Addr → Option Int → Prop
  | none, none => True
  | some d, some i => H d = some (.xd [("had", .int i)])
  | _, _ => False
def OutE (F : Fr) (W : WX) (G : Gh) (σ : L2.St) (H : Hp) (Q : VK) : R D → Prop
  | .ok d => ∀ v H', Val F.K G.C G.BO H H' v d → Q v H'
  | .rs c p => ∀ H' dct, Same H H' → Pay H' dct p → W (F.cls c) dct σ H'
  | .stk => False
def liftE (F : Fr) (W : WX) (f : SD → R D) : TE := fun σ H Q => ∃ G s, St F G H σ s ∧ OutE F W G σ H Q (f s)
abbrev SE (X : Cx) (F : Fr) (W : WX) (e : Expr) (f : SD → R D) : Prop := PE X e (liftE F W f)
def OutL (F : Fr) (W : WX) (G : Gh) (σ : L2.St) (H : Hp) (Q : List V → Hp → Prop) : R (List D) → Prop
  | .ok ds => ∀ vs H', ValL F.K G.C G.BO H H' vs ds → Q vs H'
  | .rs c p => ∀ H' dct, Same H H' → Pay H' dct p → W (F.cls c) dct σ H'
  | .stk => False
def liftL (F : Fr) (W : WX) (f : SD → R (List D)) : TA := fun σ H Q => ∃ G s, St F G H σ s ∧ OutL F W G σ H Q (f s)
abbrev SA (X : Cx) (F : Fr) (W : WX) (es : List Expr) (f : SD → R (List D)) : Prop := PA X es (liftL F W f)
def OutT (F : Fr) (W : WX) (G : Gh) (σ : L2.St) (H : Hp) (Q : Bool → Hp → Prop) : R D → Prop
  | .ok (.bl b) => ∀ H', Same H H' → Q b H'
  | .rs c p => ∀ H' dct, Same H H' → Pay H' dct p → W (F.cls c) dct σ H'
  | _ => False
def liftT (F : Fr) (W : WX) (f : SD → R D) : TT := fun σ H Q => ∃ G s, St F G H σ s ∧ OutT F W G σ H Q (f s)
abbrev ST (X : Cx) (F : Fr) (W : WX) (e : Expr) (f : SD → R D) : Prop := PT X e (liftT F W f)
theorem PE.imp {X : Cx} {e : Expr} {t t' : TE} (h : PE X e t) (i : ∀ σ H Q, t' σ H Q → t σ H Q) : PE X e t' := ⟨fun pins s σ H Q I w => h.run pins s σ H Q I (i σ H Q w)⟩
theorem PA.imp {X : Cx} {e : List Expr} {t t' : TA} (h : PA X e t) (i : ∀ σ H Q, t' σ H Q → t σ H Q) : PA X e t' := ⟨fun pos pins s σ H Q I w => h.run pos pins s σ H Q I (i σ H Q w)⟩
theorem PT.imp {X : Cx} {e : Expr} {t t' : TT} (h : PT X e t) (i : ∀ σ H Q, t' σ H Q → t σ H Q) : PT X e t' := ⟨fun pins s σ H Q I w => h.run pins s σ H Q I (i σ H Q w)⟩
theorem PS.imp {X : Cx} {e : Stmt} {t t' : TS} (h : PS X e t) (i : ∀ D σ H, t' D σ H → t D σ H) : PS X e t' := ⟨fun pins s σ H D I w => h.run pins s σ H D I (i D σ H w)⟩
theorem PSs.imp {X : Cx} {e : List Stmt} {t t' : TS} (h : PSs X e t) (i : ∀ D σ H, t' D σ H → t D σ H) : PSs X e t' := ⟨fun pins s σ H D I w => h.run pins s σ H D I (i D σ H w)⟩
section
variable {X : Cx} {F : Fr} {W : WX} {G : Gh} {H H' H1 : Hp} {σ : L2.St} {s : SD}
theorem St.later (t : St F G H σ s) (e : Same H H') : St F G H' σ s :=
  ⟨fun i d q => let ⟨v, h1, h2⟩ := t.slot i d q; ⟨v, h1, Rep.tr (tr_same e) d (fun p _ o q => e p o q) h2⟩, t.nd, t.dj, fun p c => ⟨same_ne e (t.ct p c).1, (t.ct p c).2⟩, fun p c => ⟨same_ne e (t.bt p c).1, (t.bt p c).2⟩,
    fun i p h => same_mt e (t.ot i p h), t.c0, t.o0, t.h0.trans e, t.len⟩
theorem OutE.rs_of {W' : WX} {Q : VK} {c p} (h : OutE F W G σ H Q (.rs c p)) : ∀ H' dct, Same H H' → Pay H' dct p → W (F.cls c) dct σ H' := h
/-- a part of an expression -/
theorem liftE_part {f : SD → R D} {k : D → R D} {Q Q' : VK} (t : St F G H1 σ s) (e : Same H H1) (h : OutE F W G σ H Q ((f s).bind k))
    (go : ∀ d, OutE F W G σ H Q (k d) → ∀ v H', Val F.K G.C G.BO H1 H' v d → Q' v H') : liftE F W f σ H1 Q' := by
  refine ⟨G, s, t, ?_⟩
  cases q : f s with
  | ok d => rw [q] at h; exact go d h
  | rs c p => rw [q] at h; exact fun H' dct e' pp => h H' dct (e.trans e') pp
  | stk => rw [q] at h; exact h
theorem liftL_part {f : SD → R (List D)} {k : List D → R D} {Q : VK} {Q' : List V → Hp → Prop} (t : St F G H1 σ s) (e : Same H H1) (h : OutE F W G σ H Q ((f s).bind k))
    (go : ∀ d, OutE F W G σ H Q (k d) → ∀ v H', ValL F.K G.C G.BO H1 H' v d → Q' v H') : liftL F W f σ H1 Q' := by
  refine ⟨G, s, t, ?_⟩
  cases q : f s with
  | ok d => rw [q] at h; exact go d h
  | rs c p => rw [q] at h; exact fun H' dct e' pp => h H' dct (e.trans e') pp
  | stk => rw [q] at h; exact h
theorem liftT_part {f : SD → R D} {k : D → R D} {Q : VK} {Q' : Bool → Hp → Prop} (t : St F G H1 σ s) (e : Same H H1) (h : OutE F W G σ H Q ((f s).bind k))
    (go : ∀ d, OutE F W G σ H Q (k d) → ∃ b, d = .bl b ∧ ∀ H', Same H1 H' → Q' b H') : liftT F W f σ H1 Q' := by
  refine ⟨G, s, t, ?_⟩
  cases q : f s with
  | ok d =>
    rw [q] at h
    obtain ⟨b, rfl, z⟩ := go d h
    exact z
  | rs c p => rw [q] at h; exact fun H' dct e' pp => h H' dct (e.trans e') pp
  | stk => rw [q] at h; exact h
theorem se_var {i : Nat} {x : Str} {pos : Pos} (hN : X.N[i]? = some x) (hv : Vis X.env.scope x) (hd : (x == ("__debug__" : Str)) = false) (hcd : (x == ("__classdict__" : Str)) = false) :
    SE X F W (.Name x pos) (fun s => match s[i]? with | some (some d) => .ok d.toBo | _ => .stk) := by
  refine PE.imp (pe_var hN hv hd hcd) fun σ H Q ⟨G, s, t, o⟩ => ?_
  dsimp only at o
  cases e : s[i]? with
  | none => rw [e] at o; exact o.elim
  | some od =>
    cases od with
    | none => rw [e] at o; exact o.elim
    | some d =>
      rw [e] at o
      obtain ⟨v, h1, h2⟩ := t.slot i d e
      exact ⟨v, h1, o v H (ValsA.flat (C := G.C) (rep_one.mpr (Rep.toBo (B' := G.BO) (fun _ c => c) (fun k p b => by cases k with | false => exact b | true => exact b.elim) d (fun p hp => ⟨i, hp⟩) h2)) fun p c => (t.ct p c).1)⟩
theorem se_int {i j pos} : SE X F W (.Constant (.int i) j pos) (fun _ => .ok (.int i)) := PE.imp pe_int fun σ H Q ⟨G, s, t, o⟩ => o _ _ val_int
theorem se_bl {i j pos} : SE X F W (.Constant (.bool i) j pos) (fun _ => .ok (.bl i)) := PE.imp pe_bl fun σ H Q ⟨G, s, t, o⟩ => o _ _ val_bl
theorem se_str {i j pos} : SE X F W (.Constant (.str i) j pos) (fun _ => .ok (.str i)) := PE.imp pe_str fun σ H Q ⟨G, s, t, o⟩ => o _ _ val_str
theorem se_non {j pos} : SE X F W (.Constant .none j pos) (fun _ => .ok .non) := PE.imp pe_non fun σ H Q ⟨G, s, t, o⟩ => o _ _ val_non
theorem out_of {vs : List V} {ds : List D} {z : D} {Q : VK} (x : ValL F.K G.C G.BO H H1 vs ds) (o : OutE F W G σ H Q (.ok z)) :
    ∃ A C, RepL F.K C G.BO H1 ds vs A ∧ A.Nodup ∧ (∀ p, C p → H1 p ≠ none ∧ p ∉ A) ∧ ∀ v H', ValA F.K A C G.BO H1 H' v z → Q v H' := by
  obtain ⟨A, C, n, a, c, r⟩ := x.ex
  refine ⟨A, C, r, n, fun p hp => (c p hp).2, fun v H' hv => o v H' (hv.since x.same (fun p hp => ?_) fun p hp => (c p hp).1)⟩
  rcases a p hp with z | z
  · cases z
  · exact .inr z
/-- how a call of built-ins, an operation, answers one on data: from arguments that stand for ds, owning A -/
def CallOk (K : PySem.W.Frag) (r : List V → Hp → VK → Prop) (g : List D → R D) : Prop := ∀ (A : List Addr) (C : Addr → Prop) (B : Bool → Addr → Prop) (H : Hp) (vs : List V) (ds : List D) (z : D) (Q : VK), g ds = .ok z → RepL K C B H ds vs A → A.Nodup → (∀ p, C p → H p ≠ none ∧ p ∉ A) →
  (∀ v H', ValA K A C B H H' v z → Q v H') → r vs H Q
def NoRs (g : List D → R D) : Prop := ∀ ds c p, g ds ≠ .rs c p
theorem call_go {r : List V → Hp → VK → Prop} {g : List D → R D} {vs : List V} {ds : List D} {Q : VK} (ok : CallOk F.K r g) (nr : NoRs g) (x : ValL F.K G.C G.BO H H1 vs ds) (o : OutE F W G σ H Q (g ds)) : r vs H1 Q := by
  cases e : g ds with
  | ok z =>
    rw [e] at o
    obtain ⟨A, C, r', n, c, k⟩ := out_of x o
    exact ok A C G.BO H1 vs ds z Q e r' n c k
  | rs c p => exact (nr ds c p e).elim
  | stk => rw [e] at o; exact o.elim
theorem se_bin {e a b : Expr} {r : R2} {fa fb : SD → R D} {g : D → D → R D} (rule : ∀ ta tb, PE X a ta → PE X b tb → PE X e (tOp r ta tb)) (ok : CallOk F.K (fun vs H Q => ∃ x y, vs = [x, y] ∧ r x y H Q) (fun ds => match ds with | [x, y] => g x y | _ => .stk)) (nr : ∀ x y c p, g x y ≠ .rs c p) (ha : SE X F W a fa) (hb : SE X F W b fb) :
    SE X F W e (fun s => (fa s).bind fun x => (fb s).bind fun y => g x y) := by
  refine PE.imp (rule _ _ ha hb) fun σ H Q ⟨G, s, t, o⟩ => ?_
  refine liftE_part t (Same.refl H) o fun d o x H1 vx => ?_
  refine liftE_part (t.later vx.same) vx.same o fun d' o y H2 vy => ?_
  have vxy : ValL F.K G.C G.BO H H2 [x, y] [d, d'] := ValsA.cons (fun p c => (t.ct p c).1) vx vy
  have nr' : NoRs (fun ds => match ds with | [x, y] => g x y | _ => .stk) := fun ds c p => by
    dsimp only
    split
    · exact nr _ _ c p
    · intro z; cases z
  obtain ⟨x', y', e, q⟩ := call_go (g := fun ds => match ds with | [x, y] => g x y | _ => .stk) ok nr' vxy o
  injection e with e1 e2
  injection e2 with e2 _
  subst e1
  subst e2
  exact q
theorem se_un {e a : Expr} {r : V → Hp → VK → Prop} {fa : SD → R D} {g : D → R D} (rule : ∀ ta, PE X a ta → PE X e (fun σ H Q => ta σ H fun x H1 => r x H1 Q)) (ok : CallOk F.K (fun vs H Q => ∃ x, vs = [x] ∧ r x H Q) (fun ds => match ds with | [x] => g x | _ => .stk)) (nr : ∀ x c p, g x ≠ .rs c p) (ha : SE X F W a fa) :
    SE X F W e (fun s => (fa s).bind fun x => g x) := by
  refine PE.imp (rule _ ha) fun σ H Q ⟨G, s, t, o⟩ => ?_
  refine liftE_part t (Same.refl H) o fun d o x H1 vx => ?_
  have nr' : NoRs (fun ds => match ds with | [x] => g x | _ => .stk) := fun ds c p => by
    dsimp only
    split
    · exact nr _ c p
    · intro z; cases z
  obtain ⟨x', e, q⟩ := call_go (g := fun ds => match ds with | [x] => g x | _ => .stk) ok nr' vx o
  injection e with e1 e2
  subst e1
  exact q
/-! ### arguments -/
theorem sa_nil : SA X F W [] (fun _ => .ok []) := PA.imp pa_nil fun σ H Q ⟨G, s, t, o⟩ => o [] H (ValsA.nil (Same.refl H))
theorem sa_cons {e : Expr} {es : List Expr} {f : SD → R D} {fs : SD → R (List D)} (hs : starEach (e :: es) X.env = (false, eval e X.env) :: starEach es X.env) (h : SE X F W e f) (hr : SA X F W es fs) :
    SA X F W (e :: es) (fun s => (f s).bind fun d => (fs s).bind fun ds => .ok (d :: ds)) := by
  refine PA.imp (pa_cons h hr hs) fun σ H Q ⟨G, s, t, o⟩ => ?_
  refine ⟨G, s, t, ?_⟩
  dsimp only at o
  cases q : f s with
  | stk => rw [q] at o; exact o.elim
  | rs c p => rw [q] at o; exact o
  | ok d =>
    rw [q] at o
    intro x H1 vx
    refine ⟨G, s, t.later vx.same, ?_⟩
    dsimp only [R.bind] at o
    cases q2 : fs s with
    | stk => rw [q2] at o; exact o.elim
    | rs c p => rw [q2] at o; exact fun H' dct e' pp => o H' dct (vx.same.trans e') pp
    | ok ds =>
      rw [q2] at o
      intro xs H2 vxs
      exact o (x :: xs) H2 (ValsA.cons (fun p c => (t.ct p c).1) vx vxs)
/-! ### tests -/
theorem st_val {e : Expr} {f : SD → R D} (he : ∀ whole, isTrue e X.env whole = (do let v ← whole; standAt e.pos; holding [v] (truthy v))) (h : SE X F W e f) : ST X F W e f := by
  refine PT.imp (pt_val h he) fun σ H Q ⟨G, s, t, o⟩ => ⟨G, s, t, ?_⟩
  cases q : f s with
  | stk => rw [q] at o; exact o.elim
  | rs c p => rw [q] at o; exact o
  | ok d =>
    rw [q] at o
    cases d with
    | bl b =>
      intro v H' hv
      obtain ⟨A2, C2, _, _, _, r⟩ := hv.ex
      obtain ⟨rfl, _⟩ := rep_bl.mp (rep_one.mp r)
      exact ⟨b, rfl, o H' hv.same⟩
    | _ => exact o.elim
end
end Fe

/-! Fe3: statements over plain data. -/
namespace Fe
open PySem L2
inductive O where
  | nx (s : SD) | bk (s : SD) | ct (s : SD) | rt (d : D) | rs (c : Str) (p : Option Int) (s : SD) | stk
def O.seq (o : O) (g : SD → O) : O := match o with
  | .nx s => g s
  | .bk s => .bk s
  | .ct s => .ct s
  | .rt d => .rt d
  | .rs c p s => .rs c p s
  | .stk => .stk
theorem O.seq_nx {s : SD} {g : SD → O} : (O.nx s).seq g = g s := rfl
theorem O.seq_rt {d : D} {g : SD → O} : (O.rt d).seq g = .rt d := rfl
theorem O.seq_bk {s : SD} {g : SD → O} : (O.bk s).seq g = .bk s := rfl
theorem O.seq_ct {s : SD} {g : SD → O} : (O.ct s).seq g = .ct s := rfl
theorem O.seq_stk {g : SD → O} : (O.stk).seq g = .stk := rfl
theorem O.seq_rs {c p s} {g : SD → O} : (O.rs c p s).seq g = .rs c p s := rfl
/-- an expression's value, then what comes of it -/
def R.thenO {α : Type} (x : R α) (s : SD) (f : α → O) : O := match x with
  | .ok a => f a
  | .rs c p => .rs c p s
  | .stk => .stk
theorem R.thenO_ok {α : Type} {a : α} {s : SD} {f : α → O} : (R.ok a).thenO s f = f a := rfl
theorem R.thenO_stk {α : Type} {s : SD} {f : α → O} : (R.stk).thenO s f = .stk := rfl
theorem R.thenO_rs {α : Type} {c p} {s : SD} {f : α → O} : (R.rs c p).thenO s f = .rs c p s := rfl
structure Step (G : Gh) (H : Hp) (G' : Gh) (H' : Hp) : Prop where
  c : ∀ p, G.C p → G'.C p
  b : ∀ p, G.B p → G'.B p
  keep : ∀ p o, H p = some o → (∀ i, p ∉ G.O i) → H' p = some o
  own : ∀ i p, p ∈ G'.O i → (∃ j, p ∈ G.O j) ∨ H p = none
  there : ∀ p, H p ≠ none → H' p ≠ none
theorem Step.refl (G : Gh) (H : Hp) : Step G H G H := ⟨fun _ h => h, fun _ h => h, fun _ _ h _ => h, fun i _ h => .inl ⟨i, h⟩, fun _ h => h⟩
theorem Step.trans {G G1 G2 : Gh} {H H1 H2 : Hp} (a : Step G H G1 H1) (b : Step G1 H1 G2 H2) : Step G H G2 H2 where
  c := fun p h => b.c p (a.c p h)
  b := fun p h => b.b p (a.b p h)
  keep := fun p o h n => b.keep p o (a.keep p o h n) fun i z => by
    rcases a.own i p z with ⟨j, q⟩ | q
    · exact n j q
    · rw [h] at q; cases q
  own := fun i p h => by
    rcases b.own i p h with ⟨j, q⟩ | q
    · exact a.own j p q
    · refine .inr ?_
      cases e : H p with
      | none => rfl
      | some o => exact (a.there p (by rw [e]; exact fun z => nomatch z) q).elim
  there := fun p h => b.there p (a.there p h)
theorem Step.same {G : Gh} {H H' : Hp} (e : Same H H') : Step G H G H' := ⟨fun _ h => h, fun _ h => h, fun p o h _ => e p o h, fun i _ h => .inl ⟨i, h⟩, fun _ h => same_ne e h⟩
def OutS (F : Fr) (W : WX) (Dn : Ends) (G : Gh) (H : Hp) : O → Prop
  | .nx s' => ∀ G' σ' H', Step G H G' H' → St F G' H' σ' s' → Dn.nx σ' H'
  | .bk s' => ∀ G' σ' H', Step G H G' H' → St F G' H' σ' s' → Dn.bk σ' H'
  | .ct s' => ∀ G' σ' H', Step G H G' H' → St F G' H' σ' s' → Dn.ct σ' H'
  | .rt d => ∀ v H', Val F.K F.C0 (fun _ _ => False) F.H0 H' v d → Dn.rt v H'
  | .rs c p s' => ∀ G' σ' H' dct, Step G H G' H' → St F G' H' σ' s' → Pay H' dct p → W (F.cls c) dct σ' H'
  | .stk => False
theorem OutS.step {F : Fr} {W : WX} {Dn : Ends} {G G1 : Gh} {H H1 : Hp} (a : Step G H G1 H1) : ∀ {o : O}, OutS F W Dn G H o → OutS F W Dn G1 H1 o
  | .nx s', h => fun G' σ' H' b t => h G' σ' H' (a.trans b) t
  | .bk s', h => fun G' σ' H' b t => h G' σ' H' (a.trans b) t
  | .ct s', h => fun G' σ' H' b t => h G' σ' H' (a.trans b) t
  | .rt d, h => h
  | .rs c p s', h => fun G' σ' H' dct b t => h G' σ' H' dct (a.trans b) t
  | .stk, h => h
def liftS (F : Fr) (W : WX) (f : SD → O) : TS := fun Dn σ H => ∃ G s, St F G H σ s ∧ OutS F W Dn G H (f s)
abbrev SS (X : Cx) (F : Fr) (W : WX) (st : Stmt) (f : SD → O) : Prop := PS X st (liftS F W f)
abbrev SB (X : Cx) (F : Fr) (W : WX) (st : List Stmt) (f : SD → O) : Prop := PSs X st (liftS F W f)
section
variable {X : Cx} {F : Fr} {W : WX} {G : Gh} {H H' H1 : Hp} {σ : L2.St} {s : SD}
theorem sb_nil : SB X F W [] (fun s => .nx s) := PSs.imp pss_nil fun Dn σ H ⟨G, s, t, o⟩ => o G σ H (Step.refl G H) t
theorem seq_out {Dn : Ends} {g : SD → O} : ∀ {o : O}, OutS F W Dn G H (o.seq g) → OutS F W { Dn with nx := fun σ' H' => liftS F W g Dn σ' H' } G H o
  | .nx s', h => fun G' σ' H' a t => ⟨G', s', t, OutS.step a h⟩
  | .bk s', h => h
  | .ct s', h => h
  | .rt d, h => h
  | .rs c p s', h => h
  | .stk, h => h
theorem sb_cons {st : Stmt} {rest : List Stmt} {f g : SD → O} (h1 : SS X F W st f) (h2 : SB X F W rest g) : SB X F W (st :: rest) (fun s => (f s).seq g) :=
  PSs.imp (pss_cons h1 h2) fun Dn σ H ⟨G, s, t, o⟩ => ⟨G, s, t, seq_out o⟩
theorem sb_one {st : Stmt} {f : SD → O} (h1 : SS X F W st f) : SB X F W [st] f := pss_one h1
/-- an expression ahead -/
theorem liftE_then {f : SD → R D} {k : D → O} {Dn : Ends} {Q' : VK} (t : St F G H1 σ s) (e : Same H H1) (h : OutS F W Dn G H ((f s).thenO s k))
    (go : ∀ d, OutS F W Dn G H (k d) → ∀ v H', Val F.K G.C G.BO H1 H' v d → Q' v H') : liftE F W f σ H1 Q' := by
  refine ⟨G, s, t, ?_⟩
  cases q : f s with
  | ok d => rw [q] at h; exact go d h
  | rs c p => rw [q] at h; exact fun H' dct e' pp => h G σ H' dct (Step.same (e.trans e')) (t.later e') pp
  | stk => rw [q] at h; exact h
theorem liftT_then {f : SD → R D} {k : D → O} {Dn : Ends} {Q' : Bool → Hp → Prop} (t : St F G H1 σ s) (e : Same H H1) (h : OutS F W Dn G H ((f s).thenO s k))
    (go : ∀ d, OutS F W Dn G H (k d) → ∃ b, d = .bl b ∧ ∀ H', Same H1 H' → Q' b H') : liftT F W f σ H1 Q' := by
  refine ⟨G, s, t, ?_⟩
  cases q : f s with
  | ok d =>
    rw [q] at h
    obtain ⟨b, rfl, z⟩ := go d h
    exact z
  | rs c p => rw [q] at h; exact fun H' dct e' pp => h G σ H' dct (Step.same (e.trans e')) (t.later e') pp
  | stk => rw [q] at h; exact h
theorem liftL_then {f : SD → R (List D)} {k : List D → O} {Dn : Ends} {Q' : List V → Hp → Prop} (t : St F G H1 σ s) (e : Same H H1) (h : OutS F W Dn G H ((f s).thenO s k))
    (go : ∀ d, OutS F W Dn G H (k d) → ∀ v H', ValL F.K G.C G.BO H1 H' v d → Q' v H') : liftL F W f σ H1 Q' := by
  refine ⟨G, s, t, ?_⟩
  cases q : f s with
  | ok d => rw [q] at h; exact go d h
  | rs c p => rw [q] at h; exact fun H' dct e' pp => h G σ H' dct (Step.same (e.trans e')) (t.later e') pp
  | stk => rw [q] at h; exact h
/-- a slot is stored -/
theorem St.set {i : Nat} {v : V} {d : D} (t : St F G H σ s) (hi : i < s.length) (x : Val F.K G.C G.BO H H' v d) (n : d.noBo = true) :
    ∃ G', Step G H G' H' ∧ (∀ p, G'.C p → G.C p ∨ H p = none) ∧ G'.B = G.B ∧ St F G' H' (σ.set i (some v)) (s.set i (some d)) := by
  obtain ⟨A, C2, nd, a, c, r⟩ := x.ex
  have a' : ∀ p ∈ A, H p = none := fun p hp => (a p hp).elim (fun z => nomatch z) id
  have hiσ : i < σ.length := by rw [← t.len]; exact hi
  have k0 : Tr G.C (Bs G.B) (fun p => G.C p ∨ C2 p) (Bs G.B) H H' := ⟨fun p u c r => ⟨.inl c, same_rd x.same r⟩, fun _ p u c r => ⟨c, same_rd x.same r⟩, fun p xs r => same_rd x.same r⟩
  have k2 : Tr C2 (Bs G.B) (fun p => G.C p ∨ C2 p) (Bs G.B) H' H' := ⟨fun p u c r => ⟨.inr c, r⟩, fun _ p u c r => ⟨c, r⟩, fun p xs r => r⟩
  have r' : Rep F.K (fun p => G.C p ∨ C2 p) (Bs G.B) H' d v A := Rep.tr k2 d (fun _ _ _ q => q) (Rep.noBo (B := G.BO) (B' := Bs G.B) (fun _ b => b) d n (rep_one.mp r))
  have tA : ∀ p ∈ A, Mt (H' p) := Rep.trk d r'
  refine ⟨⟨fun p => G.C p ∨ C2 p, G.B, fun j => if j = i then A else G.O j⟩, ⟨fun p h => .inl h, fun p h => h, fun p o h _ => x.same p o h, fun j p h => ?_, fun p h => same_ne x.same h⟩, fun p h => h.elim .inl fun z => (c p z).1, rfl, ⟨fun j d' e => ?_, fun j => ?_, fun j k p h1 h2 => ?_, fun p h => ?_, fun p h => ?_, fun j p h => ?_, fun p h => ?_, fun j p h => ?_, t.h0.trans x.same, by simp [t.len]⟩⟩
  · dsimp only at h
    split at h
    · exact .inr (a' p h)
    · exact .inl ⟨j, h⟩
  · by_cases hj : j = i
    · subst hj
      rw [List.getElem?_set_self hi] at e
      obtain rfl : d = d' := Option.some.inj (Option.some.inj e)
      exact ⟨v, by rw [List.getElem?_set_self hiσ], by simpa using r'⟩
    · rw [List.getElem?_set_ne (Ne.symm hj)] at e
      obtain ⟨w, h1, h2⟩ := t.slot j d' e
      exact ⟨w, by rw [List.getElem?_set_ne (Ne.symm hj)]; exact h1, by simpa [hj] using Rep.tr k0 d' (fun p _ o q => x.same p o q) h2⟩
  · dsimp only
    split
    · exact nd
    · exact t.nd j
  · dsimp only at h1 h2
    split at h1 <;> split at h2
    · omega
    · exact ((t.ot k p h2).ne (a' p h1)).elim
    · exact ((t.ot j p h1).ne (a' p h2)).elim
    · exact t.dj j k p h1 h2
  · rcases h with h | h
    · refine ⟨same_ne x.same (t.ct p h).1, fun j z => ?_⟩
      dsimp only at z
      split at z
      · exact (t.ct p h).1 (a' p z)
      · exact (t.ct p h).2 j z
    · refine ⟨(c p h).2.1, fun j z => ?_⟩
      dsimp only at z
      split at z
      · exact (c p h).2.2 z
      · rcases (c p h).1 with q | q
        · exact (t.ct p q).2 j z
        · exact (t.ot j p z).ne q
  · refine ⟨same_ne x.same (t.bt p h).1, fun j z => ?_⟩
    dsimp only at z
    split at z
    · exact (t.bt p h).1 (a' p z)
    · exact (t.bt p h).2 j z
  · dsimp only at h
    split at h
    · exact tA p h
    · exact same_mt x.same (t.ot j p h)
  · rcases h with h | h
    · exact t.c0 p h
    · rcases (c p h).1 with q | q
      · exact t.c0 p q
      · exact .inr (t.h0.free q)
  · dsimp only at h
    split at h
    · exact t.h0.free (a' p h)
    · exact t.o0 j p h
def setO (i : Nat) (s : SD) (d : D) : O := if d.noBo = true ∧ i < s.length then .nx (s.set i (some d)) else .stk
theorem set_out {i : Nat} {Dn : Ends} {v : V} {d : D} (t : St F G H σ s) (o : OutS F W Dn G H (setO i s d)) (x : Val F.K G.C G.BO H H' v d) : Dn.nx (σ.set i (some v)) H' := by
  unfold setO at o
  split at o
  · rename_i h
    obtain ⟨G', a, _, _, t'⟩ := t.set h.2 x h.1
    exact o G' _ H' a t'
  · exact o.elim
theorem ss_set {i : Nat} {x : Str} {e : Expr} {f : SD → R D} {pos pos' : Pos} (hN : X.N.Nodup) (hi : X.N[i]? = some x) (hx : Loc X.env.scope x) (hs : swapsWith e (some (.Name x pos')) pos.line X.env = pure false) (hf : X.fn x = true ∨ X.env.scope.names.lookup x = some .local)
    (he : SE X F W e f) : SS X F W (.Assign [.Name x pos'] e pos) (fun s => (f s).thenO s (setO i s)) :=
  PS.imp (ps_set hN hi hx he hs hf) fun Dn σ H ⟨G, s, t, o⟩ => liftE_then t (Same.refl H) o fun d o v H' x => set_out t o x
theorem ret_val {v : V} {d : D} (t : St F G H σ s) (x : Val F.K G.C G.BO H H' v d) (n : d.noBw = true) : Val F.K F.C0 (fun _ _ => False) F.H0 H' v d :=
  ((ValsA.noBw x (by simp [noBwL, n])).since t.h0 nil_all fun p h => t.c0 p h)
def retO (d : D) : O := if d.noBw = true then .rt d else .stk
theorem ret_out {Dn : Ends} {v : V} {d : D} (t : St F G H σ s) (o : OutS F W Dn G H (retO d)) (x : Val F.K G.C G.BO H H' v d) : Dn.rt v H' := by
  unfold retO at o
  split at o
  · rename_i h
    exact o v H' (ret_val t x h)
  · exact o.elim
theorem ss_ret {e : Expr} {f : SD → R D} {pos : Pos} (he : SE X F W e f) : SS X F W (.Return (some e) pos) (fun s => (f s).thenO s retO) :=
  PS.imp (ps_ret he) fun Dn σ H ⟨G, s, t, o⟩ => liftE_then t (Same.refl H) o fun d o v H' x => ret_out t o x
/-- return x: what x owns goes with it -/
theorem ss_retv {i : Nat} {x : Str} {pos pos' : Pos} (hN : X.N[i]? = some x) (hv : Vis X.env.scope x) (hd : (x == ("__debug__" : Str)) = false) (hcd : (x == ("__classdict__" : Str)) = false) :
    SS X F W (.Return (some (.Name x pos')) pos) (fun s => match s[i]? with | some (some d) => retO d | _ => .stk) :=
  PS.imp (ps_ret (pe_var hN hv hd hcd)) fun Dn σ H ⟨G, s, t, o⟩ => by
    dsimp only at o
    cases e : s[i]? with
    | none => rw [e] at o; exact o.elim
    | some od =>
      cases od with
      | none => rw [e] at o; exact o.elim
      | some d =>
        rw [e] at o
        obtain ⟨v, h1, h2⟩ := t.slot i d e
        dsimp only at o
        unfold retO at o
        split at o
        · rename_i n
          refine ⟨v, h1, o v H ⟨t.h0, G.O i, G.C, t.nd i, fun p hp => .inr (t.o0 i p hp), fun p hp => ⟨t.c0 p hp, (t.ct p hp).1, (t.ct p hp).2 i⟩, rep_one.mpr (Rep.noBw d n h2)⟩⟩
        · exact o.elim
theorem ss_retN {pos : Pos} : SS X F W (.Return none pos) (fun _ => .rt .non) :=
  PS.imp ps_retN fun Dn σ H ⟨G, s, t, o⟩ => o .non H (ValsA.since (A := []) (C := fun _ => False) (ValsA.flat (RepL.one (rep_non.mpr ⟨rfl, rfl⟩)) fun _ z => z.elim) t.h0 nil_all fun _ z => z.elim)
def ifO (s : SD) (a b : SD → O) (d : D) : O := match d with
  | .bl true => a s
  | .bl false => b s
  | _ => .stk
theorem ss_if {c : Expr} {a b : List Stmt} {fc : SD → R D} {fa fb : SD → O} {pos : Pos} (hc : ST X F W c fc) (ha : SB X F W a fa) (hb : SB X F W b fb) : SS X F W (.If c a b pos) (fun s => (fc s).thenO s (ifO s fa fb)) :=
  PS.imp (ps_if hc ha hb) fun Dn σ H ⟨G, s, t, o⟩ => liftT_then t (Same.refl H) o fun d o => by
    cases d with
    | bl b =>
      refine ⟨b, rfl, fun H' e => ?_⟩
      cases b with
      | true => exact iteT ⟨G, s, t.later e, OutS.step (Step.same e) o⟩
      | false => exact iteF ⟨G, s, t.later e, OutS.step (Step.same e) o⟩
    | _ => exact o.elim
theorem ss_expr {e : Expr} {f : SD → R D} {pos : Pos} (hs : swapsWith e none pos.line X.env = pure false) (he : SE X F W e f) : SS X F W (.Expr e pos) (fun s => (f s).thenO s fun _ => .nx s) :=
  PS.imp (ps_expr he hs) fun Dn σ H ⟨G, s, t, o⟩ => liftE_then t (Same.refl H) o fun d o v H' x => o G σ H' (Step.same x.same) (t.later x.same)
theorem ss_pass {pos : Pos} : SS X F W (.Pass pos) (fun s => .nx s) := PS.imp ps_pass fun Dn σ H ⟨G, s, t, o⟩ => o G σ H (Step.refl G H) t
theorem ss_break {pos : Pos} : SS X F W (.Break pos) (fun s => .bk s) := PS.imp ps_break fun Dn σ H ⟨G, s, t, o⟩ => o G σ H (Step.refl G H) t
theorem ss_continue {pos : Pos} : SS X F W (.Continue pos) (fun s => .ct s) := PS.imp ps_continue fun Dn σ H ⟨G, s, t, o⟩ => o G σ H (Step.refl G H) t
/-- what slot i owns is closed -/
def frz1 (i : Nat) (s : SD) : SD := match s[i]? with
  | some (some d) => s.set i (some d.frz)
  | _ => s
theorem St.frz {i : Nat} (t : St F G H σ s) : ∃ G', Step G H G' H ∧ St F G' H σ (frz1 i s) := by
  unfold frz1
  split
  · rename_i d e
    obtain ⟨v, h1, h2⟩ := t.slot i d e
    have hi : i < s.length := (List.getElem?_eq_some_iff.mp e).1
    have k0 : Tr G.C (Bs G.B) (fun p => G.C p ∨ p ∈ G.O i) (Bs G.B) H H := ⟨fun p u c r => ⟨.inl c, r⟩, fun _ p u c r => ⟨c, r⟩, fun p xs r => r⟩
    refine ⟨⟨fun p => G.C p ∨ p ∈ G.O i, G.B, fun j => if j = i then [] else G.O j⟩, ⟨fun p h => .inl h, fun p h => h, fun p o h _ => h, fun j p h => ?_, fun p h => h⟩, ⟨fun j d' q => ?_, fun j => ?_, fun j k p q1 q2 => ?_, fun p h => ?_, fun p h => ?_, fun j p h => ?_, fun p h => ?_, fun j p h => ?_, t.h0, by simp [t.len]⟩⟩
    · dsimp only at h
      split at h
      · cases h
      · exact .inl ⟨j, h⟩
    · by_cases hj : j = i
      · subst hj
        rw [List.getElem?_set_self hi] at q
        obtain rfl : d.frz = d' := Option.some.inj (Option.some.inj q)
        exact ⟨v, h1, by simpa using Rep.frz (C' := fun p => G.C p ∨ p ∈ G.O j) (fun p c => .inl c) (fun _ p b => b) d (fun p hp => .inr hp) h2⟩
      · rw [List.getElem?_set_ne (Ne.symm hj)] at q
        obtain ⟨w, q1, q2⟩ := t.slot j d' q
        exact ⟨w, q1, by simpa [hj] using Rep.tr k0 d' (fun p _ o q => q) q2⟩
    · dsimp only
      split
      · exact List.nodup_nil
      · exact t.nd j
    · dsimp only at q1 q2
      split at q1
      · cases q1
      · split at q2
        · cases q2
        · exact t.dj j k p q1 q2
    · rcases h with h | h
      · refine ⟨(t.ct p h).1, fun j z => ?_⟩
        dsimp only at z
        split at z
        · cases z
        · exact (t.ct p h).2 j z
      · refine ⟨(t.ot i p h).ne, fun j z => ?_⟩
        dsimp only at z
        split at z
        · cases z
        · rename_i hj
          exact hj (t.dj j i p z h)
    · refine ⟨(t.bt p h).1, fun j z => ?_⟩
      dsimp only at z
      split at z
      · cases z
      · exact (t.bt p h).2 j z
    · dsimp only at h
      split at h
      · cases h
      · exact t.ot j p h
    · rcases h with h | h
      · exact t.c0 p h
      · exact .inr (t.o0 i p h)
    · dsimp only at h
      split at h
      · cases h
      · exact t.o0 j p h
  · exact ⟨G, Step.refl G H, t⟩
theorem ss_frz {i : Nat} {st : Stmt} {f : SD → O} (h : SS X F W st f) : SS X F W st (fun s => f (frz1 i s)) :=
  PS.imp h fun Dn σ H ⟨G, s, t, o⟩ => let ⟨G', a, t'⟩ := t.frz (i := i); ⟨G', _, t', OutS.step a o⟩
end
end Fe

/-! Fe4: loops and comprehensions over plain data. -/
namespace Fe
open PySem L2
/-- the state, with more closed places -/
abbrev Gh.wc (G : Gh) (C1 : Addr → Prop) : Gh := { G with C := C1 }
/-- as a loop sees it (false), as a comprehension does (true): there nothing is written, so what the frame owns is as if borrowed -/
def Gh.md (G : Gh) (m : Bool) (C1 : Addr → Prop) : Gh := match m with
  | false => { G with C := C1 }
  | true => ⟨C1, fun p => G.B p ∨ ∃ i, p ∈ G.O i, fun _ => []⟩
def bwS : SD → SD
  | [] => []
  | none :: r => none :: bwS r
  | some d :: r => some d.toBw :: bwS r
def sm (m : Bool) (s : SD) : SD := match m with
  | false => s
  | true => bwS s
theorem bwS_get : ∀ {s : SD} {i : Nat} {d : D}, (bwS s)[i]? = some (some d) → ∃ d', s[i]? = some (some d') ∧ d = d'.toBw
  | [], i, d, h => by simp [bwS] at h
  | none :: r, 0, d, h => by simp [bwS] at h
  | some d' :: r, 0, d, h => ⟨d', rfl, by simpa [bwS] using h.symm⟩
  | none :: r, i + 1, d, h => bwS_get (s := r) (i := i) (by simpa [bwS] using h)
  | some d' :: r, i + 1, d, h => bwS_get (s := r) (i := i) (by simpa [bwS] using h)
theorem bwS_len : ∀ {s : SD}, (bwS s).length = s.length
  | [] => rfl
  | none :: r => by simp [bwS, bwS_len (s := r)]
  | some d :: r => by simp [bwS, bwS_len (s := r)]
theorem St.bw {F : Fr} {G : Gh} {H : Hp} {σ : L2.St} {s : SD} (t : St F G H σ s) : St F (G.md true G.C) H σ (bwS s) := by
  refine ⟨fun i d e => ?_, fun i => List.nodup_nil, fun i j p h => (nomatch h), fun p h => ⟨(t.ct p h).1, fun i z => (nomatch z)⟩, fun p h => ⟨?_, fun i z => (nomatch z)⟩, fun i p h => (nomatch h), t.c0, fun i p h => (nomatch h), t.h0, by rw [bwS_len, t.len]⟩
  · obtain ⟨d', h1, rfl⟩ := bwS_get e
    obtain ⟨v, h2, h3⟩ := t.slot i d' h1
    exact ⟨v, h2, Rep.toBw (fun _ c => c) (fun k p b => by cases k with | false => exact .inl b | true => exact b.elim) d' (fun p hp => .inr ⟨i, hp⟩) h3⟩
  · rcases h with h | ⟨i, h⟩
    · exact (t.bt p h).1
    · exact (t.ot i p h).ne
structure Yields (F : Fr) (G : Gh) (H : Hp) (J : It) (ds : List D) : Prop where
  fin : ∀ G2 H2, Step G H G2 H2 → ∀ i, ds.length ≤ i → J.stop i H2
  go : ∀ G2 H2, Step G H G2 H2 → ∀ i d, ds[i]? = some d → J.go i H2 ∧ ∀ x H3, J.yld i H2 x H3 → Val F.K G2.C (Bs G2.B) H2 H3 x d
def OutI (F : Fr) (W : WX) (m : Bool) (G : Gh) (σ : L2.St) (s : SD) (H : Hp) (Q : It → Hp → Prop) : R (List D) → Prop
  | .ok ds => ∀ J H' C1, Same H H' → (∀ p, G.C p → C1 p) → (∀ p, C1 p → G.C p ∨ H p = none) → St F (G.md m C1) H' σ (sm m s) → Yields F (G.md m C1) H' J ds → Q J H'
  | .rs c p => ∀ H' dct, Same H H' → Pay H' dct p → W (F.cls c) dct σ H'
  | .stk => False
def liftI (F : Fr) (W : WX) (m : Bool) (f : SD → R (List D)) : TI := fun σ H Q => ∃ G s, St F G H σ s ∧ OutI F W m G σ s H Q (f s)
abbrev SI (X : Cx) (F : Fr) (W : WX) (m : Bool) (tg e : Expr) (f : SD → R (List D)) : Prop := PI X tg e (liftI F W m f)
def setAll (σ : L2.St) : List Nat → List V → L2.St
  | i :: is, v :: vs => setAll (σ.set i (some v)) is vs
  | _, _ => σ
/-- what a target does: the slots at is are stored -/
def TgOk (F : Fr) (is : List Nat) (f : D → SD → Option SD) (g : TG) : Prop := ∀ G H H' σ s v d s', St F G H σ s → Val F.K G.C G.BO H H' v d → f d s = some s' →
  ∀ Q : L2.St → Hp → Prop, (∀ G' vs, Step G H G' H' → (∀ p, G'.C p → G.C p ∨ H p = none) → G'.B = G.B → St F G' H' (setAll σ is vs) s' → Q (setAll σ is vs) H') → g v σ H' Q
section
variable {X : Cx} {F : Fr} {W : WX} {G : Gh} {H H' H1 : Hp} {σ : L2.St} {s : SD}
theorem ValsA.monoB {K : PySem.W.Frag} {A : List Addr} {C : Addr → Prop} {B B' : Bool → Addr → Prop} {vs : List V} {ds : List D} (x : ValsA K A C B H H' vs ds) (h : ∀ k p, B k p → B' k p) : ValsA K A C B' H H' vs ds := by
  obtain ⟨A2, C2, n, a, c, r⟩ := x.ex
  exact ⟨x.same, A2, C2, n, a, c, RepL.tr ⟨fun p u c r => ⟨c, r⟩, fun k p u b r => ⟨h k p b, r⟩, fun p xs r => r⟩ ds (fun _ _ _ q => q) r⟩
theorem bs_bo {G : Gh} : ∀ k p, Bs G.B k p → G.BO k p
  | false, _, h => h
  | true, _, h => h.elim
/-- what was made is closed -/
theorem St.absorb {v : V} {d : D} (t : St F G H σ s) (x : Val F.K G.C G.BO H H' v d) :
    ∃ C1 : Addr → Prop, (∀ p, G.C p → C1 p) ∧ (∀ p, C1 p → G.C p ∨ H p = none) ∧ St F (G.wc C1) H' σ s ∧ Rep F.K C1 G.BO H' d.frz v [] := by
  obtain ⟨A, C2, nd, a, c, r⟩ := x.ex
  have a' : ∀ p ∈ A, H p = none := fun p hp => (a p hp).elim (fun z => nomatch z) id
  have tA : ∀ p ∈ A, Mt (H' p) := RepL.trk _ r
  have k0 : Tr G.C (Bs G.B) (fun p => G.C p ∨ C2 p ∨ p ∈ A) (Bs G.B) H H' := ⟨fun p u c r => ⟨.inl c, same_rd x.same r⟩, fun _ p u c r => ⟨c, same_rd x.same r⟩, fun p xs r => same_rd x.same r⟩
  refine ⟨fun p => G.C p ∨ C2 p ∨ p ∈ A, fun p h => .inl h, fun p h => ?_, ⟨fun j d' e => ?_, t.nd, t.dj, fun p h => ?_, fun p h => ⟨same_ne x.same (t.bt p h).1, (t.bt p h).2⟩, fun i p h => same_mt x.same (t.ot i p h), fun p h => ?_, t.o0, t.h0.trans x.same, t.len⟩,
    Rep.frz (C := C2) (fun p h => .inr (.inl h)) (fun _ _ b => b) d (fun p hp => .inr (.inr hp)) (rep_one.mp r)⟩
  · rcases h with h | h | h
    · exact .inl h
    · exact (c p h).1
    · exact .inr (a' p h)
  · obtain ⟨w, h1, h2⟩ := t.slot j d' e
    exact ⟨w, h1, Rep.tr k0 d' (fun p _ o q => x.same p o q) h2⟩
  · rcases h with h | h | h
    · exact ⟨same_ne x.same (t.ct p h).1, (t.ct p h).2⟩
    · refine ⟨(c p h).2.1, fun i z => ?_⟩
      rcases (c p h).1 with q | q
      · exact (t.ct p q).2 i z
      · exact (t.ot i p z).ne q
    · exact ⟨(tA p h).ne, fun i z => (t.ot i p z).ne (a' p h)⟩
  · rcases h with h | h | h
    · exact t.c0 p h
    · rcases (c p h).1 with q | q
      · exact t.c0 p q
      · exact .inr (t.h0.free q)
    · exact .inr (t.h0.free (a' p h))
theorem step_wc {C1 : Addr → Prop} (e : Same H H') (h : ∀ p, G.C p → C1 p) : Step G H (G.wc C1) H' := ⟨h, fun _ h => h, fun p o q _ => e p o q, fun i _ h => .inl ⟨i, h⟩, fun _ h => same_ne e h⟩
/-! ### what is walked -/
def seqOf (d : D) : R (List D) := match d with
  | .tup l => if noBoL l = true then .ok l else .stk
  | .lst .cl l => if noBoL l = true then .ok l else .stk
  | .lst .bw l => if noBoL l = true then .ok l else .stk
  | _ => .stk
def mdD (m : Bool) (d : D) : D := match m with
  | false => d.frz
  | true => d.frz.toBw
def itemsM (m : Bool) (d : D) : R (List D) := seqOf (mdD m d)
def isTup : D → Bool
  | .tup _ => true
  | _ => false
theorem flat_item {l : List D} {xs : List V} {C : Addr → Prop} {B B' : Bool → Addr → Prop} {K : PySem.W.Frag} (hl : RepL K C B H l xs []) (n : noBoL l = true) (hB : ∀ p, B false p → B' false p) (hC : ∀ p, C p → H p ≠ none) {i : Nat} {d : D} (e : l[i]? = some d) :
    ∃ v, xs[i]? = some v ∧ Val K C B' H H v d := by
  obtain ⟨v, A1, h1, h2, h3, _⟩ := RepL.get (RepL.noBo (B' := B') hB l n hl) e
  have : A1 = [] := List.eq_nil_iff_forall_not_mem.mpr fun p hp => nomatch h3 p hp
  subst this
  exact ⟨v, h1, ValsA.flat (rep_one.mpr h2) hC⟩
theorem keep_rd {G2 : Gh} {H2 : Hp} (t : St F G H σ s) (st : Step G H G2 H2) {p : Addr} {u : HO} (n : ∀ i, p ∉ G.O i) (h : Rd H p u) : Rd H2 p u := by
  rcases h with h | ⟨o, h⟩
  · exact .inl (st.keep p _ h n)
  · exact .inr ⟨o, st.keep p _ h n⟩
theorem no_tup (t : St F G H σ s) {p : Addr} {xs : List V} (h : Rd H p (.tup xs)) : ∀ i, p ∉ G.O i := fun i z => by
  have m := t.ot i p z
  rcases h with h | ⟨o, h⟩
  · rw [h] at m; exact m
  · rw [h] at m; exact m
/-- what is closed stays -/
theorem keep_tr {G2 : Gh} {H2 : Hp} (t : St F G H σ s) (st : Step G H G2 H2) : Tr G.C (Bs G.B) G2.C (Bs G2.B) H H2 :=
  ⟨fun p u c r => ⟨st.c p c, keep_rd t st (t.ct p c).2 r⟩, fun k p u b r => by cases k with | false => exact ⟨st.b p b, keep_rd t st (t.bt p b).2 r⟩ | true => exact b.elim, fun p xs r => keep_rd t st (no_tup t r) r⟩
theorem step_trk {G2 : Gh} {H2 : Hp} (t : St F G H σ s) (st : Step G H G2 H2) {p : Addr} (h : G.C p) : H2 p ≠ none := st.there p (t.ct p h).1
theorem yields_items {J : It} {xs : List V} {l : List D} (t : St F G H σ s) (hl : RepL F.K G.C G.BO H l xs []) (n : noBoL l = true)
    (fin : ∀ G2 H2, Step G H G2 H2 → ∀ i, xs.length ≤ i → J.stop i H2) (go : ∀ G2 H2, Step G H G2 H2 → ∀ i x, xs[i]? = some x → J.go i H2 ∧ ∀ y H3, J.yld i H2 y H3 → H3 = H2 ∧ y = x) : Yields F G H J l := by
  refine ⟨fun G2 H2 st i hi => fin G2 H2 st i (by rw [hl.length]; exact hi), fun G2 H2 st i d e => ?_⟩
  have hl' : RepL F.K G.C (Bs G.B) H l xs [] := RepL.noBo (B := G.BO) (B' := Bs G.B) (fun _ b => b) l n hl
  obtain ⟨v, A1, h1, h2, h3, _⟩ := RepL.get hl' e
  obtain rfl : A1 = [] := List.eq_nil_iff_forall_not_mem.mpr fun p hp => nomatch h3 p hp
  obtain ⟨g1, g2⟩ := go G2 H2 st i v h1
  refine ⟨g1, fun y H3 hy => ?_⟩
  obtain ⟨rfl, rfl⟩ := g2 y H3 hy
  refine ⟨Same.refl _, [], fun p => G.C p, List.nodup_nil, nil_all, fun p c => ⟨.inl (st.c p c), step_trk t st c, fun z => nomatch z⟩, rep_one.mpr ?_⟩
  exact Rep.tr ⟨fun p u c r => ⟨c, ((keep_tr t st).c p u c r).2⟩, (keep_tr t st).b, (keep_tr t st).t⟩ d nil_all h2
theorem yields_tup {a : Addr} {xs : List V} {l : List D} (t : St F G H σ s) (hs : SqT F.K H a xs) (hl : RepL F.K G.C G.BO H l xs []) (n : noBoL l = true) : Yields F G H (Itt F.K a) l := by
  have hT : ∀ G2 H2, Step G H G2 H2 → SqT F.K H2 a xs := fun G2 H2 st => sqT_tr (keep_tr t st).t hs
  refine yields_items t hl n (fun G2 H2 st i hi => ⟨xs, hT G2 H2 st, hi⟩) fun G2 H2 st i x e => ⟨⟨xs, x, hT G2 H2 st, e⟩, fun y H3 hy => ⟨hy.1, ?_⟩⟩
  exact Option.some.inj ((hy.2 xs (hT G2 H2 st)).symm.trans e)
theorem yields_lst {a : Addr} {xs : List V} {l : List D} (t : St F G H σ s) (hs : SqL F.K H a xs) (ho : ∀ i, a ∉ G.O i) (hl : RepL F.K G.C G.BO H l xs []) (n : noBoL l = true) : Yields F G H (Itl F.K a) l := by
  have hT : ∀ G2 H2, Step G H G2 H2 → SqL F.K H2 a xs := fun G2 H2 st => by
    rcases hs with hs | hs
    · exact .inl (keep_rd t st ho hs)
    · exact .inr hs
  refine yields_items t hl n (fun G2 H2 st i hi => ⟨xs, hT G2 H2 st, hi⟩) fun G2 H2 st i x e => ⟨⟨xs, x, hT G2 H2 st, e⟩, fun y H3 hy => ⟨hy.1, ?_⟩⟩
  exact Option.some.inj ((hy.2 xs (hT G2 H2 st)).symm.trans e)
theorem seq_core {v : V} {d : D} {ds : List D} (t : St F G H σ s) (r : Rep F.K G.C G.BO H d v []) (e : seqOf d = .ok ds) :
    ∃ p, v = .ref p ∧ ((isTup d = true ∧ (∃ xs, SqT F.K H p xs) ∧ Yields F G H (Itt F.K p) ds) ∨ (isTup d = false ∧ (∃ xs, SqL F.K H p xs) ∧ Yields F G H (Itl F.K p) ds)) := by
  unfold seqOf at e
  split at e
  · rename_i l
    split at e
    · rename_i n
      injection e with e
      subst e
      obtain ⟨p, xs, rfl, hs, hl⟩ := rep_tup.mp r
      exact ⟨p, rfl, .inl ⟨rfl, ⟨xs, hs⟩, yields_tup t hs hl n⟩⟩
    · cases e
  · rename_i l
    split at e
    · rename_i n
      injection e with e
      subst e
      obtain ⟨p, xs, rfl, hs, _, hl⟩ := rep_cl.mp r
      refine ⟨p, rfl, .inr ⟨rfl, ⟨xs, hs.elim (fun z => .inl z.1) (fun z => .inr z)⟩, ?_⟩⟩
      rcases hs with hs | hs
      · exact yields_lst t (.inl hs.1) (t.ct p hs.2).2 hl n
      · refine yields_items t hl n (fun G2 H2 st i hi => ⟨xs, .inr hs, hi⟩) fun G2 H2 st i x e => ⟨⟨xs, x, .inr hs, e⟩, fun y H3 hy => ⟨hy.1, ?_⟩⟩
        exact Option.some.inj ((hy.2 xs (.inr hs)).symm.trans e)
    · cases e
  · rename_i l
    split at e
    · rename_i n
      injection e with e
      subst e
      obtain ⟨p, xs, rfl, hs, _, hl⟩ := rep_bw.mp r
      exact ⟨p, rfl, .inr ⟨rfl, ⟨xs, .inl hs.1⟩, yields_lst t (.inl hs.1) (t.bt p hs.2).2 hl n⟩⟩
    · cases e
  · cases e
theorem St.md_absorb {v : V} {d : D} (m : Bool) (t : St F G H σ s) (x : Val F.K G.C G.BO H H' v d) :
    ∃ C1 : Addr → Prop, (∀ p, G.C p → C1 p) ∧ (∀ p, C1 p → G.C p ∨ H p = none) ∧ St F (G.md m C1) H' σ (sm m s) ∧ Rep F.K C1 (G.md m C1).BO H' (mdD m d) v [] := by
  obtain ⟨C1, c1, c2, t1, r1⟩ := t.absorb x
  refine ⟨C1, c1, c2, ?_⟩
  cases m with
  | false => exact ⟨t1, r1⟩
  | true => exact ⟨t1.bw, Rep.toBw (B' := (G.md true C1).BO) (fun _ c => c) (fun k p b => by cases k with | false => exact .inl b | true => exact .inr b) _ nil_all r1⟩
theorem seqOf_nrs {d : D} {c p} : seqOf d ≠ .rs c p := by
  intro q
  unfold seqOf at q
  split at q <;> first | cases q | (split at q <;> cases q)
theorem se_iter {tg e : Expr} {f : SD → R D} {m : Bool} (hK : X.K = F.K) (he : SE X F W e f) : SI X F W m tg e (fun s => (f s).bind (itemsM m)) := by
  refine ⟨fun pins s' σ H R0 I ⟨G, s, t, o⟩ => ?_⟩
  dsimp only at o
  cases q : f s with
  | stk => rw [q] at o; exact o.elim
  | rs c p => exact (pi_list he).run pins s' σ H R0 I ⟨G, s, t, by rw [q]; rw [q] at o; exact o⟩
  | ok d =>
    rw [q] at o
    dsimp only [R.bind] at o
    unfold itemsM at o
    cases q2 : seqOf (mdD m d) with
    | stk => rw [q2] at o; exact o.elim
    | rs c p => exact (seqOf_nrs q2).elim
    | ok ds =>
      rw [q2] at o
      cases q3 : isTup (mdD m d) with
      | true =>
        refine (pi_tup he).run pins s' σ H R0 I ⟨G, s, t, ?_⟩
        rw [q]
        intro v H' x
        obtain ⟨C1, c1, c2, t1, r1⟩ := t.md_absorb m x
        have r1' : Rep F.K (G.md m C1).C (G.md m C1).BO H' (mdD m d) v [] := by cases m <;> exact r1
        obtain ⟨p, rfl, ⟨_, hx, y⟩ | ⟨z, _⟩⟩ := seq_core (G := G.md m C1) t1 r1' q2
        · rw [hK]
          exact ⟨p, rfl, hx, o _ H' C1 x.same c1 c2 t1 y⟩
        · rw [q3] at z; cases z
      | false =>
        refine (pi_list he).run pins s' σ H R0 I ⟨G, s, t, ?_⟩
        rw [q]
        intro v H' x
        obtain ⟨C1, c1, c2, t1, r1⟩ := t.md_absorb m x
        have r1' : Rep F.K (G.md m C1).C (G.md m C1).BO H' (mdD m d) v [] := by cases m <;> exact r1
        obtain ⟨p, rfl, ⟨z, _⟩ | ⟨_, hx, y⟩⟩ := seq_core (G := G.md m C1) t1 r1' q2
        · rw [q3] at z; cases z
        · rw [hK]
          exact ⟨p, rfl, hx, o _ H' C1 x.same c1 c2 t1 y⟩
/-! ### range -/
def rngD (lo : Int) (n : Nat) : List D := (List.range n).map fun i => .int (lo + (i : Nat))
theorem rngD_get {lo : Int} {n i : Nat} {d : D} (h : (rngD lo n)[i]? = some d) : i < n ∧ d = .int (lo + (i : Nat)) := by
  unfold rngD at h
  rw [List.getElem?_map] at h
  by_cases hi : i < n
  · rw [List.getElem?_range hi] at h
    exact ⟨hi, (Option.some.inj h).symm⟩
  · rw [List.getElem?_eq_none (by simp; omega)] at h
    cases h
theorem rngD_len {lo : Int} {n : Nat} : (rngD lo n).length = n := by simp [rngD]
theorem yields_rng {lo : Int} {n : Nat} : Yields F G H (Itr lo n) (rngD lo n) := by
  refine ⟨fun G2 H2 st i hi => by rw [rngD_len] at hi; exact hi, fun G2 H2 st i d e => ?_⟩
  obtain ⟨hi, rfl⟩ := rngD_get e
  refine ⟨hi, fun x H3 hy => ?_⟩
  obtain ⟨rfl, rfl⟩ := hy
  exact val_int
def rngO1 (ds : List D) : R (List D) := match ds with
  | [.int j] => if -(2 ^ 62) ≤ j ∧ j < 2 ^ 62 then .ok (rngD 0 j.toNat) else .stk
  | _ => .stk
def rngO2 (ds : List D) : R (List D) := match ds with
  | [.int i, .int j] => if -(2 ^ 62) ≤ i ∧ i < 2 ^ 62 ∧ -(2 ^ 62) ≤ j ∧ j < 2 ^ 62 then .ok (rngD i (j - i).toNat) else .stk
  | _ => .stk
theorem liftL_iter {f : SD → R (List D)} {k : List D → R (List D)} {Q : It → Hp → Prop} {Q' : List V → Hp → Prop} (t : St F G H σ s) {m : Bool} (h : OutI F W m G σ s H Q ((f s).bind k))
    (go : ∀ d, OutI F W m G σ s H Q (k d) → ∀ v H', ValL F.K G.C G.BO H H' v d → Q' v H') : liftL F W f σ H Q' := by
  refine ⟨G, s, t, ?_⟩
  cases q : f s with
  | ok d => rw [q] at h; exact go d h
  | rs c p => rw [q] at h; exact h
  | stk => rw [q] at h; exact h
theorem md_id (m : Bool) (t : St F G H σ s) : St F (G.md m G.C) H σ (sm m s) := by
  cases m with
  | false => exact t
  | true => exact t.bw
theorem vals_one_int {K : PySem.W.Frag} {C : Addr → Prop} {B : Bool → Addr → Prop} {vs : List V} {j : Int} (x : ValL K C B H H' vs [.int j]) : vs = [.int j] := by
  obtain ⟨A2, C2, _, _, _, r⟩ := x.ex
  obtain ⟨v, vr, A1, A3, rfl, _, h1, h2⟩ := repL_cons.mp r
  obtain ⟨rfl, _⟩ := repL_nil.mp h2
  rw [(rep_int.mp h1).1]
theorem vals_two_int {K : PySem.W.Frag} {C : Addr → Prop} {B : Bool → Addr → Prop} {vs : List V} {i j : Int} (x : ValL K C B H H' vs [.int i, .int j]) : vs = [.int i, .int j] := by
  obtain ⟨A2, C2, _, _, _, r⟩ := x.ex
  obtain ⟨v, vr, A1, A3, rfl, _, h1, h2⟩ := repL_cons.mp r
  obtain ⟨v2, vr2, A4, A5, rfl, _, h3, h4⟩ := repL_cons.mp h2
  obtain ⟨rfl, _⟩ := repL_nil.mp h4
  rw [(rep_int.mp h1).1, (rep_int.mp h3).1]
theorem si_range1 {tg a : Expr} {f : SD → R (List D)} {p pos : Pos} (hg : Gl X "range") (hm : X.mg "range" = none) (hs : starEach [a] X.env = [(false, eval a X.env)]) (ha : SA X F W [a] f) (m : Bool) :
    SI X F W m tg (.Call (.Name "range" p) [a] [] pos) (fun s => (f s).bind rngO1) :=
  ⟨fun pins s' σ H R0 I ⟨G, s, t, o⟩ => (pi_range1 hg hm ha hs).run pins s' σ H R0 I (liftL_iter t o fun d o v H' x => by
    unfold rngO1 at o
    split at o
    · rename_i j
      split at o
      · rename_i h
        exact ⟨j, vals_one_int x, h.1, h.2, o _ H' G.C x.same (fun _ c => c) (fun _ c => .inl c) (md_id m (t.later x.same)) yields_rng⟩
      · exact o.elim
    · exact o.elim)⟩
theorem si_range2 {tg a b : Expr} {f : SD → R (List D)} {p pos : Pos} (hg : Gl X "range") (hm : X.mg "range" = none) (hs : starEach [a, b] X.env = [(false, eval a X.env), (false, eval b X.env)]) (hs2 : starEach [b] X.env = [(false, eval b X.env)]) (ha : SA X F W [a, b] f) (m : Bool) :
    SI X F W m tg (.Call (.Name "range" p) [a, b] [] pos) (fun s => (f s).bind rngO2) :=
  ⟨fun pins s' σ H R0 I ⟨G, s, t, o⟩ => (pi_range2 hg hm ha hs hs2).run pins s' σ H R0 I (liftL_iter t o fun d o v H' x => by
    unfold rngO2 at o
    split at o
    · rename_i i j
      split at o
      · rename_i h
        exact ⟨i, j, vals_two_int x, h, o _ H' G.C x.same (fun _ c => c) (fun _ c => .inl c) (md_id m (t.later x.same)) yields_rng⟩
      · exact o.elim
    · exact o.elim)⟩
/-! ### targets -/
def setN (i : Nat) (d : D) (s : SD) : Option SD := if d.noBo = true ∧ i < s.length then some (s.set i (some d)) else none
theorem tg_name {i : Nat} : TgOk F [i] (setN i) (gName i) := by
  intro G H H' σ s v d s' t x e Q q
  unfold setN at e
  split at e
  · rename_i h
    obtain rfl := Option.some.inj e
    obtain ⟨G', a, cl, eB, t'⟩ := t.set h.2 x h.1
    exact q G' [v] a cl eB t'
  · cases e
def setMany : List Nat → List D → SD → Option SD
  | [], [], s => some s
  | i :: is, d :: ds, s => (setN i d s).bind (setMany is ds)
  | _, _, _ => none
def setT (is : List Nat) (d : D) (s : SD) : Option SD := match d.frz with
  | .tup l => if noBoL l = true then setMany is l s else none
  | _ => none
/-- names, from flat values -/
def TgsOk (F : Fr) (is : List Nat) (gs : TGs) : Prop := ∀ (l : List D) (G : Gh) (H : Hp) (σ : L2.St) (s : SD) (vs : List V) (s' : SD), St F G H σ s → RepL F.K G.C (Bs G.B) H l vs [] → setMany is l s = some s' →
  ∀ Q : L2.St → Hp → Prop, (∀ G' ws, Step G H G' H → (∀ p, G'.C p → G.C p ∨ H p = none) → G'.B = G.B → St F G' H (setAll σ is ws) s' → Q (setAll σ is ws) H) → gs vs σ H Q
theorem tgs_nil : TgsOk F [] gNil := fun l G H σ s vs s' t r e Q q => by
  cases l with
  | nil =>
    obtain ⟨rfl, _⟩ := repL_nil.mp r
    obtain rfl := Option.some.inj e
    exact ⟨rfl, q G [] (Step.refl G H) (fun _ c => .inl c) rfl t⟩
  | cons d ds => cases e
theorem tgs_cons {i : Nat} {is : List Nat} {gs : TGs} (hr : TgsOk F is gs) : TgsOk F (i :: is) (gCons (gName i) gs) := fun l G H σ s vs s' t r e Q q => by
  cases l with
  | nil => cases e
  | cons d ds =>
    obtain ⟨v, vr, A1, A2, rfl, eA, h1, h2⟩ := repL_cons.mp r
    obtain ⟨rfl, rfl⟩ := List.append_eq_nil_iff.mp eA.symm
    refine ⟨v, vr, rfl, ?_⟩
    have e1 : (setN i d s).bind (setMany is ds) = some s' := e
    cases e2 : setN i d s with
    | none => rw [e2] at e1; cases e1
    | some s1 =>
      rw [e2] at e1
      unfold setN at e2
      split at e2
      · rename_i h
        obtain rfl := Option.some.inj e2
        obtain ⟨G', a, cl, eB, t'⟩ := t.set h.2 (ValsA.flat (C := G.C) (rep_one.mpr (Rep.tr ⟨fun p u c r => ⟨c, r⟩, fun k p u b r => ⟨bs_bo k p b, r⟩, fun p xs r => r⟩ d nil_all h1)) fun p c => (t.ct p c).1) h.1
        refine hr ds G' H _ _ vr s' t' ?_ e1 Q fun G2 ws a2 cl2 eB2 t2 => ?_
        · exact RepL.tr ⟨fun p u c r => ⟨a.c p c, r⟩, fun k p u b r => ⟨by rw [eB]; exact b, r⟩, fun p xs r => r⟩ ds nil_all h2
        · refine q G2 (v :: ws) (a.trans a2) (fun p c => ?_) (eB2.trans eB) t2
          rcases cl2 p c with z | z
          · exact cl p z
          · exact .inr z
      · cases e2
theorem tg_tup {is : List Nat} {gs : TGs} (hh : TgsOk F is gs) : TgOk F is (setT is) (gTup F.K is.length gs) := by
  intro G H H' σ s v d s' t x e Q q
  obtain ⟨C1, c1, c2, t1, r1⟩ := t.absorb x
  unfold setT at e
  split at e
  · rename_i l e0
    split at e
    · rename_i n
      rw [e0] at r1
      obtain ⟨p, xs, rfl, hs, hl⟩ := rep_tup.mp r1
      have hlen : ∀ (is : List Nat) (l : List D) (s s' : SD), setMany is l s = some s' → l.length = is.length := by
        intro is
        induction is with
        | nil => intro l s s' e; cases l with
          | nil => rfl
          | cons d ds => cases e
        | cons i is ih => intro l s s' e; cases l with
          | nil => cases e
          | cons d ds =>
            have e1 : (setN i d s).bind (setMany is ds) = some s' := e
            cases e2 : setN i d s with
            | none => rw [e2] at e1; cases e1
            | some s1 =>
              rw [e2] at e1
              simp [ih ds s1 s' e1]
      refine ⟨p, xs, rfl, hs, by rw [hl.length, hlen is l s s' e], ?_⟩
      refine hh l (G.wc C1) H' σ s xs s' t1 (RepL.noBo (B := G.BO) (B' := Bs G.B) (fun _ b => b) l n hl) e Q fun G' ws a cl eB t' => q G' ws ((step_wc x.same c1).trans a) (fun p c => ?_) eB t'
      rcases cl p c with z | z
      · exact c2 p z
      · exact .inr (x.same.free z)
    · cases e
  · cases e
/-! ### for -/
def forL (f : D → SD → O) : List D → SD → O
  | [], s => .nx s
  | d :: r, s => match f d s with
    | .nx s' => forL f r s'
    | .ct s' => forL f r s'
    | .bk s' => .nx s'
    | .rt d => .rt d
    | .rs c p s' => .rs c p s'
    | .stk => .stk
def turnO (ft : D → SD → Option SD) (fb : SD → O) (d : D) (s : SD) : O := match ft d s with
  | some s' => fb s'
  | none => .stk
theorem ss_for {tg iter : Expr} {body : List Stmt} {pos : Pos} {fi : SD → R (List D)} {is : List Nat} {ft : D → SD → Option SD} {fb : SD → O} {g : TG} (hp : PassesOwn (model X.prog X.w) X.A X.env X.xe) (hc : X.calm = true) (hs : ∀ x, foldedSetIterable iter X.env x = pure x)
    (hi : SI X F W false tg iter fi) (hg1 : PG X tg g) (hg2 : TgOk F is ft g) (hb : SB X F W body fb) : SS X F W (.For tg iter body [] pos) (fun s => (fi s).thenO s fun ds => forL (turnO ft fb) ds s) := by
  refine PS.imp (ps_for hp hc hi hg1 hb hs) fun Dn σ H ⟨G, s, t, o⟩ => ⟨G, s, t, ?_⟩
  dsimp only at o
  cases q : fi s with
  | stk => rw [q] at o; exact o.elim
  | rs c p => rw [q] at o; exact fun H' dct e' pp => o G σ H' dct (Step.same e') (t.later e') pp
  | ok ds =>
    rw [q] at o
    intro J H1 C1 e1 c1 c2 t1 y
    have o1 : OutS F W Dn (G.wc C1) H1 (forL (turnO ft fb) ds s) := OutS.step (step_wc e1 c1) o
    refine ⟨fun i m σ2 H2 => m = ds.length - i ∧ i ≤ ds.length ∧ ∃ G2 s2, Step (G.wc C1) H1 G2 H2 ∧ St F G2 H2 σ2 s2 ∧ OutS F W Dn G2 H2 (forL (turnO ft fb) (ds.drop i) s2), ⟨ds.length, by simp, Nat.zero_le _, _, s, Step.refl _ _, t1, o1⟩, ?_⟩
    rintro i m σ2 H2 ⟨rfl, hi, G2, s2, a2, t2, o2⟩
    by_cases hlt : i < ds.length
    · have ed : ds[i]? = some ds[i] := List.getElem?_eq_getElem hlt
      obtain ⟨go, yl⟩ := y.go G2 H2 a2 i _ ed
      rw [List.drop_eq_getElem_cons hlt] at o2
      refine .inr ⟨go, fun σ' H' => ∃ G3 s3, Step (G.wc C1) H1 G3 H' ∧ St F G3 H' σ' s3 ∧ OutS F W Dn G3 H' (forL (turnO ft fb) (ds.drop (i + 1)) s3), fun σ' H' ⟨G3, s3, a3, t3, o3⟩ => ⟨ds.length - (i + 1), by omega, rfl, hlt, G3, s3, a3, t3, o3⟩, fun x H3 hy => ?_⟩
      have vx : Val F.K G2.C G2.BO H2 H3 x ds[i] := (yl x H3 hy).monoB bs_bo
      unfold forL turnO at o2
      cases e : ft ds[i] s2 with
      | none => rw [e] at o2; exact o2.elim
      | some s3 =>
        rw [e] at o2
        dsimp only at o2
        refine hg2 G2 H2 H3 σ2 s2 x ds[i] s3 t2 vx e _ fun G3 ws a3 _ _ t3 => ⟨G3, s3, t3, ?_⟩
        have a13 : Step (G.wc C1) H1 G3 H3 := a2.trans a3
        cases eb : fb s3 with
        | nx s4 => rw [eb] at o2; exact fun G4 σ4 H4 a4 t4 => ⟨G4, s4, a13.trans a4, t4, OutS.step (a3.trans a4) o2⟩
        | ct s4 => rw [eb] at o2; exact fun G4 σ4 H4 a4 t4 => ⟨G4, s4, a13.trans a4, t4, OutS.step (a3.trans a4) o2⟩
        | bk s4 => rw [eb] at o2; exact fun G4 σ4 H4 a4 t4 => o2 G4 σ4 H4 (a3.trans a4) t4
        | rt d => rw [eb] at o2; exact o2
        | rs c p s4 => rw [eb] at o2; exact fun G4 σ4 H4 dct a4 t4 => o2 G4 σ4 H4 dct (a3.trans a4) t4
        | stk => rw [eb] at o2; exact o2.elim
    · obtain rfl : i = ds.length := by omega
      rw [List.drop_length] at o2
      exact .inl ⟨y.fin G2 H2 a2 _ (Nat.le_refl _), o2 G2 σ2 H2 (Step.refl _ _) t2⟩
/-! ### while -/
def whL (c : SD → R D) (f : SD → O) : Nat → SD → O
  | 0, _ => .stk
  | n + 1, s => (c s).thenO s fun d => match d with
    | .bl true => (match f s with
      | .nx s' => whL c f n s'
      | .ct s' => whL c f n s'
      | .bk s' => .nx s'
      | .rt d => .rt d
      | .rs c p s' => .rs c p s'
      | .stk => .stk)
    | .bl false => .nx s
    | _ => .stk
theorem ss_while {c : Expr} {body : List Stmt} {pos : Pos} {fc : SD → R D} {fb : SD → O} (n : Nat) (hp : PassesOwn (model X.prog X.w) X.A X.env X.xe) (hc : ST X F W c fc) (hb : SB X F W body fb) :
    SS X F W (.While c body [] pos) (fun s => whL fc fb n s) := by
  refine PS.imp (ps_while hp hc hb) fun Dn σ H ⟨G, s, t, o⟩ => ?_
  refine ⟨fun m σ2 H2 => ∃ G2 s2, St F G2 H2 σ2 s2 ∧ OutS F W Dn G2 H2 (whL fc fb m s2), ⟨n, G, s, t, o⟩, ?_⟩
  rintro m σ2 H2 ⟨G2, s2, t2, o2⟩
  cases m with
  | zero => exact o2.elim
  | succ m =>
    refine liftT_then t2 (Same.refl _) o2 fun d o3 => ?_
    cases d with
    | bl b =>
      refine ⟨b, rfl, fun H' e => ?_⟩
      cases b with
      | false => exact iteF (o3 G2 σ2 H' (Step.same e) (t2.later e))
      | true =>
        refine iteT ⟨fun σ' H' => ∃ G3 s3, St F G3 H' σ' s3 ∧ OutS F W Dn G3 H' (whL fc fb m s3), fun σ' H' h => ⟨m, Nat.lt_succ_self m, h⟩, G2, s2, t2.later e, ?_⟩
        dsimp only at o3
        cases eb : fb s2 with
        | nx s4 => rw [eb] at o3; exact fun G4 σ4 H4 a4 t4 => ⟨G4, s4, t4, OutS.step ((Step.same e).trans a4) o3⟩
        | ct s4 => rw [eb] at o3; exact fun G4 σ4 H4 a4 t4 => ⟨G4, s4, t4, OutS.step ((Step.same e).trans a4) o3⟩
        | bk s4 => rw [eb] at o3; exact fun G4 σ4 H4 a4 t4 => o3 G4 σ4 H4 ((Step.same e).trans a4) t4
        | rt d => rw [eb] at o3; exact o3
        | rs c p s4 => rw [eb] at o3; exact fun G4 σ4 H4 dct a4 t4 => o3 G4 σ4 H4 dct ((Step.same e).trans a4) t4
        | stk => rw [eb] at o3; exact o3.elim
    | _ => exact o3.elim
end
end Fe

/-! Fe5: comprehensions, displays, subscripts, slices. -/
namespace Fe
open PySem L2
abbrev W0 : WX := fun _ _ _ _ => False
def wipeS (s : SD) : List Nat → SD
  | [] => s
  | v :: vs => (wipeS s vs).set v none
theorem wipeS_len (s : SD) : ∀ vs : List Nat, (wipeS s vs).length = s.length
  | [] => rfl
  | v :: vs => by unfold wipeS; rw [List.length_set, wipeS_len s vs]
theorem wipeS_some {s : SD} {i : Nat} {d : D} : ∀ {vs : List Nat}, (wipeS s vs)[i]? = some (some d) → s[i]? = some (some d) ∧ i ∉ vs
  | [], h => ⟨h, by simp⟩
  | v :: vs, h => by
    unfold wipeS at h
    by_cases e : i = v
    · subst e
      by_cases hl : i < (wipeS s vs).length
      · rw [List.getElem?_set_self hl] at h; cases h
      · rw [List.getElem?_eq_none (by rw [List.length_set]; omega)] at h; cases h
    · rw [List.getElem?_set_ne (Ne.symm e)] at h
      obtain ⟨h1, h2⟩ := wipeS_some (vs := vs) h
      exact ⟨h1, by simp [e, h2]⟩
theorem wipe_keep {σ : L2.St} {i : Nat} {v : V} : ∀ {vs : List Nat}, i ∉ vs → σ[i]? = some (some v) → (wipe σ vs)[i]? = some (some v)
  | [], _, h => h
  | w :: vs, n, h => by
    unfold wipe
    have n1 : w ≠ i := fun e => n (by simp [e])
    rw [List.getElem?_set_ne n1]
    exact wipe_keep (fun z => n (List.mem_cons_of_mem _ z)) h
theorem set_set_none {σ : L2.St} {i j : Nat} {x : Option V} : (σ.set i x).set j none = if i = j then σ.set j none else (σ.set j none).set i x := by
  split
  · rename_i h; subst h; rw [List.set_set]
  · rename_i h; rw [List.set_comm _ _ h]
theorem wipe_set {σ : L2.St} {i : Nat} {x : Option V} : ∀ {vs : List Nat}, wipe (σ.set i x) vs = if i ∈ vs then wipe σ vs else (wipe σ vs).set i x
  | [] => by simp [wipe]
  | w :: vs => by
    unfold wipe
    rw [wipe_set (vs := vs)]
    by_cases h : i ∈ vs
    · rw [if_pos h, if_pos (List.mem_cons_of_mem _ h)]
    · rw [if_neg h, set_set_none]
      by_cases e : i = w
      · rw [if_pos e, if_pos (by simp [e])]
      · rw [if_neg e, if_neg (by simp [e, h])]
theorem wipe_in {σ : L2.St} {vs : List Nat} {i : Nat} {x : Option V} (h : i ∈ vs) : wipe (σ.set i x) vs = wipe σ vs := by rw [wipe_set, if_pos h]
theorem wipe_setAll : ∀ {is : List Nat} {σ : L2.St} {ws : List V} {vs : List Nat}, (∀ i ∈ is, i ∈ vs) → wipe (setAll σ is ws) vs = wipe σ vs
  | [], _, _, _, _ => by simp [setAll]
  | i :: is, _, [], _, _ => by simp [setAll]
  | i :: is, σ, w :: ws, vs, h => by
    unfold setAll
    rw [wipe_setAll (fun j hj => h j (List.mem_cons_of_mem _ hj)), wipe_in (h i List.mem_cons_self)]
theorem wipe_wipe {σ : L2.St} {vs : List Nat} : ∀ {ws : List Nat}, (∀ i ∈ ws, i ∈ vs) → wipe (wipe σ ws) vs = wipe σ vs
  | [], _ => rfl
  | w :: ws, h => by
    show wipe ((wipe σ ws).set w none) vs = wipe σ vs
    rw [wipe_in (h w List.mem_cons_self), wipe_wipe fun j hj => h j (List.mem_cons_of_mem _ hj)]
/-- what raises is not served -/
def nr {α : Type} (x : R α) : R α := match x with
  | .rs _ _ => .stk
  | y => y
def lcL (ft : D → SD → Option SD) (fb fe : SD → R D) (s : SD) : List D → R (List D)
  | [] => .ok []
  | d :: r => match ft d s with
    | none => .stk
    | some s1 => (nr (fb s1)).bind fun b => match b with
      | .bl true => (nr (fe s1)).bind fun y => if y.noBw = true then (lcL ft fb fe s r).bind fun ys => .ok (y :: ys) else .stk
      | .bl false => lcL ft fb fe s r
      | _ => .stk
def lcO (ft : D → SD → Option SD) (fb fe : SD → R D) (vs : List Nat) (s : SD) (ds : List D) : R D :=
  if ds.length ≤ 16777216 then (lcL ft fb fe (wipeS (bwS s) vs) ds).bind fun ys => .ok (.lst .own ys) else .stk
section
variable {X : Cx} {F : Fr} {W : WX} {G : Gh} {H H' H1 : Hp} {σ : L2.St} {s : SD}
theorem St.wipe (t : St F G H σ s) (vs : List Nat) : St F G H (L2.wipe σ vs) (wipeS s vs) :=
  ⟨fun i d e => by
    obtain ⟨h1, h2⟩ := wipeS_some e
    obtain ⟨v, h3, h4⟩ := t.slot i d h1
    exact ⟨v, wipe_keep h2 h3, h4⟩, t.nd, t.dj, t.ct, t.bt, t.ot, t.c0, t.o0, t.h0, by rw [wipeS_len, wipe_length, t.len]⟩
theorem lc_imp {own : List (Str × Nat)} {fi : SD → R (List D)} {is : List Nat} {ft : D → SD → Option SD} {g : TG} {fb fe : SD → R D} {tt : TT} (tok : TgOk F is ft g) (his : ∀ i ∈ is, i ∈ own.map (·.2)) (htt : ∀ σ H Q, liftT F W0 fb σ H Q → tt σ H Q)
    {σ : L2.St} {H : Hp} {Q : VK} (h : liftE F W (fun s => (fi s).bind (lcO ft fb fe (own.map (·.2)) s)) σ H Q) : tLc (liftI F W true fi) g tt (liftE F W0 fe) (own.map (·.2)) σ H Q := by
  obtain ⟨G, s, t, o⟩ := h
  refine ⟨G, s, t, ?_⟩
  dsimp only at o
  cases q : fi s with
  | stk => rw [q] at o; exact o.elim
  | rs c p => rw [q] at o; exact o
  | ok ds =>
    rw [q] at o
    dsimp only [R.bind] at o
    unfold lcO at o
    split at o
    case isFalse => exact o.elim
    rename_i hsz
    intro J H1 C1 e1 c1 c2 t1 y Dl hD
    have tw : St F (G.md true C1) H1 (L2.wipe σ (own.map (·.2))) (wipeS (bwS s) (own.map (·.2))) := t1.wipe _
    refine ⟨fun i m H2 => m = ds.length - i ∧ i ≤ ds.length ∧ Same H1 H2 ∧ ∃ (acc : List V) (ys : List D) (A : List Addr) (C2 : Addr → Prop), H2 Dl = some (.lst acc) ∧ acc.length ≤ i ∧ A.Nodup ∧ Dl ∉ A ∧ (∀ p ∈ A, H1 p = none) ∧
      (∀ p, C2 p → (C1 p ∨ H1 p = none) ∧ H2 p ≠ none ∧ p ∉ A ∧ p ≠ Dl) ∧ RepL F.K C2 (fun _ _ => False) H2 ys acc A ∧ OutE F W G σ H Q ((lcL ft fb fe (wipeS (bwS s) (own.map (·.2))) (ds.drop i)).bind fun zs => .ok (.lst .own (ys ++ zs))),
      ⟨ds.length, by simp, Nat.zero_le _, same_upd hD, [], [], [], fun _ => False, upd_same, Nat.le_refl _, List.nodup_nil, by simp, nil_all, fun _ z => z.elim, repL_nil.mpr ⟨rfl, rfl⟩, o⟩, ?_⟩
    rintro i m H2 ⟨rfl, hi, s12, acc, ys, A, C2, hDl, hacc, nA, DA, fA, cA, rA, oA⟩
    by_cases hlt : i < ds.length
    · have ed : ds[i]? = some ds[i] := List.getElem?_eq_getElem hlt
      obtain ⟨go, yl⟩ := y.go (G.md true C1) H2 (Step.same s12) i _ ed
      rw [List.drop_eq_getElem_cons hlt] at oA
      refine .inr ⟨go, fun H' => Same H1 H' ∧ ∃ (acc : List V) (ys : List D) (A : List Addr) (C2 : Addr → Prop), H' Dl = some (.lst acc) ∧ acc.length ≤ i + 1 ∧ A.Nodup ∧ Dl ∉ A ∧ (∀ p ∈ A, H1 p = none) ∧
        (∀ p, C2 p → (C1 p ∨ H1 p = none) ∧ H' p ≠ none ∧ p ∉ A ∧ p ≠ Dl) ∧ RepL F.K C2 (fun _ _ => False) H' ys acc A ∧ OutE F W G σ H Q ((lcL ft fb fe (wipeS (bwS s) (own.map (·.2))) (ds.drop (i + 1))).bind fun zs => .ok (.lst .own (ys ++ zs))),
        fun H' ⟨a1, a2⟩ => ⟨ds.length - (i + 1), by omega, rfl, hlt, a1, a2⟩, fun x H3 hy => ?_⟩
      have vx : Val F.K (G.md true C1).C (G.md true C1).BO H2 H3 x ds[i] := (yl x H3 hy).monoB bs_bo
      unfold lcL at oA
      cases e : ft ds[i] (wipeS (bwS s) (own.map (·.2))) with
      | none => rw [e] at oA; exact oA.elim
      | some s3 =>
        rw [e] at oA
        dsimp only at oA
        refine tok (G.md true C1) H2 H3 _ _ x ds[i] s3 (tw.later s12) vx e _ fun G3 ws a3 cl3 eB3 t3 => ⟨?_, ?_⟩
        · rw [wipe_setAll his, wipe_wipe fun _ h => h]
        · refine htt _ _ _ ⟨G3, s3, t3, ?_⟩
          cases eb : fb s3 with
          | stk => rw [eb] at oA; exact oA.elim
          | rs c p => rw [eb] at oA; exact oA.elim
          | ok b =>
            rw [eb] at oA
            cases b with
            | bl b =>
              intro H4 s34
              have s23 : Same H2 H3 := vx.same
              cases b with
              | false =>
                refine iteF ⟨s12.trans (s23.trans s34), acc, ys, A, C2, s34 _ _ (s23 _ _ hDl), Nat.le_succ_of_le hacc, nA, DA, fA, fun p h => ?_, RepL.tr (tr_same (s23.trans s34)) ys (fun p _ o q => s34 _ _ (s23 _ _ q)) rA, oA⟩
                obtain ⟨k1, k2, k3⟩ := cA p h
                exact ⟨k1, same_ne (s23.trans s34) k2, k3⟩
              | true =>
                refine iteT ⟨G3, s3, t3.later s34, ?_⟩
                dsimp only [nr, R.bind] at oA
                cases ee : fe s3 with
                | stk => rw [ee] at oA; exact oA.elim
                | rs c p => rw [ee] at oA; exact oA.elim
                | ok yv =>
                  rw [ee] at oA
                  intro v H5 vy
                  have oA1 : OutE F W G σ H Q ((if yv.noBw = true then (lcL ft fb fe (wipeS (bwS s) (own.map (·.2))) (ds.drop (i + 1))).bind fun ys' => R.ok (yv :: ys') else R.stk).bind fun zs => .ok (.lst .own (ys ++ zs))) := oA
                  by_cases hnb : yv.noBw = true
                  case neg => rw [if_neg hnb] at oA1; exact oA1.elim
                  rw [if_pos hnb] at oA1
                  have s45 : Same H4 H5 := vy.same
                  have s25 : Same H2 H5 := (s23.trans s34).trans s45
                  have s14 : Same H1 H4 := s12.trans (s23.trans s34)
                  have hD5 : H5 Dl = some (.lst acc) := s25 _ _ hDl
                  obtain ⟨A5, C5, n5, a5, c5, r5⟩ := vy.ex
                  have f5 : ∀ p ∈ A5, H4 p = none := fun p hp => (a5 p hp).elim (fun z => nomatch z) id
                  have tA : ∀ p ∈ A, H2 p ≠ none := fun p hp => (RepL.trk _ rA p hp).ne
                  have d5 : Dl ∉ A5 := fun z => by
                    have q := f5 _ z
                    rw [s34 _ _ (s23 _ _ hDl)] at q
                    cases q
                  have k5 : ∀ p, C5 p → C1 p ∨ H1 p = none := fun p h => by
                    rcases (c5 p h).1 with z | z
                    · rcases cl3 p z with w | w
                      · exact .inl w
                      · exact .inr (s12.free w)
                    · exact .inr (s14.free z)
                  have m5 : ∀ p, C5 p → p ≠ Dl := fun p h e => by
                    subst e
                    rcases (c5 p h).1 with z | z
                    · rcases cl3 p z with w | w
                      · exact (t1.ct p w).1 hD
                      · rw [hDl] at w; cases w
                    · rw [s34 _ _ (s23 _ _ hDl)] at z; cases z
                  have na5 : ∀ p, C5 p → p ∉ A := fun p h hp => by
                    rcases (c5 p h).1 with z | z
                    · rcases cl3 p z with w | w
                      · exact (t1.ct p w).1 (fA p hp)
                      · exact tA p hp w
                    · exact tA p hp ((s23.trans s34).free z)
                  have rB : RepL F.K (fun p => C2 p ∨ C5 p) (fun _ _ => False) (upd H5 Dl (.lst (acc ++ [v]))) (ys ++ [yv]) (acc ++ [v]) (A ++ A5) := by
                    have hne : ∀ p u, Rd H5 p u → p ≠ Dl → Rd (upd H5 Dl (.lst (acc ++ [v]))) p u := fun p u r e => by
                      rcases r with r | ⟨ob, r⟩
                      · exact .inl (by rw [upd_ne e]; exact r)
                      · exact .inr ⟨ob, by rw [upd_ne e]; exact r⟩
                    have htp : ∀ p zs, Rd H5 p (.tup zs) → Rd (upd H5 Dl (.lst (acc ++ [v]))) p (.tup zs) := fun p zs r => hne p _ r fun e => by
                      subst e
                      rcases r with r | ⟨ob, r⟩ <;> (rw [hD5] at r; cases r)
                    refine RepL.append (RepL.tr (C := C2) (B := fun _ _ => False) (H := H5) ⟨fun p u h r => ⟨.inl h, hne p u r (cA p h).2.2.2⟩, fun _ _ _ z _ => z.elim, htp⟩ ys (fun p hp ob q => ?_) ?_) (RepL.one ?_)
                    · rw [upd_ne (by intro e; rw [e] at hp; exact DA hp)]; exact q
                    · exact RepL.tr (tr_same s25) ys (fun p _ o q => s25 _ _ q) rA
                    · refine Rep.tr (C := C5) (B := fun _ _ => False) (H := H5) ⟨fun p u h r => ⟨.inr h, hne p u r (m5 p h)⟩, fun _ _ _ z _ => z.elim, htp⟩ yv (fun p hp ob q => ?_) (Rep.noBw yv hnb (rep_one.mp r5))
                      rw [upd_ne (by intro e; rw [e] at hp; exact d5 hp)]; exact q
                  refine ⟨acc, hD5, Nat.lt_of_le_of_lt hacc (Nat.lt_of_lt_of_le hlt (by rw [sizeLine_eq]; exact hsz)), fun b u q => ?_, acc ++ [v], ys ++ [yv], A ++ A5, fun p => C2 p ∨ C5 p, upd_same, by simp; omega, ?_, ?_, ?_, fun p h => ?_, rB, ?_⟩
                  · rw [upd_ne (ne_of_none q hD)]; exact (s12.trans s25) b u q
                  · refine List.nodup_append.mpr ⟨nA, n5, fun p hp z hz e => ?_⟩
                    subst e
                    exact tA p hp ((s23.trans s34).free (f5 p hz))
                  · intro z
                    rcases List.mem_append.mp z with z | z
                    · exact DA z
                    · exact d5 z
                  · intro p hp
                    rcases List.mem_append.mp hp with hp | hp
                    · exact fA p hp
                    · exact s14.free (f5 p hp)
                  · have hh : p ≠ Dl ∧ (C1 p ∨ H1 p = none) ∧ H5 p ≠ none ∧ p ∉ A ∧ p ∉ A5 := by
                      rcases h with h | h
                      · obtain ⟨k1, k2, k3, k4⟩ := cA p h
                        exact ⟨k4, k1, same_ne s25 k2, k3, fun z => k2 ((s23.trans s34).free (f5 p z))⟩
                      · exact ⟨m5 p h, k5 p h, (c5 p h).2.1, na5 p h, (c5 p h).2.2⟩
                    obtain ⟨g1, g2, g3, g4, g5⟩ := hh
                    refine ⟨g2, by rw [upd_ne g1]; exact g3, fun z => ?_, g1⟩
                    rcases List.mem_append.mp z with z | z
                    · exact g4 z
                    · exact g5 z
                  · cases er : lcL ft fb fe (wipeS (bwS s) (own.map (·.2))) (ds.drop (i + 1)) with
                    | stk => rw [er] at oA1; exact oA1.elim
                    | rs c p => rw [er] at oA1; exact oA1
                    | ok zs =>
                      rw [er] at oA1
                      dsimp only [R.bind] at oA1 ⊢
                      rw [List.append_assoc]
                      exact oA1
            | _ => exact oA.elim
    · obtain rfl : i = ds.length := by omega
      rw [List.drop_length] at oA
      refine .inl ⟨y.fin (G.md true C1) H2 (Step.same s12) _ (Nat.le_refl _), ?_⟩
      have oB : OutE F W G σ H Q (.ok (.lst .own (ys ++ []))) := oA
      rw [List.append_nil] at oB
      refine oB (.ref Dl) H2 ⟨e1.trans s12, Dl :: A, C2, List.nodup_cons.mpr ⟨DA, nA⟩, fun p hp => .inr ?_, fun p h => ?_, rep_one.mpr (rep_own.mpr ⟨Dl, acc, A, rfl, hDl, rfl, RepL.tr ⟨fun p u c r => ⟨c, r⟩, fun _ _ _ z _ => z.elim, fun p xs r => r⟩ ys (fun _ _ _ q => q) rA⟩)⟩
      · rcases List.mem_cons.mp hp with rfl | hp
        · exact e1.free hD
        · exact e1.free (fA p hp)
      · obtain ⟨k1, k2, k3, k4⟩ := cA p h
        refine ⟨?_, k2, fun z => ?_⟩
        · rcases k1 with z | z
          · exact c2 p z
          · exact .inr (e1.free z)
        · rcases List.mem_cons.mp z with z | z
          · exact k4 z
          · exact k3 z
theorem se_lc {elt tg iter : Expr} {ifs : List Expr} {scope : Scope} {own : List (Str × Nat)} {pos : Pos} {fi : SD → R (List D)} {is : List Nat} {ft : D → SD → Option SD} {g : TG} {fb fe : SD → R D} {tt : TT}
    (hc : X.calm = true) (hN : X.N.Nodup) (hi : SI X F W true tg iter fi) (ok : BlkOk X.N X.env.scope scope own) (hs : ∀ x, foldedSetIterable iter X.env x = pure x)
    (hg : ∀ (s : Shared) (H : Hp) (C : Addr) (cl : List (Str × Addr)) (fp : List Addr), PG (X.blk s H scope (compEnvC scope cl C X.env) fp) tg g) (tok : TgOk F is ft g) (his : ∀ i ∈ is, i ∈ own.map (·.2))
    (ht : ∀ (s : Shared) (H : Hp) (C : Addr) (cl : List (Str × Addr)) (fp : List Addr), PTs (X.blk s H scope (compEnvC scope cl C X.env) fp) ifs tt) (htt : ∀ σ H Q, liftT F W0 fb σ H Q → tt σ H Q)
    (he : ∀ (s : Shared) (H : Hp) (C : Addr) (cl : List (Str × Addr)) (fp : List Addr), SE (X.blk s H scope (compEnvC scope cl C X.env) fp) F W0 elt fe) :
    SE X F W (.ListComp elt [⟨tg, iter, ifs, 0⟩] scope pos) (fun s => (fi s).bind (lcO ft fb fe (own.map (·.2)) s)) :=
  PE.imp (pe_lc hc hN hi ok hg ht he hs) fun σ H Q h => lc_imp tok his htt h
/-- name = [..] on one line -/
theorem ss_setLc {i : Nat} {y : Str} {py spos : Pos} {elt tg iter : Expr} {ifs : List Expr} {scope : Scope} {own : List (Str × Nat)} {pos : Pos} {fi : SD → R (List D)} {is : List Nat} {ft : D → SD → Option SD} {g : TG} {fb fe : SD → R D} {tt : TT}
    (hc : X.calm = true) (hN : X.N.Nodup) (hy : X.N[i]? = some y) (hyl : X.env.scope.names.lookup y = some .local) (hsw : swapsWith (.ListComp elt [⟨tg, iter, ifs, 0⟩] scope pos) (some (.Name y py)) spos.line X.env = pure true)
    (hi : SI X F W true tg iter fi) (ok : BlkOk X.N X.env.scope scope own) (hs : ∀ x, foldedSetIterable iter X.env x = pure x)
    (hg : ∀ (s : Shared) (H : Hp) (C : Addr) (cl : List (Str × Addr)) (fp : List Addr), PG (X.blk s H scope (compEnvC scope cl C X.env) fp) tg g) (tok : TgOk F is ft g) (his : ∀ i ∈ is, i ∈ own.map (·.2))
    (ht : ∀ (s : Shared) (H : Hp) (C : Addr) (cl : List (Str × Addr)) (fp : List Addr), PTs (X.blk s H scope (compEnvC scope cl C X.env) fp) ifs tt) (htt : ∀ σ H Q, liftT F W0 fb σ H Q → tt σ H Q)
    (he : ∀ (s : Shared) (H : Hp) (C : Addr) (cl : List (Str × Addr)) (fp : List Addr), SE (X.blk s H scope (compEnvC scope cl C X.env) fp) F W0 elt fe) :
    SS X F W (.Assign [.Name y py] (.ListComp elt [⟨tg, iter, ifs, 0⟩] scope pos) spos) (fun s => ((fi s).bind (lcO ft fb fe (own.map (·.2)) s)).thenO s (setO i s)) :=
  PS.imp (ps_setLc hc hN hy hyl hsw hi ok hg ht he hs) fun Dn σ H ⟨G, s, t, o⟩ => lc_imp tok his htt (liftE_then (f := fun s => (fi s).bind (lcO ft fb fe (own.map (·.2)) s)) t (Same.refl H) o fun d o v H' x => set_out t o x)
end
end Fe

/-! Fe6: operators, comparisons, displays, subscripts, slices, built-ins over plain data. -/
namespace Fe
open PySem L2
/-- two operands -/
def B2 (r : R2) : List V → Hp → VK → Prop := fun vs H Q => ∃ x y, vs = [x, y] ∧ r x y H Q
def ofO : Option D → R D
  | some d => .ok d
  | none => .stk
def D2 (g : D → D → Option D) : List D → R D
  | [x, y] => ofO (g x y)
  | _ => .stk
theorem nrs2 {g : D → D → Option D} : NoRs (D2 g) := by
  intro ds c p q
  unfold D2 at q
  split at q
  · unfold ofO at q; split at q <;> cases q
  · cases q
def B1 (r : V → Hp → VK → Prop) : List V → Hp → VK → Prop := fun vs H Q => ∃ x, vs = [x] ∧ r x H Q
def D1 (g : D → Option D) : List D → R D
  | [x] => ofO (g x)
  | _ => .stk
theorem nrs1 {g : D → Option D} : NoRs (D1 g) := by
  intro ds c p q
  unfold D1 at q
  split at q
  · unfold ofO at q; split at q <;> cases q
  · cases q
def DL (g : List D → Option D) (ds : List D) : R D := ofO (g ds)
theorem nrsL {g : List D → Option D} : NoRs (DL g) := by
  intro ds c p q
  unfold DL at q
  unfold ofO at q; split at q <;> cases q
theorem ofO_ok {o : Option D} {z : D} (h : ofO o = .ok z) : o = some z := by
  cases o with
  | none => cases h
  | some d => injection h with h; rw [h]
section
variable {K : PySem.W.Frag} {C : Addr → Prop} {B : Bool → Addr → Prop} {H : Hp}
theorem repL_two {d e : D} {vs : List V} {A : List Addr} (h : RepL K C B H [d, e] vs A) : ∃ x y A1 A2, vs = [x, y] ∧ A = A1 ++ A2 ∧ Rep K C B H d x A1 ∧ Rep K C B H e y A2 := by
  obtain ⟨v, vr, A1, A3, rfl, rfl, h1, h2⟩ := repL_cons.mp h
  obtain ⟨v2, vr2, A4, A5, rfl, rfl, h3, h4⟩ := repL_cons.mp h2
  obtain ⟨rfl, rfl⟩ := repL_nil.mp h4
  exact ⟨v, v2, A1, A4, rfl, by simp, h1, h3⟩
theorem repL_onev {d : D} {vs : List V} {A : List Addr} (h : RepL K C B H [d] vs A) : ∃ x, vs = [x] ∧ Rep K C B H d x A := by
  obtain ⟨v, vr, A1, A3, rfl, rfl, h1, h2⟩ := repL_cons.mp h
  obtain ⟨rfl, rfl⟩ := repL_nil.mp h2
  exact ⟨v, rfl, by simpa using h1⟩
/-- how an operation of two operands is shown -/
theorem ok2 {r : R2} {g : D → D → Option D} (h : ∀ (A A1 A2 : List Addr) (C : Addr → Prop) (B : Bool → Addr → Prop) (H : Hp) (x y : V) (d e z : D) (Q : VK), g d e = some z → Rep K C B H d x A1 → Rep K C B H e y A2 → A = A1 ++ A2 → A.Nodup → (∀ p, C p → H p ≠ none ∧ p ∉ A) →
    (∀ v H', ValA K A C B H H' v z → Q v H') → r x y H Q) : CallOk K (B2 r) (D2 g) := by
  intro A C B H vs ds z Q e rl n c k
  unfold D2 at e
  split at e
  · rename_i d d'
    obtain ⟨x, y, A1, A2, rfl, eA, r1, r2⟩ := repL_two rl
    exact ⟨x, y, rfl, h A A1 A2 C B H x y d d' z Q (ofO_ok e) r1 r2 eA n c k⟩
  · cases e
theorem ok1 {r : V → Hp → VK → Prop} {g : D → Option D} (h : ∀ (A : List Addr) (C : Addr → Prop) (B : Bool → Addr → Prop) (H : Hp) (x : V) (d z : D) (Q : VK), g d = some z → Rep K C B H d x A → A.Nodup → (∀ p, C p → H p ≠ none ∧ p ∉ A) →
    (∀ v H', ValA K A C B H H' v z → Q v H') → r x H Q) : CallOk K (B1 r) (D1 g) := by
  intro A C B H vs ds z Q e rl n c k
  unfold D1 at e
  split at e
  · rename_i d
    obtain ⟨x, rfl, r1⟩ := repL_onev rl
    exact ⟨x, rfl, h A C B H x d z Q (ofO_ok e) r1 n c k⟩
  · cases e
end
section
variable {X : Cx} {F : Fr} {W : WX} {G : Gh} {H H' H1 : Hp} {σ : L2.St} {s : SD}
theorem se_bin' {e a b : Expr} {r : R2} {fa fb : SD → R D} {g : D → D → Option D} (rule : ∀ ta tb, PE X a ta → PE X b tb → PE X e (tOp r ta tb)) (ok : CallOk F.K (B2 r) (D2 g)) (ha : SE X F W a fa) (hb : SE X F W b fb) :
    SE X F W e (fun s => (fa s).bind fun x => (fb s).bind fun y => D2 g [x, y]) := by
  refine PE.imp (rule _ _ ha hb) fun σ H Q ⟨G, s, t, o⟩ => ?_
  refine liftE_part t (Same.refl H) o fun d o x H1 vx => ?_
  refine liftE_part (t.later vx.same) vx.same o fun d' o y H2 vy => ?_
  have vxy : ValL F.K G.C G.BO H H2 [x, y] [d, d'] := ValsA.cons (fun p c => (t.ct p c).1) vx vy
  obtain ⟨x', y', e, q⟩ := call_go ok nrs2 vxy o
  injection e with e1 e2
  injection e2 with e2 _
  subst e1
  subst e2
  exact q
theorem outT_E {Q : Bool → Hp → Prop} : ∀ {x : R D}, OutT F W G σ H Q x → OutE F W G σ H (fun v H' => ∃ k, v = .bl k ∧ Q k H') x
  | .stk, o => o
  | .rs c p, o => o
  | .ok d, o => fun v H' hv => by
    cases d with
    | bl k =>
      obtain ⟨A2, C2, _, _, _, r⟩ := hv.ex
      obtain ⟨rfl, _⟩ := rep_bl.mp (rep_one.mp r)
      exact ⟨k, rfl, o H' hv.same⟩
    | _ => exact o.elim
theorem st_bin' {e a b : Expr} {r : R2} {fa fb : SD → R D} {g : D → D → Option D} (rule : ∀ ta tb, PE X a ta → PE X b tb → PT X e (tTest (tOp r ta tb))) (ok : CallOk F.K (B2 r) (D2 g)) (ha : SE X F W a fa) (hb : SE X F W b fb) :
    ST X F W e (fun s => (fa s).bind fun x => (fb s).bind fun y => D2 g [x, y]) := by
  refine PT.imp (rule _ _ ha hb) fun σ H Q ⟨G, s, t, o⟩ => ?_
  have oE := outT_E o
  refine liftE_part t (Same.refl H) oE fun d o x H1 vx => ?_
  refine liftE_part (t.later vx.same) vx.same o fun d' o y H2 vy => ?_
  have vxy : ValL F.K G.C G.BO H H2 [x, y] [d, d'] := ValsA.cons (fun p c => (t.ct p c).1) vx vy
  obtain ⟨x', y', e, q⟩ := call_go ok nrs2 vxy o
  injection e with e1 e2
  injection e2 with e2 _
  subst e1
  subst e2
  exact q
theorem se_un' {e a : Expr} {r : V → Hp → VK → Prop} {fa : SD → R D} {g : D → Option D} (rule : ∀ ta, PE X a ta → PE X e (fun σ H Q => ta σ H fun x H1 => r x H1 Q)) (ok : CallOk F.K (B1 r) (D1 g)) (ha : SE X F W a fa) :
    SE X F W e (fun s => (fa s).bind fun x => D1 g [x]) := by
  refine PE.imp (rule _ ha) fun σ H Q ⟨G, s, t, o⟩ => ?_
  refine liftE_part t (Same.refl H) o fun d o x H1 vx => ?_
  obtain ⟨x', e, q⟩ := call_go ok nrs1 vx o
  injection e with e1 e2
  subst e1
  exact q
theorem se_call {e : Expr} {es : List Expr} {r : List V → Hp → VK → Prop} {fs : SD → R (List D)} {g : List D → Option D} (rule : ∀ ta, PA X es ta → PE X e (tCB r ta)) (ok : CallOk F.K r (DL g)) (ha : SA X F W es fs) :
    SE X F W e (fun s => (fs s).bind (DL g)) := by
  refine PE.imp (rule _ ha) fun σ H Q ⟨G, s, t, o⟩ => ?_
  exact liftL_part t (Same.refl H) o fun ds o vs H1 x => call_go ok nrsL x o
end
/-! ### numbers -/
def gAdd : D → D → Option D
  | .int i, .int j => some (.int (i + j))
  | .str a, .str b => if a.length + b.length ≤ 16777216 then some (.str (a ++ b)) else none
  | .tup l, .tup m => if l.length + m.length ≤ 16777216 then some (.tup (l ++ m)) else none
  | .lst _ l, .lst _ m => if l.length + m.length ≤ 16777216 then some (.lst .own (l ++ m)) else none
  | _, _ => none
def gSub : D → D → Option D
  | .int i, .int j => some (.int (i - j))
  | _, _ => none
def big : Nat := 2 ^ 8000
def gMul : D → D → Option D
  | .int i, .int j => if i.natAbs < big ∧ j.natAbs < big then some (.int (i * j)) else none
  | .lst .own l, .int k => if k < 2 ^ 63 ∧ -(2 ^ 63) ≤ k ∧ l.length * k.toNat ≤ 16777216 ∧ noOwL l = true then some (.lst .own (List.replicate k.toNat l).flatten) else none
  | _, _ => none
def gFdiv : D → D → Option D
  | .int i, .int j => if 0 < j ∧ j.natAbs < big then some (.int (i / j)) else none
  | _, _ => none
def gMod : D → D → Option D
  | .int i, .int j => if 0 < j then some (.int (i % j)) else none
  | _, _ => none
def gPow : D → D → Option D
  | .int i, .int j => if 0 ≤ j ∧ j ≤ 1000000 ∧ i.natAbs < 2 ^ 64 then some (.int (i ^ j.toNat)) else none
  | _, _ => none
def gXor : D → D → Option D
  | .int i, .int j => some (.int (Builtin.bitXor i j))
  | _, _ => none
def gNeg : D → Option D
  | .int i => some (.int (-i))
  | _ => none
theorem le_line {n : Nat} (h : n ≤ 16777216) : n ≤ sizeLine := by rw [sizeLine_eq]; exact h
section
variable {K : PySem.W.Frag}
/-- ys + zs of any lists -/
def rCatL (K : PySem.W.Frag) : R2 := fun x y H Q => ∃ l b xs zs, x = .ref l ∧ y = .ref b ∧ SqL K H l xs ∧ SqL K H b zs ∧ xs.length + zs.length ≤ sizeLine ∧ ∀ p, H p = none → Q (.ref p) (upd H p (.lst (xs ++ zs)))
theorem op_catL {X : Cx} : OpR X (binaryOp .Add) (rCatL X.K) := by
  intro pins s σ H x y v u Q I rx ry h
  obtain ⟨l, b, xs, zs, rfl, rfl, hl, hb, hz, q⟩ := h
  cases rx
  cases ry
  obtain ⟨its, r, ⟨⟨c1, d1, t1, k1⟩, n, e1, e2, e3, e4⟩, _⟩ := I.list hl
  obtain ⟨its2, r2, ⟨⟨c2, d2, t2, k2⟩, n2, g1, g2, g3, g4⟩, _⟩ := I.list hb
  dsimp only at e2 e3 e4 g2 g3 g4
  subst e2 e3 e4 g2 g3 g4
  have hs1 := r.length
  have hs2 := r2.length
  refine PySem.concat_meets ⟨_, e1, rfl⟩ ⟨_, g1, rfl⟩ PySem.noFill_list_add PySem.seq_list_add PySem.F.slot_list_add PySem.F.entry_list_add (PySem.F.args_list_add_2 _ _)
    (PyProof.Rows.list_addW l b its.toArray its2.toArray n n2 none none k1 k2 (by rw [List.size_toArray, List.size_toArray]; omega)) ⟨e1, g1, ?_⟩
  rw [show its.toArray ++ its2.toArray = (its ++ its2).toArray by simp]
  exact ⟨.ref _, _, I.lnew (t' := s.toks) (r.append r2) (by rw [List.length_append]; omega), rfl, q _ I.fresh⟩
/-- a new list or tuple of items at hand -/
theorem val_new {A A1 : List Addr} {C : Addr → Prop} {B : Bool → Addr → Prop} {H : Hp} {l : List D} {xs : List V} {p : Addr} (hp : H p = none) (hl : RepL K C B H l xs A1) (hA : ∀ q ∈ A1, q ∈ A) (n : A1.Nodup) (hC : ∀ q, C q → H q ≠ none ∧ q ∉ A) :
    ValA K A C B H (upd H p (.lst xs)) (.ref p) (.lst .own l) := by
  have t := RepL.trk l hl
  refine ⟨same_upd hp, p :: A1, C, List.nodup_cons.mpr ⟨fun z => (t p z).ne hp, n⟩, fun q hq => ?_, fun q c => ⟨.inl c, same_ne (same_upd hp) (hC q c).1, fun z => ?_⟩, rep_one.mpr (rep_own.mpr ⟨p, xs, A1, rfl, upd_same, rfl, RepL.tr (tr_same (same_upd hp)) l (fun q _ o e => same_upd hp q o e) hl⟩)⟩
  · rcases List.mem_cons.mp hq with rfl | hq
    · exact .inr hp
    · exact .inl (hA q hq)
  · rcases List.mem_cons.mp z with rfl | z
    · exact (hC _ c).1 hp
    · exact (hC q c).2 (hA q z)
theorem val_newT {A A1 : List Addr} {C : Addr → Prop} {B : Bool → Addr → Prop} {H : Hp} {l : List D} {xs : List V} {p : Addr} (hp : H p = none) (hl : RepL K C B H l xs A1) (hA : ∀ q ∈ A1, q ∈ A) (n : A1.Nodup) (hC : ∀ q, C q → H q ≠ none ∧ q ∉ A) :
    ValA K A C B H (upd H p (.tup xs)) (.ref p) (.tup l) :=
  ⟨same_upd hp, A1, C, n, fun q hq => .inl (hA q hq), fun q c => ⟨.inl c, same_ne (same_upd hp) (hC q c).1, fun z => (hC q c).2 (hA q z)⟩, rep_one.mpr (rep_tup.mpr ⟨p, xs, rfl, .inl (.inl upd_same), RepL.tr (tr_same (same_upd hp)) l (fun q _ o e => same_upd hp q o e) hl⟩)⟩
/-- a part of what is at hand, nothing made -/
theorem val_part {A A1 : List Addr} {C : Addr → Prop} {B : Bool → Addr → Prop} {H : Hp} {d : D} {v : V} (r : Rep K C B H d v A1) (hA : ∀ q ∈ A1, q ∈ A) (n : A1.Nodup) (hC : ∀ q, C q → H q ≠ none ∧ q ∉ A) : ValA K A C B H H v d :=
  ⟨Same.refl H, A1, C, n, fun q hq => .inl (hA q hq), fun q c => ⟨.inl c, (hC q c).1, fun z => (hC q c).2 (hA q z)⟩, rep_one.mpr r⟩
theorem ok_add : CallOk K (B2 (fun x y H Q => rI0 (fun i j => .int (i + j)) x y H Q ∨ (∃ i j, x = .str i ∧ y = .str j ∧ i.length + j.length ≤ sizeLine ∧ Q (.str (i ++ j)) H) ∨ rCatA K x y H Q ∨ rCatL K x y H Q)) (D2 gAdd) :=
  ok2 fun A A1 A2 C B H x y d e z Q eg r1 r2 eA nA hC k => by
    subst eA
    unfold gAdd at eg
    split at eg
    · rename_i i j
      injection eg with eg
      subst eg
      obtain ⟨rfl, _⟩ := rep_int.mp r1
      obtain ⟨rfl, _⟩ := rep_int.mp r2
      exact .inl ⟨i, j, rfl, rfl, k _ _ val_int⟩
    · rename_i a b
      split at eg
      · rename_i hz
        injection eg with eg
        subst eg
        obtain ⟨rfl, _⟩ := rep_str.mp r1
        obtain ⟨rfl, _⟩ := rep_str.mp r2
        exact .inr (.inl ⟨a, b, rfl, rfl, le_line hz, k _ _ val_str⟩)
      · cases eg
    · rename_i l m
      split at eg
      · rename_i hz
        injection eg with eg
        subst eg
        obtain ⟨p, xs, rfl, hs, hl⟩ := rep_tup.mp r1
        obtain ⟨q, ys, rfl, hs2, hl2⟩ := rep_tup.mp r2
        have n1 := (List.nodup_append.mp nA).1
        have n2 := (List.nodup_append.mp nA).2.1
        refine .inr (.inr (.inl ⟨p, q, xs, ys, rfl, rfl, hs, hs2, by rw [hl.length, hl2.length]; exact le_line hz, fun ex => ?_, fun _ ey => ?_, fun _ _ w hw => ?_⟩))
        · subst ex
          have hl0 : l = [] := by cases l with
            | nil => rfl
            | cons a b => have := hl.length; simp at this
          subst hl0
          exact k _ _ (val_part (A1 := A2) r2 (fun q hq => List.mem_append_right _ hq) n2 hC)
        · subst ey
          have hl0 : m = [] := by cases m with
            | nil => rfl
            | cons a b => have := hl2.length; simp at this
          subst hl0
          rw [List.append_nil] at k
          exact k _ _ (val_part (A1 := A1) r1 (fun q hq => List.mem_append_left _ hq) n1 hC)
        · exact k _ _ (val_newT hw (RepL.append hl hl2) (fun q hq => hq) nA hC)
      · cases eg
    · rename_i f l g m
      split at eg
      · rename_i hz
        injection eg with eg
        subst eg
        obtain ⟨p, xs, B1, rfl, hs, hl, b1, c1⟩ := rep_list r1
        obtain ⟨q, ys, B2, rfl, hs2, hl2, b2, c2⟩ := rep_list r2
        obtain ⟨n1, n2, dj⟩ := List.nodup_append.mp nA
        refine .inr (.inr (.inr ⟨p, q, xs, ys, rfl, rfl, hs, hs2, by rw [hl.length, hl2.length]; exact le_line hz, fun w hw => k _ _ (val_new hw (RepL.append hl hl2) (fun q hq => ?_) ?_ hC)⟩))
        · rcases List.mem_append.mp hq with hq | hq
          · exact List.mem_append_left _ (b1 q hq)
          · exact List.mem_append_right _ (b2 q hq)
        · exact List.nodup_append.mpr ⟨c1 n1, c2 n2, fun a ha b hb => dj a (b1 a ha) b (b2 b hb)⟩
      · cases eg
    · cases eg
theorem int2 {g : D → D → Option D} {r : R2} {P : Int → Int → Prop} {f : Int → Int → Int} (hg : ∀ d e z, g d e = some z → ∃ i j, d = .int i ∧ e = .int j ∧ P i j ∧ z = .int (f i j)) (hr : ∀ i j H (Q : VK), P i j → Q (.int (f i j)) H → r (.int i) (.int j) H Q) : CallOk K (B2 r) (D2 g) :=
  ok2 fun A A1 A2 C B H x y d e z Q eg r1 r2 eA nA hC k => by
    obtain ⟨i, j, rfl, rfl, p, rfl⟩ := hg d e z eg
    obtain ⟨rfl, _⟩ := rep_int.mp r1
    obtain ⟨rfl, _⟩ := rep_int.mp r2
    exact hr i j H Q p (k _ _ val_int)
theorem ok_sub : CallOk K (B2 (rI0 fun i j => .int (i - j))) (D2 gSub) := int2 (P := fun _ _ => True) (f := fun i j => i - j)
  (fun d e z h => by unfold gSub at h; split at h <;> first | (injection h with h; exact ⟨_, _, rfl, rfl, trivial, h.symm⟩) | cases h) fun i j H Q _ q => ⟨i, j, rfl, rfl, q⟩
theorem ok_fdiv : CallOk K (B2 (rI CDivW fun i j => .int (i / j))) (D2 gFdiv) := int2 (P := fun i j => 0 < j ∧ j.natAbs < big) (f := fun i j => i / j)
  (fun d e z h => by
    unfold gFdiv at h
    split at h
    · split at h
      · rename_i hp; injection h with h; exact ⟨_, _, rfl, rfl, hp, h.symm⟩
      · cases h
    · cases h) fun i j H Q p q => ⟨i, j, rfl, rfl, wide_div p.1 (b := 8000) p.2 (by decide) (by decide), q⟩
theorem ok_mod : CallOk K (B2 (rI (fun _ j => 0 < j) fun i j => .int (i % j))) (D2 gMod) := int2 (P := fun i j => 0 < j) (f := fun i j => i % j)
  (fun d e z h => by
    unfold gMod at h
    split at h
    · split at h
      · rename_i hp; injection h with h; exact ⟨_, _, rfl, rfl, hp, h.symm⟩
      · cases h
    · cases h) fun i j H Q p q => ⟨i, j, rfl, rfl, p, q⟩
theorem ok_pow : CallOk K (B2 (rI CPow fun i j => .int (i ^ j.toNat))) (D2 gPow) := int2 (P := CPow) (f := fun i j => i ^ j.toNat)
  (fun d e z h => by
    unfold gPow at h
    split at h
    · split at h
      · rename_i hp; injection h with h; exact ⟨_, _, rfl, rfl, hp, h.symm⟩
      · cases h
    · cases h) fun i j H Q p q => ⟨i, j, rfl, rfl, p, q⟩
theorem ok_xor : CallOk K (B2 (rI0 fun i j => .int (Builtin.bitXor i j))) (D2 gXor) := int2 (P := fun _ _ => True) (f := fun i j => Builtin.bitXor i j)
  (fun d e z h => by unfold gXor at h; split at h <;> first | (injection h with h; exact ⟨_, _, rfl, rfl, trivial, h.symm⟩) | cases h) fun i j H Q _ q => ⟨i, j, rfl, rfl, q⟩
theorem ok_neg : CallOk K (B1 (rU fun i => .int (-i))) (D1 gNeg) := ok1 fun A C B H x d z Q eg r1 nA hC k => by
  unfold gNeg at eg
  split at eg
  · rename_i i
    injection eg with eg
    subst eg
    obtain ⟨rfl, _⟩ := rep_int.mp r1
    exact ⟨i, rfl, k _ _ val_int⟩
  · cases eg
theorem repL_rep {l : List D} {xs : List V} {C : Addr → Prop} {B : Bool → Addr → Prop} {H : Hp} (h : RepL K C B H l xs []) : ∀ n : Nat, RepL K C B H (List.replicate n l).flatten (List.replicate n xs).flatten []
  | 0 => by simpa using repL_nil.mpr ⟨rfl, rfl⟩
  | n + 1 => by
    rw [List.replicate_succ, List.replicate_succ, List.flatten_cons, List.flatten_cons]
    exact RepL.append h (repL_rep h n)
theorem ok_mul : CallOk K (B2 (fun x y H Q => rI CMulW (fun i j => .int (i * j)) x y H Q ∨ rRep x y H Q)) (D2 gMul) :=
  ok2 fun A A1 A2 C B H x y d e z Q eg r1 r2 eA nA hC k => by
    unfold gMul at eg
    split at eg
    · rename_i i j
      split at eg
      · rename_i hp
        injection eg with eg
        subst eg
        obtain ⟨rfl, _⟩ := rep_int.mp r1
        obtain ⟨rfl, _⟩ := rep_int.mp r2
        exact .inl ⟨i, j, rfl, rfl, wide_mul (a := 8000) (b := 8000) hp.1 hp.2 (by decide) (by decide) (by decide), k _ _ val_int⟩
      · cases eg
    · rename_i l j
      split at eg
      · rename_i hp
        injection eg with eg
        subst eg
        obtain ⟨p, xs, A3, rfl, hs, rfl, hl⟩ := rep_own.mp r1
        obtain ⟨rfl, rfl⟩ := rep_int.mp r2
        obtain rfl := RepL.noOw l hp.2.2.2 hl
        refine .inr ⟨p, j, xs, rfl, rfl, hs, hp.2.1, hp.1, by rw [hl.length]; exact le_line hp.2.2.1, fun w hw => k _ _ (val_new hw (repL_rep hl _) nil_all List.nodup_nil hC)⟩
      · cases eg
    · cases eg
end
end Fe

/-! Fe7: comparisons, displays, subscripts, slices, truth. -/
namespace Fe
open PySem L2
mutual
def D.py : D → PyData
  | .non => .none
  | .bl b => .bool b
  | .int i => .int i
  | .str x => .str x
  | .tup l => .tuple (pyL l)
  | .lst _ l => .list (pyL l)
  | .dk _ _ _ => .dict []
def pyL : List D → List PyData
  | [] => []
  | d :: r => d.py :: pyL r
end
section
variable {K : PySem.W.Frag} {C : Addr → Prop} {B : Bool → Addr → Prop} {H : Hp}
mutual
theorem Rep.dp : ∀ (d : D) {v : V} {A : List Addr}, d.py.canLay0 = true → Rep K C B H d v A → Dp K H v d.py
  | .non, _, _, _, h => by rw [(rep_non.mp h).1]; exact .non
  | .bl b, _, _, _, h => by rw [(rep_bl.mp h).1]; exact .bl b
  | .int b, _, _, _, h => by rw [(rep_int.mp h).1]; exact .int b
  | .str b, _, _, _, h => by rw [(rep_str.mp h).1]; exact .str b
  | .tup l, _, _, n, h => by
    obtain ⟨p, xs, rfl, hs, hl⟩ := rep_tup.mp h
    exact .tup hs (RepL.dp l (by simpa [D.py, PyData.canLay0] using n) hl)
  | .lst f l, _, _, n, h => by
    obtain ⟨p, xs, A1, rfl, hs, hl, _, _⟩ := rep_list h
    exact .lst hs (RepL.dp l (by simpa [D.py, PyData.canLay0] using n) hl)
  | .dk f k l, _, _, n, h => by simp [D.py, PyData.canLay0] at n
theorem RepL.dp : ∀ (l : List D) {xs : List V} {A : List Addr}, PyData.canLayAll0 (pyL l) = true → RepL K C B H l xs A → DpAll K H xs (pyL l)
  | [], _, _, _, h => by rw [(repL_nil.mp h).1]; exact .nil
  | d :: r, _, _, n, h => by
    obtain ⟨v, vr, A1, A2, rfl, eA, h1, h2⟩ := repL_cons.mp h
    have n' : d.py.canLay0 = true ∧ PyData.canLayAll0 (pyL r) = true := by simpa [pyL, PyData.canLayAll0] using n
    exact .cons (Rep.dp d n'.1 h1) (RepL.dp r n'.2 h2)
end
end
def shp (d : D) : Bool := SeqAt.shaped d.py
def eqD (a b : D) : Bool := PyData.eqv a.py b.py
def gEq (a b : D) : Option D := if shp a = true ∧ shp b = true then some (.bl (eqD a b)) else none
def gNe (a b : D) : Option D := if shp a = true ∧ shp b = true then some (.bl (!eqD a b)) else none
/-- a seq's items -/
def seqL : D → Option (List D)
  | .tup l => some l
  | .lst _ l => some l
  | _ => none
def inD (a : D) (l : List D) : Bool := l.any fun z => eqD z a
def gIn (a b : D) : Option D := match b with
  | .tup l => if shp a = true ∧ shp b = true then some (.bl (inD a l)) else none
  | .lst _ l => if shp a = true ∧ shp b = true then some (.bl (inD a l)) else none
  | _ => none
def gNotIn (a b : D) : Option D := match b with
  | .tup l => if shp a = true ∧ shp b = true then some (.bl (!inD a l)) else none
  | .lst _ l => if shp a = true ∧ shp b = true then some (.bl (!inD a l)) else none
  | _ => none
def intsOf : List D → Option (List Int)
  | [] => some []
  | .int i :: r => (intsOf r).map (i :: ·)
  | _ :: _ => none
def gLt : D → D → Option D
  | .int i, .int j => some (.bl (decide (i < j)))
  | .tup l, .tup m => match intsOf l, intsOf m with
    | some a, some b => some (.bl (HT.lexLt a b))
    | _, _ => none
  | _, _ => none
def gLe : D → D → Option D
  | .int i, .int j => some (.bl (decide (i ≤ j)))
  | _, _ => none
def gGt : D → D → Option D
  | .int i, .int j => some (.bl (decide (j < i)))
  | _, _ => none
def gGe : D → D → Option D
  | .int i, .int j => some (.bl (decide (j ≤ i)))
  | _, _ => none
/-- is, is not: of truths, or beside None -/
def gIs : D → D → Option D
  | .bl a, .bl b => some (.bl (decide (a = b)))
  | .non, .non => some (.bl true)
  | .bl _, .non => some (.bl false)
  | .int _, .non => some (.bl false)
  | .str _, .non => some (.bl false)
  | .tup _, .non => some (.bl false)
  | .lst _ _, .non => some (.bl false)
  | .dk _ _ _, .non => some (.bl false)
  | _, _ => none
def gIsNot (a b : D) : Option D := match gIs a b with
  | some (.bl k) => some (.bl (!k))
  | _ => none
section
variable {K : PySem.W.Frag}
theorem pyL_map : ∀ l : List D, pyL l = l.map D.py
  | [] => rfl
  | d :: r => by simp [pyL, pyL_map r]
theorem inD_py {a : D} {l : List D} : ((pyL l).any fun z => PyData.eqv z a.py) = inD a l := by
  unfold inD
  rw [pyL_map, List.any_map]
  rfl
theorem ok_eq : CallOk K (B2 (rEqD K)) (D2 gEq) := ok2 fun A A1 A2 C B H x y d e z Q eg r1 r2 eA nA hC k => by
  unfold gEq at eg
  split at eg
  · rename_i h
    injection eg with eg
    subst eg
    exact ⟨d.py, e.py, Rep.dp d (SeqAt.canLay_of_shaped h.1) r1, Rep.dp e (SeqAt.canLay_of_shaped h.2) r2, h.1, h.2, k _ _ val_bl⟩
  · cases eg
theorem ok_ne : CallOk K (B2 (rNeD K)) (D2 gNe) := ok2 fun A A1 A2 C B H x y d e z Q eg r1 r2 eA nA hC k => by
  unfold gNe at eg
  split at eg
  · rename_i h
    injection eg with eg
    subst eg
    exact ⟨d.py, e.py, Rep.dp d (SeqAt.canLay_of_shaped h.1) r1, Rep.dp e (SeqAt.canLay_of_shaped h.2) r2, h.1, h.2, k _ _ val_bl⟩
  · cases eg
/-- in, not in, of a list or a tuple -/
def rInQ (K : PySem.W.Frag) (neg : Bool) : R2 := fun x y H Q => ∃ d ds, Dp K H x d ∧ (Dp K H y (.list ds) ∨ Dp K H y (.tuple ds)) ∧ SeqAt.shaped d = true ∧ SeqAt.shaped (.list ds) = true ∧ Q (.bl (if neg = true then !(ds.any fun z => PyData.eqv z d) else (ds.any fun z => PyData.eqv z d))) H
theorem shaped_lt {ds : List PyData} : SeqAt.shaped (.tuple ds) = SeqAt.shaped (.list ds) := rfl
theorem room_q {d : PyData} {ds : List PyData} {A : Around} (h : SeqAt.shaped d = true) (hu : A.units + 65 < cLine) : A.units + 1 + min (PyData.depthAll ds) d.depth < cLine := by
  have h1 := SeqAt.depth_of_shaped h
  have h2 : min (PyData.depthAll ds) d.depth ≤ d.depth := Nat.min_le_right _ _
  omega
theorem op_inQ {X : Cx} (hu : X.A.units + 65 < cLine) : OpR X (compareOp .In) (rInQ X.K false) := by
  intro pins s σ H x y v u Q I rx ry h
  obtain ⟨d, ds, hd, he, sd, se, q⟩ := h
  obtain ⟨as, r1⟩ := Dp.reads I d x v hd rx
  rcases he with he | he
  · obtain ⟨bs, r2⟩ := Dp.reads I (.list ds) y u he ry
    exact SeqAt.in_list_reads r2 r1 (SeqAt.canLay_of_shaped se) (SeqAt.canLay_of_shaped sd) (room_q sd hu) ⟨.bl _, H, I, rfl, q⟩
  · obtain ⟨bs, r2⟩ := Dp.reads I (.tuple ds) y u he ry
    exact SeqAt.in_tuple_reads r2 r1 (SeqAt.canLay_of_shaped se) (SeqAt.canLay_of_shaped sd) (room_q sd hu) ⟨.bl _, H, I, rfl, q⟩
theorem op_notInQ {X : Cx} (hu : X.A.units + 65 < cLine) : OpR X (compareOp .NotIn) (rInQ X.K true) := by
  intro pins s σ H x y v u Q I rx ry h
  obtain ⟨d, ds, hd, he, sd, se, q⟩ := h
  obtain ⟨as, r1⟩ := Dp.reads I d x v hd rx
  rcases he with he | he
  · obtain ⟨bs, r2⟩ := Dp.reads I (.list ds) y u he ry
    exact SeqAt.notIn_list_reads r2 r1 (SeqAt.canLay_of_shaped se) (SeqAt.canLay_of_shaped sd) (room_q sd hu) ⟨.bl _, H, I, rfl, q⟩
  · obtain ⟨bs, r2⟩ := Dp.reads I (.tuple ds) y u he ry
    exact SeqAt.notIn_tuple_reads r2 r1 (SeqAt.canLay_of_shaped se) (SeqAt.canLay_of_shaped sd) (room_q sd hu) ⟨.bl _, H, I, rfl, q⟩
theorem ok_in : CallOk K (B2 (rInQ K false)) (D2 gIn) := ok2 fun A A1 A2 C B H x y d e z Q eg r1 r2 eA nA hC k => by
  unfold gIn at eg
  split at eg
  · rename_i l
    split at eg
    · rename_i h
      injection eg with eg
      subst eg
      refine ⟨d.py, pyL l, Rep.dp d (SeqAt.canLay_of_shaped h.1) r1, .inr (Rep.dp (.tup l) (SeqAt.canLay_of_shaped h.2) r2), h.1, h.2, ?_⟩
      rw [if_neg Bool.false_ne_true, inD_py]
      exact k _ _ val_bl
    · cases eg
  · rename_i f l
    split at eg
    · rename_i h
      injection eg with eg
      subst eg
      refine ⟨d.py, pyL l, Rep.dp d (SeqAt.canLay_of_shaped h.1) r1, .inl (Rep.dp (.lst f l) (SeqAt.canLay_of_shaped h.2) r2), h.1, h.2, ?_⟩
      rw [if_neg Bool.false_ne_true, inD_py]
      exact k _ _ val_bl
    · cases eg
  · cases eg
theorem ok_notIn : CallOk K (B2 (rInQ K true)) (D2 gNotIn) := ok2 fun A A1 A2 C B H x y d e z Q eg r1 r2 eA nA hC k => by
  unfold gNotIn at eg
  split at eg
  · rename_i l
    split at eg
    · rename_i h
      injection eg with eg
      subst eg
      refine ⟨d.py, pyL l, Rep.dp d (SeqAt.canLay_of_shaped h.1) r1, .inr (Rep.dp (.tup l) (SeqAt.canLay_of_shaped h.2) r2), h.1, h.2, ?_⟩
      rw [if_pos rfl, inD_py]
      exact k _ _ val_bl
    · cases eg
  · rename_i f l
    split at eg
    · rename_i h
      injection eg with eg
      subst eg
      refine ⟨d.py, pyL l, Rep.dp d (SeqAt.canLay_of_shaped h.1) r1, .inl (Rep.dp (.lst f l) (SeqAt.canLay_of_shaped h.2) r2), h.1, h.2, ?_⟩
      rw [if_pos rfl, inD_py]
      exact k _ _ val_bl
    · cases eg
  · cases eg
theorem intsOf_rep {C : Addr → Prop} {B : Bool → Addr → Prop} {H : Hp} : ∀ {l : List D} {ns : List Int} {xs : List V} {A : List Addr}, intsOf l = some ns → RepL K C B H l xs A → xs = ns.map V.int
  | [], ns, xs, A, e, h => by
    injection e with e
    subst e
    exact (repL_nil.mp h).1
  | .int i :: r, ns, xs, A, e, h => by
    obtain ⟨v, vr, A1, A2, rfl, eA, h1, h2⟩ := repL_cons.mp h
    unfold intsOf at e
    cases e1 : intsOf r with
    | none => rw [e1] at e; cases e
    | some ms =>
      rw [e1] at e
      injection e with e
      subst e
      rw [(rep_int.mp h1).1, intsOf_rep e1 h2]
      rfl
  | .non :: r, ns, xs, A, e, h => by cases e
  | .bl _ :: r, ns, xs, A, e, h => by cases e
  | .str _ :: r, ns, xs, A, e, h => by cases e
  | .tup _ :: r, ns, xs, A, e, h => by cases e
  | .lst _ _ :: r, ns, xs, A, e, h => by cases e
  | .dk _ _ _ :: r, ns, xs, A, e, h => by cases e
theorem ok_lt : CallOk K (B2 (fun x y H Q => rI0 (fun i j => .bl (decide (i < j))) x y H Q ∨ rLtT K x y H Q)) (D2 gLt) := ok2 fun A A1 A2 C B H x y d e z Q eg r1 r2 eA nA hC k => by
  unfold gLt at eg
  split at eg
  · rename_i i j
    injection eg with eg
    subst eg
    obtain ⟨rfl, _⟩ := rep_int.mp r1
    obtain ⟨rfl, _⟩ := rep_int.mp r2
    exact .inl ⟨i, j, rfl, rfl, k _ _ val_bl⟩
  · rename_i l m
    split at eg
    · rename_i a b ea eb
      injection eg with eg
      subst eg
      obtain ⟨p, xs, rfl, hs, hl⟩ := rep_tup.mp r1
      obtain ⟨q, ys, rfl, hs2, hl2⟩ := rep_tup.mp r2
      rw [intsOf_rep ea hl] at hs
      rw [intsOf_rep eb hl2] at hs2
      exact .inr ⟨p, q, a, b, rfl, rfl, hs, hs2, k _ _ val_bl⟩
    · cases eg
  · cases eg
theorem intB {g : D → D → Option D} {f : Int → Int → Bool} (hg : ∀ d e z, g d e = some z → ∃ i j, d = .int i ∧ e = .int j ∧ z = .bl (f i j)) : CallOk K (B2 (rI0 fun i j => .bl (f i j))) (D2 g) :=
  ok2 fun A A1 A2 C B H x y d e z Q eg r1 r2 eA nA hC k => by
    obtain ⟨i, j, rfl, rfl, rfl⟩ := hg d e z eg
    obtain ⟨rfl, _⟩ := rep_int.mp r1
    obtain ⟨rfl, _⟩ := rep_int.mp r2
    exact ⟨i, j, rfl, rfl, k _ _ val_bl⟩
theorem ok_le : CallOk K (B2 (rI0 fun i j => .bl (decide (i ≤ j)))) (D2 gLe) := intB fun d e z h => by unfold gLe at h; split at h <;> first | (injection h with h; exact ⟨_, _, rfl, rfl, h.symm⟩) | cases h
theorem ok_gt : CallOk K (B2 (rI0 fun i j => .bl (decide (j < i)))) (D2 gGt) := intB fun d e z h => by unfold gGt at h; split at h <;> first | (injection h with h; exact ⟨_, _, rfl, rfl, h.symm⟩) | cases h
theorem ok_ge : CallOk K (B2 (rI0 fun i j => .bl (decide (j ≤ i)))) (D2 gGe) := intB fun d e z h => by unfold gGe at h; split at h <;> first | (injection h with h; exact ⟨_, _, rfl, rfl, h.symm⟩) | cases h
theorem ref_of_list {C : Addr → Prop} {B : Bool → Addr → Prop} {H : Hp} {f l v A} (h : Rep K C B H (.lst f l) v A) : ∃ p, v = .ref p := by
  obtain ⟨p, _, _, e, _⟩ := rep_list h
  exact ⟨p, e⟩
theorem ref_of_dk {C : Addr → Prop} {B : Bool → Addr → Prop} {H : Hp} {f k l v A} (h : Rep K C B H (.dk f k l) v A) : ∃ p, v = .ref p := by
  cases f with
  | own => obtain ⟨p, _, _, e, _⟩ := rep_dkown.mp h; exact ⟨p, e⟩
  | cl => obtain ⟨p, _, e, _⟩ := rep_dkcl.mp h; exact ⟨p, e⟩
  | bw => obtain ⟨p, _, e, _⟩ := rep_dkbw.mp h; exact ⟨p, e⟩
  | bo => obtain ⟨p, _, e, _⟩ := rep_dkbo.mp h; exact ⟨p, e⟩
theorem is_core {C : Addr → Prop} {B : Bool → Addr → Prop} {H : Hp} {x y : V} {d e z : D} {A1 A2 : List Addr} (eg : gIs d e = some z) (r1 : Rep K C B H d x A1) (r2 : Rep K C B H e y A2) :
    (∃ a b : Bool, x = .bl a ∧ y = .bl b ∧ z = .bl (decide (a = b))) ∨ (y = .non ∧ z = .bl (decide (x = .non))) := by
  unfold gIs at eg
  split at eg <;> first | cases eg | skip
  · exact .inl ⟨_, _, (rep_bl.mp r1).1, (rep_bl.mp r2).1, rfl⟩
  · exact .inr ⟨(rep_non.mp r2).1, by rw [(rep_non.mp r1).1]; rfl⟩
  · exact .inr ⟨(rep_non.mp r2).1, by rw [(rep_bl.mp r1).1]; rfl⟩
  · exact .inr ⟨(rep_non.mp r2).1, by rw [(rep_int.mp r1).1]; rfl⟩
  · exact .inr ⟨(rep_non.mp r2).1, by rw [(rep_str.mp r1).1]; rfl⟩
  · obtain ⟨p, xs, rfl, _⟩ := rep_tup.mp r1
    exact .inr ⟨(rep_non.mp r2).1, rfl⟩
  · obtain ⟨p, rfl⟩ := ref_of_list r1
    exact .inr ⟨(rep_non.mp r2).1, rfl⟩
  · obtain ⟨p, rfl⟩ := ref_of_dk r1
    exact .inr ⟨(rep_non.mp r2).1, rfl⟩
theorem ok_is : CallOk K (B2 (fun x y H Q => rIsB x y H Q ∨ (y = .non ∧ Q (.bl (decide (x = .non))) H))) (D2 gIs) := ok2 fun A A1 A2 C B H x y d e z Q eg r1 r2 eA nA hC k => by
  rcases is_core eg r1 r2 with ⟨a, b, rfl, rfl, rfl⟩ | ⟨rfl, rfl⟩
  · exact .inl ⟨a, b, rfl, rfl, k _ _ val_bl⟩
  · exact .inr ⟨rfl, k _ _ val_bl⟩
theorem ok_isNot : CallOk K (B2 (fun x y H Q => rNotB x y H Q ∨ (y = .non ∧ Q (.bl (!decide (x = .non))) H))) (D2 gIsNot) := ok2 fun A A1 A2 C B H x y d e z Q eg r1 r2 eA nA hC k => by
  unfold gIsNot at eg
  split at eg
  · rename_i kk e0
    injection eg with eg
    subst eg
    rcases is_core e0 r1 r2 with ⟨a, b, rfl, rfl, e1⟩ | ⟨rfl, e1⟩
    · injection e1 with e1
      subst e1
      exact .inl ⟨a, b, rfl, rfl, k _ _ val_bl⟩
    · injection e1 with e1
      subst e1
      exact .inr ⟨rfl, k _ _ val_bl⟩
  · cases eg
end
/-! ### displays, subscripts, slices -/
def gTup (l : List D) : Option D := if l.length ≤ 16777216 then some (.tup l) else none
def gLst (l : List D) : Option D := if l.length ≤ 16777216 then some (.lst .own l) else none
/-- t[i], xs[i] -/
def gIx : D → D → Option D
  | .tup l, .int i => atI l i
  | .lst _ l, .int i => atI l i
  | .str z, .int i => if z.length ≤ 16777216 then (atI z.cps.toList i).map fun c => .str ⟨#[c]⟩ else none
  | _, _ => none
def gSl (lo hi : Option Int) : D → Option D
  | .tup l => some (.tup ((l.drop (HT.sIx l.length 0 lo)).take (HT.sIx l.length l.length hi - HT.sIx l.length 0 lo)))
  | .lst _ l => some (.lst .own ((l.drop (HT.sIx l.length 0 lo)).take (HT.sIx l.length l.length hi - HT.sIx l.length 0 lo)))
  | _ => none
section
variable {K : PySem.W.Frag}
theorem ok_tup : CallOk K (fun vs H Q => vs.length ≤ sizeLine ∧ ∀ p, H p = none → Q (.ref p) (upd H p (.tup vs))) (DL gTup) := by
  intro A C B H vs ds z Q e rl n c k
  have e := ofO_ok e
  unfold gTup at e
  split at e
  · rename_i h
    injection e with e
    subst e
    exact ⟨by rw [rl.length]; exact le_line h, fun p hp => k _ _ (val_newT hp rl (fun q hq => hq) n c)⟩
  · cases e
theorem ok_lst : CallOk K (fun vs H Q => vs.length ≤ sizeLine ∧ ∀ p, H p = none → Q (.ref p) (upd H p (.lst vs))) (DL gLst) := by
  intro A C B H vs ds z Q e rl n c k
  have e := ofO_ok e
  unfold gLst at e
  split at e
  · rename_i h
    injection e with e
    subst e
    exact ⟨by rw [rl.length]; exact le_line h, fun p hp => k _ _ (val_new hp rl (fun q hq => hq) n c)⟩
  · cases e
theorem atI_rep {C : Addr → Prop} {B : Bool → Addr → Prop} {H : Hp} {l : List D} {xs : List V} {A : List Addr} {i : Int} {d : D} (h : RepL K C B H l xs A) (e : atI l i = some d) : ∃ v A1, atI xs i = some v ∧ Rep K C B H d v A1 ∧ (∀ q ∈ A1, q ∈ A) ∧ (A.Nodup → A1.Nodup) := by
  unfold atI at e ⊢
  rw [h.length]
  cases q : ixN l.length i with
  | none => rw [q] at e; cases e
  | some j =>
    rw [q] at e
    exact RepL.get h e
theorem ok_ix : CallOk K (B2 (fun x y H Q => rIxL K x y H Q ∨ rIxT K x y H Q ∨ rIxS x y H Q)) (D2 gIx) := ok2 fun A A1 A2 C B H x y d e z Q eg r1 r2 eA nA hC k => by
  subst eA
  unfold gIx at eg
  split at eg
  · rename_i l i
    obtain ⟨rfl, rfl⟩ := rep_int.mp r2
    obtain ⟨p, xs, rfl, hs, hl⟩ := rep_tup.mp r1
    obtain ⟨v, A3, q1, q2, q3, q4⟩ := atI_rep hl eg
    exact .inr (.inl ⟨p, xs, i, v, rfl, rfl, hs, q1, k _ _ (val_part q2 (fun q hq => List.mem_append_left _ (q3 q hq)) (q4 (List.nodup_append.mp nA).1) hC)⟩)
  · rename_i f l i
    obtain ⟨rfl, rfl⟩ := rep_int.mp r2
    obtain ⟨p, xs, B1, rfl, hs, hl, b1, c1⟩ := rep_list r1
    obtain ⟨v, A3, q1, q2, q3, q4⟩ := atI_rep hl eg
    exact .inl ⟨p, xs, i, v, rfl, rfl, hs, q1, k _ _ (val_part q2 (fun q hq => List.mem_append_left _ (b1 q (q3 q hq))) (q4 (c1 (List.nodup_append.mp nA).1)) hC)⟩
  · rename_i w i
    obtain ⟨rfl, rfl⟩ := rep_int.mp r2
    obtain ⟨rfl, rfl⟩ := rep_str.mp r1
    split at eg
    · rename_i hz
      cases q : atI w.cps.toList i with
      | none => rw [q] at eg; cases eg
      | some c =>
        rw [q] at eg
        injection eg with eg
        subst eg
        exact .inr (.inr ⟨w, i, c, rfl, rfl, le_line hz, q, k _ _ val_str⟩)
    · cases eg
  · cases eg
theorem repL_drop {C : Addr → Prop} {B : Bool → Addr → Prop} {H : Hp} : ∀ {l : List D} {xs : List V} {A : List Addr} (n : Nat), RepL K C B H l xs A → ∃ A1, RepL K C B H (l.drop n) (xs.drop n) A1 ∧ (∀ q ∈ A1, q ∈ A) ∧ (A.Nodup → A1.Nodup)
  | l, xs, A, 0, h => ⟨A, by simpa using h, fun q hq => hq, id⟩
  | [], xs, A, n + 1, h => by
    obtain ⟨rfl, rfl⟩ := repL_nil.mp h
    exact ⟨[], by simpa using repL_nil.mpr ⟨rfl, rfl⟩, fun q hq => hq, id⟩
  | d :: r, xs, A, n + 1, h => by
    obtain ⟨v, vr, A1, A2, rfl, rfl, h1, h2⟩ := repL_cons.mp h
    obtain ⟨A3, q1, q2, q3⟩ := repL_drop n h2
    exact ⟨A3, by simpa using q1, fun q hq => List.mem_append_right _ (q2 q hq), fun z => q3 (List.nodup_append.mp z).2.1⟩
theorem repL_take {C : Addr → Prop} {B : Bool → Addr → Prop} {H : Hp} : ∀ {l : List D} {xs : List V} {A : List Addr} (n : Nat), RepL K C B H l xs A → ∃ A1, RepL K C B H (l.take n) (xs.take n) A1 ∧ (∀ q ∈ A1, q ∈ A) ∧ (A.Nodup → A1.Nodup)
  | l, xs, A, 0, h => ⟨[], by simpa using repL_nil.mpr ⟨rfl, rfl⟩, fun q hq => (nomatch hq), fun _ => List.nodup_nil⟩
  | [], xs, A, n + 1, h => by
    obtain ⟨rfl, rfl⟩ := repL_nil.mp h
    exact ⟨[], by simpa using repL_nil.mpr ⟨rfl, rfl⟩, fun q hq => hq, id⟩
  | d :: r, xs, A, n + 1, h => by
    obtain ⟨v, vr, A1, A2, rfl, rfl, h1, h2⟩ := repL_cons.mp h
    obtain ⟨A3, q1, q2, q3⟩ := repL_take n h2
    refine ⟨A1 ++ A3, by simpa using repL_cons.mpr ⟨v, vr.take n, A1, A3, rfl, rfl, h1, q1⟩, fun q hq => ?_, fun z => ?_⟩
    · rcases List.mem_append.mp hq with hq | hq
      · exact List.mem_append_left _ hq
      · exact List.mem_append_right _ (q2 q hq)
    · obtain ⟨z1, z2, z3⟩ := List.nodup_append.mp z
      exact List.nodup_append.mpr ⟨z1, q3 z2, fun a ha b hb => z3 a ha b (q2 b hb)⟩
theorem repL_cut {C : Addr → Prop} {B : Bool → Addr → Prop} {H : Hp} {l : List D} {xs : List V} {A : List Addr} {lo hi : Option Int} (h : RepL K C B H l xs A) :
    ∃ A1, RepL K C B H ((l.drop (HT.sIx l.length 0 lo)).take (HT.sIx l.length l.length hi - HT.sIx l.length 0 lo)) (cutV xs lo hi) A1 ∧ (∀ q ∈ A1, q ∈ A) ∧ (A.Nodup → A1.Nodup) := by
  unfold cutV
  rw [h.length]
  obtain ⟨A1, a1, a2, a3⟩ := repL_drop (HT.sIx l.length 0 lo) h
  obtain ⟨A2, b1, b2, b3⟩ := repL_take (HT.sIx l.length l.length hi - HT.sIx l.length 0 lo) a1
  exact ⟨A2, b1, fun q hq => a2 q (b2 q hq), fun n => b3 (a3 n)⟩
theorem ok_sl {lo hi : Option Int} : CallOk K (B1 (fun x H Q => rSlL K x lo hi H Q ∨ rSlA K x lo hi H Q)) (D1 (gSl lo hi)) := ok1 fun A C B H x d z Q eg r1 nA hC k => by
  unfold gSl at eg
  split at eg
  · rename_i l
    injection eg with eg
    subst eg
    obtain ⟨p, xs, rfl, hs, hl⟩ := rep_tup.mp r1
    obtain ⟨A1, a1, a2, a3⟩ := repL_cut (lo := lo) (hi := hi) hl
    refine .inr ⟨p, xs, rfl, hs, fun w => ?_, fun _ q hq => k _ _ (val_newT hq a1 a2 (a3 nA) hC)⟩
    rw [hl.length] at w
    rw [w.1, w.2, List.drop_zero, Nat.sub_zero, List.take_length] at k
    exact k _ _ (val_part r1 (fun q hq => hq) nA hC)
  · rename_i f l
    injection eg with eg
    subst eg
    obtain ⟨p, xs, B1, rfl, hs, hl, b1, c1⟩ := rep_list r1
    obtain ⟨A1, a1, a2, a3⟩ := repL_cut (lo := lo) (hi := hi) hl
    exact .inl ⟨p, xs, rfl, hs, fun q hq => k _ _ (val_new hq a1 (fun z hz => b1 z (a2 z hz)) (a3 (c1 nA)) hC)⟩
  · cases eg
end
end Fe

/-! Fe8: and, or, not, chains, slices, built-ins, calls of defs, lists changed in place. -/
namespace Fe
open PySem L2
def andR (x : R D) (y : R D) : R D := x.bind fun d => match d with
  | .bl true => y
  | .bl false => .ok (.bl false)
  | _ => .stk
def orR (x : R D) (y : R D) : R D := x.bind fun d => match d with
  | .bl false => y
  | .bl true => .ok (.bl true)
  | _ => .stk
def notR (x : R D) : R D := x.bind fun d => match d with
  | .bl b => .ok (.bl (!b))
  | _ => .stk
def iteR (c x y : R D) : R D := c.bind fun d => match d with
  | .bl true => x
  | .bl false => y
  | _ => .stk
section
variable {X : Cx} {F : Fr} {W : WX} {G : Gh} {H H' H1 : Hp} {σ : L2.St} {s : SD}
theorem val_is_bl {K : PySem.W.Frag} {C : Addr → Prop} {B : Bool → Addr → Prop} {v : V} {b : Bool} (x : Val K C B H H' v (.bl b)) : v = .bl b := by
  obtain ⟨A2, C2, _, _, _, r⟩ := x.ex
  exact (rep_bl.mp (rep_one.mp r)).1
theorem val_is_int {K : PySem.W.Frag} {C : Addr → Prop} {B : Bool → Addr → Prop} {v : V} {b : Int} (x : Val K C B H H' v (.int b)) : v = .int b := by
  obtain ⟨A2, C2, _, _, _, r⟩ := x.ex
  exact (rep_int.mp (rep_one.mp r)).1
theorem OutE.later {Q : VK} (e : Same H H1) : ∀ {x : R D}, OutE F W G σ H Q x → OutE F W G σ H1 Q x
  | .ok d, h => fun v H' x => h v H' (x.since e nil_all fun _ c => .inl c)
  | .rs c p, h => fun H' dct a b => h H' dct (e.trans a) b
  | .stk, h => h
theorem OutT.later {Q : Bool → Hp → Prop} (e : Same H H1) : ∀ {x : R D}, OutT F W G σ H Q x → OutT F W G σ H1 Q x
  | .ok d, h => by
    cases d with
    | bl b => exact fun H' a => h H' (e.trans a)
    | _ => exact h
  | .rs c p, h => fun H' dct a b => h H' dct (e.trans a) b
  | .stk, h => h
theorem se_and {a b : Expr} {rest : List Expr} {fa fb : SD → R D} {pos : Pos} (ha : SE X F W a fa) (hb : SE X F W (.BoolOp .And (b :: rest) pos) fb) : SE X F W (.BoolOp .And (a :: b :: rest) pos) (fun s => andR (fa s) (fb s)) := by
  refine PE.imp (pe_and ha hb) fun σ H Q ⟨G, s, t, o⟩ => ?_
  refine liftE_part t (Same.refl H) o fun d o v H' x => ?_
  cases d with
  | bl k =>
    refine ⟨k, val_is_bl x, ?_⟩
    cases k with
    | true => exact iteT ⟨G, s, t.later x.same, OutE.later x.same o⟩
    | false => exact iteF ((OutE.later x.same o) _ _ val_bl)
  | _ => exact o.elim
theorem se_or {a b : Expr} {rest : List Expr} {fa fb : SD → R D} {pos : Pos} (ha : SE X F W a fa) (hb : SE X F W (.BoolOp .Or (b :: rest) pos) fb) : SE X F W (.BoolOp .Or (a :: b :: rest) pos) (fun s => orR (fa s) (fb s)) := by
  refine PE.imp (pe_or ha hb) fun σ H Q ⟨G, s, t, o⟩ => ?_
  refine liftE_part t (Same.refl H) o fun d o v H' x => ?_
  cases d with
  | bl k =>
    refine ⟨k, val_is_bl x, ?_⟩
    cases k with
    | true => exact iteT ((OutE.later x.same o) _ _ val_bl)
    | false => exact iteF ⟨G, s, t.later x.same, OutE.later x.same o⟩
  | _ => exact o.elim
theorem se_one {op : BoolOp} {a : Expr} {fa : SD → R D} {pos : Pos} (ha : SE X F W a fa) : SE X F W (.BoolOp op [a] pos) fa := pe_one ha
theorem se_not {a : Expr} {fa : SD → R D} {pos : Pos} (ha : SE X F W a fa) : SE X F W (.UnaryOp .Not a pos) (fun s => notR (fa s)) := by
  refine PE.imp (pe_not ha) fun σ H Q ⟨G, s, t, o⟩ => ?_
  refine liftE_part t (Same.refl H) o fun d o v H' x => ?_
  cases d with
  | bl k => exact ⟨k, val_is_bl x, (OutE.later x.same o) _ _ val_bl⟩
  | _ => exact o.elim
/-! tests -/
/-- a test whatever its whole is -/
abbrev SW (X : Cx) (F : Fr) (W : WX) (e : Expr) (f : SD → R D) : Prop := PW X e (liftT F W f)
theorem PW.imp {X : Cx} {e : Expr} {t t' : TT} (h : PW X e t) (i : ∀ σ H Q, t' σ H Q → t σ H Q) : PW X e t' := ⟨fun wh pins s σ H Q I w => h.run wh pins s σ H Q I (i σ H Q w)⟩
theorem test_part {f : SD → R D} {k : D → R D} {Q : Bool → Hp → Prop} {Q' : Bool → Hp → Prop} (t : St F G H σ s) (h : OutT F W G σ H Q ((f s).bind k))
    (go : ∀ d, OutT F W G σ H Q (k d) → ∃ b, d = .bl b ∧ ∀ H', Same H H' → Q' b H') : liftT F W f σ H Q' := by
  refine ⟨G, s, t, ?_⟩
  cases q : f s with
  | ok d =>
    rw [q] at h
    obtain ⟨b, rfl, z⟩ := go d h
    exact z
  | rs c p => rw [q] at h; exact h
  | stk => rw [q] at h; exact h
theorem sw_and {a b : Expr} {rest : List Expr} {fa fb : SD → R D} {pos : Pos} (ha : ST X F W a fa) (hb : SW X F W (.BoolOp .And (b :: rest) pos) fb) : SW X F W (.BoolOp .And (a :: b :: rest) pos) (fun s => andR (fa s) (fb s)) := by
  refine PW.imp (pw_and ha hb) fun σ H Q ⟨G, s, t, o⟩ => ?_
  refine test_part t o fun d o => ?_
  cases d with
  | bl k =>
    refine ⟨k, rfl, fun H' e => ?_⟩
    cases k with
    | true => exact iteT ⟨G, s, t.later e, OutT.later e o⟩
    | false => exact iteF (o H' e)
  | _ => exact o.elim
theorem sw_or {a b : Expr} {rest : List Expr} {fa fb : SD → R D} {pos : Pos} (ha : ST X F W a fa) (hb : SW X F W (.BoolOp .Or (b :: rest) pos) fb) : SW X F W (.BoolOp .Or (a :: b :: rest) pos) (fun s => orR (fa s) (fb s)) := by
  refine PW.imp (pw_or ha hb) fun σ H Q ⟨G, s, t, o⟩ => ?_
  refine test_part t o fun d o => ?_
  cases d with
  | bl k =>
    refine ⟨k, rfl, fun H' e => ?_⟩
    cases k with
    | true => exact iteT (o H' e)
    | false => exact iteF ⟨G, s, t.later e, OutT.later e o⟩
  | _ => exact o.elim
theorem sw_and1 {a : Expr} {fa : SD → R D} {pos : Pos} (ha : ST X F W a fa) : SW X F W (.BoolOp .And [a] pos) fa := pw_and1 ha
theorem sw_or1 {a : Expr} {fa : SD → R D} {pos : Pos} (ha : ST X F W a fa) : SW X F W (.BoolOp .Or [a] pos) fa := pw_or1 ha
theorem st_not {a : Expr} {fa : SD → R D} {pos : Pos} (ha : ST X F W a fa) : ST X F W (.UnaryOp .Not a pos) (fun s => notR (fa s)) := by
  refine PT.imp (pt_not ha) fun σ H Q ⟨G, s, t, o⟩ => ?_
  refine test_part t o fun d o => ?_
  cases d with
  | bl k => exact ⟨k, rfl, fun H' e => o H' e⟩
  | _ => exact o.elim
theorem se_ite {c a b : Expr} {fc fa fb : SD → R D} {pos : Pos} (hc : ST X F W c fc) (ha : SE X F W a fa) (hb : SE X F W b fb) : SE X F W (.IfExp c a b pos) (fun s => iteR (fc s) (fa s) (fb s)) := by
  refine PE.imp (pe_ifExp hc ha hb) fun σ H Q ⟨G, s, t, o⟩ => ?_
  refine liftT_part t (Same.refl H) o fun d o => ?_
  cases d with
  | bl k =>
    refine ⟨k, rfl, fun H' e => ?_⟩
    cases k with
    | true => exact iteT ⟨G, s, t.later e, OutE.later e o⟩
    | false => exact iteF ⟨G, s, t.later e, OutE.later e o⟩
  | _ => exact o.elim
/-! chains of ints -/
def chR (p p' : Int → Int → Bool) (x y z : R D) : R D := x.bind fun a => y.bind fun b => match a, b with
  | .int i, .int j => if p i j = true then z.bind fun c => (match c with
      | .int k => .ok (.bl (p' j k))
      | _ => .stk) else .ok (.bl false)
  | _, _ => .stk
theorem chain_go {r r' : R2} {p p' : Int → Int → Bool} {fa fb fc : SD → R D} {Q : VK} (hr : r = rI0 fun i j => .bl (p i j)) (hr' : r' = rI0 fun i j => .bl (p' i j)) (t : St F G H σ s) (o : OutE F W G σ H Q (chR p p' (fa s) (fb s) (fc s))) : tChain r r' (liftE F W fa) (liftE F W fb) (liftE F W fc) σ H Q := by
  subst hr hr'
  refine liftE_part t (Same.refl H) o fun d o x H1 vx => ?_
  refine liftE_part (t.later vx.same) vx.same o fun d' o y H2 vy => ?_
  have s02 : Same H H2 := vx.same.trans vy.same
  cases d with
  | int i =>
    cases d' with
    | int j =>
      refine ⟨i, j, val_is_int vx, val_is_int vy, p i j, rfl, ?_⟩
      by_cases h : p i j = true
      · have o2 : OutE F W G σ H Q ((fc s).bind fun c => (match c with | .int k => .ok (.bl (p' j k)) | _ => .stk)) := by
          have e : (if p i j = true then (fc s).bind fun c => (match c with | .int k => R.ok (D.bl (p' j k)) | _ => .stk) else .ok (D.bl false)) = ((fc s).bind fun c => (match c with | .int k => .ok (D.bl (p' j k)) | _ => .stk)) := if_pos h
          rw [← e]
          exact o
        rw [if_pos h]
        refine liftE_part (t.later s02) s02 o2 fun c o3 w H3 vw => ?_
        cases c with
        | int k => exact ⟨j, k, val_is_int vy, val_is_int vw, (OutE.later (s02.trans vw.same) o3) _ _ val_bl⟩
        | _ => exact o3.elim
      · have o2 : OutE F W G σ H Q (.ok (.bl false)) := by
          have e : (if p i j = true then (fc s).bind fun c => (match c with | .int k => R.ok (D.bl (p' j k)) | _ => .stk) else .ok (D.bl false)) = .ok (D.bl false) := if_neg h
          rw [← e]
          exact o
        rw [if_neg h]
        exact (OutE.later s02 o2) _ _ val_bl
    | _ => exact o.elim
  | _ => exact o.elim
theorem se_chain {op op' : CmpOp} {p p' : Int → Int → Bool} {a b c : Expr} {fa fb fc : SD → R D} {pos : Pos} (ho : OpR X (compareOp op) (rI0 fun i j => .bl (p i j))) (ho' : OpR X (compareOp op') (rI0 fun i j => .bl (p' i j)))
    (hm : lastMarks [op, op'] [b, c] = false) (ha : SE X F W a fa) (hb : SE X F W b fb) (hc : SE X F W c fc) : SE X F W (.Compare a [op, op'] [b, c] pos) (fun s => chR p p' (fa s) (fb s) (fc s)) :=
  PE.imp (pe_chain ho ho' ha hb hc hm) fun σ H Q ⟨G, s, t, o⟩ => chain_go rfl rfl t o
theorem st_chain {op op' : CmpOp} {p p' : Int → Int → Bool} {a b c : Expr} {fa fb fc : SD → R D} {pos : Pos} (ho : OpR X (compareOp op) (rI0 fun i j => .bl (p i j))) (ho' : OpR X (compareOp op') (rI0 fun i j => .bl (p' i j)))
    (hm : lastMarks [op, op'] [b, c] = false) (ha : SE X F W a fa) (hb : SE X F W b fb) (hc : SE X F W c fc) : ST X F W (.Compare a [op, op'] [b, c] pos) (fun s => chR p p' (fa s) (fb s) (fc s)) :=
  PT.imp (pt_chain ho ho' ha hb hc hm) fun σ H Q ⟨G, s, t, o⟩ => chain_go rfl rfl t (outT_E o)
/-! slices -/
def OutO (F : Fr) (W : WX) (G : Gh) (σ : L2.St) (H : Hp) (Q : Option Int → Hp → Prop) : R (Option Int) → Prop
  | .ok i => ∀ H', Same H H' → Q i H'
  | .rs c p => ∀ H' dct, Same H H' → Pay H' dct p → W (F.cls c) dct σ H'
  | .stk => False
def liftO (F : Fr) (W : WX) (f : SD → R (Option Int)) : TO := fun σ H Q => ∃ G s, St F G H σ s ∧ OutO F W G σ H Q (f s)
abbrev SO (X : Cx) (F : Fr) (W : WX) (e : Option Expr) (f : SD → R (Option Int)) : Prop := PO X e (liftO F W f)
theorem PO.imp {X : Cx} {e : Option Expr} {t t' : TO} (h : PO X e t) (i : ∀ σ H Q, t' σ H Q → t σ H Q) : PO X e t' := ⟨fun pins s σ H Q I w => h.run pins s σ H Q I (i σ H Q w)⟩
theorem so_none : SO X F W none (fun _ => .ok none) := PO.imp po_none fun σ H Q ⟨G, s, t, o⟩ => o H (Same.refl H)
def ixR (x : R D) : R (Option Int) := x.bind fun d => match d with
  | .int i => .ok (some i)
  | _ => .stk
theorem so_some {e : Expr} {f : SD → R D} (h : SE X F W e f) : SO X F W (some e) (fun s => ixR (f s)) := by
  refine PO.imp (po_some h) fun σ H Q ⟨G, s, t, o⟩ => ⟨G, s, t, ?_⟩
  dsimp only at o
  unfold ixR at o
  cases q : f s with
  | stk => rw [q] at o; exact o.elim
  | rs c p => rw [q] at o; exact o
  | ok d =>
    rw [q] at o
    intro v H' x
    cases d with
    | int i => exact ⟨i, val_is_int x, o H' x.same⟩
    | _ => exact o.elim
theorem liftO_part {f : SD → R (Option Int)} {k : Option Int → R D} {Q : VK} {Q' : Option Int → Hp → Prop} (t : St F G H1 σ s) (e : Same H H1) (h : OutE F W G σ H Q ((f s).bind k))
    (go : ∀ d, OutE F W G σ H Q (k d) → ∀ H', Same H1 H' → Q' d H') : liftO F W f σ H1 Q' := by
  refine ⟨G, s, t, ?_⟩
  cases q : f s with
  | ok d => rw [q] at h; exact go d h
  | rs c p => rw [q] at h; exact fun H' dct e' pp => h H' dct (e.trans e') pp
  | stk => rw [q] at h; exact h
def slR (x : R D) (lo hi : R (Option Int)) : R D := x.bind fun d => lo.bind fun i => hi.bind fun j => D1 (gSl i j) [d]
theorem se_slice {e : Expr} {lo hi : Option Expr} {fe : SD → R D} {fl fh : SD → R (Option Int)} {p2 pos : Pos} (hK : X.K = F.K) (he : SE X F W e fe) (hl : SO X F W lo fl) (hh : SO X F W hi fh) : SE X F W (.Subscript e (.Slice lo hi none p2) pos) (fun s => slR (fe s) (fl s) (fh s)) := by
  refine PE.imp (pe_slice (sl_list.or sl_tupA) he hl hh) fun σ H Q ⟨G, s, t, o⟩ => ?_
  refine liftE_part t (Same.refl H) o fun d o x H1 vx => ?_
  refine liftO_part (t.later vx.same) vx.same o fun i o H2 s12 => ?_
  refine liftO_part (t.later (vx.same.trans s12)) (vx.same.trans s12) o fun j o H3 s23 => ?_
  have vx3 : Val F.K G.C G.BO H H3 x d := vx.later (s12.trans s23)
  obtain ⟨x', e, q⟩ := call_go (ok_sl (K := F.K) (lo := i) (hi := j)) nrs1 vx3 o
  injection e with e1 e2
  subst e1
  rw [hK]
  exact q
theorem se_tup {es : List Expr} {fs : SD → R (List D)} {k : Nat} {pos : Pos} (h : SA X F W es fs) : SE X F W (.Tuple es k pos) (fun s => (fs s).bind (DL gTup)) := by
  refine PE.imp (pe_tup h) fun σ H Q ⟨G, s, t, o⟩ => ?_
  exact liftL_part t (Same.refl H) o fun ds o vs H1 x => call_go ok_tup nrsL x o
theorem se_lst {es : List Expr} {fs : SD → R (List D)} {pos : Pos} (h : SA X F W es fs) : SE X F W (.List es pos) (fun s => (fs s).bind (DL gLst)) := by
  refine PE.imp (pe_lst h) fun σ H Q ⟨G, s, t, o⟩ => ?_
  exact liftL_part t (Same.refl H) o fun ds o vs H1 x => call_go ok_lst nrsL x o
theorem se_dnew {pos : Pos} : SE X F W (.Dict [] [] pos) (fun _ => .ok (.dk .own [] [])) :=
  PE.imp pe_dnewK fun σ H Q ⟨G, s, t, o⟩ p hp => o _ _ ⟨same_upd hp, [p], fun _ => False, by simp, fun q hq => by simp at hq; subst hq; exact .inr hp, fun _ z => z.elim, rep_one.mpr (rep_dkown.mpr ⟨p, [], [], rfl, upd_same, rfl, rfl, repL_nil.mpr ⟨rfl, rfl⟩⟩)⟩
theorem se_ix {a b : Expr} {fa fb : SD → R D} {pos : Pos} (hK : X.K = F.K) (hs : PlainIx b) (ha : SE X F W a fa) (hb : SE X F W b fb) : SE X F W (.Subscript a b pos) (fun s => (fa s).bind fun x => (fb s).bind fun y => D2 gIx [x, y]) :=
  se_bin' (fun ta tb h1 h2 => by have := pe_ix (X := X) ix_seq h1 h2 hs (pos := pos); rw [hK] at this; exact this) ok_ix ha hb
/-! ### built-ins -/
def gLen : List D → Option D
  | [.tup l] => some (.int (l.length : Nat))
  | [.lst _ l] => some (.int (l.length : Nat))
  | [.str z] => if z.length ≤ 16777216 then some (.int (z.length : Nat)) else none
  | _ => none
def blsOf : List D → Option (List Bool)
  | [] => some []
  | .bl b :: r => (blsOf r).map (b :: ·)
  | _ :: _ => none
def gSum : List D → Option D
  | [.lst _ l] => (intsOf l).map fun ns => .int ns.sum
  | [.tup l] => (intsOf l).map fun ns => .int ns.sum
  | _ => none
def gAll : List D → Option D
  | [.lst _ l] => (blsOf l).map fun bs => .bl (bs.all id)
  | _ => none
def gAny : List D → Option D
  | [.lst _ l] => (blsOf l).map fun bs => .bl (bs.any id)
  | _ => none
def gTupleF : List D → Option D
  | [.lst _ l] => some (.tup l)
  | [.tup l] => some (.tup l)
  | _ => none
def gListF : List D → Option D
  | [.lst _ l] => some (.lst .own l)
  | [.tup l] => some (.lst .own l)
  | _ => none
def gAbs : List D → Option D
  | [.int i] => some (.int (if i < 0 then -i else i))
  | _ => none
theorem blsOf_rep {K : PySem.W.Frag} {C : Addr → Prop} {B : Bool → Addr → Prop} {H : Hp} : ∀ {l : List D} {ns : List Bool} {xs : List V} {A : List Addr}, blsOf l = some ns → RepL K C B H l xs A → xs = ns.map V.bl
  | [], ns, xs, A, e, h => by
    injection e with e
    subst e
    exact (repL_nil.mp h).1
  | .bl i :: r, ns, xs, A, e, h => by
    obtain ⟨v, vr, A1, A2, rfl, eA, h1, h2⟩ := repL_cons.mp h
    unfold blsOf at e
    cases e1 : blsOf r with
    | none => rw [e1] at e; cases e
    | some ms =>
      rw [e1] at e
      injection e with e
      subst e
      rw [(rep_bl.mp h1).1, blsOf_rep e1 h2]
      rfl
  | .non :: r, ns, xs, A, e, h => by cases e
  | .int _ :: r, ns, xs, A, e, h => by cases e
  | .str _ :: r, ns, xs, A, e, h => by cases e
  | .tup _ :: r, ns, xs, A, e, h => by cases e
  | .lst _ _ :: r, ns, xs, A, e, h => by cases e
  | .dk _ _ _ :: r, ns, xs, A, e, h => by cases e
section
variable {K : PySem.W.Frag}
theorem okL {r : List V → Hp → VK → Prop} {g : List D → Option D} (h : ∀ (A : List Addr) (C : Addr → Prop) (B : Bool → Addr → Prop) (H : Hp) (vs : List V) (ds : List D) (z : D) (Q : VK), g ds = some z → RepL K C B H ds vs A → A.Nodup → (∀ p, C p → H p ≠ none ∧ p ∉ A) →
    (∀ v H', ValA K A C B H H' v z → Q v H') → r vs H Q) : CallOk K r (DL g) := fun A C B H vs ds z Q e rl n c k => h A C B H vs ds z Q (ofO_ok e) rl n c k
theorem ok_len : CallOk K (fun xs H Q => ∃ x n, xs = [x] ∧ LenV K x H n ∧ Q (.int (n : Nat)) H) (DL gLen) := okL fun A C B H vs ds z Q e rl n c k => by
  unfold gLen at e
  split at e
  · rename_i l
    injection e with e
    subst e
    obtain ⟨x, rfl, r1⟩ := repL_onev rl
    obtain ⟨p, xs, rfl, hs, hl⟩ := rep_tup.mp r1
    exact ⟨.ref p, l.length, rfl, .inr ⟨xs, hs, hl.length.symm⟩, k _ _ val_int⟩
  · rename_i f l
    injection e with e
    subst e
    obtain ⟨x, rfl, r1⟩ := repL_onev rl
    obtain ⟨p, xs, B1, rfl, hs, hl, b1, c1⟩ := rep_list r1
    exact ⟨.ref p, l.length, rfl, .inl ⟨xs, hs, hl.length.symm⟩, k _ _ val_int⟩
  · rename_i w
    split at e
    · rename_i hz
      injection e with e
      subst e
      obtain ⟨x, rfl, r1⟩ := repL_onev rl
      obtain ⟨rfl, _⟩ := rep_str.mp r1
      exact ⟨.str w, w.length, rfl, ⟨le_line hz, rfl⟩, k _ _ val_int⟩
    · cases e
  · cases e
/-- sum(xs) of a list or a tuple of ints -/
def rSumA (K : PySem.W.Frag) : List V → Hp → VK → Prop := fun vs H Q => ∃ (a : Addr) (ns : List Int), vs = [V.ref a] ∧ (SqL K H a (ns.map V.int) ∨ SqT K H a (ns.map V.int)) ∧ Q (.int ns.sum) H
theorem cr_sumA {X : Cx} (hc : X.calm = true) : CallR X (.builtin "sum") (rSumA X.K) := by
  intro pins s σ H vs us Q I r h
  obtain ⟨a, ns, rfl, hs | hs, q⟩ := h
  · exact cr_sum hc pins s σ H [.ref a] us Q I r ⟨a, ns, rfl, hs, q⟩
  · obtain ⟨its, rv, hl, _⟩ := I.tuple hs
    rw [Vals.ref1 r]
    have hi := rv.ints
    obtain ⟨xs, e⟩ := hi.allInts.items
    have hn : numsOf (intItems xs).toList = ns := by rw [← e]; exact hi.numsOf
    rw [nums_intItems] at hn
    rw [e] at hl
    refine PySem.W.ktm_sumG (I.ok.hd hc) hl fun h' tk t' hk => ⟨.int _, H, I.kept hk, ⟨_, rfl⟩, ?_⟩
    rw [preSum_eq, List.take_of_length_le (by simp), hn]
    exact q
theorem ok_sum : CallOk K (rSumA K) (DL gSum) := okL fun A C B H vs ds z Q e rl n c k => by
  unfold gSum at e
  split at e
  · rename_i f l
    cases q : intsOf l with
    | none => rw [q] at e; cases e
    | some ns =>
      rw [q] at e
      injection e with e
      subst e
      obtain ⟨x, rfl, r1⟩ := repL_onev rl
      obtain ⟨p, xs, B1, rfl, hs, hl, b1, c1⟩ := rep_list r1
      rw [intsOf_rep q hl] at hs
      exact ⟨p, ns, rfl, .inl hs, k _ _ val_int⟩
  · rename_i l
    cases q : intsOf l with
    | none => rw [q] at e; cases e
    | some ns =>
      rw [q] at e
      injection e with e
      subst e
      obtain ⟨x, rfl, r1⟩ := repL_onev rl
      obtain ⟨p, xs, rfl, hs, hl⟩ := rep_tup.mp r1
      rw [intsOf_rep q hl] at hs
      exact ⟨p, ns, rfl, .inr hs, k _ _ val_int⟩
  · cases e
theorem ok_all : CallOk K (rAll K) (DL gAll) := okL fun A C B H vs ds z Q e rl n c k => by
  unfold gAll at e
  split at e
  · rename_i f l
    cases q : blsOf l with
    | none => rw [q] at e; cases e
    | some ns =>
      rw [q] at e
      injection e with e
      subst e
      obtain ⟨x, rfl, r1⟩ := repL_onev rl
      obtain ⟨p, xs, B1, rfl, hs, hl, b1, c1⟩ := rep_list r1
      rw [blsOf_rep q hl] at hs
      exact ⟨p, ns, rfl, hs, k _ _ val_bl⟩
  · cases e
theorem ok_any : CallOk K (rAny K) (DL gAny) := okL fun A C B H vs ds z Q e rl n c k => by
  unfold gAny at e
  split at e
  · rename_i f l
    cases q : blsOf l with
    | none => rw [q] at e; cases e
    | some ns =>
      rw [q] at e
      injection e with e
      subst e
      obtain ⟨x, rfl, r1⟩ := repL_onev rl
      obtain ⟨p, xs, B1, rfl, hs, hl, b1, c1⟩ := rep_list r1
      rw [blsOf_rep q hl] at hs
      exact ⟨p, ns, rfl, hs, k _ _ val_bl⟩
  · cases e
theorem ok_tupleF : CallOk K (fun xs H Q => ∃ p ys, xs = [.ref p] ∧ ((SqL K H p ys ∧ ∀ l, H l = none → Q (.ref l) (upd H l (.tup ys))) ∨ (SqT K H p ys ∧ Q (.ref p) H))) (DL gTupleF) := okL fun A C B H vs ds z Q e rl n c k => by
  unfold gTupleF at e
  split at e
  · rename_i f l
    injection e with e
    subst e
    obtain ⟨x, rfl, r1⟩ := repL_onev rl
    obtain ⟨p, xs, B1, rfl, hs, hl, b1, c1⟩ := rep_list r1
    exact ⟨p, xs, rfl, .inl ⟨hs, fun q hq => k _ _ (val_newT hq hl b1 (c1 n) c)⟩⟩
  · rename_i l
    injection e with e
    subst e
    obtain ⟨x, rfl, r1⟩ := repL_onev rl
    obtain ⟨p, xs, rfl, hs, hl⟩ := rep_tup.mp r1
    exact ⟨p, xs, rfl, .inr ⟨hs, k _ _ (val_part r1 (fun q hq => hq) n c)⟩⟩
  · cases e
theorem ok_listF : CallOk K (fun xs H Q => ∃ p ys, xs = [.ref p] ∧ (SqL K H p ys ∨ SqT K H p ys) ∧ ∀ l, H l = none → Q (.ref l) (upd H l (.lst ys))) (DL gListF) := okL fun A C B H vs ds z Q e rl n c k => by
  unfold gListF at e
  split at e
  · rename_i f l
    injection e with e
    subst e
    obtain ⟨x, rfl, r1⟩ := repL_onev rl
    obtain ⟨p, xs, B1, rfl, hs, hl, b1, c1⟩ := rep_list r1
    exact ⟨p, xs, rfl, .inl hs, fun q hq => k _ _ (val_new hq hl b1 (c1 n) c)⟩
  · rename_i l
    injection e with e
    subst e
    obtain ⟨x, rfl, r1⟩ := repL_onev rl
    obtain ⟨p, xs, rfl, hs, hl⟩ := rep_tup.mp r1
    exact ⟨p, xs, rfl, .inr hs, fun q hq => k _ _ (val_new hq hl (fun z hz => hz) n c)⟩
  · cases e
end
/-! ### isinstance of built-in classes -/
/-- the class of what D stands for -/
def tyOf : D → String
  | .non => "NoneType"
  | .bl _ => "bool"
  | .int _ => "int"
  | .str _ => "str"
  | .tup _ => "tuple"
  | .lst _ _ => "list"
  | .dk _ _ _ => "dict"
theorem Rep.tyX {K : PySem.W.Frag} {C : Addr → Prop} {B : Bool → Addr → Prop} {H : Hp} : ∀ {d : D} {v : V} {A : List Addr}, Rep K C B H d v A → TyX K H v (.type (tyOf d))
  | .non, v, A, h => by rw [(rep_non.mp h).1]; exact .base .non
  | .bl b, v, A, h => by rw [(rep_bl.mp h).1]; exact .base (.bl b)
  | .int b, v, A, h => by rw [(rep_int.mp h).1]; exact .base (.int b)
  | .str b, v, A, h => by rw [(rep_str.mp h).1]; exact .base (.str b)
  | .tup l, v, A, h => by
    obtain ⟨p, xs, rfl, hs, hl⟩ := rep_tup.mp h
    rcases hs with (hs | ⟨o, hs⟩) | ⟨o, its, n, h1, h2, _⟩
    · exact .base (.tup hs)
    · exact .fTuple hs
    · exact .kTuple h1 h2
  | .lst f l, v, A, h => by
    obtain ⟨p, xs, A1, rfl, hs, hl, _, _⟩ := rep_list h
    rcases hs with (hs | ⟨o, hs⟩) | ⟨o, its, n, h1, h2, _⟩
    · exact .base (.lst hs)
    · exact .base (.frz hs)
    · exact .kList h1 h2
  | .dk f k l, v, A, h => by
    have : ∃ p kvs, v = .ref p ∧ Rd H p (.dK kvs) := by
      cases f with
      | own => obtain ⟨p, kvs, _, e, h1, _⟩ := rep_dkown.mp h; exact ⟨p, kvs, e, .inl h1⟩
      | cl => obtain ⟨p, kvs, e, h1, _⟩ := rep_dkcl.mp h; exact ⟨p, kvs, e, h1.1⟩
      | bw => obtain ⟨p, kvs, e, h1, _⟩ := rep_dkbw.mp h; exact ⟨p, kvs, e, h1.1⟩
      | bo => obtain ⟨p, kvs, e, h1, _⟩ := rep_dkbo.mp h; exact ⟨p, kvs, e, h1.1⟩
    obtain ⟨p, kvs, rfl, hs | ⟨o, hs⟩⟩ := this
    · exact .base (.dK hs)
    · exact .fDict hs
def isiR (T : String) (x : R D) : R D := x.bind fun d => match kitB (tyOf d) T with
  | some b => .ok (.bl b)
  | none => .stk
theorem se_isi {e : Expr} {f : SD → R D} {T : String} {x : Str} {px p pos : Pos} (hK : X.K = F.K) (hg : Gl X "isinstance") (hm : X.mg "isinstance" = none) (hgT : Gl X x) (hmT : X.mg x = none) (hv : bootBuiltins x = some (.type T)) (hn : x ≠ "__name__") (hd : (x == ("__debug__" : Str)) = false)
    (hs : starEach [e, .Name x px] X.env = (false, eval e X.env) :: starEach [.Name x px] X.env) (hpl : (backTo pos (starEach [.Name x px] X.env)).any (·.1) = false) (h : SE X F W e f) :
    SE X F W (.Call (.Name "isinstance" p) [e, .Name x px] [] pos) (fun s => isiR T (f s)) := by
  have hb : bootBuiltins "isinstance" = some (.builtin "isinstance") := by decide +kernel
  refine PE.imp (pe_callB call_isi hg hm hb (pa_cons h (pa_cons (pe_bltn (v := .ty T) hgT hmT hv rfl hn hd) pa_nil) hs) (he := hs)) fun σ H Q ⟨G, s, t, o⟩ => ?_
  refine liftE_part t (Same.refl H) o fun d o v H1 x => ?_
  obtain ⟨A2, C2, _, _, _, r⟩ := x.ex
  cases q : kitB (tyOf d) T with
  | none => rw [q] at o; exact o.elim
  | some b =>
    rw [q] at o
    rw [hK]
    exact ⟨v, .ty T, .type (tyOf d), .type T, b, rfl, .ty T, Rep.tyX (rep_one.mp r), kit_ty q, (OutE.later x.same o) _ _ val_bl⟩
end
/-! ### max, min: of two ints, of a list of ints -/
def maxL (a : Int) (l : List Int) : Int := l.foldl (fun m x => if x > m then x else m) a
def minL (a : Int) (l : List Int) : Int := l.foldl (fun m x => if x < m then x else m) a
theorem maxL_ok : ∀ (l : List Int) (a : Int), (maxL a l = a ∨ maxL a l ∈ l) ∧ a ≤ maxL a l ∧ ∀ y ∈ l, y ≤ maxL a l
  | [], a => ⟨.inl rfl, Int.le_refl _, fun y h => by cases h⟩
  | x :: r, a => by
    obtain ⟨h1, h2, h3⟩ := maxL_ok r (if x > a then x else a)
    have e : maxL a (x :: r) = maxL (if x > a then x else a) r := rfl
    rw [e]
    refine ⟨?_, ?_, fun y hy => ?_⟩
    · rcases h1 with h1 | h1
      · rw [h1]
        split
        · exact .inr List.mem_cons_self
        · exact .inl rfl
      · exact .inr (List.mem_cons_of_mem _ h1)
    · exact Int.le_trans (by split <;> omega) h2
    · rcases List.mem_cons.mp hy with z | z
      · subst z
        exact Int.le_trans (by split <;> omega) h2
      · exact h3 y z
theorem minL_ok : ∀ (l : List Int) (a : Int), (minL a l = a ∨ minL a l ∈ l) ∧ minL a l ≤ a ∧ ∀ y ∈ l, minL a l ≤ y
  | [], a => ⟨.inl rfl, Int.le_refl _, fun y h => by cases h⟩
  | x :: r, a => by
    obtain ⟨h1, h2, h3⟩ := minL_ok r (if x < a then x else a)
    have e : minL a (x :: r) = minL (if x < a then x else a) r := rfl
    rw [e]
    refine ⟨?_, ?_, fun y hy => ?_⟩
    · rcases h1 with h1 | h1
      · rw [h1]
        split
        · exact .inr List.mem_cons_self
        · exact .inl rfl
      · exact .inr (List.mem_cons_of_mem _ h1)
    · exact Int.le_trans h2 (by split <;> omega)
    · rcases List.mem_cons.mp hy with z | z
      · subst z
        exact Int.le_trans h2 (by split <;> omega)
      · exact h3 y z
theorem max_uniq {a m : Int} {l : List Int} (h : m ∈ a :: l) (k : ∀ y, y ∈ a :: l → y ≤ m) : m = maxL a l := by
  obtain ⟨h1, h2, h3⟩ := maxL_ok l a
  have le1 : maxL a l ≤ m := k _ (h1.elim (fun z => by rw [z]; exact List.mem_cons_self) fun z => List.mem_cons_of_mem _ z)
  have le2 : m ≤ maxL a l := by
    rcases List.mem_cons.mp h with z | z
    · rw [z]; exact h2
    · exact h3 m z
  omega
theorem min_uniq {a m : Int} {l : List Int} (h : m ∈ a :: l) (k : ∀ y, y ∈ a :: l → m ≤ y) : m = minL a l := by
  obtain ⟨h1, h2, h3⟩ := minL_ok l a
  have le1 : m ≤ minL a l := k _ (h1.elim (fun z => by rw [z]; exact List.mem_cons_self) fun z => List.mem_cons_of_mem _ z)
  have le2 : minL a l ≤ m := by
    rcases List.mem_cons.mp h with z | z
    · rw [z]; exact h2
    · exact h3 m z
  omega
def gMax : List D → Option D
  | [.int i, .int j] => some (.int (if j > i then j else i))
  | [.lst _ l] => match intsOf l with
    | some (a :: r) => some (.int (maxL a r))
    | _ => none
  | _ => none
def gMin : List D → Option D
  | [.int i, .int j] => some (.int (if j < i then j else i))
  | [.lst _ l] => match intsOf l with
    | some (a :: r) => some (.int (minL a r))
    | _ => none
  | _ => none
section
variable {K : PySem.W.Frag}
def rMaxA (K : PySem.W.Frag) : List V → Hp → VK → Prop := fun vs H Q => (∃ i j, vs = [.int i, .int j] ∧ Q (.int (if j > i then j else i)) H) ∨ ∃ (a : Addr) (i : Int) (ns : List Int), vs = [V.ref a] ∧ SqL K H a ((i :: ns).map V.int) ∧ Q (.int (maxL i ns)) H
def rMinA (K : PySem.W.Frag) : List V → Hp → VK → Prop := fun vs H Q => (∃ i j, vs = [.int i, .int j] ∧ Q (.int (if j < i then j else i)) H) ∨ ∃ (a : Addr) (i : Int) (ns : List Int), vs = [V.ref a] ∧ SqL K H a ((i :: ns).map V.int) ∧ Q (.int (minL i ns)) H
theorem cr_maxA {X : Cx} (hc : X.calm = true) : CallR X (.builtin "max") (rMaxA X.K) := by
  intro pins s σ H vs us Q I r h
  rcases h with h | ⟨a, i, ns, rfl, hs, q⟩
  · exact call_max2 hc pins s σ H vs us Q I r h
  · exact cr_max hc pins s σ H [.ref a] us Q I r ⟨a, i :: ns, rfl, hs, by simp, fun m h1 h2 => by rw [max_uniq h1 h2]; exact q⟩
theorem cr_minA {X : Cx} (hc : X.calm = true) : CallR X (.builtin "min") (rMinA X.K) := by
  intro pins s σ H vs us Q I r h
  rcases h with h | ⟨a, i, ns, rfl, hs, q⟩
  · exact call_min2 hc pins s σ H vs us Q I r h
  · exact cr_min hc pins s σ H [.ref a] us Q I r ⟨a, i :: ns, rfl, hs, by simp, fun m h1 h2 => by rw [min_uniq h1 h2]; exact q⟩
theorem ok_max : CallOk K (rMaxA K) (DL gMax) := okL fun A C B H vs ds z Q e rl n c k => by
  unfold gMax at e
  split at e
  · injection e with e
    subst e
    obtain ⟨v, w, _, _, rfl, _, h1, h2⟩ := repL_two rl
    obtain ⟨rfl, _⟩ := rep_int.mp h1
    obtain ⟨rfl, _⟩ := rep_int.mp h2
    exact .inl ⟨_, _, rfl, k _ _ val_int⟩
  · rename_i f l
    split at e
    · rename_i a r q
      injection e with e
      subst e
      obtain ⟨x, rfl, r1⟩ := repL_onev rl
      obtain ⟨p, xs, B1, rfl, hs, hl, b1, c1⟩ := rep_list r1
      rw [intsOf_rep q hl] at hs
      exact .inr ⟨p, a, r, rfl, hs, k _ _ val_int⟩
    · cases e
  · cases e
theorem ok_min : CallOk K (rMinA K) (DL gMin) := okL fun A C B H vs ds z Q e rl n c k => by
  unfold gMin at e
  split at e
  · injection e with e
    subst e
    obtain ⟨v, w, _, _, rfl, _, h1, h2⟩ := repL_two rl
    obtain ⟨rfl, _⟩ := rep_int.mp h1
    obtain ⟨rfl, _⟩ := rep_int.mp h2
    exact .inl ⟨_, _, rfl, k _ _ val_int⟩
  · rename_i f l
    split at e
    · rename_i a r q
      injection e with e
      subst e
      obtain ⟨x, rfl, r1⟩ := repL_onev rl
      obtain ⟨p, xs, B1, rfl, hs, hl, b1, c1⟩ := rep_list r1
      rw [intsOf_rep q hl] at hs
      exact .inr ⟨p, a, r, rfl, hs, k _ _ val_int⟩
    · cases e
  · cases e
end
/-! ### zip of two -/
section
variable {X : Cx} {F : Fr} {W : WX} {G : Gh} {H H' H1 : Hp} {σ : L2.St} {s : SD}
def zipG (m : Bool) (ds : List D) : R (List D) := match ds with
  | [a, b] => (seqOf (mdD m a)).bind fun xs => (seqOf (mdD m b)).bind fun ys => if isTup (mdD m a) = isTup (mdD m b) then .ok ((xs.zip ys).map fun p => .tup [p.1, p.2]) else .stk
  | _ => .stk
theorem St.absorbL {vs : List V} {ds : List D} (t : St F G H σ s) (x : ValL F.K G.C G.BO H H' vs ds) :
    ∃ C1 : Addr → Prop, (∀ p, G.C p → C1 p) ∧ (∀ p, C1 p → G.C p ∨ H p = none) ∧ St F (G.wc C1) H' σ s ∧ RepL F.K C1 G.BO H' (frzL ds) vs [] := by
  obtain ⟨A, C2, nd, a, c, r⟩ := x.ex
  have a' : ∀ p ∈ A, H p = none := fun p hp => (a p hp).elim (fun z => nomatch z) id
  have tA : ∀ p ∈ A, Mt (H' p) := RepL.trk _ r
  have k0 : Tr G.C (Bs G.B) (fun p => G.C p ∨ C2 p ∨ p ∈ A) (Bs G.B) H H' := ⟨fun p u c r => ⟨.inl c, same_rd x.same r⟩, fun _ p u c r => ⟨c, same_rd x.same r⟩, fun p xs r => same_rd x.same r⟩
  refine ⟨fun p => G.C p ∨ C2 p ∨ p ∈ A, fun p h => .inl h, fun p h => ?_, ⟨fun j d' e => ?_, t.nd, t.dj, fun p h => ?_, fun p h => ⟨same_ne x.same (t.bt p h).1, (t.bt p h).2⟩, fun i p h => same_mt x.same (t.ot i p h), fun p h => ?_, t.o0, t.h0.trans x.same, t.len⟩,
    RepL.frz (C := C2) (fun p h => .inr (.inl h)) (fun _ _ b => b) ds (fun p hp => .inr (.inr hp)) r⟩
  · rcases h with h | h | h
    · exact .inl h
    · exact (c p h).1
    · exact .inr (a' p h)
  · obtain ⟨w, h1, h2⟩ := t.slot j d' e
    exact ⟨w, h1, Rep.tr k0 d' (fun p _ o q => x.same p o q) h2⟩
  · rcases h with h | h | h
    · exact ⟨same_ne x.same (t.ct p h).1, (t.ct p h).2⟩
    · refine ⟨(c p h).2.1, fun i z => ?_⟩
      rcases (c p h).1 with q | q
      · exact (t.ct p q).2 i z
      · exact (t.ot i p z).ne q
    · exact ⟨(tA p h).ne, fun i z => (t.ot i p z).ne (a' p h)⟩
  · rcases h with h | h | h
    · exact t.c0 p h
    · rcases (c p h).1 with q | q
      · exact t.c0 p q
      · exact .inr (t.h0.free q)
    · exact .inr (t.h0.free (a' p h))
theorem St.md_absorbL {vs : List V} {ds : List D} (m : Bool) (t : St F G H σ s) (x : ValL F.K G.C G.BO H H' vs ds) :
    ∃ C1 : Addr → Prop, (∀ p, G.C p → C1 p) ∧ (∀ p, C1 p → G.C p ∨ H p = none) ∧ St F (G.md m C1) H' σ (sm m s) ∧ RepL F.K C1 (G.md m C1).BO H' (ds.map (mdD m)) vs [] := by
  obtain ⟨C1, c1, c2, t1, r1⟩ := t.absorbL x
  refine ⟨C1, c1, c2, ?_⟩
  have e1 : ∀ l : List D, frzL l = l.map D.frz := fun l => by
    induction l with
    | nil => rfl
    | cons d r ih => rw [frzL, ih]; rfl
  have e2 : ∀ l : List D, toBwL l = l.map D.toBw := fun l => by
    induction l with
    | nil => rfl
    | cons d r ih => rw [toBwL, ih]; rfl
  cases m with
  | false => exact ⟨t1, by rw [e1] at r1; exact r1⟩
  | true =>
    refine ⟨t1.bw, ?_⟩
    have := RepL.toBw (C' := C1) (B' := (G.md true C1).BO) (fun _ c => c) (fun k p b => by cases k with | false => exact .inl b | true => exact .inr b) _ nil_all r1
    rw [e2, e1, List.map_map] at this
    exact this
theorem seq_hold {v : V} {d : D} {ds : List D} (t : St F G H σ s) (r : Rep F.K G.C G.BO H d v []) (e : seqOf d = .ok ds) :
    ∃ p xs, v = .ref p ∧ RepL F.K G.C G.BO H ds xs [] ∧ noBoL ds = true ∧ ((isTup d = true ∧ ∀ G2 H2, Step G H G2 H2 → SqT F.K H2 p xs) ∨ (isTup d = false ∧ ∀ G2 H2, Step G H G2 H2 → SqL F.K H2 p xs)) := by
  unfold seqOf at e
  split at e
  · rename_i l
    split at e
    · rename_i n
      injection e with e
      subst e
      obtain ⟨p, xs, rfl, hs, hl⟩ := rep_tup.mp r
      exact ⟨p, xs, rfl, hl, n, .inl ⟨rfl, fun G2 H2 st => sqT_tr (keep_tr t st).t hs⟩⟩
    · cases e
  · rename_i l
    split at e
    · rename_i n
      injection e with e
      subst e
      obtain ⟨p, xs, rfl, hs, _, hl⟩ := rep_cl.mp r
      refine ⟨p, xs, rfl, hl, n, .inr ⟨rfl, fun G2 H2 st => ?_⟩⟩
      rcases hs with hs | hs
      · exact .inl (keep_rd t st (t.ct p hs.2).2 hs.1)
      · exact .inr hs
    · cases e
  · rename_i l
    split at e
    · rename_i n
      injection e with e
      subst e
      obtain ⟨p, xs, rfl, hs, _, hl⟩ := rep_bw.mp r
      exact ⟨p, xs, rfl, hl, n, .inr ⟨rfl, fun G2 H2 st => .inl (keep_rd t st (t.bt p hs.2).2 hs.1)⟩⟩
    · cases e
  · cases e
theorem zip_val {l1 l2 : List D} {xs ys : List V} (t : St F G H σ s) (h1 : RepL F.K G.C G.BO H l1 xs []) (h2 : RepL F.K G.C G.BO H l2 ys []) (n1 : noBoL l1 = true) (n2 : noBoL l2 = true) {i : Nat} {d : D} (e : ((l1.zip l2).map fun p => D.tup [p.1, p.2])[i]? = some d) :
    ∃ x y, xs[i]? = some x ∧ ys[i]? = some y ∧ ∀ G2 H2 T, Step G H G2 H2 → H2 T = none → Val F.K G2.C (Bs G2.B) H2 (upd H2 T (.tup [x, y])) (.ref T) d := by
  rw [List.getElem?_map] at e
  cases q : (l1.zip l2)[i]? with
  | none => rw [q] at e; cases e
  | some p =>
    rw [q] at e
    injection e with e
    subst e
    obtain ⟨e1, e2⟩ := List.getElem?_zip_eq_some.mp q
    obtain ⟨x, A1, x1, x2, x3, _⟩ := RepL.get (RepL.noBo (B := G.BO) (B' := Bs G.B) (fun _ b => b) l1 n1 h1) e1
    obtain ⟨y, A2, y1, y2, y3, _⟩ := RepL.get (RepL.noBo (B := G.BO) (B' := Bs G.B) (fun _ b => b) l2 n2 h2) e2
    obtain rfl : A1 = [] := List.eq_nil_iff_forall_not_mem.mpr fun p hp => nomatch x3 p hp
    obtain rfl : A2 = [] := List.eq_nil_iff_forall_not_mem.mpr fun p hp => nomatch y3 p hp
    refine ⟨x, y, x1, y1, fun G2 H2 T st hT => ?_⟩
    have sm : Same H2 (upd H2 T (.tup [x, y])) := same_upd hT
    have k := keep_tr t st
    have k2 : Tr G.C (Bs G.B) G2.C (Bs G2.B) H (upd H2 T (.tup [x, y])) := ⟨fun p u c r => ⟨(k.c p u c r).1, same_rd sm (k.c p u c r).2⟩, fun j p u b r => ⟨(k.b j p u b r).1, same_rd sm (k.b j p u b r).2⟩, fun p xs r => same_rd sm (k.t p xs r)⟩
    refine ⟨sm, [], fun p => G.C p, List.nodup_nil, nil_all, fun p c => ⟨.inl (st.c p c), same_ne sm (step_trk t st c), fun z => nomatch z⟩, rep_one.mpr (rep_tup.mpr ⟨T, [x, y], rfl, .inl (.inl upd_same), ?_⟩)⟩
    have k3 : Tr G.C (Bs G.B) G.C (Bs G2.B) H (upd H2 T (.tup [x, y])) := ⟨fun p u c r => ⟨c, (k2.c p u c r).2⟩, k2.b, k2.t⟩
    exact repL_cons.mpr ⟨x, [y], [], [], rfl, rfl, Rep.tr k3 _ nil_all x2, RepL.one (Rep.tr k3 _ nil_all y2)⟩
theorem zip_end {l1 l2 : List D} {xs ys : List V} (h1 : RepL F.K G.C G.BO H l1 xs []) (h2 : RepL F.K G.C G.BO H l2 ys []) {i : Nat} (hi : ((l1.zip l2).map fun p => D.tup [p.1, p.2]).length ≤ i) : xs.length ≤ i ∨ ys.length ≤ i := by
  rw [List.length_map, List.length_zip, ← h1.length, ← h2.length] at hi
  omega
theorem si_zip {e e2 : Expr} {elts : List Expr} {kk : Nat} {f : SD → R (List D)} {p pos tpos : Pos} (hK : X.K = F.K) (hg : Gl X "zip") (hm : X.mg "zip" = none) (hs : starEach [e, e2] X.env = (false, eval e X.env) :: starEach [e2] X.env) (hpl : (backTo pos (starEach [e2] X.env)).any (·.1) = false) (ha : SA X F W [e, e2] f) (m : Bool) :
    SI X F W m (.Tuple elts kk tpos) (.Call (.Name "zip" p) [e, e2] [] pos) (fun s => (f s).bind (zipG m)) :=
  ⟨fun pins s' σ H R0 I ⟨G, s, t, o⟩ => (RZ.pi_zipA hg hm ha hs hpl).run pins s' σ H R0 I (liftL_iter t o fun d o v H' x => by
    unfold zipG at o
    split at o
    · rename_i a b
      cases q1 : seqOf (mdD m a) with
      | stk => rw [q1] at o; exact o.elim
      | rs c p => exact (seqOf_nrs q1).elim
      | ok l1 =>
        rw [q1] at o
        dsimp only [R.bind] at o
        cases q2 : seqOf (mdD m b) with
        | stk => rw [q2] at o; exact o.elim
        | rs c p => exact (seqOf_nrs q2).elim
        | ok l2 =>
          rw [q2] at o
          dsimp only [R.bind] at o
          split at o
          · rename_i hq
            obtain ⟨C1, c1, c2, t1, r1⟩ := t.md_absorbL m x
            have r1' : RepL F.K (G.md m C1).C (G.md m C1).BO H' [mdD m a, mdD m b] v [] := by cases m <;> exact r1
            obtain ⟨va, vr, A1, A2, rfl, eA, ra, rr⟩ := repL_cons.mp r1'
            obtain ⟨vb, vr2, A3, A4, rfl, eB, rb, rn⟩ := repL_cons.mp rr
            obtain ⟨rfl, rfl⟩ := repL_nil.mp rn
            obtain ⟨rfl, rfl⟩ := List.append_eq_nil_iff.mp eA.symm
            obtain ⟨rfl, _⟩ := List.append_eq_nil_iff.mp eB.symm
            obtain ⟨pa, xs, rfl, ha1, na, wa⟩ := seq_hold (G := G.md m C1) t1 ra q1
            obtain ⟨pb, ys, rfl, hb1, nb, wb⟩ := seq_hold (G := G.md m C1) t1 rb q2
            have st0 : Step (G.md m C1) H' (G.md m C1) H' := Step.refl _ _
            rcases wa with ⟨ta, wa⟩ | ⟨ta, wa⟩ <;> rcases wb with ⟨tb, wb⟩ | ⟨tb, wb⟩
            · refine ⟨pa, pb, xs, ys, rfl, .inr ⟨by rw [hK]; exact wa _ _ st0, by rw [hK]; exact wb _ _ st0, o _ H' C1 x.same c1 c2 t1 ⟨fun G2 H2 st i hi => ⟨xs, ys, by rw [hK]; exact wa _ _ st, by rw [hK]; exact wb _ _ st, zip_end ha1 hb1 hi⟩, fun G2 H2 st i d e => ?_⟩⟩⟩
              obtain ⟨x, y, x1, y1, k⟩ := zip_val (G := G.md m C1) t1 ha1 hb1 na nb e
              refine ⟨⟨xs, ys, x, y, by rw [hK]; exact wa _ _ st, by rw [hK]; exact wb _ _ st, x1, y1⟩, fun v H3 hy => ?_⟩
              obtain ⟨T, x', y', rfl, hT, rfl, f1, f2⟩ := hy
              have e1 := Option.some.inj (x1.symm.trans (f1 xs (by rw [hK]; exact wa _ _ st)))
              have e2 := Option.some.inj (y1.symm.trans (f2 ys (by rw [hK]; exact wb _ _ st)))
              subst e1 e2
              exact k G2 H2 T st hT
            · rw [ta, tb] at hq; cases hq
            · rw [ta, tb] at hq; cases hq
            · refine ⟨pa, pb, xs, ys, rfl, .inl ⟨by rw [hK]; exact wa _ _ st0, by rw [hK]; exact wb _ _ st0, o _ H' C1 x.same c1 c2 t1 ⟨fun G2 H2 st i hi => ⟨xs, ys, by rw [hK]; exact wa _ _ st, by rw [hK]; exact wb _ _ st, zip_end ha1 hb1 hi⟩, fun G2 H2 st i d e => ?_⟩⟩⟩
              obtain ⟨x, y, x1, y1, k⟩ := zip_val (G := G.md m C1) t1 ha1 hb1 na nb e
              refine ⟨⟨xs, ys, x, y, by rw [hK]; exact wa _ _ st, by rw [hK]; exact wb _ _ st, x1, y1⟩, fun v H3 hy => ?_⟩
              obtain ⟨T, x', y', rfl, hT, rfl, f1, f2⟩ := hy
              have e1 := Option.some.inj (x1.symm.trans (f1 xs (by rw [hK]; exact wa _ _ st)))
              have e2 := Option.some.inj (y1.symm.trans (f2 ys (by rw [hK]; exact wb _ _ st)))
              subst e1 e2
              exact k G2 H2 T st hT
          · exact o.elim
    · exact o.elim)⟩
end
end Fe

/-! Fe9: lists changed in place, along a path of own lists. -/
namespace Fe
open PySem L2
inductive Walk (H : Hp) : V → List Int → V → Prop
  | nil {v : V} : Walk H v [] v
  | cons {p : Addr} {xs : List V} {k : Int} {u w : V} {ks : List Int} : H p = some (.lst xs) → atI xs k = some u → Walk H u ks w → Walk H (.ref p) (k :: ks) w
theorem Walk.snoc {H : Hp} {p : Addr} {xs : List V} {k : Int} {u : V} (h1 : H p = some (.lst xs)) (h2 : atI xs k = some u) : ∀ {v : V} {ks : List Int}, Walk H v ks (.ref p) → Walk H v (ks ++ [k]) u
  | _, _, .nil => .cons h1 h2 .nil
  | _, _, .cons a b c => .cons a b (Walk.snoc h1 h2 c)
def dAt : List Int → D → Option D
  | [], d => some d
  | k :: ks, .lst .own l => (atI l k).bind (dAt ks)
  | _ :: _, _ => none
def dPut (e : D) : List Int → D → D
  | [], _ => e
  | k :: ks, .lst .own l => match ixN l.length k with
    | some j => match l[j]? with
      | some d => .lst .own (l.set j (dPut e ks d))
      | none => .lst .own l
    | none => .lst .own l
  | _ :: _, d => d
theorem dAt_snoc : ∀ {ks : List Int} {k : Int} {d : D}, dAt (ks ++ [k]) d = (dAt ks d).bind fun e => match e with
    | .lst .own l => atI l k
    | _ => none
  | [], k, d => by
    cases d with
    | lst f l =>
      cases f with
      | own =>
        show (atI l k).bind (dAt []) = atI l k
        cases atI l k <;> rfl
      | _ => rfl
    | _ => rfl
  | j :: ks, k, d => by
    cases d with
    | lst f l =>
      cases f with
      | own =>
        show (atI l j).bind (dAt (ks ++ [k])) = ((atI l j).bind (dAt ks)).bind _
        cases atI l j with
        | none => rfl
        | some e => exact dAt_snoc (ks := ks) (k := k) (d := e)
      | _ => rfl
    | _ => rfl
section
variable {K : PySem.W.Frag} {C : Addr → Prop} {B : Bool → Addr → Prop} {H : Hp}
theorem RepL.put : ∀ {l : List D} {xs : List V} {A : List Addr} {j : Nat} {d : D}, RepL K C B H l xs A → l[j]? = some d → ∃ u pre Aj post, xs[j]? = some u ∧ A = pre ++ Aj ++ post ∧ Rep K C B H d u Aj ∧
    ∀ {C' : Addr → Prop} {B' : Bool → Addr → Prop} {H' : Hp} (d' : D) (Aj' : List Addr), Tr C B C' B' H H' → (∀ q ∈ pre ++ post, ∀ o, H q = some o → H' q = some o) → Rep K C' B' H' d' u Aj' → RepL K C' B' H' (l.set j d') xs (pre ++ Aj' ++ post)
  | [], xs, A, j, d, h, e => by simp at e
  | d0 :: r, xs, A, 0, d, h, e => by
    obtain ⟨v, vr, A1, A2, rfl, rfl, h1, h2⟩ := repL_cons.mp h
    simp at e
    subst e
    refine ⟨v, [], A1, A2, rfl, by simp, h1, fun d' Aj' T k r' => ?_⟩
    exact repL_cons.mpr ⟨v, vr, Aj', A2, rfl, by simp, r', RepL.tr T r (fun p hp => k p (by simpa using hp)) h2⟩
  | d0 :: r, xs, A, j + 1, d, h, e => by
    obtain ⟨v, vr, A1, A2, rfl, rfl, h1, h2⟩ := repL_cons.mp h
    obtain ⟨u, pre, Aj, post, q1, rfl, q3, q4⟩ := RepL.put (j := j) h2 (by simpa using e)
    refine ⟨u, A1 ++ pre, Aj, post, by simpa using q1, by simp [List.append_assoc], q3, fun d' Aj' T k r' => ?_⟩
    have := q4 d' Aj' T (fun p hp => k p (by
      rcases List.mem_append.mp hp with z | z
      · exact List.mem_append_left _ (List.mem_append_right _ z)
      · exact List.mem_append_right _ z)) r'
    exact repL_cons.mpr ⟨v, vr, A1, pre ++ Aj' ++ post, rfl, by simp [List.append_assoc], Rep.tr T d0 (fun p hp => k p (List.mem_append_left _ (List.mem_append_left _ hp))) h1, this⟩
theorem nodup3 {a b c : List Addr} : (a ++ b ++ c).Nodup ↔ a.Nodup ∧ b.Nodup ∧ c.Nodup ∧ (∀ x ∈ a, x ∉ b) ∧ (∀ x ∈ a, x ∉ c) ∧ (∀ x ∈ b, x ∉ c) := by
  simp only [List.nodup_append, List.mem_append]
  constructor
  · rintro ⟨⟨h1, h2, h3⟩, h4, h5⟩
    exact ⟨h1, h2, h4, fun x hx hb => h3 x hx x hb rfl, fun x hx hc => h5 x (.inl hx) x hc rfl, fun x hx hc => h5 x (.inr hx) x hc rfl⟩
  · rintro ⟨h1, h2, h3, h4, h5, h6⟩
    refine ⟨⟨h1, h2, fun x hx y hy e => h4 x hx (e ▸ hy)⟩, h3, fun x hx y hy e => ?_⟩
    rcases hx with hx | hx
    · exact h5 x hx (e ▸ hy)
    · exact h6 x hx (e ▸ hy)
theorem Rep.put : ∀ (ks : List Int) (d0 : D) {v w : V} {A : List Addr} {l : List D}, Rep K C B H d0 v A → A.Nodup → dAt ks d0 = some (.lst .own l) → Walk H v ks w →
    ∃ p xs A1, w = .ref p ∧ H p = some (.lst xs) ∧ p ∈ A ∧ RepL K C B H l xs A1 ∧ A1.Nodup ∧ (∀ q ∈ A1, q ∈ A ∧ q ≠ p) ∧
      ∀ {C' : Addr → Prop} {B' : Bool → Addr → Prop} {H' : Hp} (l' : List D) (xs' : List V) (A3 : List Addr), Tr C B C' B' H H' → (∀ q ∈ A, q ≠ p → ∀ o, H q = some o → H' q = some o) → H' p = some (.lst xs') → RepL K C' B' H' l' xs' A3 → A3.Nodup → p ∉ A3 → (∀ q ∈ A3, q ∈ A1 ∨ q ∉ A) →
        ∃ A', Rep K C' B' H' (dPut (.lst .own l') ks d0) v A' ∧ A'.Nodup ∧ ∀ q ∈ A', q ∈ A ∨ q ∈ A3
  | [], d0, v, w, A, l, r, n, e, wk => by
    cases wk
    injection e with e
    subst e
    obtain ⟨p, xs, A1, rfl, hs, rfl, hl⟩ := rep_own.mp r
    obtain ⟨n1, n2⟩ := List.nodup_cons.mp n
    refine ⟨p, xs, A1, rfl, hs, List.mem_cons_self, hl, n2, fun q hq => ⟨List.mem_cons_of_mem _ hq, fun e => n1 (e ▸ hq)⟩, fun {C' B' H'} l' xs' A3 T k hp r3 n3 np h3 => ?_⟩
    refine ⟨p :: A3, rep_own.mpr ⟨p, xs', A3, rfl, hp, rfl, r3⟩, List.nodup_cons.mpr ⟨np, n3⟩, fun q hq => ?_⟩
    rcases List.mem_cons.mp hq with rfl | hq
    · exact .inl List.mem_cons_self
    · exact .inr hq
  | k :: ks, d0, v, w, A, l, r, n, e, wk => by
    cases d0 with
    | lst f l0 =>
      cases f with
      | own =>
        have e' : (atI l0 k).bind (dAt ks) = some (.lst .own l) := e
        obtain ⟨p0, xs0, A0, rfl, hs0, rfl, hl0⟩ := rep_own.mp r
        obtain ⟨n1, n2⟩ := List.nodup_cons.mp n
        cases wk with
        | @cons _ xs _ u _ _ h1 h2 h3 =>
          rw [hs0] at h1
          obtain rfl : xs0 = xs := by injection h1 with h1; injection h1
          cases q : ixN l0.length k with
          | none => unfold atI at e'; rw [q] at e'; cases e'
          | some j =>
            have e2 : (l0[j]?).bind (dAt ks) = some (.lst .own l) := by
              unfold atI at e'; rw [q] at e'; exact e'
            cases q2 : l0[j]? with
            | none => rw [q2] at e2; cases e2
            | some dj =>
              rw [q2] at e2
              obtain ⟨u', pre, Aj, post, g1, rfl, g3, g4⟩ := RepL.put hl0 q2
              have hu : u' = u := by
                unfold atI at h2
                rw [hl0.length, q] at h2
                have h2' : xs0[j]? = some u := h2
                rw [g1] at h2'
                injection h2'
              subst hu
              obtain ⟨m1, m2, m3, m4, m5, m6⟩ := nodup3.mp n2
              obtain ⟨p, xs, A1, rfl, hp, pA, hl, nA1, sA1, put⟩ := Rep.put ks dj g3 m2 e2 h3
              have inA : ∀ q, q ∈ Aj → q ∈ pre ++ Aj ++ post := fun q hq => List.mem_append_left _ (List.mem_append_right _ hq)
              refine ⟨p, xs, A1, rfl, hp, List.mem_cons_of_mem _ (inA p pA), hl, nA1, fun q hq => ⟨List.mem_cons_of_mem _ (inA q (sA1 q hq).1), (sA1 q hq).2⟩, fun {C' B' H'} l' xs' A3 T kk hp' r3 n3 np h3' => ?_⟩
              obtain ⟨A', r', n', s'⟩ := put l' xs' A3 T (fun q hq => kk q (List.mem_cons_of_mem _ (inA q hq))) hp' r3 n3 np (fun q hq => (h3' q hq).imp id fun z w => z (List.mem_cons_of_mem _ (inA q w)))
              have p0p : p0 ≠ p := fun e => n1 (by rw [e]; exact inA p pA)
              have nin : ∀ q, q ∈ A3 → q ∉ A1 → q ≠ p0 ∧ q ∉ pre ∧ q ∉ post := fun q hq h1 => by
                rcases h3' q hq with z | z
                · exact (h1 z).elim
                · exact ⟨fun e => z (by rw [e]; exact List.mem_cons_self), fun e => z (List.mem_cons_of_mem _ (List.mem_append_left _ (List.mem_append_left _ e))), fun e => z (List.mem_cons_of_mem _ (List.mem_append_right _ e))⟩
              have out : ∀ q ∈ A', q ≠ p0 ∧ q ∉ pre ∧ q ∉ post := fun q hq => by
                have inj : q ∈ Aj → q ≠ p0 ∧ q ∉ pre ∧ q ∉ post := fun z => ⟨fun e => n1 (by rw [← e]; exact inA q z), fun e => m4 q e z, fun e => m6 q z e⟩
                rcases s' q hq with z | z
                · exact inj z
                · by_cases h1 : q ∈ A1
                  · exact inj (sA1 q h1).1
                  · exact nin q z h1
              have rl := g4 (dPut (.lst .own l') ks dj) A' T (fun q hq o ho => kk q (by
                rcases List.mem_append.mp hq with z | z
                · exact List.mem_cons_of_mem _ (List.mem_append_left _ (List.mem_append_left _ z))
                · exact List.mem_cons_of_mem _ (List.mem_append_right _ z)) (fun e => by
                subst e
                rcases List.mem_append.mp hq with z | z
                · exact m4 q z pA
                · exact m6 q pA z) o ho) r'
              refine ⟨p0 :: (pre ++ A' ++ post), ?_, ?_, fun q hq => ?_⟩
              · have ed : dPut (.lst .own l') (k :: ks) (.lst .own l0) = .lst .own (l0.set j (dPut (.lst .own l') ks dj)) := by
                  simp only [dPut, q, q2]
                rw [ed]
                exact rep_own.mpr ⟨p0, xs0, _, rfl, kk p0 List.mem_cons_self p0p _ hs0, rfl, rl⟩
              · refine List.nodup_cons.mpr ⟨fun z => ?_, nodup3.mpr ⟨m1, n', m3, fun x hx hy => (out x hy).2.1 hx, m5, fun x hx hy => (out x hx).2.2 hy⟩⟩
                rcases List.mem_append.mp z with z | z
                · rcases List.mem_append.mp z with z | z
                  · exact n1 (List.mem_append_left _ (List.mem_append_left _ z))
                  · exact (out p0 z).1 rfl
                · exact n1 (List.mem_append_right _ z)
              · rcases List.mem_cons.mp hq with rfl | hq
                · exact .inl List.mem_cons_self
                · rcases List.mem_append.mp hq with z | z
                  · rcases List.mem_append.mp z with z | z
                    · exact .inl (List.mem_cons_of_mem _ (List.mem_append_left _ (List.mem_append_left _ z)))
                    · exact (s' q z).imp (fun w => List.mem_cons_of_mem _ (inA q w)) id
                  · exact .inl (List.mem_cons_of_mem _ (List.mem_append_right _ z))
      | _ => cases e
    | _ => cases e
theorem Rep.walk : ∀ (ks : List Int) (d0 : D) {v w : V} {A : List Addr} {e : D}, Rep K C B H d0 v A → dAt ks d0 = some e → Walk H v ks w → ∃ A', Rep K C B H e w A' ∧ ∀ q ∈ A', q ∈ A
  | [], d0, v, w, A, d, r, e, wk => by
    cases wk
    injection e with e
    subst e
    exact ⟨A, r, fun q hq => hq⟩
  | k :: ks, d0, v, w, A, d, r, e, wk => by
    cases d0 with
    | lst f l0 =>
      cases f with
      | own =>
        have e' : (atI l0 k).bind (dAt ks) = some d := e
        obtain ⟨p0, xs0, A0, rfl, hs0, rfl, hl0⟩ := rep_own.mp r
        cases wk with
        | @cons _ xs _ u _ _ h1 h2 h3 =>
          rw [hs0] at h1
          obtain rfl : xs0 = xs := by injection h1 with h1; injection h1
          cases q : atI l0 k with
          | none => rw [q] at e'; cases e'
          | some dj =>
            rw [q] at e'
            obtain ⟨v2, A1, g1, g2, g3, _⟩ := atI_rep hl0 q
            rw [h2] at g1
            obtain rfl : u = v2 := by injection g1
            obtain ⟨A', a1, a2⟩ := Rep.walk ks dj g2 e' h3
            exact ⟨A', a1, fun z hz => List.mem_cons_of_mem _ (g3 z (a2 z hz))⟩
      | _ => cases e
    | _ => cases e
end
section
variable {X : Cx} {F : Fr} {W : WX} {G : Gh} {H Hs H' H1 : Hp} {σ : L2.St} {s : SD}
/-- an own list of the state is changed; A2, C2: what was made since the statement's begin and is put in -/
theorem St.mut {i : Nat} {ks : List Int} {d0 : D} {l : List D} {v0 w : V} (t : St F G Hs σ s) (e : Same Hs H) (hd : s[i]? = some (some d0)) (hv : σ[i]? = some (some v0)) (hat : dAt ks d0 = some (.lst .own l)) (hw : Walk H v0 ks w)
    {A2 : List Addr} {C2 : Addr → Prop} (n2 : A2.Nodup) (a2 : ∀ p ∈ A2, Hs p = none ∧ Mt (H p)) (c2 : ∀ p, C2 p → (G.C p ∨ Hs p = none) ∧ H p ≠ none ∧ p ∉ A2) :
    ∃ p xs A1, w = .ref p ∧ H p = some (.lst xs) ∧ RepL F.K (fun q => G.C q ∨ C2 q) (Bs G.B) H l xs A1 ∧ A1.Nodup ∧ (∀ q ∈ A1, q ∉ A2 ∧ ¬ (G.C q ∨ C2 q)) ∧
      ∀ l' xs' A3, RepL F.K (fun q => G.C q ∨ C2 q) (Bs G.B) H l' xs' A3 → A3.Nodup → (∀ q ∈ A3, q ∈ A1 ∨ q ∈ A2) →
        ∃ G', Step G Hs G' (upd H p (.lst xs')) ∧ St F G' (upd H p (.lst xs')) σ (s.set i (some (dPut (.lst .own l') ks d0))) := by
  have tH := t.later e
  obtain ⟨v', h1, r0⟩ := tH.slot i d0 hd
  obtain rfl : v0 = v' := by rw [hv] at h1; injection h1 with h1; injection h1
  have hi : i < s.length := (List.getElem?_eq_some_iff.mp hd).1
  obtain ⟨p, xs, A1, rfl, hp, pA, hl, nA1, sA1, put⟩ := Rep.put ks d0 r0 (t.nd i) hat hw
  have o2 : ∀ q ∈ A2, ∀ j, q ∉ G.O j := fun q hq j z => (t.ot j q z).ne (a2 q hq).1
  have c2o : ∀ q, C2 q → ∀ j, q ∉ G.O j := fun q hq j z => by
    rcases (c2 q hq).1 with w | w
    · exact (t.ct q w).2 j z
    · exact (t.ot j q z).ne w
  have kC : Tr G.C (Bs G.B) (fun q => G.C q ∨ C2 q) (Bs G.B) H H := ⟨fun p u c r => ⟨.inl c, r⟩, fun _ p u c r => ⟨c, r⟩, fun p xs r => r⟩
  refine ⟨p, xs, A1, rfl, hp, RepL.tr kC l (fun _ _ _ q => q) hl, nA1, fun q hq => ⟨fun z => o2 q z i (sA1 q hq).1, fun z => z.elim (fun z => (t.ct q z).2 i (sA1 q hq).1) fun z => c2o q z i (sA1 q hq).1⟩, fun l' xs' A3 r3 n3 h3 => ?_⟩
  have hne : ∀ q u, Rd H q u → q ≠ p → Rd (upd H p (.lst xs')) q u := fun q u r e => by
    rcases r with r | ⟨ob, r⟩
    · exact .inl (by rw [upd_ne e]; exact r)
    · exact .inr ⟨ob, by rw [upd_ne e]; exact r⟩
  have htp : ∀ q zs, Rd H q (.tup zs) → Rd (upd H p (.lst xs')) q (.tup zs) := fun q zs r => hne q _ r fun e => by
    subst e
    rcases r with r | ⟨ob, r⟩ <;> (rw [hp] at r; cases r)
  have pC : ∀ q, (G.C q ∨ C2 q) → q ≠ p := fun q h e => by
    subst e
    rcases h with h | h
    · exact (t.ct q h).2 i pA
    · exact c2o q h i pA
  have pB : ∀ q, G.B q → q ≠ p := fun q h e => by subst e; exact (t.bt q h).2 i pA
  have tr1 : Tr G.C (Bs G.B) (fun q => G.C q ∨ C2 q) (Bs G.B) H (upd H p (.lst xs')) := ⟨fun q u c r => ⟨.inl c, hne q u r (pC q (.inl c))⟩, fun k q u b r => by cases k with | false => exact ⟨b, hne q u r (pB q b)⟩ | true => exact b.elim, htp⟩
  have tr2 : Tr (fun q => G.C q ∨ C2 q) (Bs G.B) (fun q => G.C q ∨ C2 q) (Bs G.B) H (upd H p (.lst xs')) := ⟨fun q u c r => ⟨c, hne q u r (pC q c)⟩, fun k q u b r => by cases k with | false => exact ⟨b, hne q u r (pB q b)⟩ | true => exact b.elim, htp⟩
  have p3 : p ∉ A3 := fun z => by
    rcases h3 p z with w | w
    · exact (sA1 p w).2 rfl
    · exact o2 p w i pA
  obtain ⟨A', r', n', s'⟩ := put l' xs' A3 tr1 (fun q hq ne o ho => by rw [upd_ne ne]; exact ho) upd_same (RepL.tr tr2 l' (fun q hq o ho => by rw [upd_ne (fun e => p3 (by rw [← e]; exact hq))]; exact ho) r3) n3 p3 (fun q hq => (h3 q hq).imp id fun z => o2 q z i)
  have sA' : ∀ q ∈ A', q ∈ G.O i ∨ q ∈ A2 := fun q hq => by
    rcases s' q hq with z | z
    · exact .inl z
    · rcases h3 q z with w | w
      · exact .inl (sA1 q w).1
      · exact .inr w
  have mtU : ∀ q, Mt (H q) → Mt ((upd H p (.lst xs')) q) := fun q h => by
    by_cases e : q = p
    · subst e; rw [upd_same]; trivial
    · rw [upd_ne e]; exact h
  have neU : ∀ q, H q ≠ none → (upd H p (.lst xs')) q ≠ none := fun q h => by
    by_cases e : q = p
    · subst e; rw [upd_same]; exact fun z => nomatch z
    · rw [upd_ne e]; exact h
  refine ⟨⟨fun q => G.C q ∨ C2 q, G.B, fun j => if j = i then A' else G.O j⟩, ⟨fun q h => .inl h, fun q h => h, fun q o ho n => ?_, fun j q h => ?_, fun q h => neU q (same_ne e h)⟩, ⟨fun j d' q => ?_, fun j => ?_, fun j k q h1 h2 => ?_, fun q h => ⟨?_, fun j z => ?_⟩, fun q h => ⟨neU q (tH.bt q h).1, fun j z => ?_⟩, fun j q h => ?_, fun q h => ?_, fun j q h => ?_, fun q o ho => ?_, by simp [t.len]⟩⟩
  · rw [upd_ne (fun z => n i (by rw [z]; exact pA))]
    exact e q o ho
  · dsimp only at h
    split at h
    · rcases sA' q h with z | z
      · exact .inl ⟨i, z⟩
      · exact .inr (a2 q z).1
    · exact .inl ⟨j, h⟩
  · by_cases hj : j = i
    · subst hj
      rw [List.getElem?_set_self hi] at q
      obtain rfl : dPut (.lst .own l') ks d0 = d' := Option.some.inj (Option.some.inj q)
      exact ⟨v0, hv, by simpa using r'⟩
    · rw [List.getElem?_set_ne (Ne.symm hj)] at q
      obtain ⟨u, g1, g2⟩ := tH.slot j d' q
      refine ⟨u, g1, ?_⟩
      have := Rep.tr tr1 d' (fun q hq o ho => by rw [upd_ne (fun z => hj (t.dj j i q hq (by rw [z]; exact pA)))]; exact ho) g2
      simpa [hj] using this
  · dsimp only
    split
    · exact n'
    · exact t.nd j
  · dsimp only at h1 h2
    split at h1 <;> split at h2
    · omega
    · rename_i e1 e2
      rcases sA' q h1 with z | z
      · exact (e2 (t.dj k i q h2 z)).elim
      · exact (o2 q z k h2).elim
    · rename_i e1 e2
      rcases sA' q h2 with z | z
      · exact (e1 (t.dj j i q h1 z)).elim
      · exact (o2 q z j h1).elim
    · exact t.dj j k q h1 h2
  · rcases h with h | h
    · exact neU q (tH.ct q h).1
    · exact neU q (c2 q h).2.1
  · dsimp only at z
    split at z
    · rcases sA' q z with w | w
      · rcases h with h | h
        · exact (t.ct q h).2 i w
        · exact c2o q h i w
      · rcases h with h | h
        · exact (t.ct q h).1 (a2 q w).1
        · exact (c2 q h).2.2 w
    · rcases h with h | h
      · exact (t.ct q h).2 j z
      · exact c2o q h j z
  · dsimp only at z
    split at z
    · rcases sA' q z with w | w
      · exact (t.bt q h).2 i w
      · exact (t.bt q h).1 (a2 q w).1
    · exact (t.bt q h).2 j z
  · dsimp only at h
    split at h
    · rcases sA' q h with w | w
      · exact mtU q (tH.ot i q w)
      · exact mtU q (a2 q w).2
    · exact mtU q (tH.ot j q h)
  · rcases h with h | h
    · exact t.c0 q h
    · rcases (c2 q h).1 with w | w
      · exact t.c0 q w
      · exact .inr (t.h0.free w)
  · dsimp only at h
    split at h
    · rcases sA' q h with w | w
      · exact t.o0 i q w
      · exact t.h0.free (a2 q w).1
    · exact t.o0 j q h
  · have hn : q ≠ p := fun z => by
      have := t.o0 i p pA
      rw [z, this] at ho
      cases ho
    rw [upd_ne hn]
    exact e q o (t.h0 q o ho)
/-! ### the path's expression -/
def OutP (F : Fr) (W : WX) (G : Gh) (i : Nat) (σ : L2.St) (s : SD) (H : Hp) (Q : VK) : R (List Int) → Prop
  | .ok ks => ∃ d e, s[i]? = some (some d) ∧ dAt ks d = some e ∧ ∀ v H' w, σ[i]? = some (some v) → Same H H' → Walk H' v ks w → Q w H'
  | .rs c p => ∀ H' dct, Same H H' → Pay H' dct p → W (F.cls c) dct σ H'
  | .stk => False
def liftP (F : Fr) (W : WX) (i : Nat) (f : SD → R (List Int)) : TE := fun σ H Q => ∃ G s, St F G H σ s ∧ OutP F W G i σ s H Q (f s)
abbrev SPa (X : Cx) (F : Fr) (W : WX) (e : Expr) (i : Nat) (f : SD → R (List Int)) : Prop := PE X e (liftP F W i f)
theorem sp_name {i : Nat} {x : Str} {pos : Pos} (hN : X.N[i]? = some x) (hv : Vis X.env.scope x) (hd : (x == ("__debug__" : Str)) = false) (hcd : (x == ("__classdict__" : Str)) = false) : SPa X F W (.Name x pos) i (fun _ => .ok []) := by
  refine PE.imp (pe_var hN hv hd hcd) fun σ H Q ⟨G, s, t, d, e, h1, h2, k⟩ => ?_
  obtain ⟨v, g1, g2⟩ := t.slot i d h1
  exact ⟨v, g1, k v H v g1 (Same.refl H) .nil⟩
def snocR (x : R (List Int)) (y : R D) : R (List Int) := x.bind fun ks => (nr y).bind fun d => match d with
  | .int k => .ok (ks ++ [k])
  | _ => .stk
theorem sp_ix {a b : Expr} {fa : SD → R (List Int)} {fb : SD → R D} {i : Nat} {pos : Pos} (hs : PlainIx b) (ha : SPa X F W a i fa) (hb : SE X F W b fb) : SPa X F W (.Subscript a b pos) i (fun s => snocR (fa s) (fb s)) := by
  refine PE.imp (pe_ix ix_list ha hb hs) fun σ H Q ⟨G, s, t, o⟩ => ⟨G, s, t, ?_⟩
  dsimp only at o
  unfold snocR at o
  cases q : fa s with
  | stk => rw [q] at o; exact o.elim
  | rs c p => rw [q] at o; exact o
  | ok ks =>
    rw [q] at o
    dsimp only [R.bind] at o
    cases q2 : fb s with
    | stk => rw [q2] at o; exact o.elim
    | rs c p => rw [q2] at o; exact o.elim
    | ok d =>
      rw [q2] at o
      cases d with
      | int k =>
        obtain ⟨d0, e0, h1, h2, go⟩ := o
        rw [dAt_snoc] at h2
        cases q3 : dAt ks d0 with
        | none => rw [q3] at h2; cases h2
        | some d1 =>
          rw [q3] at h2
          refine ⟨d0, d1, h1, q3, fun v H1 w hv s1 wk => ⟨G, s, t.later s1, ?_⟩⟩
          rw [q2]
          intro y H2 vy
          cases d1 with
          | lst f l =>
            cases f with
            | own =>
              have h2' : atI l k = some e0 := h2
              obtain ⟨v', g1, g2⟩ := (t.later s1).slot i d0 h1
              obtain rfl : v = v' := by rw [hv] at g1; injection g1 with g1; injection g1
              obtain ⟨A', r', _⟩ := Rep.walk ks d0 g2 q3 wk
              obtain ⟨p, xs, A1, rfl, hp, _, hl⟩ := rep_own.mp r'
              obtain ⟨u, A2, g3, _⟩ := atI_rep hl h2'
              have hp2 := vy.same _ _ hp
              have wk2 : ∀ {v ks w}, Walk H1 v ks w → Walk H2 v ks w := by
                intro v ks w wk
                induction wk with
                | nil => exact .nil
                | cons a b c ih => exact .cons (vy.same _ _ a) b ih
              exact ⟨p, xs, k, u, rfl, val_is_int vy, .inl (.inl hp2), g3, go v H2 u hv (s1.trans vy.same) (Walk.snoc hp2 g3 (wk2 wk))⟩
            | _ => cases h2
          | _ => cases h2
      | _ => exact o.elim
end
end Fe

/-! Fe10: statements that change lists, calls of defs, what a def promises. -/
namespace Fe
open PySem L2
def ownL (s : SD) (i : Nat) (ks : List Int) : Option (D × List D) := match s[i]? with
  | some (some d) => (match dAt ks d with
    | some (.lst .own l) => some (d, l)
    | _ => none)
  | _ => none
theorem ownL_some {s : SD} {i : Nat} {ks : List Int} {d : D} {l : List D} (h : ownL s i ks = some (d, l)) : s[i]? = some (some d) ∧ dAt ks d = some (.lst .own l) := by
  unfold ownL at h
  split at h
  · rename_i d0 e
    split at h
    · rename_i l0 e2
      injection h with h
      injection h with h1 h2
      subst h1 h2
      exact ⟨e, e2⟩
    · cases h
  · cases h
def putO (s : SD) (i : Nat) (ks : List Int) (d0 : D) (l' : Option (List D)) : O := match l' with
  | some l' => .nx (s.set i (some (dPut (.lst .own l') ks d0)))
  | none => .stk
def mthO (tx : List D → List D → Option (List D)) (i : Nat) (fks : SD → R (List Int)) (fs : SD → R (List D)) (s : SD) : O := (fks s).thenO s fun ks => match ownL s i ks with
  | some (d0, l) => (fs s).thenO s fun ds => putO s i ks d0 (tx l ds)
  | none => .stk
/-- how a method of lists answers one on data -/
def MthOk (K : PySem.W.Frag) (r : V → List V → Hp → VK → Prop) (tx : List D → List D → Option (List D)) : Prop := ∀ (C : Addr → Prop) (B : Bool → Addr → Prop) (H : Hp) (l ds l' : List D) (xs vs : List V) (A1 A2 : List Addr) (p : Addr) (Q : VK), tx l ds = some l' → H p = some (.lst xs) → RepL K C B H l xs A1 →
  RepL K C B H ds vs A2 → A1.Nodup → A2.Nodup → (∀ q ∈ A1, q ∉ A2) → (∀ v xs' A3, RepL K C B H l' xs' A3 → A3.Nodup → (∀ q ∈ A3, q ∈ A1 ∨ q ∈ A2) → Q v (upd H p (.lst xs'))) → r (.ref p) vs H Q
theorem Walk.later {H H' : Hp} (e : Same H H') : ∀ {v : V} {ks : List Int} {w : V}, Walk H v ks w → Walk H' v ks w := by
  intro v ks w wk
  induction wk with
  | nil => exact .nil
  | cons a b c ih => exact .cons (e _ _ a) b ih
section
variable {X : Cx} {F : Fr} {W : WX} {G : Gh} {H H' H1 : Hp} {σ : L2.St} {s : SD}
theorem mth_go {r : V → List V → Hp → VK → Prop} {tx : List D → List D → Option (List D)} {i : Nat} {fks : SD → R (List Int)} {fs : SD → R (List D)} {Dn : Ends} {T : TA} (hT : ∀ σ H Q, liftL F W fs σ H Q → T σ H Q) (ok : MthOk F.K r tx) (nb : ∀ l ds l', tx l ds = some l' → noBoL ds = true) (t : St F G H σ s) (o : OutS F W Dn G H (mthO tx i fks fs s)) :
    tDrop (tBM F.K "list" r (liftP F W i fks) T) Dn σ H := by
  refine ⟨G, s, t, ?_⟩
  unfold mthO at o
  cases q : fks s with
  | stk => rw [q] at o; exact o.elim
  | rs c p => rw [q] at o; exact fun H' dct e pp => o G σ H' dct (Step.same e) (t.later e) pp
  | ok ks =>
    rw [q] at o
    dsimp only [R.thenO] at o
    cases q2 : ownL s i ks with
    | none => rw [q2] at o; exact o.elim
    | some dl =>
      obtain ⟨d0, l⟩ := dl
      rw [q2] at o
      dsimp only at o
      obtain ⟨h1, h2⟩ := ownL_some q2
      refine ⟨d0, _, h1, h2, fun v H1 w hv s1 wk => ?_⟩
      have t1 := t.later s1
      obtain ⟨v', g1, g2⟩ := t1.slot i d0 h1
      obtain rfl : v = v' := by rw [hv] at g1; injection g1 with g1; injection g1
      obtain ⟨A', r', _⟩ := Rep.walk ks d0 g2 h2 wk
      obtain ⟨p0, xs0, _, rfl, hp0, _, _⟩ := rep_own.mp r'
      refine ⟨.inl ⟨rfl, xs0, .inl (.inl hp0)⟩, hT _ _ _ ⟨G, s, t1, ?_⟩⟩
      cases q3 : fs s with
      | stk => rw [q3] at o; exact o.elim
      | rs c p => rw [q3] at o; exact fun H' dct e pp => o G σ H' dct (Step.same (s1.trans e)) (t.later (s1.trans e)) pp
      | ok ds =>
        rw [q3] at o
        dsimp only [R.thenO] at o
        intro vs H2 x
        unfold putO at o
        cases q4 : tx l ds with
        | none => rw [q4] at o; exact o.elim
        | some l' =>
          rw [q4] at o
          have x0 : ValL F.K G.C G.BO H H2 vs ds := x.since s1 nil_all fun _ c => .inl c
          obtain ⟨A2, C2, n2, a2, c2, r2⟩ := x0.ex
          obtain ⟨p, xs, A1, e1, hp, hl, nA1, sA1, fin⟩ := St.mut t x0.same h1 hv h2 (wk.later x.same) (A2 := A2) (C2 := C2) n2 (fun q hq => ⟨(a2 q hq).elim (fun z => nomatch z) id, RepL.trk _ r2 q hq⟩) c2
          rw [e1]
          have r2' : RepL F.K (fun q => G.C q ∨ C2 q) (Bs G.B) H2 ds vs A2 := RepL.tr ⟨fun p u c r => ⟨.inr c, r⟩, fun _ p u c r => ⟨c, r⟩, fun p xs r => r⟩ ds (fun _ _ _ q => q) (RepL.noBo (B := G.BO) (B' := Bs G.B) (fun _ b => b) ds (nb l ds l' q4) r2)
          refine ok _ _ H2 l ds l' xs vs A1 A2 p _ q4 hp hl r2' nA1 n2 (fun q hq => (sA1 q hq).1) fun v xs' A3 r3 n3 h3 => ?_
          obtain ⟨G', st, t'⟩ := fin l' xs' A3 r3 n3 h3
          exact o G' σ _ st t'
def txAppend (l ds : List D) : Option (List D) := match ds with
  | [d] => if d.noBo = true ∧ l.length < 16777216 then some (l ++ [d]) else none
  | _ => none
def txExtend (l ds : List D) : Option (List D) := match ds with
  | [.lst .own m] => if noBoL m = true ∧ l.length + m.length ≤ 16777216 then some (l ++ m) else none
  | _ => none
def txPopAt (l ds : List D) : Option (List D) := match ds with
  | [.int i] => if -(2 ^ 63) ≤ i ∧ i < 2 ^ 63 then (match ixN l.length i with
    | some j => some (l.eraseIdx j)
    | none => none) else none
  | _ => none
theorem disj_append {A1 A2 : List Addr} (n1 : A1.Nodup) (n2 : A2.Nodup) (d : ∀ q ∈ A1, q ∉ A2) : (A1 ++ A2).Nodup := List.nodup_append.mpr ⟨n1, n2, fun a ha b hb e => d a ha (e ▸ hb)⟩
theorem mok_append {K : PySem.W.Frag} : MthOk K rAppend txAppend := fun C B H l ds l' xs vs A1 A2 p Q e hp hl hd n1 n2 dj k => by
  unfold txAppend at e
  split at e
  · rename_i d
    split at e
    · rename_i h
      injection e with e
      subst e
      obtain ⟨y, rfl, r1⟩ := repL_onev hd
      exact ⟨p, xs, y, rfl, rfl, hp, by rw [hl.length, sizeLine_eq]; exact h.2, k _ _ _ (RepL.append hl hd) (disj_append n1 n2 dj) fun q hq => List.mem_append.mp hq⟩
    · cases e
  · cases e
theorem mok_extend {K : PySem.W.Frag} : MthOk K rExtend txExtend := fun C B H l ds l' xs vs A1 A2 p Q e hp hl hd n1 n2 dj k => by
  unfold txExtend at e
  split at e
  · rename_i m
    split at e
    · rename_i h
      injection e with e
      subst e
      obtain ⟨y, rfl, r1⟩ := repL_onev hd
      obtain ⟨b, zs, A3, rfl, hb, rfl, hm⟩ := rep_own.mp r1
      obtain ⟨_, n3⟩ := List.nodup_cons.mp n2
      refine ⟨p, b, xs, zs, rfl, rfl, hp, hb, by rw [hl.length, hm.length]; exact le_line h.2, k _ _ _ (RepL.append hl hm) (disj_append n1 n3 fun q hq z => dj q hq (List.mem_cons_of_mem _ z)) fun q hq => ?_⟩
      exact (List.mem_append.mp hq).imp id fun z => List.mem_cons_of_mem _ z
    · cases e
  · cases e
theorem RepL.erase {K : PySem.W.Frag} {C : Addr → Prop} {B : Bool → Addr → Prop} {H : Hp} : ∀ {l : List D} {xs : List V} {A : List Addr} (j : Nat), RepL K C B H l xs A → ∃ A1, RepL K C B H (l.eraseIdx j) (xs.eraseIdx j) A1 ∧ (∀ q ∈ A1, q ∈ A) ∧ (A.Nodup → A1.Nodup)
  | [], xs, A, j, h => by
    obtain ⟨rfl, rfl⟩ := repL_nil.mp h
    exact ⟨[], by simpa using repL_nil.mpr ⟨rfl, rfl⟩, fun q hq => hq, id⟩
  | d :: r, xs, A, 0, h => by
    obtain ⟨v, vr, A1, A2, rfl, rfl, h1, h2⟩ := repL_cons.mp h
    exact ⟨A2, by simpa using h2, fun q hq => List.mem_append_right _ hq, fun z => (List.nodup_append.mp z).2.1⟩
  | d :: r, xs, A, j + 1, h => by
    obtain ⟨v, vr, A1, A2, rfl, rfl, h1, h2⟩ := repL_cons.mp h
    obtain ⟨A3, q1, q2, q3⟩ := RepL.erase j h2
    refine ⟨A1 ++ A3, by simpa using repL_cons.mpr ⟨v, _, A1, A3, rfl, rfl, h1, q1⟩, fun q hq => ?_, fun z => ?_⟩
    · rcases List.mem_append.mp hq with hq | hq
      · exact List.mem_append_left _ hq
      · exact List.mem_append_right _ (q2 q hq)
    · obtain ⟨z1, z2, z3⟩ := List.nodup_append.mp z
      exact List.nodup_append.mpr ⟨z1, q3 z2, fun a ha b hb => z3 a ha b (q2 b hb)⟩
theorem mok_popAt {K : PySem.W.Frag} : MthOk K rPopAt txPopAt := fun C B H l ds l' xs vs A1 A2 p Q e hp hl hd n1 n2 dj k => by
  unfold txPopAt at e
  split at e
  · rename_i i
    split at e
    · rename_i h
      split at e
      · rename_i j hj
        injection e with e
        subst e
        obtain ⟨y, rfl, r1⟩ := repL_onev hd
        obtain ⟨rfl, rfl⟩ := rep_int.mp r1
        obtain ⟨h1, h2, _, _⟩ := ixN_seq hj
        rw [← hl.length] at h1 h2
        obtain ⟨A3, q1, q2, q3⟩ := RepL.erase j hl
        exact ⟨p, xs, i, j, xs[j], rfl, rfl, hp, h.1, h.2, h1, List.getElem?_eq_getElem h2, k _ _ _ q1 (q3 n1) fun q hq => .inl (q2 q hq)⟩
      · cases e
    · cases e
  · cases e
/-! ### a place stored -/
theorem RepL.set {K : PySem.W.Frag} {C : Addr → Prop} {B : Bool → Addr → Prop} {H : Hp} {d : D} {v : V} {A2 : List Addr} (hd : Rep K C B H d v A2) (n2 : A2.Nodup) : ∀ {l : List D} {xs : List V} {A : List Addr} (j : Nat), j < l.length → RepL K C B H l xs A → A.Nodup → (∀ q ∈ A, q ∉ A2) →
    ∃ A1, RepL K C B H (l.set j d) (xs.set j v) A1 ∧ (∀ q ∈ A1, q ∈ A ∨ q ∈ A2) ∧ A1.Nodup
  | [], xs, A, j, hj, h, n, dj => by simp at hj
  | d0 :: r, xs, A, 0, hj, h, n, dj => by
    obtain ⟨w, vr, A1, A3, rfl, rfl, h1, h2⟩ := repL_cons.mp h
    refine ⟨A2 ++ A3, repL_cons.mpr ⟨v, vr, A2, A3, rfl, rfl, hd, h2⟩, fun q hq => ?_, disj_append n2 (List.nodup_append.mp n).2.1 fun q hq z => dj q (List.mem_append_right _ z) hq⟩
    rcases List.mem_append.mp hq with z | z
    · exact .inr z
    · exact .inl (List.mem_append_right _ z)
  | d0 :: r, xs, A, j + 1, hj, h, n, dj => by
    obtain ⟨w, vr, A1, A3, rfl, rfl, h1, h2⟩ := repL_cons.mp h
    obtain ⟨z1, z2, z3⟩ := List.nodup_append.mp n
    obtain ⟨A4, q1, q2, q3⟩ := RepL.set hd n2 j (by simpa using hj) h2 z2 fun q hq => dj q (List.mem_append_right _ hq)
    refine ⟨A1 ++ A4, repL_cons.mpr ⟨w, _, A1, A4, rfl, rfl, h1, q1⟩, fun q hq => ?_, disj_append z1 q3 fun q hq z => ?_⟩
    · rcases List.mem_append.mp hq with z | z
      · exact .inl (List.mem_append_left _ z)
      · exact (q2 q z).imp (fun z => List.mem_append_right _ z) id
    · rcases q2 q z with w | w
      · exact z3 q hq q w rfl
      · exact dj q (List.mem_append_left _ hq) w
def putK' (l : List D) (d k : D) : Option (List D) := match k with
  | .int k => (match ixN l.length k with
    | some j => if d.noBo = true then some (l.set j d) else none
    | none => none)
  | _ => none
def storeO (i : Nat) (fks : SD → R (List Int)) (fk fe : SD → R D) (s : SD) : O := (fe s).thenO s fun d => (fks s).thenO s fun ks => match ownL s i ks with
  | some (d0, l) => (fk s).thenO s fun k => putO s i ks d0 (putK' l d k)
  | none => .stk
theorem store_go {i : Nat} {fks : SD → R (List Int)} {fk fe : SD → R D} {Dn : Ends} (t : St F G H σ s) (o : OutS F W Dn G H (storeO i fks fk fe s)) : tAsg (liftE F W fe) (L2.gSub (liftP F W i fks) (liftE F W fk) rSetL) Dn σ H := by
  unfold storeO at o
  refine liftE_then t (Same.refl H) o fun d o x H0 vx => ?_
  refine ⟨G, s, t.later vx.same, ?_⟩
  cases q : fks s with
  | stk => rw [q] at o; exact o.elim
  | rs c p => rw [q] at o; exact fun H' dct e pp => o G σ H' dct (Step.same (vx.same.trans e)) (t.later (vx.same.trans e)) pp
  | ok ks =>
    rw [q] at o
    dsimp only [R.thenO] at o
    cases q2 : ownL s i ks with
    | none => rw [q2] at o; exact o.elim
    | some dl =>
      obtain ⟨d0, l⟩ := dl
      rw [q2] at o
      dsimp only at o
      obtain ⟨h1, h2⟩ := ownL_some q2
      refine ⟨d0, _, h1, h2, fun v H1 w hv s1 wk => ?_⟩
      have s01 := vx.same.trans s1
      refine liftE_then (t.later s01) s01 o fun k o y H2 vy => ?_
      have s02 := s01.trans vy.same
      unfold putO putK' at o
      cases k with
      | int k =>
        dsimp only at o
        cases q3 : ixN l.length k with
        | none => rw [q3] at o; exact o.elim
        | some j =>
          rw [q3] at o
          dsimp only at o
          by_cases nb : d.noBo = true
          · rw [if_pos nb] at o
            have x0 : Val F.K G.C G.BO H H2 x d := vx.later (s1.trans vy.same)
            obtain ⟨A2, C2, n2, a2, c2, r2⟩ := x0.ex
            obtain ⟨p, xs, A1, e1, hp, hl, nA1, sA1, fin⟩ := St.mut t x0.same h1 hv h2 (wk.later vy.same) (A2 := A2) (C2 := C2) n2 (fun q hq => ⟨(a2 q hq).elim (fun z => nomatch z) id, RepL.trk _ r2 q hq⟩) c2
            have r2' : Rep F.K (fun q => G.C q ∨ C2 q) (Bs G.B) H2 d x A2 := Rep.tr ⟨fun p u c r => ⟨.inr c, r⟩, fun _ p u c r => ⟨c, r⟩, fun p xs r => r⟩ d (fun _ _ _ q => q) (Rep.noBo (B := G.BO) (B' := Bs G.B) (fun _ b => b) d nb (rep_one.mp r2))
            have hj := (ixN_seq q3).2.1
            obtain ⟨A3, q4, q5, q6⟩ := RepL.set r2' n2 j hj hl nA1 fun q hq => (sA1 q hq).1
            obtain ⟨G', st, t'⟩ := fin (l.set j d) (xs.set j x) A3 q4 q6 q5
            exact ⟨p, xs, k, j, e1, val_is_int vy, hp, by rw [hl.length]; exact q3, o G' σ _ st t'⟩
          · rw [if_neg nb] at o; exact o.elim
      | _ => exact o.elim
/-! ### x op= e, of ints -/
def augO (i : Nat) (g : D → D → Option D) (fe : SD → R D) (s : SD) : O := match s[i]? with
  | some (some (.int a)) => (fe s).thenO s fun y => (D2 g [.int a, y]).thenO s (setO i s)
  | _ => .stk
theorem aug_go {i : Nat} {f : Int → Int → Int} {g : D → D → Option D} {fe : SD → R D} {Dn : Ends} (hg : ∀ a y z, g (.int a) y = some z → ∃ b, y = .int b ∧ z = .int (f a b)) (t : St F G H σ s) (o : OutS F W Dn G H (augO i g fe s)) : tAug i (liftE F W fe) (ipI f) Dn σ H := by
  unfold augO at o
  split at o
  · rename_i a e
    obtain ⟨v, h1, h2⟩ := t.slot i _ e
    obtain ⟨rfl, _⟩ := rep_int.mp h2
    refine ⟨.int a, h1, liftE_then t (Same.refl H) o fun y o w H1 vy => ?_⟩
    cases q : g (.int a) y with
    | none =>
      have : D2 g [.int a, y] = .stk := by show ofO (g (.int a) y) = _; rw [q]; rfl
      rw [this] at o
      exact o.elim
    | some z =>
      have e2 : D2 g [.int a, y] = .ok z := by show ofO (g (.int a) y) = _; rw [q]; rfl
      rw [e2] at o
      obtain ⟨b, rfl, rfl⟩ := hg a y z q
      exact ⟨a, b, rfl, val_is_int vy, set_out t o (val_int.since vy.same nil_all fun _ c => .inl c)⟩
  · exact o.elim
end
/-! ### what a def promises -/
/-- called with values that stand for ds (nothing own among them) it hands back what m says -/
def spOf (K : PySem.W.Frag) (cls : Str → Value) (n : Nat) (m : List D → R D) : Sp := fun vs H Q E => ∃ (C : Addr → Prop) (ds : List D), ds.length = n ∧ (∀ p, C p → H p ≠ none) ∧ RepL K C (fun _ p => H p ≠ none) H ds vs [] ∧
  match m ds with
  | .ok d => ∀ v H', Val K C (fun _ _ => False) H H' v d → Q v H'
  | .rs c p => ∀ H' dct, Same H H' → Pay H' dct p → E (cls c) dct H'
  | .stk => False
end Fe

/-! Fe11: expressions as a small tongue of their own, read off the text; what is read off is right. -/
namespace Fe
open PySem L2
inductive Op where
  | add | sub | mul | fdiv | mod | pow | xor | eq | ne | lt | le | gt | ge | isIn | notIn | is | isNot
  deriving DecidableEq
def Op.g : Op → D → D → Option D
  | .add => gAdd | .sub => gSub | .mul => gMul | .fdiv => gFdiv | .mod => gMod | .pow => gPow | .xor => gXor | .eq => gEq | .ne => gNe | .lt => gLt | .le => gLe | .gt => gGt | .ge => gGe
  | .isIn => gIn | .notIn => gNotIn | .is => gIs | .isNot => gIsNot
/-- of ints alone, for chains -/
def Op.p : Op → Option (Int → Int → Bool)
  | .le => some fun i j => decide (i ≤ j)
  | .gt => some fun i j => decide (j < i)
  | .ge => some fun i j => decide (j ≤ i)
  | .lt => some fun i j => decide (i < j)
  | _ => none
inductive Bi where
  | len | sum | all | any | tuple | list | abs | max | min
  deriving DecidableEq
def Bi.name : Bi → Str
  | .len => "len" | .sum => "sum" | .all => "all" | .any => "any" | .tuple => "tuple" | .list => "list" | .abs => "abs" | .max => "max" | .min => "min"
def Bi.g : Bi → List D → Option D
  | .len => gLen | .sum => gSum | .all => gAll | .any => gAny | .tuple => gTupleF | .list => gListF | .abs => gAbs | .max => gMax | .min => gMin
def biAll : List Bi := [.len, .sum, .all, .any, .tuple, .list, .abs, .max, .min]
def biOf (x : Str) : Option Bi := biAll.find? fun b => b.name == x
inductive E where
  | var (i : Nat) | int (i : Int) | bl (b : Bool) | str (x : Str) | non | cst (d : D)
  | op (o : Op) (a b : E) | neg (a : E) | not (a : E) | and (a b : E) | or (a b : E) | ite (c a b : E) | ch (o o' : Op) (a b c : E)
  | tup (es : List E) | lst (es : List E) | dnew
  | ix (a b : E) | sl (a : E) (lo hi : List E)
  | bi (b : Bi) (es : List E) | isi (T : String) (e : E)
  | call (j : Nat) (es : List E)
  | lc (k : Nat) (src : List E) (tp : Bool) (is : List Nat) (tst : List E) (elt : E) (vs : List Nat)
def itG (m : Bool) : Nat → List D → R (List D)
  | 0, [d] => itemsM m d
  | 1, ds => rngO1 ds
  | 2, ds => rngO2 ds
  | 3, ds => zipG m ds
  | _, _ => .stk
def tgF (tp : Bool) (is : List Nat) : D → SD → Option SD := match tp with
  | true => setT is
  | false => match is with
    | [i] => setN i
    | _ => fun _ _ => none
abbrev Mir := Nat → Nat × (List D → R D)
def callR (Γ : Mir) (j : Nat) (ds : List D) : R D := if ds.length = (Γ j).1 then (Γ j).2 (toBwL ds) else .stk
section
variable (Γ : Mir)
mutual
def E.ev : E → SD → R D
  | .var i, s => match s[i]? with
    | some (some d) => .ok d.toBo
    | _ => .stk
  | .int i, _ => .ok (.int i)
  | .bl b, _ => .ok (.bl b)
  | .str x, _ => .ok (.str x)
  | .non, _ => .ok .non
  | .cst d, _ => .ok d
  | .op o a b, s => (a.ev s).bind fun x => (b.ev s).bind fun y => D2 o.g [x, y]
  | .neg a, s => (a.ev s).bind fun x => D1 gNeg [x]
  | .not a, s => notR (a.ev s)
  | .and a b, s => andR (a.ev s) (b.ev s)
  | .or a b, s => orR (a.ev s) (b.ev s)
  | .ite c a b, s => iteR (c.ev s) (a.ev s) (b.ev s)
  | .ch o o' a b c, s => match o.p, o'.p with
    | some p, some p' => chR p p' (a.ev s) (b.ev s) (c.ev s)
    | _, _ => .stk
  | .tup es, s => (E.evs es s).bind (DL gTup)
  | .lst es, s => (E.evs es s).bind (DL gLst)
  | .dnew, _ => .ok (.dk .own [] [])
  | .ix a b, s => (a.ev s).bind fun x => (b.ev s).bind fun y => D2 gIx [x, y]
  | .sl a lo hi, s => slR (a.ev s) (E.evO lo s) (E.evO hi s)
  | .bi b es, s => (E.evs es s).bind (DL b.g)
  | .isi T e, s => isiR T (e.ev s)
  | .call j es, s => (E.evs es s).bind (callR Γ j)
  | .lc k src tp is tst elt vs, s => ((E.evs src s).bind (itG true k)).bind (lcO (tgF tp is) (E.evT tst) elt.ev vs s)
def E.evs : List E → SD → R (List D)
  | [], _ => .ok []
  | e :: r, s => (e.ev s).bind fun d => (E.evs r s).bind fun ds => .ok (d :: ds)
/-- a test that may lack -/
def E.evT : List E → SD → R D
  | [], _ => .ok (.bl true)
  | e :: _, s => e.ev s
/-- a slice's end that may lack -/
def E.evO : List E → SD → R (Option Int)
  | [], _ => .ok none
  | e :: _, s => ixR (e.ev s)
end
end
/-! ### reading off -/
structure Cfg where
  N : List Str
  sc : Scope
  blt : List Str
  fid : List (Str × Nat)
  cst : List (Str × D)
def ixOf (N : List Str) (x : Str) : Option Nat := N.findIdx? (· == x)
def Cfg.own (c : Cfg) (scope : Scope) : List (Str × Nat) := scope.names.filterMap fun (x, k) => if k == .local || k == .cell then (ixOf c.N x).map fun i => (x, i) else none
def visC (sc : Scope) (x : Str) : Bool := match sc.names.lookup x with
  | some .local => true
  | some .cell => true
  | some .free => true
  | _ => false
def stoC (sc : Scope) (x : Str) : Bool := match sc.names.lookup x with
  | some .local => true
  | some .cell => true
  | _ => false
def glC (sc : Scope) (x : Str) : Bool := match sc.names.lookup x with
  | some .globalImplicit => true
  | _ => false
def plainName (x : Str) : Bool := !(x == ("__debug__" : Str)) && !(x == ("__classdict__" : Str)) && !(x == ("__name__" : Str))
def mapO {α β : Type} (f : α → Option β) : List α → Option (List β)
  | [] => some []
  | a :: r => (f a).bind fun b => (mapO f r).map (b :: ·)
def binOp : Operator → Option Op
  | .Add => some .add | .Sub => some .sub | .Mult => some .mul | .FloorDiv => some .fdiv | .Mod => some .mod | .Pow => some .pow | .BitXor => some .xor
  | _ => none
def cmpOp : CmpOp → Option Op
  | .Eq => some .eq | .NotEq => some .ne | .Lt => some .lt | .LtE => some .le | .Gt => some .gt | .GtE => some .ge | .In => some .isIn | .NotIn => some .notIn | .Is => some .is | .IsNot => some .isNot
def tyName (x : Str) : Option String :=
  if x = "int" then some "int" else if x = "bool" then some "bool" else if x = "tuple" then some "tuple" else if x = "list" then some "list" else if x = "str" then some "str" else if x = "dict" then some "dict" else none
def foldB (g : E → E → E) : List E → Option E
  | [] => none
  | [a] => some a
  | a :: r => (foldB g r).map (g a)
/-- a target's slots; true: a tuple of names -/
def nameIx (c : Cfg) : Expr → Option Nat
  | .Name x _ => if stoC c.sc x = true then ixOf c.N x else none
  | _ => none
def compG (c : Cfg) : Expr → Option (Bool × List Nat)
  | .Name x p => (nameIx c (.Name x p)).map fun i => (false, [i])
  | .Tuple es _ _ => (mapO (nameIx c) es).map fun is => (true, is)
  | _ => none
/-- what is walked -/
def compI (f : Expr → Option E) (c : Cfg) (iter : Expr) : Option (Nat × List E) := match iter with
  | .Call (.Name x _) [a] [] _ => if x = "range" ∧ glC c.sc x = true ∧ x ∈ c.blt then (mapO f [a]).map fun src => (1, src) else (f iter).map fun x => (0, [x])
  | .Call (.Name x _) [a, b] [] _ => if x = "range" ∧ glC c.sc x = true ∧ x ∈ c.blt then (mapO f [a, b]).map fun src => (2, src) else if x = "zip" ∧ glC c.sc x = true ∧ x ∈ c.blt then (mapO f [a, b]).map fun src => (3, src) else (f iter).map fun x => (0, [x])
  | _ => (f iter).map fun x => (0, [x])
def compE : Nat → Cfg → Expr → Option E
  | 0, _, _ => none
  | n + 1, c, e => match e with
    | .Name x _ => if plainName x then (if visC c.sc x then (ixOf c.N x).map E.var else if glC c.sc x then (c.cst.lookup x).map E.cst else none) else none
    | .Constant (.int i) _ _ => some (.int i)
    | .Constant (.bool i) _ _ => some (.bl i)
    | .Constant (.str i) _ _ => some (.str i)
    | .Constant .none _ _ => some .non
    | .BinOp a op b _ => (binOp op).bind fun o => (compE n c a).bind fun x => (compE n c b).map fun y => .op o x y
    | .UnaryOp .USub a _ => (compE n c a).map E.neg
    | .UnaryOp .Not a _ => (compE n c a).map E.not
    | .BoolOp .And es _ => (mapO (compE n c) es).bind (foldB E.and)
    | .BoolOp .Or es _ => (mapO (compE n c) es).bind (foldB E.or)
    | .IfExp t a b _ => (compE n c t).bind fun x => (compE n c a).bind fun y => (compE n c b).map fun z => .ite x y z
    | .Compare a [op] [b] _ => (cmpOp op).bind fun o => (compE n c a).bind fun x => (compE n c b).map fun y => .op o x y
    | .Compare a [op, op'] [b, d] _ => (cmpOp op).bind fun o => (cmpOp op').bind fun o' => (compE n c a).bind fun x => (compE n c b).bind fun y => (compE n c d).bind fun z => if o.p.isSome && o'.p.isSome then some (.ch o o' x y z) else none
    | .Tuple es _ _ => (mapO (compE n c) es).map E.tup
    | .List es _ => (mapO (compE n c) es).map E.lst
    | .Dict [] [] _ => some .dnew
    | .Subscript a (.Slice lo hi none _) _ => (compE n c a).bind fun x => (mapO (compE n c) lo.toList).bind fun l => (mapO (compE n c) hi.toList).map fun h => .sl x l h
    | .Subscript a b _ => (compE n c a).bind fun x => (compE n c b).map fun y => .ix x y
    | .Call (.Name f _) (e :: es) [] _ =>
      if glC c.sc f && plainName f then
        if f = "isinstance" then (match es with
          | [.Name T _] => if decide (f ∈ c.blt) && glC c.sc T && decide (T ∈ c.blt) && plainName T then (tyName T).bind fun t => (compE n c e).map (E.isi t) else none
          | _ => none)
        else match biOf f with
        | some b => if decide (f ∈ c.blt) then (mapO (compE n c) (e :: es)).map (E.bi b) else none
        | none => (c.fid.lookup f).bind fun j => (mapO (compE n c) (e :: es)).map (E.call j)
      else none
    | .ListComp elt [⟨tg, iter, ifs, az⟩] scope _ =>
      if az = 0 ∧ blkC c.N c.sc scope (c.own scope) = true then
        (compI (compE n c) c iter).bind fun ks => (compG { c with sc := scope } tg).bind fun g =>
          if ifs.length < 2 && (ks.1 != 3 || g.1) && g.2.all (fun i => decide (i ∈ (c.own scope).map (·.2))) then
            (mapO (compE n { c with sc := scope }) ifs).bind fun t => (compE n { c with sc := scope } elt).map fun x => E.lc ks.1 ks.2 g.1 g.2 t x ((c.own scope).map (·.2))
          else none
      else none
    | _ => none
/-! ### what is read off is right -/
structure Good (X : Cx) (F : Fr) (W : WX) (Γ : Mir) (c : Cfg) (k : Nat) : Prop where
  N : X.N = c.N
  nd : c.N.Nodup
  K : X.K = F.K
  calm : X.calm = true
  vis : ∀ x, visC c.sc x = true → Vis X.env.scope x
  fr : ∀ x, c.sc.names.lookup x = some .cell ∨ c.sc.names.lookup x = some .free → X.env.scope.names.lookup x = some .cell ∨ X.env.scope.names.lookup x = some .free
  sto : ∀ x, stoC c.sc x = true → Loc X.env.scope x ∧ (X.fn x = true ∨ X.env.scope.names.lookup x = some .local)
  gl : ∀ x, glC c.sc x = true → Gl X x
  blt : ∀ x ∈ c.blt, X.mg x = none
  room : Room k X.A
  u65 : X.A.units + 65 < cLine
  fns : ∀ x j, c.fid.lookup x = some j → ∃ f fd ps, X.mg x = some (.ref f) ∧ PySem.W.keepIn X.K (.ref f) = true ∧ Binds X.K fd ps [] ∧ FnOk X.prog X.w X.K X.mg X.base (L2.CX X.prog X.w) k f fd ps (spOf F.K F.cls (Γ j).1 (Γ j).2)
  tk : Takes X W
  cst : ∀ x d, c.cst.lookup x = some d → ∃ u v, X.mg x = some u ∧ RelV v u ∧ ∀ C B H, Rep F.K C B H d v []
section
variable {X : Cx} {F : Fr} {W : WX} {Γ : Mir} {c : Cfg} {k : Nat}
theorem lookup_relabel {env : Env} : ∀ {names : List (Str × NameKind)} {x : Str} {kd : NameKind}, names.lookup x = some kd →
    (names.map fun (n, k) => if (k == NameKind.free && env.scope.kind == .function && env.kindOf n == some .cell) = true then (n, NameKind.cell) else (n, k)).lookup x = some kd ∨ (kd = .free ∧ (names.map fun (n, k) => if (k == NameKind.free && env.scope.kind == .function && env.kindOf n == some .cell) = true then (n, NameKind.cell) else (n, k)).lookup x = some .cell)
  | [], _, _, h => by simp at h
  | (n, k') :: r, x, kd, h => by
    have ih := @lookup_relabel env r x kd
    rw [List.map_cons]
    cases hx : x == n with
    | true =>
      simp only [List.lookup_cons, hx] at h
      injection h with h
      subst h
      dsimp only
      split
      · rename_i hc
        have h1 : k' = .free := by
          rw [Bool.and_eq_true, Bool.and_eq_true] at hc
          cases k' <;> first | rfl | exact absurd hc.1.1 (by decide)
        exact .inr ⟨h1, by simp [List.lookup_cons, hx]⟩
      · exact .inl (by simp [List.lookup_cons, hx])
    | false =>
      simp only [List.lookup_cons, hx] at h
      dsimp only
      split
      · simp only [List.lookup_cons, hx]; exact ih h
      · simp only [List.lookup_cons, hx]; exact ih h
theorem Good.blk (g : Good X F W Γ c k) (scope : Scope) (s : Shared) (H : Hp) (C : Addr) (cl : List (Str × Addr)) (fp : List Addr) : Good (X.blk s H scope (compEnvC scope cl C X.env) fp) F W0 Γ { c with sc := scope } k where
  N := g.N
  nd := g.nd
  K := g.K
  calm := g.calm
  vis := fun x h => by
    unfold visC at h
    show Vis (relabel scope X.env) x
    have lk : ∀ kd, scope.names.lookup x = some kd → (relabel scope X.env).names.lookup x = some kd ∨ (kd = .free ∧ (relabel scope X.env).names.lookup x = some .cell) := fun kd e => lookup_relabel e
    split at h
    · rename_i e; exact (lk _ e).elim .inl fun z => nomatch z.1
    · rename_i e; exact (lk _ e).elim (fun z => .inr (.inl z)) fun z => nomatch z.1
    · rename_i e; exact (lk _ e).elim (fun z => .inr (.inr z)) fun z => .inr (.inl z.2)
    · cases h
  fr := fun x h => by
    have lk : ∀ kd, scope.names.lookup x = some kd → (relabel scope X.env).names.lookup x = some kd ∨ (kd = .free ∧ (relabel scope X.env).names.lookup x = some .cell) := fun kd e => lookup_relabel e
    show (relabel scope X.env).names.lookup x = _ ∨ (relabel scope X.env).names.lookup x = _
    rcases h with h | h
    · exact (lk _ h).elim .inl fun z => nomatch z.1
    · exact (lk _ h).elim .inr fun z => .inl z.2
  sto := fun x h => by
    unfold stoC at h
    have lk : ∀ kd, scope.names.lookup x = some kd → (relabel scope X.env).names.lookup x = some kd ∨ (kd = .free ∧ (relabel scope X.env).names.lookup x = some .cell) := fun kd e => lookup_relabel e
    show Loc (relabel scope X.env) x ∧ ((scope.names.lookup x == some NameKind.cell) = true ∨ (relabel scope X.env).names.lookup x = some .local)
    split at h
    · rename_i e
      have e' : (relabel scope X.env).names.lookup x = some .local := (lk _ e).elim id fun z => nomatch z.1
      exact ⟨.inl e', .inr e'⟩
    · rename_i e
      have e' : (relabel scope X.env).names.lookup x = some .cell := (lk _ e).elim id fun z => nomatch z.1
      exact ⟨.inr e', .inl (by rw [e]; rfl)⟩
    · cases h
  gl := fun x h => by
    unfold glC at h
    split at h
    · rename_i e
      show (relabel scope X.env).names.lookup x = some .globalImplicit
      exact (lookup_relabel (env := X.env) e).elim id fun z => nomatch z.1
    · cases h
  blt := g.blt
  room := g.room
  u65 := g.u65
  fns := g.fns
  tk := takes0
  cst := g.cst
theorem ixOf_get {N : List Str} {x : Str} {i : Nat} (h : ixOf N x = some i) : N[i]? = some x := by
  unfold ixOf at h
  rw [List.findIdx?_eq_some_iff_getElem] at h
  obtain ⟨hi, h1, _⟩ := h
  rw [List.getElem?_eq_getElem hi]
  rw [eq_of_beq h1]
theorem plain_of {x : Str} (h : plainName x = true) : (x == ("__debug__" : Str)) = false ∧ (x == ("__classdict__" : Str)) = false ∧ x ≠ "__name__" := by
  unfold plainName at h
  simp only [Bool.and_eq_true, Bool.not_eq_true'] at h
  exact ⟨h.1.1, h.1.2, fun e => by rw [e] at h; simp at h⟩
/-- both an expression and a test -/
structure Snd (Γ : Mir) (k : Nat) (c : Cfg) (e : Expr) (ir : E) : Prop where
  se : ∀ X F W, Good X F W Γ c k → SE X F W e (ir.ev Γ)
  st : ∀ X F W, Good X F W Γ c k → ST X F W e (ir.ev Γ)
theorem snd_plain {e : Expr} {ir : E} (he : ∀ env whole, isTrue e env whole = (do let v ← whole; standAt e.pos; holding [v] (truthy v))) (h : ∀ X F W, Good X F W Γ c k → SE X F W e (ir.ev Γ)) : Snd Γ k c e ir :=
  ⟨h, fun X F W g => st_val (fun wh => he X.env wh) (h X F W g)⟩
def notStar : Expr → Bool
  | .Starred _ _ => false
  | _ => true
theorem star_each {e : Expr} {es : List Expr} {env : Env} (h : notStar e = true) : starEach (e :: es) env = (false, eval e env) :: starEach es env := by
  cases e <;> first | rfl | cases h
theorem plain_args {pos : Pos} {env : Env} : ∀ {es : List Expr}, (∀ e ∈ es, notStar e = true) → (backTo pos (starEach es env)).any (·.1) = false
  | [], _ => rfl
  | e :: es, h => by
    rw [star_each (h e List.mem_cons_self)]
    show (false || (backTo pos (starEach es env)).any (·.1)) = false
    rw [plain_args fun e he => h e (List.mem_cons_of_mem _ he)]
    rfl
theorem compE_star {n : Nat} {e : Expr} {ir : E} (h : compE n c e = some ir) : notStar e = true := by
  cases n with
  | zero => cases h
  | succ n => cases e <;> first | rfl | (simp only [compE] at h; cases h)
end
end Fe

/-! Fe12: what is read off an expression is right. -/
namespace Fe
open PySem L2
section
variable {X : Cx} {F : Fr} {W : WX} {Γ : Mir} {c : Cfg} {k : Nat}
theorem hu_room (g : Good X F W Γ c k) : X.A.units + 64 < cLine := g.room.units
theorem snd_bin {op : Operator} {o : Op} {a b : Expr} {x y : E} {pos : Pos} (ho : binOp op = some o) (ha : Snd Γ k c a x) (hb : Snd Γ k c b y) : Snd Γ k c (.BinOp a op b pos) (.op o x y) := by
  refine snd_plain (fun _ _ => rfl) fun X F W g => ?_
  have h1 := ha.se X F W g
  have h2 := hb.se X F W g
  cases op <;> (first | (cases ho; done) | skip) <;> (injection ho with ho; subst ho)
  · exact se_bin' (fun ta tb p q => pe_op (op_add.or (op_add_str.or (op_catA.or op_catL))) p q) (by rw [g.K]; exact ok_add) h1 h2
  · exact se_bin' (fun ta tb p q => pe_op op_sub p q) ok_sub h1 h2
  · exact se_bin' (fun ta tb p q => pe_op (op_mulW.or op_rep) p q) ok_mul h1 h2
  · exact se_bin' (fun ta tb p q => pe_op op_mod p q) ok_mod h1 h2
  · exact se_bin' (fun ta tb p q => pe_op op_pow p q) ok_pow h1 h2
  · exact se_bin' (fun ta tb p q => pe_op op_xor p q) ok_xor h1 h2
  · exact se_bin' (fun ta tb p q => pe_op op_fdivW p q) ok_fdiv h1 h2
theorem cmp_rule {op : CmpOp} {o : Op} {K : PySem.W.Frag} (hK : X.K = K) (hu : X.A.units + 65 < cLine) (ho : cmpOp op = some o) : ∃ r, OpR X (compareOp op) r ∧ CallOk K (B2 r) (D2 o.g) := by
  subst hK
  cases op <;> (injection ho with ho; subst ho)
  · exact ⟨_, op_eqD (by omega), ok_eq⟩
  · exact ⟨_, op_neD (by omega), ok_ne⟩
  · exact ⟨_, op_lt.or (op_ltT (by omega)), ok_lt⟩
  · exact ⟨_, op_le, ok_le⟩
  · exact ⟨_, op_gt, ok_gt⟩
  · exact ⟨_, op_ge, ok_ge⟩
  · exact ⟨_, op_isBl.or op_isN, ok_is⟩
  · exact ⟨_, op_notBl.or op_notN, ok_isNot⟩
  · exact ⟨_, op_inQ hu, ok_in⟩
  · exact ⟨_, op_notInQ hu, ok_notIn⟩
theorem notSet_mark {op : CmpOp} {n : Nat} {b : Expr} {y : E} (h : compE n c b = some y) : behindInMarks op b = false := by
  cases n with
  | zero => cases h
  | succ n => cases b <;> first | rfl | (simp only [compE] at h; cases h)
theorem snd_cmp {op : CmpOp} {o : Op} {a b : Expr} {x y : E} {pos : Pos} (ho : cmpOp op = some o) (hm : behindInMarks op b = false) (ha : Snd Γ k c a x) (hb : Snd Γ k c b y) : Snd Γ k c (.Compare a [op] [b] pos) (.op o x y) := by
  refine ⟨fun X F W g => ?_, fun X F W g => ?_⟩
  · obtain ⟨r, h1, h2⟩ := cmp_rule (X := X) (K := F.K) g.K g.u65 ho
    exact se_bin' (fun ta tb p q => pe_cmpR h1 p q hm) h2 (ha.se X F W g) (hb.se X F W g)
  · obtain ⟨r, h1, h2⟩ := cmp_rule (X := X) (K := F.K) g.K g.u65 ho
    exact st_bin' (fun ta tb p q => pt_cmpR h1 p q hm) h2 (ha.se X F W g) (hb.se X F W g)
theorem chain_rule {op : CmpOp} {o : Op} {p : Int → Int → Bool} (ho : cmpOp op = some o) (hp : o.p = some p) : OpR X (compareOp op) (rI0 fun i j => .bl (p i j)) := by
  cases op <;> (injection ho with ho; subst ho) <;> first | (cases hp; done) | (injection hp with hp; subst hp)
  · exact op_lt
  · exact op_le
  · exact op_gt
  · exact op_ge
theorem snd_chain {op op' : CmpOp} {o o' : Op} {a b d : Expr} {x y z : E} {pos : Pos} (ho : cmpOp op = some o) (ho' : cmpOp op' = some o') (hp : (o.p.isSome && o'.p.isSome) = true) (hm : lastMarks [op, op'] [b, d] = false) (ha : Snd Γ k c a x) (hb : Snd Γ k c b y) (hd : Snd Γ k c d z) :
    Snd Γ k c (.Compare a [op, op'] [b, d] pos) (.ch o o' x y z) := by
  rw [Bool.and_eq_true] at hp
  obtain ⟨p, e1⟩ := Option.isSome_iff_exists.mp hp.1
  obtain ⟨p', e2⟩ := Option.isSome_iff_exists.mp hp.2
  have ev : E.ev Γ (.ch o o' x y z) = fun s => chR p p' (x.ev Γ s) (y.ev Γ s) (z.ev Γ s) := by
    funext s
    simp only [E.ev, e1, e2]
  refine ⟨fun X F W g => ?_, fun X F W g => ?_⟩
  · rw [ev]
    exact se_chain (chain_rule ho e1) (chain_rule ho' e2) hm (ha.se X F W g) (hb.se X F W g) (hd.se X F W g)
  · rw [ev]
    exact st_chain (chain_rule ho e1) (chain_rule ho' e2) hm (ha.se X F W g) (hb.se X F W g) (hd.se X F W g)
/-! lists of expressions -/
theorem mapO_cons {α β : Type} {f : α → Option β} {a : α} {r : List α} {l : List β} (h : mapO f (a :: r) = some l) : ∃ b l', f a = some b ∧ mapO f r = some l' ∧ l = b :: l' := by
  unfold mapO at h
  cases q : f a with
  | none => rw [q] at h; cases h
  | some b =>
    rw [q] at h
    have h' : (mapO f r).map (b :: ·) = some l := h
    cases q2 : mapO f r with
    | none => rw [q2] at h'; cases h'
    | some l' =>
      rw [q2] at h'
      injection h' with h'
      exact ⟨b, l', rfl, rfl, h'.symm⟩
theorem sa_map {n : Nat} (ih : ∀ e ir, compE n c e = some ir → Snd Γ k c e ir) : ∀ {es : List Expr} {irs : List E}, mapO (compE n c) es = some irs → (∀ X F W, Good X F W Γ c k → SA X F W es (E.evs Γ irs)) ∧ (∀ e ∈ es, notStar e = true) ∧ irs.length = es.length
  | [], irs, h => by
    injection h with h
    subst h
    exact ⟨fun X F W g => by show SA X F W [] (fun s => E.evs Γ [] s); simp only [E.evs]; exact sa_nil, fun _ h => (nomatch h), rfl⟩
  | e :: es, irs, h => by
    obtain ⟨x, l, h1, h2, rfl⟩ := mapO_cons h
    obtain ⟨a1, a2, a3⟩ := sa_map ih h2
    refine ⟨fun X F W g => ?_, fun e' he => ?_, by simp [a3]⟩
    · show SA X F W (e :: es) (fun s => E.evs Γ (x :: l) s)
      simp only [E.evs]
      exact sa_cons (star_each (compE_star h1)) ((ih e x h1).se X F W g) (a1 X F W g)
    · rcases List.mem_cons.mp he with rfl | he
      · exact compE_star h1
      · exact a2 e' he
theorem snd_and {n : Nat} {pos : Pos} (ih : ∀ e ir, compE n c e = some ir → Snd Γ k c e ir) : ∀ {es : List Expr} {irs : List E} {ir : E}, mapO (compE n c) es = some irs → foldB E.and irs = some ir →
    ∀ X F W, Good X F W Γ c k → SE X F W (.BoolOp .And es pos) (ir.ev Γ) ∧ SW X F W (.BoolOp .And es pos) (ir.ev Γ)
  | [], irs, ir, h, h2 => by
    injection h with h
    subst h
    cases h2
  | [e], irs, ir, h, h2 => by
    obtain ⟨x, l, h1, h3, rfl⟩ := mapO_cons h
    injection h3 with h3
    subst h3
    injection h2 with h2
    subst h2
    exact fun X F W g => ⟨se_one ((ih e x h1).se X F W g), sw_and1 ((ih e x h1).st X F W g)⟩
  | e :: e2 :: es, irs, ir, h, h2 => by
    obtain ⟨x, l, h1, h3, rfl⟩ := mapO_cons h
    obtain ⟨x2, l2, h4, h5, rfl⟩ := mapO_cons h3
    have h2' : (foldB E.and (x2 :: l2)).map (E.and x) = some ir := h2
    cases q : foldB E.and (x2 :: l2) with
    | none => rw [q] at h2'; cases h2'
    | some y =>
      rw [q] at h2'
      injection h2' with h2'
      subst h2'
      intro X F W g
      obtain ⟨r1, r2⟩ := snd_and ih h3 q X F W g
      have ev : E.ev Γ (.and x y) = fun s => andR (x.ev Γ s) (y.ev Γ s) := by funext s; simp only [E.ev]
      rw [ev]
      exact ⟨se_and ((ih e x h1).se X F W g) r1, sw_and ((ih e x h1).st X F W g) r2⟩
theorem snd_or {n : Nat} {pos : Pos} (ih : ∀ e ir, compE n c e = some ir → Snd Γ k c e ir) : ∀ {es : List Expr} {irs : List E} {ir : E}, mapO (compE n c) es = some irs → foldB E.or irs = some ir →
    ∀ X F W, Good X F W Γ c k → SE X F W (.BoolOp .Or es pos) (ir.ev Γ) ∧ SW X F W (.BoolOp .Or es pos) (ir.ev Γ)
  | [], irs, ir, h, h2 => by
    injection h with h
    subst h
    cases h2
  | [e], irs, ir, h, h2 => by
    obtain ⟨x, l, h1, h3, rfl⟩ := mapO_cons h
    injection h3 with h3
    subst h3
    injection h2 with h2
    subst h2
    exact fun X F W g => ⟨se_one ((ih e x h1).se X F W g), sw_or1 ((ih e x h1).st X F W g)⟩
  | e :: e2 :: es, irs, ir, h, h2 => by
    obtain ⟨x, l, h1, h3, rfl⟩ := mapO_cons h
    obtain ⟨x2, l2, h4, h5, rfl⟩ := mapO_cons h3
    have h2' : (foldB E.or (x2 :: l2)).map (E.or x) = some ir := h2
    cases q : foldB E.or (x2 :: l2) with
    | none => rw [q] at h2'; cases h2'
    | some y =>
      rw [q] at h2'
      injection h2' with h2'
      subst h2'
      intro X F W g
      obtain ⟨r1, r2⟩ := snd_or ih h3 q X F W g
      have ev : E.ev Γ (.or x y) = fun s => orR (x.ev Γ s) (y.ev Γ s) := by funext s; simp only [E.ev]
      rw [ev]
      exact ⟨se_or ((ih e x h1).se X F W g) r1, sw_or ((ih e x h1).st X F W g) r2⟩
/-! built-ins -/
theorem bi_ok {b : Bi} {e : Expr} {es : List Expr} {fs : SD → R (List D)} {p pos : Pos} (g : Good X F W Γ c k) (hg : Gl X b.name) (hm : X.mg b.name = none) (hst : ∀ e' ∈ e :: es, notStar e' = true) (h : SA X F W (e :: es) fs) :
    SE X F W (.Call (.Name b.name p) (e :: es) [] pos) (fun s => (fs s).bind (DL b.g)) := by
  have he : starEach (e :: es) X.env = (false, eval e X.env) :: starEach es X.env := star_each (hst e List.mem_cons_self)
  have hp : (backTo pos (starEach es X.env)).any (·.1) = false := plain_args fun e' h' => hst e' (List.mem_cons_of_mem _ h')
  have hK := g.K
  cases b with
  | len => exact se_call (fun ta h => pe_callB call_len hg hm (by decide +kernel) h (by decide +kernel) (by decide +kernel) he hp) (by rw [hK]; exact ok_len) h
  | sum => exact se_call (fun ta h => pe_callB (cr_sumA g.calm) hg hm (by decide +kernel) h (by decide +kernel) (by decide +kernel) he hp) (by rw [hK]; exact ok_sum) h
  | all => exact se_call (fun ta h => pe_callB (cr_all g.calm) hg hm (by decide +kernel) h (by decide +kernel) (by decide +kernel) he hp) (by rw [hK]; exact ok_all) h
  | any => exact se_call (fun ta h => pe_callB (cr_any g.calm) hg hm (by decide +kernel) h (by decide +kernel) (by decide +kernel) he hp) (by rw [hK]; exact ok_any) h
  | max => exact se_call (fun ta h => pe_callB (cr_maxA g.calm) hg hm (by decide +kernel) h (by decide +kernel) (by decide +kernel) he hp) (by rw [hK]; exact ok_max) h
  | min => exact se_call (fun ta h => pe_callB (cr_minA g.calm) hg hm (by decide +kernel) h (by decide +kernel) (by decide +kernel) he hp) (by rw [hK]; exact ok_min) h
  | tuple => exact se_call (fun ta h => pe_callTy call_tuple_of hg hm (by decide +kernel) h (by decide +kernel) (by decide +kernel) he hp) (by rw [hK]; exact ok_tupleF) h
  | list => exact se_call (fun ta h => pe_callTy call_list_of hg hm (by decide +kernel) h (by decide +kernel) (by decide +kernel) he hp) (by rw [hK]; exact ok_listF) h
  | abs => exact se_call (fun ta h => pe_callB call_abs hg hm (by decide +kernel) h (by decide +kernel) (by decide +kernel) he hp) (okL fun A C B H vs ds z Q e rl n c k => by
      unfold Bi.g gAbs at e
      dsimp only at e
      split at e
      · rename_i i
        injection e with e
        subst e
        obtain ⟨x, rfl, r1⟩ := repL_onev rl
        obtain ⟨rfl, _⟩ := rep_int.mp r1
        exact ⟨i, rfl, k _ _ val_int⟩
      · cases e) h
theorem biOf_name {x : Str} {b : Bi} (h : biOf x = some b) : x = b.name := by
  unfold biOf at h
  have := List.find?_some h
  exact (eq_of_beq this).symm
theorem tyName_boot {x : Str} {T : String} (h : tyName x = some T) : bootBuiltins x = some (.type T) := by
  unfold tyName at h
  split at h
  · rename_i e; injection h with h; subst h e; decide +kernel
  split at h
  · rename_i e; injection h with h; subst h e; decide +kernel
  split at h
  · rename_i e; injection h with h; subst h e; decide +kernel
  split at h
  · rename_i e; injection h with h; subst h e; decide +kernel
  split at h
  · rename_i e; injection h with h; subst h e; decide +kernel
  split at h
  · rename_i e; injection h with h; subst h e; decide +kernel
  · cases h
/-! calls of defs -/
theorem se_callU {x : Str} {j : Nat} {e : Expr} {es : List Expr} {fs : SD → R (List D)} {p pos : Pos} (g : Good X F W Γ c k) (hg : Gl X x) (hj : c.fid.lookup x = some j) (hd : (x == ("__debug__" : Str)) = false) (hst : ∀ e' ∈ e :: es, notStar e' = true) (h : SA X F W (e :: es) fs) :
    SE X F W (.Call (.Name x p) (e :: es) [] pos) (fun s => (fs s).bind (callR Γ j)) := by
  obtain ⟨f, fd, ps, hm, hk, hb, hF⟩ := g.fns x j hj
  have he : starEach (e :: es) X.env = (false, eval e X.env) :: starEach es X.env := star_each (hst e List.mem_cons_self)
  have hp : (backTo pos (starEach es X.env)).any (·.1) = false := plain_args fun e' h' => hst e' (List.mem_cons_of_mem _ h')
  refine PE.imp (pe_callS hF g.room hg hm hk hb (fun σ => passAt g.tk σ) h hd he hp) fun σ H Q ⟨G, s, t, o⟩ => ?_
  refine liftL_part t (Same.refl H) o fun ds o vs H1 x => ?_
  unfold callR at o
  split at o
  · rename_i hl
    obtain ⟨A2, C2, n2, a2, c2, r2⟩ := x.ex
    have r3 : RepL F.K C2 (fun _ p => H1 p ≠ none) H1 (toBwL ds) vs [] := RepL.toBw (fun _ c => c) (fun kk p b => by
      cases kk with
      | false => exact same_ne x.same (t.bt p b).1
      | true => obtain ⟨i, hi⟩ := b; exact same_ne x.same (t.ot i p hi).ne) ds (fun p hp => (RepL.trk _ r2 p hp).ne) r2
    have ln : ∀ l : List D, (toBwL l).length = l.length := by
      intro l
      induction l with
      | nil => rfl
      | cons a r ih => simp [toBwL, ih]
    refine ⟨C2, toBwL ds, by rw [ln]; exact hl, fun p hp => (c2 p hp).2.1, r3, ?_⟩
    cases q : (Γ j).2 (toBwL ds) with
    | stk => rw [q] at o; exact o.elim
    | rs cc pp => rw [q] at o; exact fun H' dct s1 pay => o H' dct (x.same.trans s1) pay
    | ok d =>
      rw [q] at o
      intro v H' hv
      exact o v H' ((hv.monoB fun _ _ z => z.elim).since x.same nil_all fun p hp => (c2 p hp).1)
  · exact o.elim
/-! targets -/
theorem nameTup {pos : Pos} (g : Good X F W Γ c k) : ∀ {es : List Expr} {is : List Nat}, mapO (nameIx c) es = some is → ∃ gs, PGs X es gs ∧ TgsOk F is gs ∧ (assignEach es X.env).findIdx? (·.1) = none ∧ (assignEach es X.env).length = is.length ∧ gs = is.foldr (fun i r => gCons (gName i) r) gNil
  | [], is, h => by
    injection h with h
    subst h
    exact ⟨gNil, pgs_nil, tgs_nil, rfl, rfl, rfl⟩
  | e :: es, is, h => by
    obtain ⟨i, l, h1, h2, rfl⟩ := mapO_cons h
    obtain ⟨gs, a1, a2, a3, a4, a5⟩ := nameTup (pos := pos) g h2
    cases e with
    | Name x p =>
      have h1 : (if stoC c.sc x = true then ixOf c.N x else none) = some i := h1
      split at h1
      · rename_i hs
        have hi := ixOf_get h1
        obtain ⟨k1, k2⟩ := g.sto x hs
        refine ⟨gCons (gName i) gs, pgs_cons (pg_name (by rw [g.N]; exact g.nd) (by rw [g.N]; exact hi) k1 k2) a1 rfl, tgs_cons a2, ?_, ?_, by rw [a5]; rfl⟩
        · show List.findIdx? (·.1) ((false, _) :: assignEach es X.env) = none
          rw [List.findIdx?_cons]
          simp [a3]
        · show ((false, _) :: assignEach es X.env).length = _
          simp [a4]
      · cases h1
    | _ => cases h1
def tgG (K : PySem.W.Frag) (tp : Bool) (is : List Nat) : TG := match tp with
  | true => L2.gTup K is.length (is.foldr (fun i r => gCons (gName i) r) gNil)
  | false => match is with
    | [i] => gName i
    | _ => fun _ _ _ _ => False
theorem comp_tg {tg : Expr} {gt : Bool × List Nat} (h : compG c tg = some gt) : (∀ X F W, Good X F W Γ c k → PG X tg (tgG F.K gt.1 gt.2)) ∧ ∀ F, TgOk F gt.2 (tgF gt.1 gt.2) (tgG F.K gt.1 gt.2) := by
  unfold compG at h
  split at h
  · rename_i x p
    have h : (if stoC c.sc x = true then ixOf c.N x else none).map (fun i => (false, [i])) = some gt := h
    split at h
    · rename_i hs
      cases q : ixOf c.N x with
      | none => rw [q] at h; cases h
      | some i =>
        rw [q] at h
        injection h with h
        subst h
        exact ⟨fun X F W g => pg_name (by rw [g.N]; exact g.nd) (by rw [g.N]; exact ixOf_get q) (g.sto x hs).1 (g.sto x hs).2, fun F => tg_name⟩
    · cases h
  · rename_i es kk p
    cases q : mapO (nameIx c) es with
    | none => rw [q] at h; cases h
    | some is =>
      rw [q] at h
      injection h with h
      subst h
      refine ⟨fun X F W g => ?_, fun F => ?_⟩
      · obtain ⟨gs, a1, a2, a3, a4, a5⟩ := nameTup (pos := p) g q
        have := pg_tup (pos := p) (k := kk) g.calm a1 a4 a3
        rw [g.K, a5] at this
        exact this
      · have hg : TgsOk F is (is.foldr (fun i r => gCons (gName i) r) gNil) := by
          clear q
          induction is with
          | nil => exact tgs_nil
          | cons i is ih => exact tgs_cons ih
        exact tg_tup hg
  · cases h
end
end Fe

/-! Fe13: what is read off any expression is right. -/
namespace Fe
open PySem L2
section
variable {X : Cx} {F : Fr} {W : WX} {G : Gh} {H H' H1 : Hp} {σ : L2.St} {s : SD}
/-- a if t else b, as a test -/
theorem st_ite {c a b : Expr} {fc fa fb : SD → R D} {pos : Pos} (hc : ST X F W c fc) (ha : ST X F W a fa) (hb : ST X F W b fb) : ST X F W (.IfExp c a b pos) (fun s => iteR (fc s) (fa s) (fb s)) := by
  refine ⟨fun pins s' σ H Q I ⟨G, s, t, o⟩ => ?_⟩
  refine PyProof.Rows.isTrue_IfExp (thn (hc.run pins s' σ H (fun b H1 => if b = true then liftT F W fa σ H1 Q else liftT F W fb σ H1 Q) I ?_) fun d s1 ⟨H1, I1, q1⟩ => ?_)
  · refine test_part t o fun d o => ?_
    cases d with
    | bl k =>
      refine ⟨k, rfl, fun H' e => ?_⟩
      cases k with
      | true => exact iteT ⟨G, s, t.later e, OutT.later e o⟩
      | false => exact iteF ⟨G, s, t.later e, OutT.later e o⟩
    | _ => exact o.elim
  · cases d with
    | true =>
      have q1 : liftT F W fa σ H1 Q := q1
      exact ha.run pins s1 σ H1 Q I1 q1
    | false =>
      have q1 : liftT F W fb σ H1 Q := q1
      exact hb.run pins s1 σ H1 Q I1 q1
end
section
variable {Γ : Mir} {k : Nat}
theorem map_some {α β : Type} {f : α → β} {o : Option α} {b : β} (h : o.map f = some b) : ∃ a, o = some a ∧ b = f a := by
  cases o with
  | none => cases h
  | some a => injection h with h; exact ⟨a, rfl, h.symm⟩
theorem bind_some {α β : Type} {f : α → Option β} {o : Option α} {b : β} (h : o.bind f = some b) : ∃ a, o = some a ∧ f a = some b := by
  cases o with
  | none => cases h
  | some a => exact ⟨a, rfl, h⟩
theorem noSl_of {n : Nat} {c : Cfg} {b : Expr} {y : E} (h : compE n c b = some y) : PlainIx b := by
  cases n with
  | zero => cases h
  | succ n => cases b <;> first | exact fun _ _ => rfl | (simp only [compE] at h; cases h)
theorem noSet_of {n : Nat} {c : Cfg} {b : Expr} {y : E} (h : compE n c b = some y) {env : Env} : ∀ x, foldedSetIterable b env x = pure x := by
  cases n with
  | zero => cases h
  | succ n => cases b <;> first | exact fun _ => rfl | (simp only [compE] at h; cases h)
theorem lastMark_of {n : Nat} {c : Cfg} {b d : Expr} {op op' : CmpOp} {y : E} (h : compE n c d = some y) : lastMarks [op, op'] [b, d] = false := by
  have e := notSet_mark (op := op') h
  show lastMarks [op'] [d] = false
  show behindInMarks op' d = false
  exact e
theorem evs_one {x : E} {s : SD} {m : Bool} : ((E.evs Γ [x] s).bind (itG m 0)) = (x.ev Γ s).bind (itemsM m) := by
  simp only [E.evs]
  cases x.ev Γ s <;> rfl
theorem compI_ok {n : Nat} {c : Cfg} (ih : ∀ e ir, compE n c e = some ir → Snd Γ k c e ir) {iter : Expr} {ks : Nat × List E} (h : compI (compE n c) c iter = some ks) {X : Cx} {F : Fr} {W : WX} (g : Good X F W Γ c k) (m : Bool) (tg : Expr) (htg : ks.1 = 3 → ∃ es kk tp, tg = .Tuple es kk tp) :
    SI X F W m tg iter (fun s => (E.evs Γ ks.2 s).bind (itG m ks.1)) ∧ ∀ x, foldedSetIterable iter X.env x = pure x := by
  have gen : ∀ {it : Expr}, (compE n c it).map (fun x => (0, [x])) = some ks → SI X F W m tg it (fun s => (E.evs Γ ks.2 s).bind (itG m ks.1)) ∧ ∀ x, foldedSetIterable it X.env x = pure x := by
    intro it h
    obtain ⟨x, h1, rfl⟩ := map_some h
    have := se_iter (m := m) (tg := tg) g.K ((ih it x h1).se X F W g)
    refine ⟨?_, noSet_of h1⟩
    have ev : (fun s => (E.evs Γ [x] s).bind (itG m 0)) = fun s => (x.ev Γ s).bind (itemsM m) := by funext s; exact evs_one
    show SI X F W m tg it (fun s => (E.evs Γ [x] s).bind (itG m 0))
    rw [ev]
    exact this
  unfold compI at h
  split at h
  · rename_i x p a pos
    split at h
    · rename_i hx
      obtain ⟨rfl, hg, hb⟩ := hx
      obtain ⟨src, h1, rfl⟩ := map_some h
      obtain ⟨a1, a2, a3⟩ := sa_map ih h1
      refine ⟨?_, fun _ => rfl⟩
      have ev : (fun s => (E.evs Γ src s).bind (itG m 1)) = fun s => (E.evs Γ src s).bind rngO1 := by
        funext s
        cases E.evs Γ src s <;> rfl
      show SI X F W m tg _ (fun s => (E.evs Γ src s).bind (itG m 1))
      rw [ev]
      exact si_range1 (g.gl _ hg) (g.blt _ hb) (by rw [star_each (a2 a List.mem_cons_self)]; rfl) (a1 X F W g) m
    · exact gen h
  · rename_i x p a b pos
    split at h
    · rename_i hx
      obtain ⟨rfl, hg, hb⟩ := hx
      obtain ⟨src, h1, rfl⟩ := map_some h
      obtain ⟨a1, a2, a3⟩ := sa_map ih h1
      refine ⟨?_, fun _ => rfl⟩
      have ev : (fun s => (E.evs Γ src s).bind (itG m 2)) = fun s => (E.evs Γ src s).bind rngO2 := by
        funext s
        cases E.evs Γ src s <;> rfl
      show SI X F W m tg _ (fun s => (E.evs Γ src s).bind (itG m 2))
      rw [ev]
      have e2 : starEach [b] X.env = [(false, eval b X.env)] := by rw [star_each (a2 b (List.mem_cons_of_mem _ List.mem_cons_self))]; rfl
      exact si_range2 (g.gl _ hg) (g.blt _ hb) (by rw [star_each (a2 a List.mem_cons_self), e2]) e2 (a1 X F W g) m
    · split at h
      · rename_i hx
        obtain ⟨rfl, hg, hb⟩ := hx
        obtain ⟨src, h1, rfl⟩ := map_some h
        obtain ⟨a1, a2, a3⟩ := sa_map ih h1
        refine ⟨?_, fun _ => rfl⟩
        have ev : (fun s => (E.evs Γ src s).bind (itG m 3)) = fun s => (E.evs Γ src s).bind (zipG m) := by
          funext s
          cases E.evs Γ src s <;> rfl
        obtain ⟨es, kk, tp, rfl⟩ := htg rfl
        show SI X F W m _ _ (fun s => (E.evs Γ src s).bind (itG m 3))
        rw [ev]
        have e2 : starEach [b] X.env = [(false, eval b X.env)] := by rw [star_each (a2 b (List.mem_cons_of_mem _ List.mem_cons_self))]; rfl
        exact si_zip g.K (g.gl _ hg) (g.blt _ hb) (star_each (a2 a List.mem_cons_self)) (plain_args fun e' h' => a2 e' (List.mem_cons_of_mem _ h')) (a1 X F W g) m
      · exact gen h
  · exact gen h
theorem zip_tup {kk : Nat} {c : Cfg} {tg : Expr} {gt : Bool × List Nat} (h : (kk != 3 || gt.1) = true) (h2 : compG c tg = some gt) : kk = 3 → ∃ es k tp, tg = .Tuple es k tp := by
  intro e
  subst e
  have h : gt.1 = true := by simpa using h
  unfold compG at h2
  split at h2
  · obtain ⟨i, _, rfl⟩ := map_some h2
    cases h
  · exact ⟨_, _, _, rfl⟩
  · cases h2
theorem tst_ok {n : Nat} {c : Cfg} (ih : ∀ e ir, compE n c e = some ir → Snd Γ k c e ir) : ∀ {ifs : List Expr} {t : List E}, mapO (compE n c) ifs = some t → ifs.length < 2 → ∃ tt : Fr → TT, (∀ X F, Good X F W0 Γ c k → PTs X ifs (tt F)) ∧ ∀ F σ H Q, liftT F W0 (E.evT Γ t) σ H Q → tt F σ H Q
  | [], t, h, _ => by
    injection h with h
    subst h
    refine ⟨fun _ => tYes, fun X F g => pts_nil, fun F σ H Q ⟨G, s, t, o⟩ => ?_⟩
    have : E.evT Γ [] s = .ok (.bl true) := by simp only [E.evT]
    rw [this] at o
    exact o H (Same.refl H)
  | [e], t, h, _ => by
    obtain ⟨x, l, h1, h2, rfl⟩ := mapO_cons h
    injection h2 with h2
    subst h2
    have : E.evT Γ [x] = x.ev Γ := by funext s; simp only [E.evT]
    exact ⟨fun F => liftT F W0 (E.evT Γ [x]), fun X F g => pts_one (by rw [this]; exact (ih e x h1).st X F W0 g), fun F σ H Q o => o⟩
  | _ :: _ :: _, _, _, hl => by simp at hl; omega
theorem own_ok {c : Cfg} {scope : Scope} (h : blkC c.N c.sc scope (c.own scope) = true) {X : Cx} {F : Fr} {W : WX} (g : Good X F W Γ c k) : BlkOk X.N X.env.scope scope (c.own scope) := by
  have b := blkOk_by h
  exact ⟨b.kind, b.uniq, by rw [g.N]; exact b.ix, fun y hy e => g.fr y.1 (b.free y hy e), by rw [g.N]; exact b.own⟩
/-- a comprehension's parts -/
structure LcOk (Γ : Mir) (k : Nat) (c : Cfg) (elt tg iter : Expr) (ifs : List Expr) (scope : Scope) (ir : E) : Prop where
  ex : ∃ kk src tp is tst x, ir = .lc kk src tp is tst x ((c.own scope).map (·.2)) ∧ blkC c.N c.sc scope (c.own scope) = true ∧ (∀ i ∈ is, i ∈ (c.own scope).map (·.2)) ∧
    (∀ X F W, Good X F W Γ c k → SI X F W true tg iter (fun s => (E.evs Γ src s).bind (itG true kk)) ∧ ∀ x, foldedSetIterable iter X.env x = pure x) ∧
    (∀ X F W, Good X F W Γ { c with sc := scope } k → PG X tg (tgG F.K tp is)) ∧ (∀ F, TgOk F is (tgF tp is) (tgG F.K tp is)) ∧
    (∃ tt : Fr → TT, (∀ X F, Good X F W0 Γ { c with sc := scope } k → PTs X ifs (tt F)) ∧ ∀ F σ H Q, liftT F W0 (E.evT Γ tst) σ H Q → tt F σ H Q) ∧
    ∀ X F, Good X F W0 Γ { c with sc := scope } k → SE X F W0 elt (x.ev Γ)
theorem lc_parts {n : Nat} {c : Cfg} {elt tg iter : Expr} {ifs : List Expr} {scope : Scope} {pos : Pos} {ir : E} (ih : ∀ c e ir, compE n c e = some ir → Snd Γ k c e ir) (h : compE (n + 1) c (.ListComp elt [⟨tg, iter, ifs, 0⟩] scope pos) = some ir) : LcOk Γ k c elt tg iter ifs scope ir := by
  simp only [compE] at h
  split at h
  · rename_i hb
    have hb := hb.2
    obtain ⟨ks, h1, h⟩ := bind_some h
    obtain ⟨gt, h2, h⟩ := bind_some h
    split at h
    · rename_i hl
      rw [Bool.and_eq_true, Bool.and_eq_true] at hl
      obtain ⟨t, h3, h⟩ := bind_some h
      obtain ⟨x, h4, rfl⟩ := map_some h
      obtain ⟨g1, g2⟩ := comp_tg (Γ := Γ) (k := k) h2
      refine ⟨ks.1, ks.2, gt.1, gt.2, t, x, rfl, hb, fun i hi => ?_, fun X F W g => compI_ok (ih c) h1 g true tg (zip_tup hl.1.2 h2), g1, g2, tst_ok (ih _) h3 (of_decide_eq_true hl.1.1), fun X F g => (ih _ elt x h4).se X F W0 g⟩
      exact of_decide_eq_true (List.all_eq_true.mp hl.2 i hi)
    · cases h
  · cases h
theorem lc_se {c : Cfg} {elt tg iter : Expr} {ifs : List Expr} {scope : Scope} {pos : Pos} {ir : E} (h : LcOk Γ k c elt tg iter ifs scope ir) {X : Cx} {F : Fr} {W : WX} (g : Good X F W Γ c k) : SE X F W (.ListComp elt [⟨tg, iter, ifs, 0⟩] scope pos) (ir.ev Γ) := by
  obtain ⟨kk, src, tp, is, tst, x, rfl, hb, his, hi, hg, htg, ⟨tt, ht1, ht2⟩, he⟩ := h.ex
  have ev : E.ev Γ (.lc kk src tp is tst x ((c.own scope).map (·.2))) = fun s => ((E.evs Γ src s).bind (itG true kk)).bind (lcO (tgF tp is) (E.evT Γ tst) (x.ev Γ) ((c.own scope).map (·.2)) s) := by funext s; simp only [E.ev]
  rw [ev]
  obtain ⟨i1, i2⟩ := hi X F W g
  exact se_lc g.calm (by rw [g.N]; exact g.nd) i1 (own_ok hb g) i2 (fun s H C cl fp => hg _ F W0 (g.blk scope s H C cl fp)) (htg F) his (fun s H C cl fp => ht1 _ F (g.blk scope s H C cl fp)) (ht2 F) (fun s H C cl fp => he _ F (g.blk scope s H C cl fp))
theorem lc_set {c : Cfg} {elt tg iter : Expr} {ifs : List Expr} {scope : Scope} {pos py spos : Pos} {ir : E} {y : Str} {i : Nat} (h : LcOk Γ k c elt tg iter ifs scope ir) {X : Cx} {F : Fr} {W : WX} (g : Good X F W Γ c k) (hy : X.N[i]? = some y) (hyl : X.env.scope.names.lookup y = some .local)
    (hsw : swapsWith (.ListComp elt [⟨tg, iter, ifs, 0⟩] scope pos) (some (.Name y py)) spos.line X.env = pure true) : SS X F W (.Assign [.Name y py] (.ListComp elt [⟨tg, iter, ifs, 0⟩] scope pos) spos) (fun s => (ir.ev Γ s).thenO s (setO i s)) := by
  obtain ⟨kk, src, tp, is, tst, x, rfl, hb, his, hi, hg, htg, ⟨tt, ht1, ht2⟩, he⟩ := h.ex
  have ev : ∀ s, E.ev Γ (.lc kk src tp is tst x ((c.own scope).map (·.2))) s = ((E.evs Γ src s).bind (itG true kk)).bind (lcO (tgF tp is) (E.evT Γ tst) (x.ev Γ) ((c.own scope).map (·.2)) s) := fun s => by simp only [E.ev]
  simp only [ev]
  obtain ⟨i1, i2⟩ := hi X F W g
  exact ss_setLc g.calm (by rw [g.N]; exact g.nd) hy hyl hsw i1 (own_ok hb g) i2 (fun s H C cl fp => hg _ F W0 (g.blk scope s H C cl fp)) (htg F) his (fun s H C cl fp => ht1 _ F (g.blk scope s H C cl fp)) (ht2 F) (fun s H C cl fp => he _ F (g.blk scope s H C cl fp))
theorem so_map {n : Nat} {c : Cfg} (ih : ∀ e ir, compE n c e = some ir → Snd Γ k c e ir) {o : Option Expr} {l : List E} (h : mapO (compE n c) o.toList = some l) {X : Cx} {F : Fr} {W : WX} (g : Good X F W Γ c k) : SO X F W o (E.evO Γ l) := by
  cases o with
  | none =>
    injection h with h
    subst h
    have ev : E.evO Γ [] = fun _ => .ok none := by funext s; simp only [E.evO]
    rw [ev]
    exact so_none
  | some e =>
    obtain ⟨x, l', h1, h2, rfl⟩ := mapO_cons h
    injection h2 with h2
    subst h2
    have ev : E.evO Γ [x] = fun s => ixR (x.ev Γ s) := by funext s; simp only [E.evO]
    rw [ev]
    exact so_some ((ih e x h1).se X F W g)
theorem compE_ok : ∀ (n : Nat) (c : Cfg) (e : Expr) (ir : E), compE n c e = some ir → Snd Γ k c e ir
  | 0, _, _, _, h => by cases h
  | n + 1, c, e, ir, h => by
    have ih := compE_ok n
    have ihc := ih c
    cases e with
    | Name x p =>
      simp only [compE] at h
      split at h
      · rename_i hp
        obtain ⟨p1, p2, p3⟩ := plain_of hp
        split at h
        · rename_i hv
          obtain ⟨i, h1, rfl⟩ := map_some h
          refine snd_plain (fun _ _ => rfl) fun X F W g => ?_
          have := se_var (F := F) (W := W) (pos := p) (by rw [g.N]; exact ixOf_get h1) (g.vis x hv) p1 p2
          have ev : E.ev Γ (.var i) = fun s => match s[i]? with | some (some d) => .ok d.toBo | _ => .stk := by
            funext s
            simp only [E.ev]
            all_goals (cases s[i]? <;> first | rfl | (rename_i o; cases o <;> rfl))
          rw [ev]
          exact this
        · split at h
          · rename_i hg
            obtain ⟨d, h1, rfl⟩ := map_some h
            refine snd_plain (fun _ _ => rfl) fun X F W g => ?_
            obtain ⟨u, v, hm, rv, rp⟩ := g.cst x d h1
            have ev : E.ev Γ (.cst d) = fun s => .ok d := by funext s; simp only [E.ev]
            rw [ev]
            exact PE.imp (pe_glob (g.gl x hg) hm rv p1) fun σ H Q ⟨G, s, t, o⟩ => o v H (ValsA.flat (C := G.C) (rep_one.mpr (rp _ _ _)) fun p c => (t.ct p c).1)
          · cases h
      · cases h
    | Constant v j p =>
      cases v <;> simp only [compE] at h <;> first | (cases h; done) | (injection h with h; subst h)
      · refine snd_plain (fun _ _ => rfl) fun X F W g => ?_
        have ev : E.ev Γ .non = fun s => .ok .non := by funext s; simp only [E.ev]
        rw [ev]; exact se_non
      · rename_i b
        refine snd_plain (fun _ _ => rfl) fun X F W g => ?_
        have ev : E.ev Γ (.bl b) = fun s => .ok (.bl b) := by funext s; simp only [E.ev]
        rw [ev]; exact se_bl
      · rename_i b
        refine snd_plain (fun _ _ => rfl) fun X F W g => ?_
        have ev : E.ev Γ (.int b) = fun s => .ok (.int b) := by funext s; simp only [E.ev]
        rw [ev]; exact se_int
      · rename_i b
        refine snd_plain (fun _ _ => rfl) fun X F W g => ?_
        have ev : E.ev Γ (.str b) = fun s => .ok (.str b) := by funext s; simp only [E.ev]
        rw [ev]; exact se_str
    | BinOp a op b p =>
      simp only [compE] at h
      obtain ⟨o, h1, h⟩ := bind_some h
      obtain ⟨x, h2, h⟩ := bind_some h
      obtain ⟨y, h3, rfl⟩ := map_some h
      exact snd_bin h1 (ihc a x h2) (ihc b y h3)
    | UnaryOp op a p =>
      cases op <;> simp only [compE] at h <;> first | (cases h; done) | skip
      all_goals obtain ⟨x, h1, rfl⟩ := map_some h
      · have ev : E.ev Γ (.not x) = fun s => notR (x.ev Γ s) := by funext s; simp only [E.ev]
        exact ⟨fun X F W g => by rw [ev]; exact se_not ((ihc a x h1).se X F W g), fun X F W g => by rw [ev]; exact st_not ((ihc a x h1).st X F W g)⟩
      · have ev : E.ev Γ (.neg x) = fun s => (x.ev Γ s).bind fun x => D1 gNeg [x] := by funext s; simp only [E.ev]
        exact snd_plain (fun _ _ => rfl) fun X F W g => by rw [ev]; exact se_un' (r := rU fun i => .int (-i)) (fun ta q => pe_un un_neg q) ok_neg ((ihc a x h1).se X F W g)
    | BoolOp op es p =>
      cases op with
      | And =>
        simp only [compE] at h
        obtain ⟨irs, h1, h2⟩ := bind_some h
        have q := snd_and (pos := p) ihc h1 h2
        exact ⟨fun X F W g => (q X F W g).1, fun X F W g => (q X F W g).2.pt⟩
      | Or =>
        simp only [compE] at h
        obtain ⟨irs, h1, h2⟩ := bind_some h
        have q := snd_or (pos := p) ihc h1 h2
        exact ⟨fun X F W g => (q X F W g).1, fun X F W g => (q X F W g).2.pt⟩
    | IfExp t a b p =>
      simp only [compE] at h
      obtain ⟨x, h1, h⟩ := bind_some h
      obtain ⟨y, h2, h⟩ := bind_some h
      obtain ⟨z, h3, rfl⟩ := map_some h
      have ev : E.ev Γ (.ite x y z) = fun s => iteR (x.ev Γ s) (y.ev Γ s) (z.ev Γ s) := by funext s; simp only [E.ev]
      have q : ∀ X F W, Good X F W Γ c k → SE X F W (.IfExp t a b p) (E.ev Γ (.ite x y z)) := fun X F W g => by
        rw [ev]
        exact se_ite ((ihc t x h1).st X F W g) ((ihc a y h2).se X F W g) ((ihc b z h3).se X F W g)
      refine ⟨q, fun X F W g => ?_⟩
      rw [ev]
      exact st_ite ((ihc t x h1).st X F W g) ((ihc a y h2).st X F W g) ((ihc b z h3).st X F W g)
    | Compare a ops cs p =>
      cases ops with
      | nil => simp only [compE] at h; cases h
      | cons op ops =>
        cases ops with
        | nil =>
          cases cs with
          | nil => simp only [compE] at h; cases h
          | cons b cs =>
            cases cs with
            | nil =>
              simp only [compE] at h
              obtain ⟨o, h1, h⟩ := bind_some h
              obtain ⟨x, h2, h⟩ := bind_some h
              obtain ⟨y, h3, rfl⟩ := map_some h
              exact snd_cmp h1 (notSet_mark h3) (ihc a x h2) (ihc b y h3)
            | cons _ _ => simp only [compE] at h; cases h
        | cons op' ops =>
          cases ops with
          | cons _ _ => cases cs <;> first | (simp only [compE] at h; cases h; done) | (rename_i cs; cases cs <;> first | (simp only [compE] at h; cases h; done) | (rename_i cs; cases cs <;> (simp only [compE] at h; cases h)))
          | nil =>
            cases cs with
            | nil => simp only [compE] at h; cases h
            | cons b cs =>
              cases cs with
              | nil => simp only [compE] at h; cases h
              | cons d cs =>
                cases cs with
                | cons _ _ => simp only [compE] at h; cases h
                | nil =>
                  simp only [compE] at h
                  obtain ⟨o, h1, h⟩ := bind_some h
                  obtain ⟨o', h2, h⟩ := bind_some h
                  obtain ⟨x, h3, h⟩ := bind_some h
                  obtain ⟨y, h4, h⟩ := bind_some h
                  obtain ⟨z, h5, h⟩ := bind_some h
                  split at h
                  · rename_i hp
                    injection h with h
                    subst h
                    exact snd_chain h1 h2 hp (lastMark_of h5) (ihc a x h3) (ihc b y h4) (ihc d z h5)
                  · cases h
    | Tuple es kk p =>
      simp only [compE] at h
      obtain ⟨l, h1, rfl⟩ := map_some h
      have ev : E.ev Γ (.tup l) = fun s => (E.evs Γ l s).bind (DL gTup) := by funext s; simp only [E.ev]
      exact snd_plain (fun _ _ => rfl) fun X F W g => by rw [ev]; exact se_tup ((sa_map ihc h1).1 X F W g)
    | List es p =>
      simp only [compE] at h
      obtain ⟨l, h1, rfl⟩ := map_some h
      have ev : E.ev Γ (.lst l) = fun s => (E.evs Γ l s).bind (DL gLst) := by funext s; simp only [E.ev]
      exact snd_plain (fun _ _ => rfl) fun X F W g => by rw [ev]; exact se_lst ((sa_map ihc h1).1 X F W g)
    | Dict ks vs p =>
      cases ks with
      | cons _ _ => simp only [compE] at h; cases h
      | nil =>
        cases vs with
        | cons _ _ => simp only [compE] at h; cases h
        | nil =>
          simp only [compE] at h
          injection h with h
          subst h
          have ev : E.ev Γ .dnew = fun s => .ok (.dk .own [] []) := by funext s; simp only [E.ev]
          exact snd_plain (fun _ _ => rfl) fun X F W g => by rw [ev]; exact se_dnew
    | Subscript a b p =>
      have gen : ∀ {x y : E}, compE n c a = some x → compE n c b = some y → Snd Γ k c (.Subscript a b p) (.ix x y) := fun {x y} h1 h2 => by
        have ev : E.ev Γ (.ix x y) = fun s => (x.ev Γ s).bind fun u => (y.ev Γ s).bind fun v => D2 gIx [u, v] := by funext s; simp only [E.ev]
        exact snd_plain (fun _ _ => rfl) fun X F W g => by rw [ev]; exact se_ix g.K (noSl_of h2) ((ihc a x h1).se X F W g) ((ihc b y h2).se X F W g)
      cases b with
      | Slice lo hi st q =>
        cases st with
        | none =>
          simp only [compE] at h
          obtain ⟨x, h1, h⟩ := bind_some h
          obtain ⟨l, h2, h⟩ := bind_some h
          obtain ⟨m, h3, rfl⟩ := map_some h
          have ev : E.ev Γ (.sl x l m) = fun s => slR (x.ev Γ s) (E.evO Γ l s) (E.evO Γ m s) := by funext s; simp only [E.ev]
          exact snd_plain (fun _ _ => rfl) fun X F W g => by rw [ev]; exact se_slice g.K ((ihc a x h1).se X F W g) (so_map ihc h2 g) (so_map ihc h3 g)
        | some st =>
          simp only [compE] at h
          obtain ⟨x, h1, h⟩ := bind_some h
          obtain ⟨y, h2, rfl⟩ := map_some h
          exact gen h1 h2
      | _ =>
        simp only [compE] at h
        obtain ⟨x, h1, h⟩ := bind_some h
        obtain ⟨y, h2, rfl⟩ := map_some h
        exact gen h1 h2
    | Call f es kws p =>
      cases f with
      | Name x px =>
        cases es with
        | nil => simp only [compE] at h; cases h
        | cons e es =>
          cases kws with
          | cons _ _ => simp only [compE] at h; cases h
          | nil =>
            simp only [compE] at h
            split at h
            · rename_i hg
              rw [Bool.and_eq_true] at hg
              obtain ⟨p1, p2, p3⟩ := plain_of hg.2
              split at h
              · rename_i hx
                subst hx
                split at h
                · rename_i T pT
                  split at h
                  · rename_i hh
                    simp only [Bool.and_eq_true, decide_eq_true_eq] at hh
                    obtain ⟨⟨⟨b1, b2⟩, b3⟩, b4⟩ := hh
                    obtain ⟨q1, q2, q3⟩ := plain_of b4
                    obtain ⟨t, h1, h⟩ := bind_some h
                    obtain ⟨x, h2, rfl⟩ := map_some h
                    have ev : E.ev Γ (.isi t x) = fun s => isiR t (x.ev Γ s) := by funext s; simp only [E.ev]
                    exact snd_plain (fun _ _ => rfl) fun X F W g => by
                      rw [ev]
                      exact se_isi g.K (g.gl _ hg.1) (g.blt _ b1) (g.gl _ b2) (g.blt _ b3) (tyName_boot h1) q3 q1 (star_each (compE_star h2)) (plain_args fun e' he => by simp at he; subst he; rfl) ((ihc e x h2).se X F W g)
                  · cases h
                · cases h
              · split at h
                · rename_i b hb
                  split at h
                  · rename_i hm
                    obtain ⟨l, h1, rfl⟩ := map_some h
                    obtain rfl := biOf_name hb
                    have ev : E.ev Γ (.bi b l) = fun s => (E.evs Γ l s).bind (DL b.g) := by funext s; simp only [E.ev]
                    obtain ⟨a1, a2, a3⟩ := sa_map (Γ := Γ) (k := k) ihc h1
                    exact snd_plain (fun _ _ => rfl) fun X F W g => by
                      rw [ev]
                      exact bi_ok g (g.gl _ hg.1) (g.blt _ (of_decide_eq_true hm)) a2 (a1 X F W g)
                  · cases h
                · obtain ⟨j, h1, h⟩ := bind_some h
                  obtain ⟨l, h2, rfl⟩ := map_some h
                  have ev : E.ev Γ (.call j l) = fun s => (E.evs Γ l s).bind (callR Γ j) := by funext s; simp only [E.ev]
                  obtain ⟨a1, a2, a3⟩ := sa_map (Γ := Γ) (k := k) ihc h2
                  exact snd_plain (fun _ _ => rfl) fun X F W g => by
                    rw [ev]
                    exact se_callU g (g.gl _ hg.1) h1 p1 a2 (a1 X F W g)
            · cases h
      | _ => simp only [compE] at h; cases h
    | ListComp elt gs scope p =>
      cases gs with
      | nil => simp only [compE] at h; cases h
      | cons g0 gs =>
        cases gs with
        | cons _ _ => simp only [compE] at h; cases h
        | nil =>
          obtain ⟨tg, iter, ifs, az⟩ := g0
          by_cases haz : az = 0
          · subst haz
            have lp := lc_parts (k := k) (Γ := Γ) ih h
            exact snd_plain (fun _ _ => rfl) fun X F W g => lc_se lp g
          · simp only [compE] at h
            rw [if_neg (fun z => haz z.1)] at h
            cases h
    | _ => simp only [compE] at h; cases h
end
end Fe

/-! Fe14: statements read off the text; what is read off is right; what a def hands back. -/
namespace Fe
open PySem L2
inductive Me where
  | append | extend | popAt
  deriving DecidableEq
def Me.tx : Me → List D → List D → Option (List D)
  | .append => txAppend | .extend => txExtend | .popAt => txPopAt
def meOf (x : Str) : Option Me := if x = "append" then some .append else if x = "extend" then some .extend else if x = "pop" then some .popAt else none
inductive S where
  | set (i : Nat) (e : E) | tset (tp : Bool) (is : List Nat) (e : E) | store (i : Nat) (path : List E) (k e : E) | aug (i : Nat) (o : Op) (e : E)
  | ret (e : E) | retv (i : Nat) | retN | expr (e : E) | mth (m : Me) (i : Nat) (path : List E) (args : List E)
  | iff (c : E) (a b : List S) | loop (k : Nat) (src : List E) (tp : Bool) (is : List Nat) (body : List S) | whl (c : E) (body : List S)
  | pass | brk | cont | frz (i : Nat) (s : S) | no
def tsetO (tp : Bool) (is : List Nat) (s : SD) (d : D) : O := match tgF tp is d s with
  | some s' => .nx s'
  | none => .stk
section
variable (Γ : Mir) (n : Nat)
def evP (path : List E) (s : SD) : R (List Int) := path.foldl (fun acc e => snocR acc (e.ev Γ s)) (.ok [])
mutual
def S.ev : S → SD → O
  | .set i e, s => (e.ev Γ s).thenO s (setO i s)
  | .tset tp is e, s => (e.ev Γ s).thenO s (tsetO tp is s)
  | .store i p k e, s => storeO i (evP Γ p) (k.ev Γ) (e.ev Γ) s
  | .aug i o e, s => augO i o.g (e.ev Γ) s
  | .ret e, s => (e.ev Γ s).thenO s retO
  | .retv i, s => match s[i]? with
    | some (some d) => retO d
    | _ => .stk
  | .retN, _ => .rt .non
  | .expr e, s => (e.ev Γ s).thenO s fun _ => .nx s
  | .mth m i p es, s => mthO m.tx i (evP Γ p) (E.evs Γ es) s
  | .iff c a b, s => (c.ev Γ s).thenO s (ifO s (S.evs a) (S.evs b))
  | .loop k src tp is body, s => ((E.evs Γ src s).bind (itG false k)).thenO s fun ds => forL (turnO (tgF tp is) (S.evs body)) ds s
  | .whl c body, s => whL (c.ev Γ) (S.evs body) n s
  | .pass, s => .nx s
  | .brk, s => .bk s
  | .cont, s => .ct s
  | .no, _ => .stk
  | .frz i st, s => st.ev (frz1 i s)
def S.evs : List S → SD → O
  | [], s => .nx s
  | a :: r, s => (a.ev s).seq (S.evs r)
end
end
/-! ### reading off -/
def esc : Nat → E → List Nat
  | 0, _ => []
  | n + 1, e => match e with
    | .var i => [i]
    | .tup es => (es.map (esc n)).flatten
    | .lst es => (es.map (esc n)).flatten
    | .ite _ a b => esc n a ++ esc n b
    | .ix a _ => esc n a
    | .bi .tuple es => (es.map (esc n)).flatten
    | .bi .list es => (es.map (esc n)).flatten
    | .lc 0 src _ _ _ e _ => (src.map (esc n)).flatten ++ esc n e
    | .lc _ _ _ _ _ e _ => esc n e
    | _ => []
def wrap (fz : List Nat) (is : List Nat) (s : S) : S := is.foldr (fun i r => if fz.contains i then .frz i r else r) s
/-- a path of items from a name -/
def compP (f : Expr → Option E) (c : Cfg) : Nat → Expr → Option (Nat × List E)
  | 0, _ => none
  | n + 1, e => match e with
    | .Name x _ => if plainName x && visC c.sc x then (ixOf c.N x).map fun i => (i, []) else none
    | .Subscript a b _ => (compP f c n a).bind fun p => (f b).map fun y => (p.1, p.2 ++ [y])
    | _ => none
def isComp : Expr → Bool
  | .ListComp _ _ _ _ => true
  | .SetComp _ _ _ _ => true
  | .DictComp _ _ _ _ _ => true
  | _ => false
def isTupE : Expr → Bool
  | .Tuple _ _ _ => true
  | _ => false
/-- [x for ..] stored as one with its name -/
def swapsC (c : Cfg) (y : Str) (py : Pos) (e : Expr) : Option Bool := match e with
  | .ListComp _ _ scope pos => match c.sc.names.lookup y with
    | some .local => some (py.line == pos.line && !(scope.names.any fun (n, k) => n == y && (k == .local || k == .cell)))
    | _ => some false
  | _ => none
def retName (c : Cfg) : Expr → Option Nat
  | .Name x _ => if plainName x && visC c.sc x then ixOf c.N x else none
  | _ => none
def compS (m : Nat) (fz : List Nat) (c : Cfg) : Nat → Stmt → Option S
  | 0, _ => none
  | n + 1, st => match st with
    | .Assign [.Name y py] e _ => if stoC c.sc y then (ixOf c.N y).bind fun i => (compE m c e).map fun x => wrap fz (esc 9 x) (.set i x) else none
    | .Assign [.Tuple es kt pt] e _ => if isTupE e || isComp e then none else (compG c (.Tuple es kt pt)).bind fun g => (compE m c e).map fun x => wrap fz (esc 9 x) (.tset g.1 g.2 x)
    | .Assign [.Subscript o i _] e _ => if isComp e then none else (compP (compE m c) c 9 o).bind fun p => (compE m c i).bind fun k => (compE m c e).map fun x => wrap fz (esc 9 x) (.store p.1 p.2 k x)
    | .AugAssign (.Name y _) op e _ => if plainName y && stoC c.sc y then (ixOf c.N y).bind fun i => (compE m c e).bind fun x => match op with
      | .Add => some (.aug i .add x)
      | .Sub => some (.aug i .sub x)
      | _ => none
      else none
    | .Return none _ => some .retN
    | .Return (some e) _ => match retName c e with
      | some i => some (.retv i)
      | none => (compE m c e).map fun x => wrap fz (esc 9 x) (.ret x)
    | .If t a b _ => (compE m c t).bind fun x => (mapO (compS m fz c n) a).bind fun y => (mapO (compS m fz c n) b).map fun z => .iff x y z
    | .For tg iter body [] _ => (compI (compE m c) c iter).bind fun ks => (compG c tg).bind fun g => if (ks.1 != 3 || g.1) = true then (mapO (compS m fz c n) body).map fun b => wrap fz ((ks.2.map (esc 9)).flatten) (.loop ks.1 ks.2 g.1 g.2 b) else none
    | .While t body [] _ => (compE m c t).bind fun x => (mapO (compS m fz c n) body).map fun b => .whl x b
    | .Expr (.Call (.Attribute o a apos) (e :: es) [] cpos) _ => if apos.endLine == cpos.line && decide (es.length < 20) then
        (meOf a).bind fun me => (compP (compE m c) c 9 o).bind fun p => (mapO (compE m c) (e :: es)).map fun l => wrap fz ((l.map (esc 9)).flatten) (.mth me p.1 p.2 l)
      else none
    | .Expr (.Call (.Name f pf) es kws cpos) _ => (compE m c (.Call (.Name f pf) es kws cpos)).map S.expr
    | .Pass _ => some .pass
    | .Break _ => some .brk
    | .Continue _ => some .cont
    | .Raise _ _ _ => some .no
    | _ => none
section
variable {X : Cx} {F : Fr} {W : WX} {Γ : Mir} {c : Cfg} {k n m : Nat} {fz : List Nat}
structure GoodS (X : Cx) (F : Fr) (W : WX) (Γ : Mir) (c : Cfg) (k : Nat) : Prop where
  g : Good X F W Γ c k
  po : PassesOwn (model X.prog X.w) X.A X.env X.xe
  sc : X.env.scope = c.sc
  kd : X.env.scope.kind = .function
theorem wrap_ok {st : Stmt} {s : S} (h : SS X F W st (s.ev Γ n)) : ∀ is : List Nat, SS X F W st ((wrap fz is s).ev Γ n)
  | [] => h
  | i :: is => by
    have ih := wrap_ok h is
    show SS X F W st ((if fz.contains i then S.frz i (wrap fz is s) else wrap fz is s).ev Γ n)
    split
    · have ev : (S.frz i (wrap fz is s)).ev Γ n = fun s' => (wrap fz is s).ev Γ n (frz1 i s') := by funext s'; simp only [S.ev]
      rw [ev]
      exact ss_frz ih
    · exact ih
theorem evP_snoc {p : List E} {e : E} : evP Γ (p ++ [e]) = fun s => snocR (evP Γ p s) (e.ev Γ s) := by
  funext s
  unfold evP
  rw [List.foldl_append]
  rfl
theorem compP_ok (g : Good X F W Γ c k) : ∀ (j : Nat) {e : Expr} {p : Nat × List E}, compP (compE m c) c j e = some p → SPa X F W e p.1 (evP Γ p.2) ∧ attributeBase e = attributeBase e ∧ (∀ a whole, attributeBase e a X.env whole = whole)
  | 0, e, p, h => by cases h
  | j + 1, e, p, h => by
    unfold compP at h
    split at h
    · rename_i x px
      split at h
      · rename_i hp
        rw [Bool.and_eq_true] at hp
        obtain ⟨p1, p2, p3⟩ := plain_of hp.1
        obtain ⟨i, h1, rfl⟩ := map_some h
        exact ⟨sp_name (by rw [g.N]; exact ixOf_get h1) (g.vis x hp.2) p1 p2, rfl, fun _ _ => rfl⟩
      · cases h
    · rename_i a b pos
      obtain ⟨q, h1, h⟩ := bind_some h
      obtain ⟨y, h2, rfl⟩ := map_some h
      obtain ⟨r1, _, _⟩ := compP_ok g j h1
      refine ⟨?_, rfl, fun _ _ => rfl⟩
      show SPa X F W _ q.1 (evP Γ (q.2 ++ [y]))
      rw [evP_snoc]
      exact sp_ix (noSl_of h2) r1 ((compE_ok m c b y h2).se X F W g)
    · cases h
theorem swaps_plain {e : Expr} {x : E} (h : compE m c e = some x) (hc : isComp e = false) {t : Option Expr} {l : Nat} {env : Env} : swapsWith e t l env = pure false := by
  cases e <;> first | rfl | (cases hc; done)
theorem sole_plain {e : Expr} {x : E} (h : compE m c e = some x) (hc : isComp e = false) {t : Expr} {l : Nat} {env : Env} : swapsWithSole [t] e l env = pure false := by
  cases e <;> first | rfl | (cases hc; done)
theorem ret_name {e : Expr} {i : Nat} (hv : retName c e = some i) : ∃ x px, e = .Name x px ∧ plainName x = true ∧ visC c.sc x = true ∧ ixOf c.N x = some i := by
  unfold retName at hv
  split at hv
  · rename_i x px
    split at hv
    · rename_i hp
      rw [Bool.and_eq_true] at hp
      exact ⟨x, px, rfl, hp.1, hp.2, hv⟩
    · cases hv
  · cases hv
theorem ss_tset {tg e : Expr} {tp : Bool} {is : List Nat} {f : SD → R D} {pos : Pos} (hs : swapsWithSole [tg] e pos.line X.env = pure false) (hw : swappedStores [tg] e X.env = pure none) (h1 : (assignEach [tg] X.env).map (·.2) = [assign tg X.env])
    (hg : PG X tg (tgG F.K tp is)) (ht : TgOk F is (tgF tp is) (tgG F.K tp is)) (he : SE X F W e f) : SS X F W (.Assign [tg] e pos) (fun s => (f s).thenO s (tsetO tp is s)) := by
  refine PS.imp (ps_asg he hg hs hw h1) fun Dn σ H ⟨G, s, t, o⟩ => liftE_then t (Same.refl H) o fun d o v H' x => ?_
  unfold tsetO at o
  cases q : tgF tp is d s with
  | none => rw [q] at o; exact o.elim
  | some s' =>
    rw [q] at o
    exact ht G H H' σ s v d s' t x q _ fun G' vs a _ _ t' => o G' _ H' a t'
theorem me_go {me : Me} {a : Str} {o e : Expr} {es : List Expr} {i : Nat} {fks : SD → R (List Int)} {fs : SD → R (List D)} {apos cpos pos : Pos} (hme : meOf a = some me) (hK : X.K = F.K) (hb : ∀ a whole, attributeBase o a X.env whole = whole) (hline : (apos.endLine == cpos.line) = true) (hlen : es.length < 20)
    (hst : ∀ e' ∈ e :: es, notStar e' = true) (hp : SPa X F W o i fks) (ha : SA X F W (e :: es) fs) : SS X F W (.Expr (.Call (.Attribute o a apos) (e :: es) [] cpos) pos) (mthO me.tx i fks fs) := by
  have he : starEach (e :: es) X.env = (false, eval e X.env) :: starEach es X.env := star_each (hst e List.mem_cons_self)
  have hpl : (backTo cpos (starEach es X.env)).any (·.1) = false := plain_args fun e' h' => hst e' (List.mem_cons_of_mem _ h')
  have hall : (backTo cpos (starEach (e :: es) X.env)).all (fun x => !x.1) = true := by
    have := plain_args (pos := cpos) (env := X.env) hst
    rw [List.all_eq_not_any_not]
    simpa using this
  have hfew : ((backTo cpos (starEach (e :: es) X.env)).all (fun x => !x.1) && (backToKw cpos (keywordEach [] X.env)).all (fun x => x.1.isSome)
      && decide ((e :: es).length + ([] : List Keyword).length + (if ([] : List Keyword).isEmpty then 0 else 1) < 30)) = true := by
    rw [hall]
    show (true && true && decide _) = true
    simp
    omega
  unfold meOf at hme
  split at hme
  · rename_i e0
    subst e0
    injection hme with hme
    subst hme
    refine PS.imp (ps_expr (pe_bm PySem.F.plainAttrs_list PySem.F.slot_list_append PySem.F.type_list_append mt_append hp ha (hb _ _) hfew hline he hpl)) fun Dn σ H ⟨G, s, t, o⟩ => ?_
    rw [hK]
    exact mth_go (fun _ _ _ h => h) mok_append (fun l ds l' h => by
      unfold txAppend at h
      split at h
      · split at h
        · rename_i hh; simp [noBoL, hh.1]
        · cases h
      · cases h) t o
  split at hme
  · rename_i e0
    subst e0
    injection hme with hme
    subst hme
    refine PS.imp (ps_expr (pe_bm PySem.F.plainAttrs_list PySem.F.slot_list_extend PySem.F.type_list_extend mt_extend hp ha (hb _ _) hfew hline he hpl)) fun Dn σ H ⟨G, s, t, o⟩ => ?_
    rw [hK]
    exact mth_go (fun _ _ _ h => h) mok_extend (fun l ds l' h => by
      unfold txExtend at h
      split at h
      · split at h
        · rename_i hh; simp [noBoL, D.noBo, hh.1]
        · cases h
      · cases h) t o
  split at hme
  · rename_i e0
    subst e0
    injection hme with hme
    subst hme
    refine PS.imp (ps_expr (pe_bm PySem.F.plainAttrs_list PySem.F.slot_list_pop PySem.F.type_list_pop mt_popAt hp ha (hb _ _) hfew hline he hpl)) fun Dn σ H ⟨G, s, t, o⟩ => ?_
    rw [hK]
    exact mth_go (fun _ _ _ h => h) mok_popAt (fun l ds l' h => by
      unfold txPopAt at h
      split at h
      · rfl
      · cases h) t o
  · cases hme
theorem sb_map {N : Nat} {f : Stmt → Option S} {X : Cx} {F : Fr} {W : WX} (ih : ∀ st s, f st = some s → SS X F W st (s.ev Γ N)) : ∀ {sts : List Stmt} {l : List S}, mapO f sts = some l → SB X F W sts (S.evs Γ N l)
  | [], l, h => by
    injection h with h
    subst h
    have ev : S.evs Γ N [] = fun s => .nx s := by funext s; simp only [S.evs]
    rw [ev]
    exact sb_nil
  | st :: sts, l, h => by
    obtain ⟨x, l', h1, h2, rfl⟩ := mapO_cons h
    have ev : S.evs Γ N (x :: l') = fun s => (x.ev Γ N s).seq (S.evs Γ N l') := by funext s; simp only [S.evs]
    rw [ev]
    exact sb_cons (ih st x h1) (sb_map ih h2)
theorem compS_ok {N : Nat} {X : Cx} {F : Fr} {W : WX} (g : GoodS X F W Γ c k) : ∀ (n : Nat) (st : Stmt) (s : S), compS m fz c n st = some s → SS X F W st (s.ev Γ N)
  | 0, _, _, h => by cases h
  | n + 1, st, s, h => by
    have ih := compS_ok (N := N) g n
    have ge := g.g
    have E0 := fun e ir h => compE_ok (Γ := Γ) (k := k) m c e ir h
    unfold compS at h
    split at h
    · rename_i y py e pos
      split at h
      · rename_i hs
        obtain ⟨i, h1, h⟩ := bind_some h
        obtain ⟨x, h2, rfl⟩ := map_some h
        refine wrap_ok ?_ _
        have hi : X.N[i]? = some y := by rw [ge.N]; exact ixOf_get h1
        have hN : X.N.Nodup := by rw [ge.N]; exact ge.nd
        obtain ⟨k1, k2⟩ := ge.sto y hs
        have ev : S.ev Γ N (.set i x) = fun s => (x.ev Γ s).thenO s (setO i s) := by funext s; simp only [S.ev]
        rw [ev]
        by_cases hc : isComp e = true
        · cases e with
          | ListComp elt gs scope p =>
            by_cases hsw : (X.env.kindOf y == some NameKind.local && py.line == p.line && !(scope.names.any fun (n, k) => n == y && (k == .local || k == .cell))) = true
            · cases m with
              | zero => cases h2
              | succ m =>
              cases gs with
              | nil => simp only [compE] at h2; cases h2
              | cons g0 gs =>
                cases gs with
                | cons _ _ => simp only [compE] at h2; cases h2
                | nil =>
                  obtain ⟨tg, iter, ifs, az⟩ := g0
                  by_cases haz : az = 0
                  · subst haz
                    simp only [Bool.and_eq_true] at hsw
                    have hyl : X.env.scope.names.lookup y = some .local := eq_of_beq hsw.1.1
                    exact lc_set (lc_parts (fun c e ir h => compE_ok m c e ir h) h2) ge hi hyl (sw_true g.kd hyl hsw.1.2 (by simpa using hsw.2))
                  · simp only [compE] at h2
                    rw [if_neg (fun z => haz z.1)] at h2
                    cases h2
            · refine ss_set hN hi k1 ?_ k2 ((E0 _ x h2).se X F W ge)
              have hb : X.env.blockKind = .function := by unfold Env.blockKind; rw [g.kd]; rfl
              have hsw' := Bool.eq_false_iff.mpr hsw
              unfold swapsWith
              simp only [hb, Expr.pos]
              show (pure _ : Sem Bool) = pure false
              congr 1
          | SetComp _ _ _ _ => cases m <;> first | (cases h2; done) | (simp only [compE] at h2; cases h2)
          | DictComp _ _ _ _ _ => cases m <;> first | (cases h2; done) | (simp only [compE] at h2; cases h2)
          | _ => cases hc
        · exact ss_set hN hi k1 (swaps_plain h2 (Bool.eq_false_iff.mpr hc)) k2 ((E0 _ x h2).se X F W ge)
      · cases h
    · rename_i es kt pt e pos
      split at h
      · cases h
      · rename_i hh
        rw [Bool.or_eq_true, not_or] at hh
        have e1 := Bool.eq_false_iff.mpr hh.1
        have e2 := Bool.eq_false_iff.mpr hh.2
        obtain ⟨gt, h1, h⟩ := bind_some h
        obtain ⟨x, h2, rfl⟩ := map_some h
        refine wrap_ok ?_ _
        have ev : S.ev Γ N (.tset gt.1 gt.2 x) = fun s => (x.ev Γ s).thenO s (tsetO gt.1 gt.2 s) := by funext s; simp only [S.ev]
        rw [ev]
        obtain ⟨a1, a2⟩ := comp_tg (Γ := Γ) (k := k) h1
        refine ss_tset ?_ ?_ rfl (a1 X F W ge) (a2 F) ((E0 _ x h2).se X F W ge)
        · exact sole_plain h2 e2
        · cases e <;> first | rfl | (cases e1; done)
    · rename_i o i po e pos
      split at h
      · cases h
      · rename_i hh
        have e2 := Bool.eq_false_iff.mpr hh
        obtain ⟨p, h1, h⟩ := bind_some h
        obtain ⟨kk, h2, h⟩ := bind_some h
        obtain ⟨x, h3, rfl⟩ := map_some h
        refine wrap_ok ?_ _
        have ev : S.ev Γ N (.store p.1 p.2 kk x) = fun s => storeO p.1 (evP Γ p.2) (kk.ev Γ) (x.ev Γ) s := by funext s; simp only [S.ev]
        rw [ev]
        obtain ⟨a1, _, _⟩ := compP_ok (Γ := Γ) ge 9 h1
        refine PS.imp (ps_asg ((E0 _ x h3).se X F W ge) (pg_sub a1 ((E0 _ kk h2).se X F W ge) set_list (fun v => ?_)) (sole_plain h3 e2) rfl rfl) fun Dn σ H ⟨G, s, t, o⟩ => store_go t o
        have hns := noSl_of h2
        cases m with
        | zero => cases h2
        | succ m => cases i <;> first | rfl | (simp only [compE] at h2; cases h2)
    · rename_i y py op e pos
      split at h
      · rename_i hs
        rw [Bool.and_eq_true] at hs
        obtain ⟨i, h1, h⟩ := bind_some h
        obtain ⟨x, h2, h⟩ := bind_some h
        have hi : X.N[i]? = some y := by rw [ge.N]; exact ixOf_get h1
        have hN : X.N.Nodup := by rw [ge.N]; exact ge.nd
        obtain ⟨k1, k2⟩ := ge.sto y hs.2
        split at h
        · injection h with h
          subst h
          have ev : S.ev Γ N (.aug i .add x) = fun s => augO i gAdd (x.ev Γ) s := by funext s; simp only [S.ev, Op.g]
          rw [ev]
          refine PS.imp (ps_aug hN hi k1 ((E0 _ x h2).se X F W ge) ip_add k2) fun Dn σ H ⟨G, s, t, o⟩ => aug_go (f := fun i j => i + j) (fun a y z hz => ?_) t o
          cases y <;> first | (cases hz; done) | (injection hz with hz; exact ⟨_, rfl, hz.symm⟩)
        · injection h with h
          subst h
          have ev : S.ev Γ N (.aug i .sub x) = fun s => augO i gSub (x.ev Γ) s := by funext s; simp only [S.ev, Op.g]
          rw [ev]
          refine PS.imp (ps_aug hN hi k1 ((E0 _ x h2).se X F W ge) ip_sub k2) fun Dn σ H ⟨G, s, t, o⟩ => aug_go (f := fun i j => i - j) (fun a y z hz => ?_) t o
          cases y <;> first | (cases hz; done) | (injection hz with hz; exact ⟨_, rfl, hz.symm⟩)
        · cases h
      · cases h
    · injection h with h
      subst h
      have ev : S.ev Γ N .retN = fun s => .rt .non := by funext s; simp only [S.ev]
      rw [ev]
      exact ss_retN
    · rename_i e pos
      split at h
      · rename_i i hv
        injection h with h
        subst h
        have ev : S.ev Γ N (.retv i) = fun s => match s[i]? with | some (some d) => retO d | _ => .stk := by
          funext s
          simp only [S.ev]
        rw [ev]
        obtain ⟨x, px, rfl, hp, hvis, h1⟩ := ret_name hv
        obtain ⟨p1, p2, p3⟩ := plain_of hp
        exact ss_retv (by rw [ge.N]; exact ixOf_get h1) (ge.vis x hvis) p1 p2
      · obtain ⟨x, hv, rfl⟩ := map_some h
        refine wrap_ok ?_ _
        have ev : S.ev Γ N (.ret x) = fun s => (x.ev Γ s).thenO s retO := by funext s; simp only [S.ev]
        rw [ev]
        exact ss_ret ((E0 _ x hv).se X F W ge)
    · rename_i t a b pos
      obtain ⟨x, h1, h⟩ := bind_some h
      obtain ⟨y, h2, h⟩ := bind_some h
      obtain ⟨z, h3, rfl⟩ := map_some h
      have ev : S.ev Γ N (.iff x y z) = fun s => (x.ev Γ s).thenO s (ifO s (S.evs Γ N y) (S.evs Γ N z)) := by funext s; simp only [S.ev]
      rw [ev]
      exact ss_if ((E0 _ x h1).st X F W ge) (sb_map ih h2) (sb_map ih h3)
    · rename_i tg iter body pos
      obtain ⟨ks, h1, h⟩ := bind_some h
      obtain ⟨gt, h2, h⟩ := bind_some h
      split at h
      rotate_left
      · cases h
      rename_i hz
      obtain ⟨b, h3, rfl⟩ := map_some h
      refine wrap_ok ?_ _
      have ev : S.ev Γ N (.loop ks.1 ks.2 gt.1 gt.2 b) = fun s => ((E.evs Γ ks.2 s).bind (itG false ks.1)).thenO s fun ds => forL (turnO (tgF gt.1 gt.2) (S.evs Γ N b)) ds s := by funext s; simp only [S.ev]
      rw [ev]
      obtain ⟨a1, a2⟩ := comp_tg (Γ := Γ) (k := k) h2
      obtain ⟨i1, i2⟩ := compI_ok E0 h1 ge false tg (zip_tup hz h2)
      exact ss_for g.po ge.calm i2 i1 (a1 X F W ge) (a2 F) (sb_map ih h3)
    · rename_i t body pos
      obtain ⟨x, h1, h⟩ := bind_some h
      obtain ⟨b, h2, rfl⟩ := map_some h
      have ev : S.ev Γ N (.whl x b) = fun s => whL (x.ev Γ) (S.evs Γ N b) N s := by funext s; simp only [S.ev]
      rw [ev]
      exact ss_while N g.po ((E0 _ x h1).st X F W ge) (sb_map ih h2)
    · rename_i o a apos e es cpos pos
      split at h
      · rename_i hh
        rw [Bool.and_eq_true] at hh
        obtain ⟨me, h1, h⟩ := bind_some h
        obtain ⟨p, h2, h⟩ := bind_some h
        obtain ⟨l, h3, rfl⟩ := map_some h
        refine wrap_ok ?_ _
        have ev : S.ev Γ N (.mth me p.1 p.2 l) = fun s => mthO me.tx p.1 (evP Γ p.2) (E.evs Γ l) s := by funext s; simp only [S.ev]
        rw [ev]
        obtain ⟨a1, _, a3⟩ := compP_ok (Γ := Γ) ge 9 h2
        obtain ⟨b1, b2, b3⟩ := sa_map E0 h3
        exact me_go h1 ge.K a3 hh.1 (of_decide_eq_true hh.2) b2 a1 (b1 X F W ge)
      · cases h
    · rename_i f pf es kws cpos pos
      obtain ⟨x, h1, rfl⟩ := map_some h
      have ev : S.ev Γ N (.expr x) = fun s => (x.ev Γ s).thenO s fun _ => .nx s := by funext s; simp only [S.ev]
      rw [ev]
      exact ss_expr rfl ((E0 _ x h1).se X F W ge)
    · injection h with h
      subst h
      have ev : S.ev Γ N .pass = fun s => .nx s := by funext s; simp only [S.ev]
      rw [ev]; exact ss_pass
    · injection h with h
      subst h
      have ev : S.ev Γ N .brk = fun s => .bk s := by funext s; simp only [S.ev]
      rw [ev]; exact ss_break
    · injection h with h
      subst h
      have ev : S.ev Γ N .cont = fun s => .ct s := by funext s; simp only [S.ev]
      rw [ev]; exact ss_continue
    · injection h with h
      subst h
      have ev : S.ev Γ N .no = fun s => .stk := by funext s; simp only [S.ev]
      rw [ev]; exact ⟨fun pins s σ H D I ⟨G, s', t, o⟩ => o.elim⟩
    · cases h
end
end Fe

/-! Fe15: a def by its text: what its body computes, what it promises. -/
namespace Fe
open PySem L2
def runF (Γ : Mir) (n N np : Nat) (b : List S) (ds : List D) : R D :=
  if ds.length = np then match S.evs Γ n b ((toBwL ds).map some ++ List.replicate (N - np) none) with
    | .rt d => .ok d
    | .nx _ => .ok .non
    | .rs c p _ => .rs c p
    | _ => .stk
  else .stk
theorem toBwL_len : ∀ l : List D, (toBwL l).length = l.length
  | [] => rfl
  | d :: r => by show (toBwL r).length + 1 = _; rw [toBwL_len r]; rfl
theorem repL_get {K : PySem.W.Frag} {C : Addr → Prop} {B : Bool → Addr → Prop} {H : Hp} : ∀ {ds : List D} {vs : List V}, RepL K C B H ds vs [] → vs.length = ds.length ∧ ∀ (i : Nat) d, ds[i]? = some d → ∃ v, vs[i]? = some v ∧ Rep K C B H d v []
  | [], vs, h => by
    obtain ⟨rfl, _⟩ := repL_nil.mp h
    exact ⟨rfl, fun i d h => by simp at h⟩
  | d :: r, vs, h => by
    obtain ⟨v, vr, A1, A2, rfl, e, h1, h2⟩ := repL_cons.mp h
    obtain ⟨rfl, rfl⟩ := List.append_eq_nil_iff.mp e.symm
    obtain ⟨a, b⟩ := repL_get h2
    refine ⟨by simp [a], fun i d' hi => ?_⟩
    cases i with
    | zero =>
      injection hi with hi
      subst hi
      exact ⟨v, rfl, h1⟩
    | succ i => exact b i d' hi
section
variable {P : Program} {w : World} {K : PySem.W.Frag} {mg : Str → Option Value} {base : Heap} {Γ : Mir}
/-- the lower defs, by their names -/
abbrev Low (P : Program) (w : World) (K : PySem.W.Frag) (mg : Str → Option Value) (base : Heap) (cls : Str → Value) (Γ : Mir) (fid : List (Str × Nat)) (k : Nat) : Prop :=
  ∀ x j, fid.lookup x = some j → ∃ f fd ps, mg x = some (.ref f) ∧ PySem.W.keepIn K (.ref f) = true ∧ Binds K fd ps [] ∧ FnOk P w K mg base (L2.CX P w) k f fd ps (spOf K cls (Γ j).1 (Γ j).2)
theorem Low.mono {cls : Str → Value} {fid : List (Str × Nat)} {j k : Nat} (h : Low P w K mg base cls Γ fid j) (l : j ≤ k) : Low P w K mg base cls Γ fid k := fun x i e => by
  obtain ⟨f, fd, ps, a, b, c, d⟩ := h x i e
  exact ⟨f, fd, ps, a, b, c, d.mono l⟩
theorem st_start {C : Addr → Prop} {cls : Str → Value} {H : Hp} {N : Nat} {ds : List D} {vs : List V} (hC : ∀ p, C p → H p ≠ none) (r : RepL K C (fun _ p => H p ≠ none) H ds vs []) :
    St ⟨K, H, C, cls⟩ ⟨C, fun p => H p ≠ none, fun _ => []⟩ H (vs.map some ++ List.replicate (N - vs.length) none) ((toBwL ds).map some ++ List.replicate (N - ds.length) none) := by
  have r2 : RepL K C (Bs fun p => H p ≠ none) H (toBwL ds) vs [] := RepL.toBw (fun _ c => c) (fun _ _ b => b) ds nil_all r
  obtain ⟨l1, g⟩ := repL_get r2
  rw [toBwL_len] at l1
  refine ⟨fun i d h => ?_, fun _ => List.nodup_nil, fun i j p z => (nomatch z), fun p c => ⟨hC p c, fun _ z => (nomatch z)⟩, fun p c => ⟨c, fun _ z => (nomatch z)⟩, fun i p z => (nomatch z), fun p c => .inl c, fun i p z => (nomatch z), Same.refl H, by simp [toBwL_len, l1]⟩
  rcases Nat.lt_or_ge i (toBwL ds).length with hl | hl
  · rw [List.getElem?_append_left (by simpa using hl), List.getElem?_map] at h
    cases q : (toBwL ds)[i]? with
    | none => rw [q] at h; cases h
    | some d' =>
      rw [q] at h
      injection h with h
      injection h with h
      subst h
      obtain ⟨v, a, b⟩ := g i _ q
      refine ⟨v, ?_, b⟩
      rw [List.getElem?_append_left (by rw [List.length_map, l1, ← toBwL_len]; exact hl), List.getElem?_map, a]
      rfl
  · rw [List.getElem?_append_right (by simpa using hl)] at h
    rw [List.getElem?_replicate] at h
    split at h
    · injection h with h; cases h
    · cases h
theorem fn_run {x qual : Str} {st : Stmt} {f : Addr} {fd : FuncData} {ps : List Str} {k n m : Nat} {fz : List Nat} {c : Cfg} {b : List S} {cls : Str → Value} (Fn : Fun K x qual st f fd) (Sc : FnScope c.N ps (defScope st)) (hsc : c.sc = defScope st)
    (hc : mapO (compS m fz c m) (defBody st) = some b) (hblt : ∀ x ∈ c.blt, mg x = none) (hfs : Low P w K mg base cls Γ c.fid k)
    (hcst : ∀ x d, c.cst.lookup x = some d → ∃ u v, mg x = some u ∧ RelV v u ∧ ∀ C B H, Rep K C B H d v []) : FnOk P w K mg base (L2.CX P w) (k + 1) f fd ps (spOf K cls ps.length (runF Γ n c.N.length ps.length b)) := by
  refine Fun.okX Fn Sc (fun vs H Q E h => ?_) fun cdv A outer s H vs Q E hr h => ?_
  · obtain ⟨C, ds, l, _, r, _⟩ := h
    obtain ⟨a, _⟩ := repL_get r
    rw [a, l]
  · obtain ⟨C, ds, l, hC, r, o⟩ := h
    have gs : GoodS (cxOf (L2.CX P w) P w K mg base c.N qual (defScope st) f cdv A outer s H E) ⟨K, H, C, cls⟩ (fun cls d _ H => E cls d H) Γ c k := by
      refine ⟨⟨rfl, Sc.nd, rfl, rfl, fun y h => ?_, fun y h => ?_, fun y h => ⟨?_, .inl rfl⟩, fun y h => ?_, hblt, hr, ?_, hfs, takes_of rfl rfl rfl rfl, hcst⟩, passes_of rfl, hsc.symm, Sc.kind⟩
      · rw [hsc] at h
        unfold visC at h
        show (defScope st).names.lookup y = _ ∨ (defScope st).names.lookup y = _ ∨ (defScope st).names.lookup y = _
        split at h
        · exact .inl ‹_›
        · exact .inr (.inl ‹_›)
        · exact .inr (.inr ‹_›)
        · cases h
      · rw [hsc] at h; exact h
      · rw [hsc] at h
        unfold stoC at h
        show (defScope st).names.lookup y = _ ∨ (defScope st).names.lookup y = _
        split at h
        · exact .inl ‹_›
        · exact .inr ‹_›
        · cases h
      · rw [hsc] at h
        unfold glC at h
        show (defScope st).names.lookup y = _
        split at h
        · assumption
        · cases h
      · have := hr.un
        show (A.deeper _).units + 65 < cLine
        omega
    refine ⟨liftS ⟨K, H, C, cls⟩ (fun cls d _ H => E cls d H) (S.evs Γ n b), sb_map (fun st' s' e => compS_ok gs m st' s' e) hc, ?_⟩
    obtain ⟨lv, _⟩ := repL_get r
    refine ⟨⟨C, fun p => H p ≠ none, fun _ => []⟩, (toBwL ds).map some ++ List.replicate (c.N.length - ds.length) none, ?_, ?_⟩
    · exact st_start hC r
    · unfold runF at o
      rw [if_pos l, ← l] at o
      revert o
      cases S.evs Γ n b ((toBwL ds).map some ++ List.replicate (c.N.length - ds.length) none) with
      | nx s' => exact fun o G' σ' H' a t => o _ _ (by exact ⟨t.h0, [], fun _ => False, List.nodup_nil, fun _ z => (nomatch z), fun _ z => z.elim, RepL.one (rep_non.mpr ⟨rfl, rfl⟩)⟩)
      | bk s' => exact fun o => o.elim
      | ct s' => exact fun o => o.elim
      | rt d => exact fun o => o
      | rs c p s' => exact fun o G' σ' H' dct a t p => o H' dct t.h0 p
      | stk => exact fun o => o.elim
/-- a promise restated -/
theorem fn_as {f : Addr} {fd : FuncData} {ps : List Str} {cls : Str → Value} {k np : Nat} {r r' : List D → R D} (h : FnOk P w K mg base (L2.CX P w) k f fd ps (spOf K cls np r)) (e : ∀ ds, r' ds = .stk ∨ r ds = r' ds) : FnOk P w K mg base (L2.CX P w) k f fd ps (spOf K cls np r') :=
  FnOk.imp h fun vs H Q E ⟨C, ds, l, hC, rp, o⟩ => by
    refine ⟨C, ds, l, hC, rp, ?_⟩
    rcases e ds with z | z
    · rw [z] at o; exact o.elim
    · rw [z]; exact o
end
end Fe

/-! Fe16: what is read off, compared; the joints; the end of a law. -/
namespace Fe
open PySem L2
mutual
def D.beq : D → D → Bool
  | .non, .non => true
  | .bl a, .bl b => a == b
  | .int a, .int b => a == b
  | .str a, .str b => a == b
  | .tup a, .tup b => D.beqL a b
  | _, _ => false
def D.beqL : List D → List D → Bool
  | [], [] => true
  | a :: r, b :: t => D.beq a b && D.beqL r t
  | _, _ => false
end
mutual
def E.beq : E → E → Bool
  | .var i, .var j => i == j
  | .int i, .int j => i == j
  | .bl a, .bl b => a == b
  | .str a, .str b => a == b
  | .non, .non => true
  | .cst a, .cst b => D.beq a b
  | .op o a b, .op o' a' b' => decide (o = o') && E.beq a a' && E.beq b b'
  | .neg a, .neg b => E.beq a b
  | .not a, .not b => E.beq a b
  | .and a b, .and a' b' => E.beq a a' && E.beq b b'
  | .or a b, .or a' b' => E.beq a a' && E.beq b b'
  | .ite c a b, .ite c' a' b' => E.beq c c' && E.beq a a' && E.beq b b'
  | .ch o p a b c, .ch o' p' a' b' c' => decide (o = o') && decide (p = p') && E.beq a a' && E.beq b b' && E.beq c c'
  | .tup a, .tup b => E.beqL a b
  | .lst a, .lst b => E.beqL a b
  | .dnew, .dnew => true
  | .ix a b, .ix a' b' => E.beq a a' && E.beq b b'
  | .sl a b c, .sl a' b' c' => E.beq a a' && E.beqL b b' && E.beqL c c'
  | .bi b l, .bi b' l' => decide (b = b') && E.beqL l l'
  | .isi T e, .isi T' e' => decide (T = T') && E.beq e e'
  | .call j l, .call j' l' => j == j' && E.beqL l l'
  | .lc k a tp is t e vs, .lc k' a' tp' is' t' e' vs' => k == k' && E.beqL a a' && tp == tp' && is == is' && E.beqL t t' && E.beq e e' && vs == vs'
  | _, _ => false
def E.beqL : List E → List E → Bool
  | [], [] => true
  | a :: r, b :: t => E.beq a b && E.beqL r t
  | _, _ => false
end
mutual
def S.beq : S → S → Bool
  | .set i e, .set j e' => i == j && E.beq e e'
  | .tset tp is e, .tset tp' is' e' => tp == tp' && is == is' && E.beq e e'
  | .store i p k e, .store i' p' k' e' => i == i' && E.beqL p p' && E.beq k k' && E.beq e e'
  | .aug i o e, .aug i' o' e' => i == i' && decide (o = o') && E.beq e e'
  | .ret e, .ret e' => E.beq e e'
  | .retv i, .retv j => i == j
  | .retN, .retN => true
  | .expr e, .expr e' => E.beq e e'
  | .mth m i p l, .mth m' i' p' l' => decide (m = m') && i == i' && E.beqL p p' && E.beqL l l'
  | .iff c a b, .iff c' a' b' => E.beq c c' && S.beqL a a' && S.beqL b b'
  | .loop k s tp is b, .loop k' s' tp' is' b' => k == k' && E.beqL s s' && tp == tp' && is == is' && S.beqL b b'
  | .whl c b, .whl c' b' => E.beq c c' && S.beqL b b'
  | .pass, .pass => true
  | .brk, .brk => true
  | .cont, .cont => true
  | .no, .no => true
  | .frz i s, .frz j s' => i == j && S.beq s s'
  | _, _ => false
def S.beqL : List S → List S → Bool
  | [], [] => true
  | a :: r, b :: t => S.beq a b && S.beqL r t
  | _, _ => false
end
mutual
theorem D.beq_eq : ∀ (a b : D), D.beq a b = true → a = b
  | .non, b, h => by cases b <;> simp_all [D.beq]
  | .bl a, b, h => by cases b <;> simp_all [D.beq]
  | .int a, b, h => by cases b <;> simp_all [D.beq]
  | .str a, b, h => by cases b <;> simp_all [D.beq]
  | .tup a, b, h => by
    cases b <;> simp [D.beq] at h
    rename_i l
    rw [D.beqL_eq a l h]
  | .lst f l, b, h => by cases b <;> simp_all [D.beq]
  | .dk f k l, b, h => by cases b <;> simp_all [D.beq]
theorem D.beqL_eq : ∀ (a b : List D), D.beqL a b = true → a = b
  | [], b, h => by cases b <;> simp_all [D.beqL]
  | a :: r, b, h => by
    cases b <;> simp [D.beqL] at h
    rename_i b t
    rw [D.beq_eq a b h.1, D.beqL_eq r t h.2]
end
mutual
theorem E.beq_eq : ∀ (a b : E), E.beq a b = true → a = b
  | .var i, b, h => by cases b <;> simp_all [E.beq]
  | .int i, b, h => by cases b <;> simp_all [E.beq]
  | .bl i, b, h => by cases b <;> simp_all [E.beq]
  | .str i, b, h => by cases b <;> simp_all [E.beq]
  | .non, b, h => by cases b <;> simp_all [E.beq]
  | .cst d, b, h => by
    cases b <;> simp [E.beq] at h
    rw [D.beq_eq _ _ h]
  | .op o x y, b, h => by
    cases b <;> simp [E.beq] at h
    rw [h.1.1, E.beq_eq _ _ h.1.2, E.beq_eq _ _ h.2]
  | .neg x, b, h => by
    cases b <;> simp [E.beq] at h
    rw [E.beq_eq _ _ h]
  | .not x, b, h => by
    cases b <;> simp [E.beq] at h
    rw [E.beq_eq _ _ h]
  | .and x y, b, h => by
    cases b <;> simp [E.beq] at h
    rw [E.beq_eq _ _ h.1, E.beq_eq _ _ h.2]
  | .or x y, b, h => by
    cases b <;> simp [E.beq] at h
    rw [E.beq_eq _ _ h.1, E.beq_eq _ _ h.2]
  | .ite x y z, b, h => by
    cases b <;> simp [E.beq] at h
    rw [E.beq_eq _ _ h.1.1, E.beq_eq _ _ h.1.2, E.beq_eq _ _ h.2]
  | .ch o p x y z, b, h => by
    cases b <;> simp [E.beq] at h
    rw [h.1.1.1.1, h.1.1.1.2, E.beq_eq _ _ h.1.1.2, E.beq_eq _ _ h.1.2, E.beq_eq _ _ h.2]
  | .tup l, b, h => by
    cases b <;> simp [E.beq] at h
    rw [E.beqL_eq _ _ h]
  | .lst l, b, h => by
    cases b <;> simp [E.beq] at h
    rw [E.beqL_eq _ _ h]
  | .dnew, b, h => by cases b <;> simp_all [E.beq]
  | .ix x y, b, h => by
    cases b <;> simp [E.beq] at h
    rw [E.beq_eq _ _ h.1, E.beq_eq _ _ h.2]
  | .sl x y z, b, h => by
    cases b <;> simp [E.beq] at h
    rw [E.beq_eq _ _ h.1.1, E.beqL_eq _ _ h.1.2, E.beqL_eq _ _ h.2]
  | .bi o l, b, h => by
    cases b <;> simp [E.beq] at h
    rw [h.1, E.beqL_eq _ _ h.2]
  | .isi T e, b, h => by
    cases b <;> simp [E.beq] at h
    rw [h.1, E.beq_eq _ _ h.2]
  | .call j l, b, h => by
    cases b <;> simp [E.beq] at h
    rw [h.1, E.beqL_eq _ _ h.2]
  | .lc k a tp is t e vs, b, h => by
    cases b <;> simp [E.beq] at h
    obtain ⟨⟨⟨⟨⟨⟨h1, h2⟩, h3⟩, h4⟩, h5⟩, h6⟩, h7⟩ := h
    rw [h1, E.beqL_eq _ _ h2, h3, h4, E.beqL_eq _ _ h5, E.beq_eq _ _ h6, h7]
theorem E.beqL_eq : ∀ (a b : List E), E.beqL a b = true → a = b
  | [], b, h => by cases b <;> simp_all [E.beqL]
  | a :: r, b, h => by
    cases b <;> simp [E.beqL] at h
    rename_i b t
    rw [E.beq_eq a b h.1, E.beqL_eq r t h.2]
end
mutual
theorem S.beq_eq : ∀ (a b : S), S.beq a b = true → a = b
  | .set i e, b, h => by
    cases b <;> simp [S.beq] at h
    rw [h.1, E.beq_eq _ _ h.2]
  | .tset tp is e, b, h => by
    cases b <;> simp [S.beq] at h
    rw [h.1.1, h.1.2, E.beq_eq _ _ h.2]
  | .store i p k e, b, h => by
    cases b <;> simp [S.beq] at h
    rw [h.1.1.1, E.beqL_eq _ _ h.1.1.2, E.beq_eq _ _ h.1.2, E.beq_eq _ _ h.2]
  | .aug i o e, b, h => by
    cases b <;> simp [S.beq] at h
    rw [h.1.1, h.1.2, E.beq_eq _ _ h.2]
  | .ret e, b, h => by
    cases b <;> simp [S.beq] at h
    rw [E.beq_eq _ _ h]
  | .retv i, b, h => by cases b <;> simp_all [S.beq]
  | .retN, b, h => by cases b <;> simp_all [S.beq]
  | .expr e, b, h => by
    cases b <;> simp [S.beq] at h
    rw [E.beq_eq _ _ h]
  | .mth m i p l, b, h => by
    cases b <;> simp [S.beq] at h
    rw [h.1.1.1, h.1.1.2, E.beqL_eq _ _ h.1.2, E.beqL_eq _ _ h.2]
  | .iff c x y, b, h => by
    cases b <;> simp [S.beq] at h
    rw [E.beq_eq _ _ h.1.1, S.beqL_eq _ _ h.1.2, S.beqL_eq _ _ h.2]
  | .loop k s tp is x, b, h => by
    cases b <;> simp [S.beq] at h
    obtain ⟨⟨⟨⟨h1, h2⟩, h3⟩, h4⟩, h5⟩ := h
    rw [h1, E.beqL_eq _ _ h2, h3, h4, S.beqL_eq _ _ h5]
  | .whl c x, b, h => by
    cases b <;> simp [S.beq] at h
    rw [E.beq_eq _ _ h.1, S.beqL_eq _ _ h.2]
  | .pass, b, h => by cases b <;> simp_all [S.beq]
  | .brk, b, h => by cases b <;> simp_all [S.beq]
  | .cont, b, h => by cases b <;> simp_all [S.beq]
  | .no, b, h => by cases b <;> simp_all [S.beq]
  | .frz i s, b, h => by
    cases b <;> simp [S.beq] at h
    rw [h.1, S.beq_eq _ _ h.2]
theorem S.beqL_eq : ∀ (a b : List S), S.beqL a b = true → a = b
  | [], b, h => by cases b <;> simp_all [S.beqL]
  | a :: r, b, h => by
    cases b <;> simp [S.beqL] at h
    rename_i b t
    rw [S.beq_eq a b h.1, S.beqL_eq r t h.2]
end
def isB : Option (List S) → List S → Bool
  | some a, b => S.beqL a b
  | none, _ => false
theorem comp_eq {o : Option (List S)} {b : List S} (h : isB o b = true) : o = some b := by
  cases o with
  | none => cases h
  | some a => rw [S.beqL_eq a b h]
/-! ### the joints -/
def mir (l : List (Nat × (List D → R D))) : Mir := fun i => l.getD i (0, fun _ => .stk)
def mirA (l : List (Nat × Nat × (List D → R D))) : Mir := fun i => match l.lookup i with
  | some x => x
  | none => (0, fun _ => .stk)
section
variable {P : Program} {w : World} {K : PySem.W.Frag} {mg : Str → Option Value} {base : Heap} {Γ : Mir} {cls : Str → Value}
theorem low_nil {k : Nat} : Low P w K mg base cls Γ [] k := fun x j h => by simp at h
theorem low_cons {k : Nat} {x : Str} {j : Nat} {fid : List (Str × Nat)} {f : Addr} {fd : FuncData} {ps : List Str} {np : Nat} {m : List D → R D} (h1 : mg x = some (.ref f)) (h2 : PySem.W.keepIn K (.ref f) = true) (h3 : Binds K fd ps []) (h4 : FnOk P w K mg base (L2.CX P w) k f fd ps (spOf K cls np m))
    (e : Γ j = (np, m)) (r : Low P w K mg base cls Γ fid k) : Low P w K mg base cls Γ ((x, j) :: fid) k := fun y i h => by
  rw [List.lookup_cons] at h
  split at h
  · rename_i hy
    have hy := eq_of_beq hy
    subst hy
    injection h with h
    subst h
    exact ⟨f, fd, ps, h1, h2, h3, by rw [e]; exact h4⟩
  · exact r y i h
theorem blt_nil : ∀ x ∈ ([] : List Str), mg x = none := fun x h => by cases h
theorem blt_cons {y : Str} {l : List Str} (h : mg y = none) (r : ∀ x ∈ l, mg x = none) : ∀ x ∈ y :: l, mg x = none := fun x hx => by
  rcases List.mem_cons.mp hx with e | e
  · rw [e]; exact h
  · exact r x e
abbrev CstOk (K : PySem.W.Frag) (mg : Str → Option Value) (l : List (Str × D)) : Prop := ∀ x d, l.lookup x = some d → ∃ u v, mg x = some u ∧ RelV v u ∧ ∀ C B H, Rep K C B H d v []
theorem cst_nil : CstOk K mg [] := fun x d h => by simp at h
theorem cst_int {y : Str} {i : Int} {t : Tok} {l : List (Str × D)} (h : mg y = some (.int i t)) (r : CstOk K mg l) : CstOk K mg ((y, .int i) :: l) := fun x d hx => by
  rw [List.lookup_cons] at hx
  split at hx
  · rename_i hy
    have hy := eq_of_beq hy
    subst hy
    injection hx with hx
    subst hx
    exact ⟨_, .int i, h, ⟨t, rfl⟩, fun C B H => rep_int.mpr ⟨rfl, rfl⟩⟩
  · exact r x d hx
end
/-- the script, as it is given -/
def script (ns : List Int) : D := .lst .cl (ns.map .int)
theorem repL_ints {K : PySem.W.Frag} {C : Addr → Prop} {B : Bool → Addr → Prop} {H : Hp} : ∀ ns : List Int, RepL K C B H (ns.map .int) (ns.map V.int) []
  | [] => repL_nil.mpr ⟨rfl, rfl⟩
  | i :: r => repL_cons.mpr ⟨.int i, r.map V.int, [], [], rfl, rfl, rep_int.mpr ⟨rfl, rfl⟩, repL_ints r⟩
theorem law_sp {K : PySem.W.Frag} {cls : Str → Value} {m : List D → R D} {n : Nat} (hm : ∀ ns : List Int, ns.length ≤ n → m [script ns] = .ok (.bl true)) {H : Hp} {a : Addr} {ns : List Int} (hl : ns.length ≤ n) (hS : SqL K H a (ns.map V.int)) :
    spOf K cls 1 m [.ref a] H (fun v _ => v = .bl true) fun _ _ _ => False := by
  refine ⟨fun p => p = a ∧ H p ≠ none, [script ns], rfl, fun p c => c.2, ?_, ?_⟩
  · refine RepL.one (rep_cl.mpr ⟨a, ns.map V.int, rfl, ?_, rfl, repL_ints ns⟩)
    rcases hS with h | h
    · refine .inl ⟨h, rfl, ?_⟩
      rcases h with h | ⟨o, h⟩ <;> (rw [h]; intro z; cases z)
    · exact .inr h
  · rw [hm ns hl]
    intro v H' x
    exact val_is_bl x
theorem law_walk {l : PySem.W.OpenLaw} {q : Program} {loose : List Str} {XP : (Str → Option Value) → Heap → Prop} {YP : World → Heap → Prop} {d : DefRec} {K : Params → PySem.W.Frag} {k : Nat} {x : Str} {cls : Str → Value} {m : List D → R D} (hn : l.most = some 63) (hdf : d.params.defaults = []) (hr : Room k PySem.callerA)
    (hm : ∀ ns : List Int, ns.length ≤ 63 → m [script ns] = .ok (.bl true))
    (hY : ∀ (w : World) (h : Heap), YP w h → (K w.params).In h)
    (F : ∀ (w : World) (mg : Str → Option Value) (fa : Addr) (h : Heap), (K w.params).In h → h.Ns mainGlobals mg → mg d.name = some (.ref fa) →
      ∃ fd : FuncData, (∀ (s : Shared) (u : Value), BindsTo s fd ⟨[u], []⟩ [(x, u)]) ∧ ∀ base : Heap, (K w.params).In base → base.Ns mainGlobals mg → FnOk l.prog w (K w.params) mg base (L2.CX l.prog w) k fa fd [x] (spOf (K w.params) cls 1 m)) :
    PySem.W.WalkO q loose XP YP l.row.toRowW d [] (fun f vs => PySem.call f vs) :=
  L2.walk_of (n := 63) (k := k) (x := x) (CX := fun w => L2.CX l.prog w) (sp := fun w => spOf (K w.params) cls 1 m) hn (by decide) hdf hr hY F (fun _ _ a ns hl _ hS => law_sp hm hl hS) fun w H s e s' z => by
    obtain ⟨_, _, _, _, _, _, _, _, _, _, _, _, z⟩ := z
    exact z
end Fe

/-! Fe17: what a mirror computes: rewriting. -/
namespace Fe
open PySem L2
/-! ### flags -/
@[simp] theorem toBwL_map : ∀ l : List D, toBwL l = l.map D.toBw
  | [] => rfl
  | d :: r => by rw [toBwL, toBwL_map r]; rfl
@[simp] theorem toBoL_map : ∀ l : List D, toBoL l = l.map D.toBo
  | [] => rfl
  | d :: r => by rw [toBoL, toBoL_map r]; rfl
@[simp] theorem frzL_map : ∀ l : List D, frzL l = l.map D.frz
  | [] => rfl
  | d :: r => by rw [frzL, frzL_map r]; rfl
@[simp] theorem noBwL_all : ∀ l : List D, noBwL l = l.all D.noBw
  | [] => rfl
  | d :: r => by rw [noBwL, noBwL_all r]; rfl
@[simp] theorem noBoL_all : ∀ l : List D, noBoL l = l.all D.noBo
  | [] => rfl
  | d :: r => by rw [noBoL, noBoL_all r]; rfl
@[simp] theorem noOwL_all : ∀ l : List D, noOwL l = l.all D.noOw
  | [] => rfl
  | d :: r => by rw [noOwL, noOwL_all r]; rfl
@[simp] theorem pyL_mapS : ∀ l : List D, pyL l = l.map D.py := pyL_map
section
variable (b : Bool) (i : Int) (x : Str) (l : List D) (ks : List Key)
@[simp] theorem toBw_non : D.toBw .non = .non := by simp only [D.toBw]
@[simp] theorem toBw_bl : (D.bl b).toBw = .bl b := by simp only [D.toBw]
@[simp] theorem toBw_int : (D.int i).toBw = .int i := by simp only [D.toBw]
@[simp] theorem toBw_str : (D.str x).toBw = .str x := by simp only [D.toBw]
@[simp] theorem toBw_tup : (D.tup l).toBw = .tup (l.map D.toBw) := by simp only [D.toBw, toBwL_map]
@[simp] theorem toBw_own : (D.lst .own l).toBw = .lst .bw (l.map D.toBw) := by simp only [D.toBw, toBwL_map]
@[simp] theorem toBw_cl : (D.lst .cl l).toBw = .lst .cl (l.map D.toBw) := by simp only [D.toBw, toBwL_map]
@[simp] theorem toBw_bw : (D.lst .bw l).toBw = .lst .bw (l.map D.toBw) := by simp only [D.toBw, toBwL_map]
@[simp] theorem toBw_bo : (D.lst .bo l).toBw = .lst .bw (l.map D.toBw) := by simp only [D.toBw, toBwL_map]
@[simp] theorem toBw_dkown : (D.dk .own ks l).toBw = .dk .bw ks (l.map D.toBw) := by simp only [D.toBw, toBwL_map]
@[simp] theorem toBw_dkcl : (D.dk .cl ks l).toBw = .dk .cl ks (l.map D.toBw) := by simp only [D.toBw, toBwL_map]
@[simp] theorem toBw_dkbw : (D.dk .bw ks l).toBw = .dk .bw ks (l.map D.toBw) := by simp only [D.toBw, toBwL_map]
@[simp] theorem toBw_dkbo : (D.dk .bo ks l).toBw = .dk .bw ks (l.map D.toBw) := by simp only [D.toBw, toBwL_map]
@[simp] theorem toBo_non : D.toBo .non = .non := by simp only [D.toBo]
@[simp] theorem toBo_bl : (D.bl b).toBo = .bl b := by simp only [D.toBo]
@[simp] theorem toBo_int : (D.int i).toBo = .int i := by simp only [D.toBo]
@[simp] theorem toBo_str : (D.str x).toBo = .str x := by simp only [D.toBo]
@[simp] theorem toBo_tup : (D.tup l).toBo = .tup (l.map D.toBo) := by simp only [D.toBo, toBoL_map]
@[simp] theorem toBo_own : (D.lst .own l).toBo = .lst .bo (l.map D.toBo) := by simp only [D.toBo, toBoL_map]
@[simp] theorem toBo_cl : (D.lst .cl l).toBo = .lst .cl (l.map D.toBo) := by simp only [D.toBo, toBoL_map]
@[simp] theorem toBo_bw : (D.lst .bw l).toBo = .lst .bw (l.map D.toBo) := by simp only [D.toBo, toBoL_map]
@[simp] theorem toBo_bo : (D.lst .bo l).toBo = .lst .bo (l.map D.toBo) := by simp only [D.toBo, toBoL_map]
@[simp] theorem toBo_dkown : (D.dk .own ks l).toBo = .dk .bo ks (l.map D.toBo) := by simp only [D.toBo, toBoL_map]
@[simp] theorem toBo_dkcl : (D.dk .cl ks l).toBo = .dk .cl ks (l.map D.toBo) := by simp only [D.toBo, toBoL_map]
@[simp] theorem toBo_dkbw : (D.dk .bw ks l).toBo = .dk .bw ks (l.map D.toBo) := by simp only [D.toBo, toBoL_map]
@[simp] theorem toBo_dkbo : (D.dk .bo ks l).toBo = .dk .bo ks (l.map D.toBo) := by simp only [D.toBo, toBoL_map]
@[simp] theorem frz_non : D.frz .non = .non := by simp only [D.frz]
@[simp] theorem frz_bl : (D.bl b).frz = .bl b := by simp only [D.frz]
@[simp] theorem frz_int : (D.int i).frz = .int i := by simp only [D.frz]
@[simp] theorem frz_str : (D.str x).frz = .str x := by simp only [D.frz]
@[simp] theorem frz_tup : (D.tup l).frz = .tup (l.map D.frz) := by simp only [D.frz, frzL_map]
@[simp] theorem frz_own : (D.lst .own l).frz = .lst .cl (l.map D.frz) := by simp only [D.frz, frzL_map]
@[simp] theorem frz_cl : (D.lst .cl l).frz = .lst .cl (l.map D.frz) := by simp only [D.frz, frzL_map]
@[simp] theorem frz_bw : (D.lst .bw l).frz = .lst .bw (l.map D.frz) := by simp only [D.frz, frzL_map]
@[simp] theorem frz_bo : (D.lst .bo l).frz = .lst .bo (l.map D.frz) := by simp only [D.frz, frzL_map]
@[simp] theorem frz_dkown : (D.dk .own ks l).frz = .dk .cl ks (l.map D.frz) := by simp only [D.frz, frzL_map]
@[simp] theorem frz_dkcl : (D.dk .cl ks l).frz = .dk .cl ks (l.map D.frz) := by simp only [D.frz, frzL_map]
@[simp] theorem frz_dkbw : (D.dk .bw ks l).frz = .dk .bw ks (l.map D.frz) := by simp only [D.frz, frzL_map]
@[simp] theorem frz_dkbo : (D.dk .bo ks l).frz = .dk .bo ks (l.map D.frz) := by simp only [D.frz, frzL_map]
@[simp] theorem noBw_non : D.noBw .non = true := by simp only [D.noBw]
@[simp] theorem noBw_bl : (D.bl b).noBw = true := by simp only [D.noBw]
@[simp] theorem noBw_int : (D.int i).noBw = true := by simp only [D.noBw]
@[simp] theorem noBw_str : (D.str x).noBw = true := by simp only [D.noBw]
@[simp] theorem noBw_tup : (D.tup l).noBw = l.all D.noBw := by simp only [D.noBw, noBwL_all]
@[simp] theorem noBw_own : (D.lst .own l).noBw = l.all D.noBw := by simp only [D.noBw, noBwL_all, Bool.true_and]
@[simp] theorem noBw_cl : (D.lst .cl l).noBw = l.all D.noBw := by simp only [D.noBw, noBwL_all, Bool.true_and]
@[simp] theorem noBw_dkown : (D.dk .own ks l).noBw = l.all D.noBw := by simp only [D.noBw, noBwL_all, Bool.true_and]
@[simp] theorem noBw_dkcl : (D.dk .cl ks l).noBw = l.all D.noBw := by simp only [D.noBw, noBwL_all, Bool.true_and]
@[simp] theorem noBo_non : D.noBo .non = true := by simp only [D.noBo]
@[simp] theorem noBo_bl : (D.bl b).noBo = true := by simp only [D.noBo]
@[simp] theorem noBo_int : (D.int i).noBo = true := by simp only [D.noBo]
@[simp] theorem noBo_str : (D.str x).noBo = true := by simp only [D.noBo]
@[simp] theorem noBo_tup : (D.tup l).noBo = l.all D.noBo := by simp only [D.noBo, noBoL_all]
@[simp] theorem noBo_own : (D.lst .own l).noBo = l.all D.noBo := by simp only [D.noBo, noBoL_all, Bool.true_and]
@[simp] theorem noBo_cl : (D.lst .cl l).noBo = l.all D.noBo := by simp only [D.noBo, noBoL_all, Bool.true_and]
@[simp] theorem noBo_bw : (D.lst .bw l).noBo = l.all D.noBo := by simp only [D.noBo, noBoL_all, Bool.true_and]
@[simp] theorem noBo_dkown : (D.dk .own ks l).noBo = l.all D.noBo := by simp only [D.noBo, noBoL_all, Bool.true_and]
@[simp] theorem noBo_dkcl : (D.dk .cl ks l).noBo = l.all D.noBo := by simp only [D.noBo, noBoL_all, Bool.true_and]
@[simp] theorem noBo_dkbw : (D.dk .bw ks l).noBo = l.all D.noBo := by simp only [D.noBo, noBoL_all, Bool.true_and]
@[simp] theorem noOw_non : D.noOw .non = true := by simp only [D.noOw]
@[simp] theorem noOw_bl : (D.bl b).noOw = true := by simp only [D.noOw]
@[simp] theorem noOw_int : (D.int i).noOw = true := by simp only [D.noOw]
@[simp] theorem noOw_str : (D.str x).noOw = true := by simp only [D.noOw]
@[simp] theorem noOw_tup : (D.tup l).noOw = l.all D.noOw := by simp only [D.noOw, noOwL_all]
end
/-- a proof over the shape of data -/
theorem D.shape {p : D → Prop} (h0 : p .non) (h1 : ∀ b, p (.bl b)) (h2 : ∀ i, p (.int i)) (h3 : ∀ x, p (.str x)) (h4 : ∀ l, (∀ d ∈ l, p d) → p (.tup l)) (h5 : ∀ f l, (∀ d ∈ l, p d) → p (.lst f l)) (h6 : ∀ f k l, (∀ d ∈ l, p d) → p (.dk f k l)) : ∀ d, p d
  | .non => h0
  | .bl b => h1 b
  | .int i => h2 i
  | .str x => h3 x
  | .tup l => h4 l fun d hd => D.shape h0 h1 h2 h3 h4 h5 h6 d
  | .lst f l => h5 f l fun d hd => D.shape h0 h1 h2 h3 h4 h5 h6 d
  | .dk f k l => h6 f k l fun d hd => D.shape h0 h1 h2 h3 h4 h5 h6 d
theorem map_comp (f g k : D → D) {l : List D} (h : ∀ a ∈ l, f (g a) = k a) : l.map (f ∘ g) = l.map k := List.map_congr_left h
@[simp] theorem toBw_toBw : ∀ d : D, d.toBw.toBw = d.toBw := by
  refine D.shape (by simp) (by simp) (by simp) (by simp) (fun l h => ?_) (fun f l h => ?_) (fun f k l h => ?_)
  · simp only [toBw_tup, List.map_map]
    rw [map_comp D.toBw D.toBw D.toBw h]
  · cases f <;> simp only [toBw_own, toBw_cl, toBw_bw, toBw_bo, List.map_map] <;> rw [map_comp D.toBw D.toBw D.toBw h]
  · cases f <;> simp only [toBw_dkown, toBw_dkcl, toBw_dkbw, toBw_dkbo, List.map_map] <;> rw [map_comp D.toBw D.toBw D.toBw h]
@[simp] theorem toBw_toBo : ∀ d : D, d.toBw.toBo = d.toBw := by
  refine D.shape (by simp) (by simp) (by simp) (by simp) (fun l h => ?_) (fun f l h => ?_) (fun f k l h => ?_)
  · simp only [toBw_tup, toBo_tup, List.map_map]
    rw [map_comp D.toBo D.toBw D.toBw h]
  · cases f <;> simp only [toBw_own, toBw_cl, toBw_bw, toBw_bo, toBo_own, toBo_cl, toBo_bw, toBo_bo, List.map_map] <;> rw [map_comp D.toBo D.toBw D.toBw h]
  · cases f <;> simp only [toBw_dkown, toBw_dkcl, toBw_dkbw, toBw_dkbo, toBo_dkcl, toBo_dkbw, List.map_map] <;> rw [map_comp D.toBo D.toBw D.toBw h]
@[simp] theorem toBo_toBw : ∀ d : D, d.toBo.toBw = d.toBw := by
  refine D.shape (by simp) (by simp) (by simp) (by simp) (fun l h => ?_) (fun f l h => ?_) (fun f k l h => ?_)
  · simp only [toBw_tup, toBo_tup, List.map_map]
    rw [map_comp D.toBw D.toBo D.toBw h]
  · cases f <;> simp only [toBw_own, toBw_cl, toBw_bw, toBw_bo, toBo_own, toBo_cl, toBo_bw, toBo_bo, List.map_map] <;> rw [map_comp D.toBw D.toBo D.toBw h]
  · cases f <;> simp only [toBw_dkown, toBw_dkcl, toBw_dkbw, toBw_dkbo, toBo_dkown, toBo_dkbo, toBo_dkcl, toBo_dkbw, List.map_map] <;> rw [map_comp D.toBw D.toBo D.toBw h]
@[simp] theorem toBo_toBo : ∀ d : D, d.toBo.toBo = d.toBo := by
  refine D.shape (by simp) (by simp) (by simp) (by simp) (fun l h => ?_) (fun f l h => ?_) (fun f k l h => ?_)
  · simp only [toBo_tup, List.map_map]
    rw [map_comp D.toBo D.toBo D.toBo h]
  · cases f <;> simp only [toBo_own, toBo_cl, toBo_bw, toBo_bo, List.map_map] <;> rw [map_comp D.toBo D.toBo D.toBo h]
  · cases f <;> simp only [toBo_dkown, toBo_dkbo, toBo_dkcl, toBo_dkbw, List.map_map] <;> rw [map_comp D.toBo D.toBo D.toBo h]
@[simp] theorem toBw_frz : ∀ d : D, d.toBw.frz = d.toBw := by
  refine D.shape (by simp) (by simp) (by simp) (by simp) (fun l h => ?_) (fun f l h => ?_) (fun f k l h => ?_)
  · simp only [toBw_tup, frz_tup, List.map_map]
    rw [map_comp D.frz D.toBw D.toBw h]
  · cases f <;> simp only [toBw_own, toBw_cl, toBw_bw, toBw_bo, frz_own, frz_cl, frz_bw, frz_bo, List.map_map] <;> rw [map_comp D.frz D.toBw D.toBw h]
  · cases f <;> simp only [toBw_dkown, toBw_dkcl, toBw_dkbw, toBw_dkbo, frz_dkcl, frz_dkbw, List.map_map] <;> rw [map_comp D.frz D.toBw D.toBw h]
@[simp] theorem noBo_toBw : ∀ d : D, d.toBw.noBo = true := by
  refine D.shape (by simp) (by simp) (by simp) (by simp) (fun l h => ?_) (fun f l h => ?_) (fun f k l h => ?_)
  · simpa using h
  · cases f <;> simpa using h
  · cases f <;> simpa using h
@[simp] theorem noBo_bwL (l : List D) : (l.map D.toBw).all D.noBo = true := by simp
@[simp] theorem tyOf_toBw (d : D) : tyOf d.toBw = tyOf d := by
  cases d with
  | lst f l => cases f <;> simp [tyOf]
  | dk f k l => cases f <;> simp [tyOf]
  | _ => simp [tyOf]
@[simp] theorem tyOf_toBo (d : D) : tyOf d.toBo = tyOf d := by
  cases d with
  | lst f l => cases f <;> simp [tyOf]
  | dk f k l => cases f <;> simp [tyOf]
  | _ => simp [tyOf]
@[simp] theorem tyOf_frz (d : D) : tyOf d.frz = tyOf d := by
  cases d with
  | lst f l => cases f <;> simp [tyOf]
  | dk f k l => cases f <;> simp [tyOf]
  | _ => simp [tyOf]
@[simp] theorem c_bw_bw : D.toBw ∘ D.toBw = D.toBw := funext toBw_toBw
@[simp] theorem c_bo_bw : D.toBo ∘ D.toBw = D.toBw := funext toBw_toBo
@[simp] theorem c_bw_bo : D.toBw ∘ D.toBo = D.toBw := funext toBo_toBw
@[simp] theorem c_bo_bo : D.toBo ∘ D.toBo = D.toBo := funext toBo_toBo
@[simp] theorem c_frz_bw : D.frz ∘ D.toBw = D.toBw := funext toBw_frz
@[simp] theorem c_bw_int : D.toBw ∘ D.int = D.int := funext fun _ => toBw_int _
@[simp] theorem c_bo_int : D.toBo ∘ D.int = D.int := funext fun _ => toBo_int _
@[simp] theorem c_frz_int : D.frz ∘ D.int = D.int := funext fun _ => frz_int _
@[simp] theorem c_nobo_int : D.noBo ∘ D.int = fun _ => true := funext fun _ => noBo_int _
@[simp] theorem c_nobw_int : D.noBw ∘ D.int = fun _ => true := funext fun _ => noBw_int _
@[simp] theorem c_nobo_bw : D.noBo ∘ D.toBw = fun _ => true := funext fun _ => noBo_toBw _
/-! ### running -/
theorem callR_def {Γ : Mir} {j : Nat} {ds : List D} : callR Γ j ds = if ds.length = (Γ j).1 then (Γ j).2 (ds.map D.toBw) else .stk := by
  unfold callR
  rw [toBwL_map]
section
variable {Γ : Mir} {n : Nat} {s : SD}
@[simp] theorem evs_nil : S.evs Γ n [] s = .nx s := rfl
@[simp] theorem evs_cons {a : S} {r : List S} : S.evs Γ n (a :: r) s = (a.ev Γ n s).seq (S.evs Γ n r) := rfl
@[simp] theorem s_set {i : Nat} {e : E} : S.ev Γ n (.set i e) s = (e.ev Γ s).thenO s (setO i s) := rfl
@[simp] theorem s_tset {tp : Bool} {is : List Nat} {e : E} : S.ev Γ n (.tset tp is e) s = (e.ev Γ s).thenO s (tsetO tp is s) := rfl
@[simp] theorem s_store {i : Nat} {p : List E} {k e : E} : S.ev Γ n (.store i p k e) s = storeO i (evP Γ p) (k.ev Γ) (e.ev Γ) s := rfl
@[simp] theorem s_aug {i : Nat} {o : Op} {e : E} : S.ev Γ n (.aug i o e) s = augO i o.g (e.ev Γ) s := rfl
@[simp] theorem s_ret {e : E} : S.ev Γ n (.ret e) s = (e.ev Γ s).thenO s retO := rfl
@[simp] theorem s_retv {i : Nat} : S.ev Γ n (.retv i) s = match s[i]? with
    | some (some d) => retO d
    | _ => .stk := rfl
@[simp] theorem s_retN : S.ev Γ n .retN s = .rt .non := rfl
@[simp] theorem s_expr {e : E} : S.ev Γ n (.expr e) s = (e.ev Γ s).thenO s fun _ => .nx s := rfl
@[simp] theorem s_mth {m : Me} {i : Nat} {p es : List E} : S.ev Γ n (.mth m i p es) s = mthO m.tx i (evP Γ p) (E.evs Γ es) s := rfl
@[simp] theorem s_iff {c : E} {a b : List S} : S.ev Γ n (.iff c a b) s = (c.ev Γ s).thenO s (ifO s (S.evs Γ n a) (S.evs Γ n b)) := rfl
@[simp] theorem s_loop {k : Nat} {src : List E} {tp : Bool} {is : List Nat} {body : List S} : S.ev Γ n (.loop k src tp is body) s = ((E.evs Γ src s).bind (itG false k)).thenO s fun ds => forL (turnO (tgF tp is) (S.evs Γ n body)) ds s := rfl
@[simp] theorem s_whl {c : E} {body : List S} : S.ev Γ n (.whl c body) s = whL (c.ev Γ) (S.evs Γ n body) n s := rfl
@[simp] theorem s_pass : S.ev Γ n .pass s = .nx s := rfl
@[simp] theorem s_brk : S.ev Γ n .brk s = .bk s := rfl
@[simp] theorem s_no : S.ev Γ n .no s = .stk := rfl
@[simp] theorem s_cont : S.ev Γ n .cont s = .ct s := rfl
@[simp] theorem s_frz {i : Nat} {st : S} : S.ev Γ n (.frz i st) s = st.ev Γ n (frz1 i s) := rfl
@[simp] theorem e_var {i : Nat} : E.ev Γ (.var i) s = match s[i]? with
    | some (some d) => .ok d.toBo
    | _ => .stk := rfl
@[simp] theorem e_int {i : Int} : E.ev Γ (.int i) s = .ok (.int i) := rfl
@[simp] theorem e_bl {i : Bool} : E.ev Γ (.bl i) s = .ok (.bl i) := rfl
@[simp] theorem e_str {i : Str} : E.ev Γ (.str i) s = .ok (.str i) := rfl
@[simp] theorem e_non : E.ev Γ .non s = .ok .non := rfl
@[simp] theorem e_cst {d : D} : E.ev Γ (.cst d) s = .ok d := rfl
@[simp] theorem e_op {o : Op} {a b : E} : E.ev Γ (.op o a b) s = (a.ev Γ s).bind fun x => (b.ev Γ s).bind fun y => D2 o.g [x, y] := rfl
@[simp] theorem e_neg {a : E} : E.ev Γ (.neg a) s = (a.ev Γ s).bind fun x => D1 gNeg [x] := rfl
@[simp] theorem e_not {a : E} : E.ev Γ (.not a) s = notR (a.ev Γ s) := rfl
@[simp] theorem e_and {a b : E} : E.ev Γ (.and a b) s = andR (a.ev Γ s) (b.ev Γ s) := rfl
@[simp] theorem e_or {a b : E} : E.ev Γ (.or a b) s = orR (a.ev Γ s) (b.ev Γ s) := rfl
@[simp] theorem e_ite {c a b : E} : E.ev Γ (.ite c a b) s = iteR (c.ev Γ s) (a.ev Γ s) (b.ev Γ s) := rfl
@[simp] theorem e_ch {o o' : Op} {a b c : E} : E.ev Γ (.ch o o' a b c) s = match o.p, o'.p with
    | some p, some p' => chR p p' (a.ev Γ s) (b.ev Γ s) (c.ev Γ s)
    | _, _ => .stk := rfl
@[simp] theorem e_tup {es : List E} : E.ev Γ (.tup es) s = (E.evs Γ es s).bind (DL gTup) := rfl
@[simp] theorem e_lst {es : List E} : E.ev Γ (.lst es) s = (E.evs Γ es s).bind (DL gLst) := rfl
@[simp] theorem e_dnew : E.ev Γ .dnew s = .ok (.dk .own [] []) := rfl
@[simp] theorem e_ix {a b : E} : E.ev Γ (.ix a b) s = (a.ev Γ s).bind fun x => (b.ev Γ s).bind fun y => D2 gIx [x, y] := rfl
@[simp] theorem e_sl {a : E} {lo hi : List E} : E.ev Γ (.sl a lo hi) s = slR (a.ev Γ s) (E.evO Γ lo s) (E.evO Γ hi s) := rfl
@[simp] theorem e_bi {b : Bi} {es : List E} : E.ev Γ (.bi b es) s = (E.evs Γ es s).bind (DL b.g) := rfl
@[simp] theorem e_isi {T : String} {e : E} : E.ev Γ (.isi T e) s = isiR T (e.ev Γ s) := rfl
@[simp] theorem e_call {j : Nat} {es : List E} : E.ev Γ (.call j es) s = (E.evs Γ es s).bind (callR Γ j) := rfl
@[simp] theorem e_lc {k : Nat} {src : List E} {tp : Bool} {is : List Nat} {tst : List E} {elt : E} {vs : List Nat} : E.ev Γ (.lc k src tp is tst elt vs) s = ((E.evs Γ src s).bind (itG true k)).bind (lcO (tgF tp is) (E.evT Γ tst) (E.ev Γ elt) vs s) := rfl
@[simp] theorem es_nil : E.evs Γ [] s = .ok [] := rfl
@[simp] theorem es_cons {e : E} {r : List E} : E.evs Γ (e :: r) s = (e.ev Γ s).bind fun d => (E.evs Γ r s).bind fun ds => .ok (d :: ds) := rfl
@[simp] theorem et_nil : E.evT Γ [] s = .ok (.bl true) := rfl
@[simp] theorem et_cons {e : E} {r : List E} : E.evT Γ (e :: r) s = e.ev Γ s := rfl
@[simp] theorem eo_nil : E.evO Γ [] s = .ok none := rfl
@[simp] theorem eo_cons {e : E} {r : List E} : E.evO Γ (e :: r) s = ixR (e.ev Γ s) := rfl
end
section
variable {α β : Type} {a : α} {f : α → R β} {s : SD} {k : α → O} {c : Str} {p : Option Int} {g : SD → O} {d : D}
@[simp] theorem bind_ok' : (R.ok a).bind f = f a := rfl
@[simp] theorem bind_stk' : (R.stk).bind f = .stk := rfl
@[simp] theorem bind_rs' : (R.rs c p).bind f = .rs c p := rfl
@[simp] theorem bind_ite {q : Prop} [Decidable q] {x y : R α} : (if q then x else y).bind f = if q then x.bind f else y.bind f := by split <;> rfl
@[simp] theorem thenO_ok' : (R.ok a).thenO s k = k a := rfl
@[simp] theorem thenO_stk' : (R.stk).thenO s k = .stk := rfl
@[simp] theorem thenO_rs' : (R.rs c p).thenO s k = .rs c p s := rfl
@[simp] theorem thenO_ite {q : Prop} [Decidable q] {x y : R α} : (if q then x else y).thenO s k = if q then x.thenO s k else y.thenO s k := by split <;> rfl
@[simp] theorem seq_nx' : (O.nx s).seq g = g s := rfl
@[simp] theorem seq_rt' : (O.rt d).seq g = .rt d := rfl
@[simp] theorem seq_bk' : (O.bk s).seq g = .bk s := rfl
@[simp] theorem seq_ct' : (O.ct s).seq g = .ct s := rfl
@[simp] theorem seq_rs' : (O.rs c p s).seq g = .rs c p s := rfl
@[simp] theorem seq_stk' : (O.stk).seq g = .stk := rfl
@[simp] theorem seq_ite {q : Prop} [Decidable q] {x y : O} : (if q then x else y).seq g = if q then x.seq g else y.seq g := by split <;> rfl
@[simp] theorem ofO_some : ofO (some d) = .ok d := rfl
@[simp] theorem ofO_none : ofO none = .stk := rfl
@[simp] theorem ofO_ite {q : Prop} [Decidable q] {x y : Option D} : ofO (if q then x else y) = if q then ofO x else ofO y := by split <;> rfl
@[simp] theorem D2_two {h : D → D → Option D} {x y : D} : D2 h [x, y] = ofO (h x y) := rfl
@[simp] theorem D1_one {h : D → Option D} {x : D} : D1 h [x] = ofO (h x) := rfl
@[simp] theorem DL_all {h : List D → Option D} {x : List D} : DL h x = ofO (h x) := rfl
@[simp] theorem nr_ok : nr (R.ok a) = .ok a := rfl
@[simp] theorem nr_ite {q : Prop} [Decidable q] {x y : R α} : nr (if q then x else y) = if q then nr x else nr y := by split <;> rfl
@[simp] theorem notR_ok {b : Bool} : notR (.ok (.bl b)) = .ok (.bl (!b)) := rfl
@[simp] theorem notR_ite {q : Prop} [Decidable q] {x y : R D} : notR (if q then x else y) = if q then notR x else notR y := by split <;> rfl
@[simp] theorem andR_true {y : R D} : andR (.ok (.bl true)) y = y := rfl
@[simp] theorem andR_false {y : R D} : andR (.ok (.bl false)) y = .ok (.bl false) := rfl
@[simp] theorem orR_true {y : R D} : orR (.ok (.bl true)) y = .ok (.bl true) := rfl
@[simp] theorem orR_false {y : R D} : orR (.ok (.bl false)) y = y := rfl
@[simp] theorem andR_bl {b : Bool} {y : R D} : andR (.ok (.bl b)) y = if b = true then y else .ok (.bl false) := by cases b <;> rfl
@[simp] theorem orR_bl {b : Bool} {y : R D} : orR (.ok (.bl b)) y = if b = true then .ok (.bl true) else y := by cases b <;> rfl
@[simp] theorem ifO_true {x y : SD → O} : ifO s x y (.bl true) = x s := rfl
@[simp] theorem ifO_false {x y : SD → O} : ifO s x y (.bl false) = y s := rfl
@[simp] theorem ifO_bl {b : Bool} {x y : SD → O} : ifO s x y (.bl b) = if b = true then x s else y s := by cases b <;> rfl
@[simp] theorem iteR_bl {b : Bool} {x y : R D} : iteR (.ok (.bl b)) x y = if b = true then x else y := by cases b <;> rfl
@[simp] theorem andR_ite {q : Prop} [Decidable q] {x y z : R D} : andR (if q then x else y) z = if q then andR x z else andR y z := by split <;> rfl
@[simp] theorem orR_ite {q : Prop} [Decidable q] {x y z : R D} : orR (if q then x else y) z = if q then orR x z else orR y z := by split <;> rfl
@[simp] theorem iteR_ite {q : Prop} [Decidable q] {x y z u : R D} : iteR (if q then x else y) z u = if q then iteR x z u else iteR y z u := by split <;> rfl
def fin : O → R D
  | .rt d => .ok d
  | .nx _ => .ok .non
  | .rs c p _ => .rs c p
  | _ => .stk
@[simp] theorem fin_rt : fin (.rt d) = .ok d := rfl
@[simp] theorem fin_nx : fin (.nx s) = .ok .non := rfl
@[simp] theorem fin_rs : fin (.rs c p s) = .rs c p := rfl
@[simp] theorem fin_ite {q : Prop} [Decidable q] {x y : O} : fin (if q then x else y) = if q then fin x else fin y := by split <;> rfl
theorem runF_eq {Γ : Mir} {n N np : Nat} {b : List S} {ds : List D} (h : ds.length = np) : runF Γ n N np b ds = fin (S.evs Γ n b ((ds.map D.toBw).map some ++ List.replicate (N - np) none)) := by
  unfold runF
  rw [if_pos h, toBwL_map]
  rfl
@[simp] theorem retO_noBw (h : d.noBw = true) : retO d = .rt d := by unfold retO; rw [if_pos h]
@[simp] theorem setO_of {i : Nat} (h : d.noBo = true) (l : i < s.length) : setO i s d = .nx (s.set i (some d)) := by unfold setO; rw [if_pos ⟨h, l⟩]
@[simp] theorem callR_of {Γ : Mir} {j : Nat} {ds : List D} {n : Nat} {m : List D → R D} (h : Γ j = (n, m)) (hl : ds.length = n) : callR Γ j ds = m (ds.map D.toBw) := by
  unfold callR
  rw [h]
  dsimp only
  rw [if_pos hl, toBwL_map]
@[simp] theorem og_add : Op.add.g = gAdd := rfl
@[simp] theorem og_sub : Op.sub.g = gSub := rfl
@[simp] theorem og_mul : Op.mul.g = gMul := rfl
@[simp] theorem og_fdiv : Op.fdiv.g = gFdiv := rfl
@[simp] theorem og_mod : Op.mod.g = gMod := rfl
@[simp] theorem og_pow : Op.pow.g = gPow := rfl
@[simp] theorem og_xor : Op.xor.g = gXor := rfl
@[simp] theorem og_eq : Op.eq.g = gEq := rfl
@[simp] theorem og_ne : Op.ne.g = gNe := rfl
@[simp] theorem og_lt : Op.lt.g = gLt := rfl
@[simp] theorem og_le : Op.le.g = gLe := rfl
@[simp] theorem og_gt : Op.gt.g = gGt := rfl
@[simp] theorem og_ge : Op.ge.g = gGe := rfl
@[simp] theorem og_isIn : Op.isIn.g = gIn := rfl
@[simp] theorem og_notIn : Op.notIn.g = gNotIn := rfl
@[simp] theorem og_is : Op.is.g = gIs := rfl
@[simp] theorem og_isNot : Op.isNot.g = gIsNot := rfl
@[simp] theorem bg_len : Bi.len.g = gLen := rfl
@[simp] theorem bg_sum : Bi.sum.g = gSum := rfl
@[simp] theorem bg_all : Bi.all.g = gAll := rfl
@[simp] theorem bg_any : Bi.any.g = gAny := rfl
@[simp] theorem bg_tuple : Bi.tuple.g = gTupleF := rfl
@[simp] theorem bg_list : Bi.list.g = gListF := rfl
@[simp] theorem bg_max : Bi.max.g = gMax := rfl
@[simp] theorem bg_min : Bi.min.g = gMin := rfl
@[simp] theorem bg_abs : Bi.abs.g = gAbs := rfl
/-! ### loops -/
theorem forL_fold {f : α → D} {turn : D → SD → O} (st : β → SD) (step : β → α → β) (inv : β → Prop) : ∀ (l : List α) (b : β), inv b → (∀ b a, a ∈ l → inv b → turn (f a) (st b) = .nx (st (step b a)) ∧ inv (step b a)) → forL turn (l.map f) (st b) = .nx (st (l.foldl step b)) ∧ inv (l.foldl step b)
  | [], b, i, _ => ⟨rfl, i⟩
  | a :: r, b, i, h => by
    obtain ⟨h1, h2⟩ := h b a List.mem_cons_self i
    obtain ⟨h3, h4⟩ := forL_fold st step inv r (step b a) h2 fun b' a' m i' => h b' a' (List.mem_cons_of_mem _ m) i'
    refine ⟨?_, h4⟩
    rw [List.map_cons, forL, h1]
    exact h3
theorem forL_any {f : α → D} {turn : D → SD → O} (st : β → SD) (step : β → α → β) (p : α → Bool) (r : D) : ∀ (l : List α) (b : β), (∀ b a, a ∈ l → turn (f a) (st b) = if p a = true then .rt r else .nx (st (step b a))) → forL turn (l.map f) (st b) = if l.any p = true then .rt r else .nx (st (l.foldl step b))
  | [], b, _ => rfl
  | a :: t, b, h => by
    rw [List.map_cons, forL, h b a List.mem_cons_self]
    by_cases q : p a = true
    · simp [q]
    · simp only [q, if_false, Bool.false_eq_true]
      rw [forL_any st step p r t _ fun b' a' m => h b' a' (List.mem_cons_of_mem _ m)]
      simp [q]
def lcT (ft : D → SD → Option SD) (fb fe : SD → R D) (s : SD) (d : D) : R (Option D) := match ft d s with
  | none => .stk
  | some s1 => (nr (fb s1)).bind fun b => match b with
    | .bl true => (nr (fe s1)).bind fun y => if y.noBw = true then .ok (some y) else .stk
    | .bl false => .ok none
    | _ => .stk
theorem lcL_map {f : α → D} {ft : D → SD → Option SD} {fb fe : SD → R D} {s : SD} (g : α → D) : ∀ l : List α, (∀ a ∈ l, lcT ft fb fe s (f a) = .ok (some (g a))) → lcL ft fb fe s (l.map f) = .ok (l.map g)
  | [], _ => rfl
  | a :: r, h => by
    have h1 := h a List.mem_cons_self
    rw [List.map_cons, lcL]
    unfold lcT at h1
    cases q : ft (f a) s with
    | none => rw [q] at h1; cases h1
    | some s1 =>
      rw [q] at h1
      dsimp only at h1 ⊢
      cases q2 : nr (fb s1) with
      | stk => rw [q2] at h1; cases h1
      | rs c p => rw [q2] at h1; cases h1
      | ok b =>
        rw [q2] at h1
        dsimp only [R.bind] at h1 ⊢
        split at h1
        · cases q3 : nr (fe s1) with
          | stk => rw [q3] at h1; cases h1
          | rs c p => rw [q3] at h1; cases h1
          | ok y =>
            rw [q3] at h1
            dsimp only [R.bind] at h1 ⊢
            split at h1
            · rename_i hy
              rw [if_pos hy]
              injection h1 with h1
              injection h1 with h1
              subst h1
              rw [lcL_map g r fun a' m => h a' (List.mem_cons_of_mem _ m)]
              rfl
            · cases h1
        · cases h1
        · cases h1
theorem lcO_map {f : α → D} {ft : D → SD → Option SD} {fb fe : SD → R D} {vs : List Nat} {s : SD} (g : α → D) (l : List α) (hl : l.length ≤ 16777216) (h : ∀ a ∈ l, lcT ft fb fe (wipeS (bwS s) vs) (f a) = .ok (some (g a))) : lcO ft fb fe vs s (l.map f) = .ok (.lst .own (l.map g)) := by
  unfold lcO
  rw [if_pos (by simpa using hl), lcL_map g l h]
  rfl
end
@[simp] theorem wipeS_nil {s : SD} : wipeS s [] = s := rfl
@[simp] theorem wipeS_one {s : SD} {v : Nat} {vs : List Nat} : wipeS s (v :: vs) = (wipeS s vs).set v none := rfl
@[simp] theorem bwS_nil : bwS [] = [] := rfl
@[simp] theorem bwS_cons {s : SD} {d : Option D} : bwS (d :: s) = d.map D.toBw :: bwS s := by cases d <;> rfl
@[simp] theorem tgF_one {i : Nat} {d : D} {s : SD} (h : d.noBo = true) (l : i < s.length) : tgF false [i] d s = some (s.set i (some d)) := by
  show setN i d s = _
  unfold setN
  rw [if_pos ⟨h, l⟩]
@[simp] theorem seqOf_tup {l : List D} (h : l.all D.noBo = true) : seqOf (.tup l) = .ok l := by unfold seqOf; simp [h]
@[simp] theorem seqOf_cl {l : List D} (h : l.all D.noBo = true) : seqOf (.lst .cl l) = .ok l := by unfold seqOf; simp [h]
@[simp] theorem seqOf_bw {l : List D} (h : l.all D.noBo = true) : seqOf (.lst .bw l) = .ok l := by unfold seqOf; simp [h]
@[simp] theorem items_f (d : D) : itemsM false d = seqOf d.frz := rfl
@[simp] theorem items_t (d : D) : itemsM true d = seqOf d.frz.toBw := rfl
@[simp] theorem itG_0 {m : Bool} {d : D} : itG m 0 [d] = itemsM m d := rfl
@[simp] theorem itG_1 {m : Bool} {ds : List D} : itG m 1 ds = rngO1 ds := rfl
@[simp] theorem itG_3 {m : Bool} {ds : List D} : itG m 3 ds = zipG m ds := rfl
@[simp] theorem itG_2 {m : Bool} {ds : List D} : itG m 2 ds = rngO2 ds := rfl
theorem gMul_int {i j : Int} (hi : i.natAbs < 2 ^ 240) (hj : j.natAbs < 2 ^ 240) : gMul (.int i) (.int j) = some (.int (i * j)) := by
  have : (2 : Nat) ^ 512 ≤ big := Nat.pow_le_pow_right (by decide) (by decide)
  unfold gMul
  dsimp only
  rw [if_pos ⟨by omega, by omega⟩]
@[simp] theorem gAdd_int {i j : Int} : gAdd (.int i) (.int j) = some (.int (i + j)) := rfl
@[simp] theorem gSub_int {i j : Int} : gSub (.int i) (.int j) = some (.int (i - j)) := rfl
@[simp] theorem gNeg_int {i : Int} : gNeg (.int i) = some (.int (-i)) := rfl
@[simp] theorem gLt_int {i j : Int} : gLt (.int i) (.int j) = some (.bl (decide (i < j))) := rfl
@[simp] theorem gLe_int {i j : Int} : gLe (.int i) (.int j) = some (.bl (decide (i ≤ j))) := rfl
@[simp] theorem gGt_int {i j : Int} : gGt (.int i) (.int j) = some (.bl (decide (j < i))) := rfl
@[simp] theorem gGe_int {i j : Int} : gGe (.int i) (.int j) = some (.bl (decide (j ≤ i))) := rfl
@[simp] theorem gMod_int {i j : Int} (h : 0 < j) : gMod (.int i) (.int j) = some (.int (i % j)) := by unfold gMod; dsimp only; rw [if_pos h]
theorem gFdiv_int {i j : Int} (h : 0 < j) (hj : j.natAbs < 2 ^ 240) : gFdiv (.int i) (.int j) = some (.int (i / j)) := by
  have : (2 : Nat) ^ 512 ≤ big := Nat.pow_le_pow_right (by decide) (by decide)
  unfold gFdiv
  dsimp only
  rw [if_pos ⟨h, by omega⟩]
@[simp] theorem gPow_int {i j : Int} (h : 0 ≤ j) (h1 : j ≤ 1000000) (h2 : i.natAbs < 2 ^ 64) : gPow (.int i) (.int j) = some (.int (i ^ j.toNat)) := by unfold gPow; dsimp only; rw [if_pos ⟨h, h1, h2⟩]
theorem eqD_int {i j : Int} : eqD (.int i) (.int j) = decide (i = j) := by
  unfold eqD
  simp only [D.py, PyData.eqv]
  exact Bool.eq_iff_iff.mpr (by simp)
theorem eqD_bl {i j : Bool} : eqD (.bl i) (.bl j) = decide (i = j) := by cases i <;> cases j <;> rfl
@[simp] theorem gNe_int {i j : Int} : gNe (.int i) (.int j) = some (.bl (decide (i ≠ j))) := by
  unfold gNe
  rw [if_pos ⟨rfl, rfl⟩, eqD_int]
  simp
@[simp] theorem gNe_bl {i j : Bool} : gNe (.bl i) (.bl j) = some (.bl (decide (i ≠ j))) := by
  unfold gNe
  rw [if_pos ⟨rfl, rfl⟩, eqD_bl]
  simp
@[simp] theorem gEq_int {i j : Int} : gEq (.int i) (.int j) = some (.bl (decide (i = j))) := by
  unfold gEq
  rw [if_pos ⟨rfl, rfl⟩, eqD_int]
@[simp] theorem gEq_bl {i j : Bool} : gEq (.bl i) (.bl j) = some (.bl (decide (i = j))) := by
  unfold gEq
  rw [if_pos ⟨rfl, rfl⟩, eqD_bl]
@[simp] theorem gLen_tup {l : List D} : gLen [.tup l] = some (.int l.length) := rfl
@[simp] theorem gLen_lst {f : Fl} {l : List D} : gLen [.lst f l] = some (.int l.length) := rfl
@[simp] theorem gTup_of {l : List D} (h : l.length ≤ 16777216) : gTup l = some (.tup l) := by unfold gTup; rw [if_pos h]
@[simp] theorem gLst_of {l : List D} (h : l.length ≤ 16777216) : gLst l = some (.lst .own l) := by unfold gLst; rw [if_pos h]
@[simp] theorem gTupleF_lst {f : Fl} {l : List D} : gTupleF [.lst f l] = some (.tup l) := rfl
@[simp] theorem gTupleF_tup {l : List D} : gTupleF [.tup l] = some (.tup l) := rfl
@[simp] theorem gListF_lst {f : Fl} {l : List D} : gListF [.lst f l] = some (.lst .own l) := rfl
@[simp] theorem gListF_tup {l : List D} : gListF [.tup l] = some (.lst .own l) := rfl
theorem blsOf_map {α : Type} {p : α → Bool} {l : List α} : blsOf (l.map fun a => D.bl (p a)) = some (l.map p) := by
  induction l with
  | nil => rfl
  | cons a r ih => simp [blsOf, ih]
theorem intsOf_map {l : List Int} : intsOf (l.map D.int) = some l := by
  induction l with
  | nil => rfl
  | cons a r ih => simp [intsOf, ih]
@[simp] theorem gAll_map {α : Type} {f : Fl} {p : α → Bool} {l : List α} : gAll [.lst f (l.map fun a => .bl (p a))] = some (.bl (l.all p)) := by
  unfold gAll
  dsimp only
  rw [blsOf_map]
  simp [Function.comp_def]
@[simp] theorem gAny_map {α : Type} {f : Fl} {p : α → Bool} {l : List α} : gAny [.lst f (l.map fun a => .bl (p a))] = some (.bl (l.any p)) := by
  unfold gAny
  dsimp only
  rw [blsOf_map]
  simp [Function.comp_def]
@[simp] theorem gSum_map {f : Fl} {l : List Int} : gSum [.lst f (l.map .int)] = some (.int l.sum) := by
  unfold gSum
  dsimp only
  rw [intsOf_map]
  rfl
@[simp] theorem gSum_tup {l : List Int} : gSum [.tup (l.map .int)] = some (.int l.sum) := by
  unfold gSum
  dsimp only
  rw [intsOf_map]
  rfl
@[simp] theorem isi_int (d : D) : isiR "int" (.ok d) = .ok (.bl (match d with | .int _ => true | .bl _ => true | _ => false)) := by cases d <;> rfl
@[simp] theorem isi_bool (d : D) : isiR "bool" (.ok d) = .ok (.bl (match d with | .bl _ => true | _ => false)) := by cases d <;> rfl
@[simp] theorem isi_tuple (d : D) : isiR "tuple" (.ok d) = .ok (.bl (match d with | .tup _ => true | _ => false)) := by cases d <;> rfl
@[simp] theorem isi_list (d : D) : isiR "list" (.ok d) = .ok (.bl (match d with | .lst _ _ => true | _ => false)) := by cases d <;> rfl
@[simp] theorem isi_str (d : D) : isiR "str" (.ok d) = .ok (.bl (match d with | .str _ => true | _ => false)) := by cases d <;> rfl
@[simp] theorem isi_dict (d : D) : isiR "dict" (.ok d) = .ok (.bl (match d with | .dk _ _ _ => true | _ => false)) := by cases d <;> rfl
theorem atI_map {α : Type} {f : α → D} {l : List α} {k : Int} (h0 : 0 ≤ k) (h1 : k < l.length) : atI (l.map f) k = some (f (l[k.toNat]'(by omega))) := by
  have e : ixN (l.map f).length k = some k.toNat := by
    unfold ixN
    rw [if_pos h0, List.length_map, if_pos h1]
  unfold atI
  rw [e]
  have : k.toNat < l.length := by omega
  simp [this]
theorem gIx_lst {α : Type} {fl : Fl} {f : α → D} {l : List α} {k : Int} (h0 : 0 ≤ k) (h1 : k < l.length) : gIx (.lst fl (l.map f)) (.int k) = some (f (l[k.toNat]'(by omega))) := atI_map h0 h1
theorem gIx_tup {α : Type} {f : α → D} {l : List α} {k : Int} (h0 : 0 ≤ k) (h1 : k < l.length) : gIx (.tup (l.map f)) (.int k) = some (f (l[k.toNat]'(by omega))) := atI_map h0 h1
theorem sl_take {fl : Fl} {l : List D} {k : Nat} : gSl none (some (k : Int)) (.lst fl l) = some (.lst .own (l.take k)) := by
  show some (D.lst .own ((l.drop (HT.sIx l.length 0 none)).take (HT.sIx l.length l.length (some (k : Int)) - HT.sIx l.length 0 none))) = _
  rw [HT.sIx_none, HT.sIx_nat, List.drop_zero, Nat.sub_zero]
  congr 2
  rcases Nat.le_total k l.length with h | h
  · rw [Nat.min_eq_left h]
  · rw [Nat.min_eq_right h, List.take_length, List.take_of_length_le h]
@[simp] theorem slR_ok {d : D} {lo hi : Option Int} : slR (.ok d) (.ok lo) (.ok hi) = ofO (gSl lo hi d) := rfl
@[simp] theorem ixR_int {i : Int} : ixR (.ok (.int i)) = .ok (some i) := rfl
theorem foldl_fst {α β γ : Type} {f : β → α → β} {g : β × γ → α → γ} : ∀ {l : List α} {x : β} {y : γ}, (l.foldl (fun (b : β × γ) a => (f b.1 a, g b a)) (x, y)).1 = l.foldl f x
  | [], _, _ => rfl
  | a :: r, x, y => by rw [List.foldl_cons, List.foldl_cons]; exact foldl_fst
def lastO (x : Option D) (l : List D) : Option D := l.foldl (fun _ d => some d) x
theorem forL_coll {α γ : Type} {f : α → D} {turn : D → SD → O} (st : List γ → Option D → SD) (g : α → γ) (N : Nat) : ∀ (l : List α) (acc : List γ) (x : Option D), acc.length + l.length ≤ N → (∀ acc x a, a ∈ l → acc.length < N → turn (f a) (st acc x) = .nx (st (acc ++ [g a]) (some (f a)))) →
    forL turn (l.map f) (st acc x) = .nx (st (acc ++ l.map g) (lastO x (l.map f)))
  | [], acc, x, _, _ => by simp [forL, lastO]
  | a :: r, acc, x, hl, h => by
    rw [List.length_cons] at hl
    rw [List.map_cons, forL, h acc x a List.mem_cons_self (by omega)]
    dsimp only
    rw [forL_coll st g N r (acc ++ [g a]) (some (f a)) (by rw [List.length_append]; simp; omega) fun acc x a' m h' => h acc x a' (List.mem_cons_of_mem _ m) h']
    simp [lastO]
theorem rng1 {j : Int} (h0 : -(2 ^ 62) ≤ j) (h : j < 2 ^ 62) : rngO1 [.int j] = .ok ((List.range j.toNat).map fun (i : Nat) => .int i) := by
  unfold rngO1
  simp only [if_pos (And.intro h0 h), rngD, Int.zero_add]
theorem rng2 {i j : Int} (h0 : -(2 ^ 62) ≤ i) (h1 : i < 2 ^ 62) (h2 : -(2 ^ 62) ≤ j) (h3 : j < 2 ^ 62) : rngO2 [.int i, .int j] = .ok ((List.range (j - i).toNat).map fun (k : Nat) => .int (i + k)) := by
  unfold rngO2
  simp only [if_pos (And.intro h0 (And.intro h1 (And.intro h2 h3))), rngD]
@[simp] theorem evP_nil {Γ : Mir} {s : SD} : evP Γ [] s = .ok [] := rfl
theorem mth0 {Γ : Mir} {tx : List D → List D → Option (List D)} {fs : SD → R (List D)} {i : Nat} {s : SD} : mthO tx i (evP Γ []) fs s = match s[i]? with
    | some (some (.lst .own l)) => (fs s).thenO s fun ds => putO s i [] (.lst .own l) (tx l ds)
    | _ => .stk := by
  unfold mthO ownL
  rw [evP_nil]
  dsimp only [R.thenO]
  cases s[i]? with
  | none => rfl
  | some o =>
    cases o with
    | none => rfl
    | some d =>
      cases d with
      | lst f l => cases f <;> rfl
      | _ => rfl
@[simp] theorem mth0_own {Γ : Mir} {tx : List D → List D → Option (List D)} {fs : SD → R (List D)} {i : Nat} {s : SD} {l : List D} (h : s[i]? = some (some (.lst .own l))) : mthO tx i (evP Γ []) fs s = (fs s).thenO s fun ds => putO s i [] (.lst .own l) (tx l ds) := by
  rw [mth0, h]
@[simp] theorem putO_some {s : SD} {i : Nat} {d0 : D} {l : List D} : putO s i [] d0 (some l) = .nx (s.set i (some (.lst .own l))) := rfl
@[simp] theorem tx_app : Me.append.tx = txAppend := rfl
@[simp] theorem tx_ext : Me.extend.tx = txExtend := rfl
@[simp] theorem tx_pop : Me.popAt.tx = txPopAt := rfl
@[simp] theorem txAppend_of {l : List D} {d : D} (h3 : d.noBo = true) (h4 : l.length < 16777216) : txAppend l [d] = some (l ++ [d]) := by
  unfold txAppend
  dsimp only
  rw [if_pos ⟨h3, h4⟩]
theorem ownL1 {s : SD} {i : Nat} {p : Int} {l r : List D} (h : s[i]? = some (some (.lst .own l))) (h2 : atI l p = some (.lst .own r)) : ownL s i [p] = some (.lst .own l, r) := by
  unfold ownL
  rw [h]
  simp [dAt, h2]
theorem putO1 {s : SD} {i : Nat} {p : Int} {l l' : List D} {x : D} (h0 : 0 ≤ p) (h2 : atI l p = some x) : putO s i [p] (.lst .own l) (some l') = .nx (s.set i (some (.lst .own (l.set p.toNat (.lst .own l'))))) := by
  unfold atI at h2
  cases q : ixN l.length p with
  | none => rw [q] at h2; cases h2
  | some j =>
    rw [q] at h2
    have h2 : l[j]? = some x := h2
    have e : j = p.toNat := by
      unfold ixN at q
      rw [if_pos h0] at q
      split at q
      · injection q with q; exact q.symm
      · cases q
    subst e
    unfold putO
    simp [dPut, q, h2]
/-- own list in an own list, by one place -/
theorem mth1 {Γ : Mir} {tx : List D → List D → Option (List D)} {fs : SD → R (List D)} {i : Nat} {s : SD} {e : E} {p : Int} {l r : List D} (he : e.ev Γ s = .ok (.int p)) (h0 : 0 ≤ p) (h : s[i]? = some (some (.lst .own l))) (h2 : atI l p = some (.lst .own r)) {ds : List D} (h3 : fs s = .ok ds) {r' : List D} (h4 : tx r ds = some r') :
    mthO tx i (evP Γ [e]) fs s = .nx (s.set i (some (.lst .own (l.set p.toNat (.lst .own r'))))) := by
  have e1 : evP Γ [e] s = .ok [p] := by
    show snocR (.ok []) (e.ev Γ s) = _
    rw [he]; rfl
  unfold mthO
  rw [e1]
  dsimp only [R.thenO]
  rw [ownL1 h h2]
  dsimp only
  rw [h3]
  dsimp only [R.thenO]
  rw [h4, putO1 h0 h2]
theorem store1 {Γ : Mir} {fk fe : SD → R D} {i : Nat} {s : SD} {e : E} {p k : Int} {l r : List D} {d : D} (he : e.ev Γ s = .ok (.int p)) (h0 : 0 ≤ p) (h : s[i]? = some (some (.lst .own l))) (h2 : atI l p = some (.lst .own r)) (h3 : fe s = .ok d) (h4 : fk s = .ok (.int k)) (h5 : 0 ≤ k) (h6 : k < r.length) (h7 : d.noBo = true) :
    storeO i (evP Γ [e]) fk fe s = .nx (s.set i (some (.lst .own (l.set p.toNat (.lst .own (r.set k.toNat d)))))) := by
  have e1 : evP Γ [e] s = .ok [p] := by
    show snocR (.ok []) (e.ev Γ s) = _
    rw [he]; rfl
  have e2 : putK' r d (.int k) = some (r.set k.toNat d) := by
    simp [putK', ixN, h5, h6, h7]
  unfold storeO
  rw [h3]
  dsimp only [R.thenO]
  rw [e1]
  dsimp only [R.thenO]
  rw [ownL1 h h2]
  dsimp only
  rw [h4]
  dsimp only [R.thenO]
  rw [e2, putO1 h0 h2]
theorem store0 {Γ : Mir} {fk fe : SD → R D} {i : Nat} {s : SD} {k : Int} {l : List D} {d : D} (h : s[i]? = some (some (.lst .own l))) (h3 : fe s = .ok d) (h4 : fk s = .ok (.int k)) (h5 : 0 ≤ k) (h6 : k < l.length) (h7 : d.noBo = true) :
    storeO i (evP Γ []) fk fe s = .nx (s.set i (some (.lst .own (l.set k.toNat d)))) := by
  have e2 : putK' l d (.int k) = some (l.set k.toNat d) := by
    simp [putK', ixN, h5, h6, h7]
  unfold storeO ownL
  rw [h3]
  dsimp only [R.thenO]
  rw [evP_nil]
  dsimp only [R.thenO]
  rw [h]
  dsimp only [dAt]
  rw [h4]
  dsimp only [R.thenO]
  rw [e2]
  rfl
theorem pick_ex {f : Fl} {l : List D} {j : Int} (h0 : 0 ≤ j) (h1 : j < l.length) : ∃ x ∈ l, gIx (.lst f l) (.int j) = some x := by
  refine ⟨l[j.toNat]'(by omega), List.getElem_mem _, ?_⟩
  have e : ixN l.length j = some j.toNat := by
    unfold ixN
    rw [if_pos h0, if_pos h1]
  show (ixN l.length j).bind (fun k => l[k]?) = _
  rw [e]
  exact List.getElem?_eq_getElem (by omega)
theorem gMul_rep {z k : Int} (h0 : 0 ≤ k) (h : k ≤ 1000000) : gMul (.lst .own [.int z]) (.int k) = some (.lst .own ((List.replicate k.toNat z).map .int)) := by
  unfold gMul
  dsimp only
  rw [if_pos ⟨by omega, by omega, by simp; omega, by simp⟩]
  congr 2
  induction k.toNat with
  | zero => rfl
  | succ n ih => simp [List.replicate_succ, ih]
theorem pick_all {p : D → Bool} {l : List D} {x : D} (h : l.all p = true) (m : x ∈ l) : p x = true := List.all_eq_true.mp h x m
theorem seq_assoc {o : O} {f g : SD → O} : (o.seq f).seq g = o.seq fun s => (f s).seq g := by cases o <;> rfl
theorem evs_append {Γ : Mir} {n : Nat} : ∀ {a b : List S} {s : SD}, S.evs Γ n (a ++ b) s = (S.evs Γ n a s).seq (S.evs Γ n b)
  | [], b, s => rfl
  | x :: a, b, s => by
    rw [List.cons_append, evs_cons, evs_cons, seq_assoc]
    congr 1
    funext s'
    exact evs_append
/-! ### what is handed back is not borrowed -/
def RtOk (o : O) : Prop := ∀ d, o = .rt d → d.noBw = true
theorem rt_nx {s : SD} : RtOk (.nx s) := fun d h => by cases h
theorem rt_bk {s : SD} : RtOk (.bk s) := fun d h => by cases h
theorem rt_ct {s : SD} : RtOk (.ct s) := fun d h => by cases h
theorem rt_stk : RtOk .stk := fun d h => by cases h
theorem rt_rs {c : Str} {p : Option Int} {s : SD} : RtOk (.rs c p s) := fun d h => by cases h
theorem rt_ret {d : D} : RtOk (retO d) := fun e h => by
  unfold retO at h
  split at h
  · injection h with h; subst h; assumption
  · cases h
theorem rt_seq {o : O} {g : SD → O} (h : RtOk o) (k : ∀ s, RtOk (g s)) : RtOk (o.seq g) := by
  cases o with
  | nx s => exact k s
  | bk s => exact rt_bk
  | ct s => exact rt_ct
  | rt d => exact fun e he => h e he
  | rs c p s => exact rt_rs
  | stk => exact rt_stk
theorem rt_then {α : Type} {x : R α} {s : SD} {k : α → O} (h : ∀ a, RtOk (k a)) : RtOk (x.thenO s k) := by
  cases x with
  | ok a => exact h a
  | rs c p => exact rt_rs
  | stk => exact rt_stk
theorem rt_set {i : Nat} {s : SD} {d : D} : RtOk (setO i s d) := by unfold setO; split <;> first | exact rt_nx | exact rt_stk
theorem rt_put {s : SD} {i : Nat} {ks : List Int} {d : D} {l : Option (List D)} : RtOk (putO s i ks d l) := by unfold putO; split <;> first | exact rt_nx | exact rt_stk
theorem rt_if {s : SD} {a b : SD → O} {d : D} (h : ∀ s, RtOk (a s)) (k : ∀ s, RtOk (b s)) : RtOk (ifO s a b d) := by
  unfold ifO
  split
  · exact h s
  · exact k s
  · exact rt_stk
theorem rt_for {f : D → SD → O} (h : ∀ d s, RtOk (f d s)) : ∀ {l : List D} {s : SD}, RtOk (forL f l s)
  | [], s => rt_nx
  | d :: r, s => by
    unfold forL
    have := h d s
    split
    · exact rt_for h
    · exact rt_for h
    · exact rt_nx
    · rename_i e; exact fun x hx => by injection hx with hx; subst hx; exact this _ e
    · exact rt_rs
    · exact rt_stk
theorem rt_wh {c : SD → R D} {f : SD → O} (h : ∀ s, RtOk (f s)) : ∀ {n : Nat} {s : SD}, RtOk (whL c f n s)
  | 0, s => rt_stk
  | n + 1, s => by
    unfold whL
    refine rt_then fun d => ?_
    have := h s
    split
    · split
      · exact rt_wh h
      · exact rt_wh h
      · exact rt_nx
      · rename_i e; exact fun x hx => by injection hx with hx; subst hx; exact this _ e
      · exact rt_rs
      · exact rt_stk
    · exact rt_nx
    · exact rt_stk
theorem rt_mth {tx : List D → List D → Option (List D)} {i : Nat} {fk : SD → R (List Int)} {fs : SD → R (List D)} {s : SD} : RtOk (mthO tx i fk fs s) := by
  unfold mthO
  refine rt_then fun ks => ?_
  split
  · exact rt_then fun ds => rt_put
  · exact rt_stk
theorem rt_store {i : Nat} {fk : SD → R (List Int)} {f g : SD → R D} {s : SD} : RtOk (storeO i fk f g s) := by
  unfold storeO
  refine rt_then fun d => rt_then fun ks => ?_
  split
  · exact rt_then fun ds => rt_put
  · exact rt_stk
theorem rt_aug {i : Nat} {g : D → D → Option D} {f : SD → R D} {s : SD} : RtOk (augO i g f s) := by
  unfold augO
  split
  · exact rt_then fun d => rt_then fun e => rt_set
  · exact rt_stk
theorem rt_tset {tp : Bool} {is : List Nat} {s : SD} {d : D} : RtOk (tsetO tp is s d) := by unfold tsetO; split <;> first | exact rt_nx | exact rt_stk
mutual
theorem S.rtok (Γ : Mir) (n : Nat) : ∀ (st : S) (s : SD), RtOk (st.ev Γ n s)
  | .set i e, s => by rw [s_set]; exact rt_then fun d => rt_set
  | .tset tp is e, s => by rw [s_tset]; exact rt_then fun d => rt_tset
  | .store i p k e, s => by rw [s_store]; exact rt_store
  | .aug i o e, s => by rw [s_aug]; exact rt_aug
  | .ret e, s => by rw [s_ret]; exact rt_then fun d => rt_ret
  | .retv i, s => by rw [s_retv]; split <;> first | exact rt_ret | exact rt_stk
  | .retN, s => by rw [s_retN]; exact fun d h => by injection h with h; subst h; simp
  | .expr e, s => by rw [s_expr]; exact rt_then fun d => rt_nx
  | .mth m i p l, s => by rw [s_mth]; exact rt_mth
  | .iff c a b, s => by rw [s_iff]; exact rt_then fun d => rt_if (fun s => S.rtoks Γ n a s) (fun s => S.rtoks Γ n b s)
  | .loop k src tp is b, s => by
    rw [s_loop]
    refine rt_then fun ds => rt_for fun d s => ?_
    unfold turnO
    split
    · exact S.rtoks Γ n b _
    · exact rt_stk
  | .whl c b, s => by rw [s_whl]; exact rt_wh fun s => S.rtoks Γ n b s
  | .pass, s => by rw [s_pass]; exact rt_nx
  | .brk, s => by rw [s_brk]; exact rt_bk
  | .cont, s => by rw [s_cont]; exact rt_ct
  | .no, s => by rw [s_no]; exact rt_stk
  | .frz i st, s => by rw [s_frz]; exact S.rtok Γ n st _
theorem S.rtoks (Γ : Mir) (n : Nat) : ∀ (l : List S) (s : SD), RtOk (S.evs Γ n l s)
  | [], s => by rw [evs_nil]; exact rt_nx
  | a :: r, s => by rw [evs_cons]; exact rt_seq (S.rtok Γ n a s) fun s => S.rtoks Γ n r s
end
theorem runF_noBw {Γ : Mir} {n N np : Nat} {b : List S} {ds : List D} {d : D} (h : runF Γ n N np b ds = .ok d) : d.noBw = true := by
  unfold runF at h
  split at h
  · split at h
    · rename_i e
      injection h with h
      subst h
      exact S.rtoks Γ n b _ _ e
    · injection h with h; subst h; simp
    · cases h
    · cases h
  · cases h
theorem noBo_of : ∀ d : D, d.noBw = true → d.noBo = true := by
  refine D.shape (by simp) (by simp) (by simp) (by simp) (fun l h => ?_) (fun f l h => ?_) (fun f k l h => ?_)
  · simp
    exact fun g y hy => h y hy (g y hy)
  · cases f <;> simp [D.noBw]
    · exact fun g y hy => h y hy (g y hy)
    · exact fun g y hy => h y hy (g y hy)
  · cases f <;> simp [D.noBw]
    · exact fun g y hy => h y hy (g y hy)
    · exact fun g y hy => h y hy (g y hy)
end Fe

namespace Fe
open PySem L2
/-! shapes that many laws look at -/
def whole : D → Bool
  | .int _ => true
  | _ => false
@[simp] theorem whole_toBw (d : D) : whole d.toBw = whole d := by cases d with
  | lst f l => cases f <;> simp [whole]
  | dk f k l => cases f <;> simp [whole]
  | _ => simp [whole]
def nnB : D → Bool
  | .int i => decide (0 ≤ i)
  | _ => false
@[simp] theorem nnB_toBw (d : D) : nnB d.toBw = nnB d := by cases d with
  | lst f l => cases f <;> simp [nnB]
  | dk f k l => cases f <;> simp [nnB]
  | _ => simp [nnB]
def rowB (d : D) (n : Int) : Bool := match d with
  | .tup l => decide ((l.length : Int) = n) && l.all nnB
  | _ => false
@[simp] theorem rowB_toBw (d : D) (n : Int) : rowB d.toBw n = rowB d n := by cases d with
  | lst f l => cases f <;> simp [rowB]
  | dk f k l => cases f <;> simp [rowB]
  | tup l => simp [rowB, Function.comp_def]
  | _ => simp [rowB]
def tableB (d : D) : Bool := match d with
  | .tup l => decide (1 ≤ l.length ∧ l.length ≤ 8) && l.all fun r => rowB r (l.length + 1)
  | _ => false
def rowD (r : List Int) : D := .tup (r.map .int)
def tabD (t : List (List Int)) : D := .tup (t.map rowD)
@[simp] theorem bo_rowD (r : List Int) : (rowD r).toBo = rowD r := by simp [rowD]
@[simp] theorem bw_rowD (r : List Int) : (rowD r).toBw = rowD r := by simp [rowD]
@[simp] theorem frz_rowD (r : List Int) : (rowD r).frz = rowD r := by simp [rowD]
@[simp] theorem noBo_rowD (r : List Int) : (rowD r).noBo = true := by simp [rowD]
@[simp] theorem noBw_rowD (r : List Int) : (rowD r).noBw = true := by simp [rowD]
@[simp] theorem bo_tabD (r : List (List Int)) : (tabD r).toBo = tabD r := by simp [tabD, Function.comp_def]
@[simp] theorem bw_tabD (r : List (List Int)) : (tabD r).toBw = tabD r := by simp [tabD, Function.comp_def]
@[simp] theorem frz_tabD (r : List (List Int)) : (tabD r).frz = tabD r := by simp [tabD, Function.comp_def]
@[simp] theorem noBo_tabD (r : List (List Int)) : (tabD r).noBo = true := by simp [tabD, Function.comp_def]
@[simp] theorem noBw_tabD (r : List (List Int)) : (tabD r).noBw = true := by simp [tabD, Function.comp_def]
@[simp] theorem seqOf_tabD (t : List (List Int)) : seqOf (tabD t) = .ok (t.map rowD) := by
  unfold tabD
  exact seqOf_tup (by simp [Function.comp_def])
@[simp] theorem seqOf_rowD (t : List Int) : seqOf (rowD t) = .ok (t.map .int) := by
  unfold rowD
  exact seqOf_tup (by simp [Function.comp_def])
@[simp] theorem len_tabD (t : List (List Int)) : gLen [tabD t] = some (.int t.length) := by simp [tabD]
@[simp] theorem len_rowD (t : List Int) : gLen [rowD t] = some (.int t.length) := by simp [rowD]
@[simp] theorem sum_rowD (t : List Int) : gSum [rowD t] = some (.int t.sum) := by simp [rowD]
@[simp] theorem whole_int (i : Int) : whole (.int i) = true := rfl
@[simp] theorem nnB_int (i : Int) : nnB (.int i) = decide (0 ≤ i) := rfl
theorem rowB_rowD (r : List Int) (n : Int) : rowB (rowD r) n = (decide ((r.length : Int) = n) && r.all fun i => decide (0 ≤ i)) := by simp [rowD, rowB, Function.comp_def]
theorem tableB_tabD (t : List (List Int)) : tableB (tabD t) = (decide (1 ≤ t.length ∧ t.length ≤ 8) && t.all fun r => rowB (rowD r) (t.length + 1)) := by simp [tabD, tableB, Function.comp_def]
end Fe

namespace Fe
open PySem L2
/-! tables of ints, looked at -/
def rowOf : D → Option (List Int)
  | .tup l => intsOf l
  | _ => none
def tabOf : D → Option (List (List Int))
  | .tup l => mapO rowOf l
  | _ => none
theorem intsOf_back : ∀ {l : List D} {ns : List Int}, intsOf l = some ns → l = ns.map .int
  | [], ns, h => by injection h with h; subst h; rfl
  | .int i :: r, ns, h => by
    unfold intsOf at h
    cases q : intsOf r with
    | none => rw [q] at h; cases h
    | some t =>
      rw [q] at h
      injection h with h
      subst h
      rw [intsOf_back q]
      rfl
@[simp] theorem rowOf_rowD (r : List Int) : rowOf (rowD r) = some r := intsOf_map
theorem rowOf_eq {d : D} {r : List Int} (h : rowOf d = some r) : d = rowD r := by
  cases d with
  | tup l => unfold rowD; rw [intsOf_back (show intsOf l = some r from h)]
  | _ => cases h
@[simp] theorem tabOf_tabD : ∀ t : List (List Int), tabOf (tabD t) = some t := fun t => by
  show mapO rowOf (t.map rowD) = some t
  induction t with
  | nil => rfl
  | cons r t ih => simp [mapO, ih]
theorem mapRow_eq : ∀ {l : List D} {t : List (List Int)}, mapO rowOf l = some t → l = t.map rowD
  | [], t, h => by injection h with h; subst h; rfl
  | d :: l, t, h => by
    obtain ⟨r, t', h1, h2, rfl⟩ := mapO_cons h
    rw [rowOf_eq h1, mapRow_eq h2]
    rfl
theorem tabOf_eq {d : D} {t : List (List Int)} (h : tabOf d = some t) : d = tabD t := by
  cases d with
  | tup l => unfold tabD; rw [mapRow_eq (show mapO rowOf l = some t from h)]
  | _ => cases h
def rowA (t : List (List Int)) (h : Int) : List Int := (t[h.toNat]?).getD []
def cellA (r : List Int) (k : Int) : Int := (r[k.toNat]?).getD 0
/-- each row has one number more than there are rows -/
def wfB (t : List (List Int)) : Bool := t.all fun r => r.length == t.length + 1
theorem ix_tab {t : List (List Int)} {h : Int} (h0 : 0 ≤ h) (h1 : h < t.length) : gIx (tabD t) (.int h) = some (rowD (rowA t h)) := by
  have e : t[h.toNat]? = some (t[h.toNat]'(by omega)) := List.getElem?_eq_getElem (by omega)
  unfold tabD rowA
  rw [gIx_tup h0 h1, e]
  rfl
theorem ix_row {r : List Int} {k : Int} (h0 : 0 ≤ k) (h1 : k < r.length) : gIx (rowD r) (.int k) = some (.int (cellA r k)) := by
  have e : r[k.toNat]? = some (r[k.toNat]'(by omega)) := List.getElem?_eq_getElem (by omega)
  unfold rowD cellA
  rw [gIx_tup h0 h1, e]
  rfl
theorem row_mem {t : List (List Int)} {h : Int} (h0 : 0 ≤ h) (h1 : h < t.length) : rowA t h ∈ t := by
  have e : t[h.toNat]? = some (t[h.toNat]'(by omega)) := List.getElem?_eq_getElem (by omega)
  unfold rowA
  rw [e]
  exact List.getElem_mem _
theorem wf_row {t : List (List Int)} (w : wfB t = true) {r : List Int} (h : r ∈ t) : r.length = t.length + 1 := by
  have := List.all_eq_true.mp w r h
  simpa using this
theorem wf_len {t : List (List Int)} (w : wfB t = true) {h : Int} (h0 : 0 ≤ h) (h1 : h < t.length) : ((rowA t h).length : Int) = t.length + 1 := by
  have := wf_row w (row_mem h0 h1)
  omega
theorem sl_row {r : List Int} {k : Nat} : gSl none (some (k : Int)) (rowD r) = some (rowD (r.take k)) := by
  show some (D.tup (((r.map D.int).drop (HT.sIx (r.map D.int).length 0 none)).take (HT.sIx (r.map D.int).length (r.map D.int).length (some (k : Int)) - HT.sIx (r.map D.int).length 0 none))) = _
  rw [HT.sIx_none, HT.sIx_nat, List.drop_zero, Nat.sub_zero]
  unfold rowD
  rw [List.map_take]
  congr 2
  rcases Nat.le_total k (r.map D.int).length with h | h
  · rw [Nat.min_eq_left h]
  · rw [Nat.min_eq_right h, List.take_length, List.take_of_length_le h]
theorem gSum_ints {α : Type} {f : Fl} {g : α → Int} {l : List α} : gSum [.lst f (l.map fun a => .int (g a))] = some (.int (l.map g).sum) := by
  have := gSum_map (f := f) (l := l.map g)
  rwa [List.map_map] at this
def lentByI (t : List (List Int)) (h : Int) : Int := ((rowA t h).take t.length).sum - cellA (rowA t h) h
def lentToI (t : List (List Int)) (h : Int) : Int := (t.map fun r => cellA r h).sum - cellA (rowA t h) h
def rightsI (t : List (List Int)) (h : Int) : Int := cellA (rowA t h) h + lentToI t h - lentByI t h - cellA (rowA t h) t.length
def okTH (t : List (List Int)) (h : Int) : Bool := wfB t && decide (0 ≤ h ∧ h < t.length ∧ t.length ≤ 1000)
theorem okTH_of {t : List (List Int)} {h : Int} : okTH t h = true ↔ wfB t = true ∧ 0 ≤ h ∧ h < t.length ∧ t.length ≤ 1000 := by simp [okTH]
def pairD (p : List Int × List Int) : D := .tup [rowD p.1, rowD p.2]
def pairI (p : Int × Int) : D := .tup [.int p.1, .int p.2]
theorem zip_tab {m : Bool} {s t : List (List Int)} : zipG m [tabD s, tabD t] = .ok ((s.zip t).map pairD) := by
  have e : ∀ u : List (List Int), mdD m (tabD u) = tabD u := fun u => by cases m <;> simp [mdD]
  simp only [zipG, e, seqOf_tabD, bind_ok', if_true]
  rw [List.zip_map, List.map_map]
  rfl
theorem zip_row {m : Bool} {s t : List Int} : zipG m [rowD s, rowD t] = .ok ((s.zip t).map pairI) := by
  have e : ∀ u : List Int, mdD m (rowD u) = rowD u := fun u => by cases m <;> simp [mdD]
  simp only [zipG, e, seqOf_rowD, bind_ok', if_true]
  rw [List.zip_map, List.map_map]
  rfl
theorem tgF_two {i j : Nat} {a b : D} {s : SD} (ha : a.frz.noBo = true) (hb : b.frz.noBo = true) (hi : i < s.length) (hj : j < s.length) : tgF true [i, j] (.tup [a, b]) s = some ((s.set i (some a.frz)).set j (some b.frz)) := by
  show setT [i, j] (.tup [a, b]) s = _
  unfold setT
  rw [frz_tup]
  simp [ha, hb, setMany, setN, hi, hj]
theorem forL_foldI {α β : Type} {f : α → D} {turn : D → SD → O} (st : β → SD) (step : β → α → β) (inv : Nat → β → Prop) (N : Nat) : ∀ (l : List α) (i : Nat) (b : β), i + l.length ≤ N → inv i b → (∀ i b a, a ∈ l → i < N → inv i b → turn (f a) (st b) = .nx (st (step b a)) ∧ inv (i + 1) (step b a)) → forL turn (l.map f) (st b) = .nx (st (l.foldl step b)) ∧ inv (i + l.length) (l.foldl step b)
  | [], i, b, _, h, _ => ⟨rfl, h⟩
  | a :: r, i, b, hl, hi, h => by
    rw [List.length_cons] at hl
    obtain ⟨h1, h2⟩ := h i b a List.mem_cons_self (by omega) hi
    obtain ⟨h3, h4⟩ := forL_foldI st step inv N r (i + 1) (step b a) (by omega) h2 fun i' b' a' m => h i' b' a' (List.mem_cons_of_mem _ m)
    refine ⟨?_, ?_⟩
    · rw [List.map_cons, forL, h1]
      exact h3
    · rw [List.length_cons, List.foldl_cons]
      have : i + (r.length + 1) = i + 1 + r.length := by omega
      rw [this]
      exact h4
theorem rowA_nat {t : List (List Int)} {i : Nat} (h : i < t.length) : rowA t i = t[i] := by
  unfold rowA
  rw [Int.toNat_natCast, List.getElem?_eq_getElem h]
  rfl
theorem cellA_nat {r : List Int} {i : Nat} (h : i < r.length) : cellA r i = r[i] := by
  unfold cellA
  rw [Int.toNat_natCast, List.getElem?_eq_getElem h]
  rfl
theorem rows_eq (t : List (List Int)) : t = (List.range t.length).map fun (i : Nat) => rowA t i := by
  refine List.ext_getElem (by simp) fun i h1 h2 => ?_
  simp [rowA_nat h1]
theorem sum_rows {t : List (List Int)} {f : List Int → Int} : (t.map f).sum = ((List.range t.length).map fun (i : Nat) => f (rowA t i)).sum := by
  have := congrArg (fun l : List (List Int) => (l.map f).sum) (rows_eq t)
  simpa [Function.comp_def] using this
theorem sum_congr {l : List Nat} {f g : Nat → Int} (h : ∀ i ∈ l, f i = g i) : (l.map f).sum = (l.map g).sum := by rw [List.map_congr_left h]
theorem sum_add {l : List Nat} {f g : Nat → Int} : (l.map fun i => f i + g i).sum = (l.map f).sum + (l.map g).sum := by
  induction l with
  | nil => rfl
  | cons a r ih => simp only [List.map_cons, List.sum_cons, ih]; omega
theorem foldl_sum {l : List Nat} {f : Nat → Int} : ∀ m : Int, l.foldl (fun m i => m + f i) m = m + (l.map f).sum := by
  induction l with
  | nil => intro m; simp
  | cons a r ih => intro m; rw [List.foldl_cons, ih, List.map_cons, List.sum_cons]; omega
theorem sum_nonneg {l : List Nat} {f : Nat → Int} (h : ∀ i ∈ l, 0 ≤ f i) : 0 ≤ (l.map f).sum := by
  induction l with
  | nil => simp
  | cons a r ih =>
    rw [List.map_cons, List.sum_cons]
    have := h a List.mem_cons_self
    have := ih fun i hi => h i (List.mem_cons_of_mem _ hi)
    omega
/-- rights look at the house's own row and column alone -/
theorem rights_same {t u : List (List Int)} {h : Int} (h0 : 0 ≤ h) (h1 : h < t.length) (l : t.length = u.length) (r : rowA t h = rowA u h) (c : ∀ i : Nat, i < t.length → cellA (rowA t i) h = cellA (rowA u i) h) : rightsI t h = rightsI u h := by
  have e : (t.map fun r => cellA r h).sum = (u.map fun r => cellA r h).sum := by
    rw [sum_rows, sum_rows, ← l]
    exact sum_congr fun i hi => c i (List.mem_range.mp hi)
  unfold rightsI lentToI lentByI
  rw [r, e, l]
theorem rowA_set {t : List (List Int)} {h i : Int} {r : List Int} (h0 : 0 ≤ h) (h1 : h < t.length) (i0 : 0 ≤ i) : rowA (t.set h.toNat r) i = if i = h then r else rowA t i := by
  unfold rowA
  rw [List.getElem?_set]
  by_cases e : h.toNat = i.toNat
  · have : i = h := by omega
    subst this
    have : i.toNat < t.length := by omega
    simp [this]
  · have : i ≠ h := fun z => e (by rw [z])
    simp [e, this]
theorem cellA_set {r : List Int} {h k x : Int} (h0 : 0 ≤ h) (h1 : h < r.length) (k0 : 0 ≤ k) : cellA (r.set h.toNat x) k = if k = h then x else cellA r k := by
  unfold cellA
  rw [List.getElem?_set]
  by_cases e : h.toNat = k.toNat
  · have : k = h := by omega
    subst this
    have : k.toNat < r.length := by omega
    simp [this]
  · have : k ≠ h := fun z => e (by rw [z])
    simp [e, this]
theorem wf_set {t : List (List Int)} {i : Nat} {r : List Int} (w : wfB t = true) (hr : r.length = t.length + 1) : wfB (t.set i r) = true := by
  unfold wfB
  refine List.all_eq_true.mpr fun x hx => ?_
  rw [List.length_set]
  rcases List.mem_or_eq_of_mem_set hx with z | z
  · simp [wf_row w z]
  · subst z; simp [hr]
end Fe

namespace Fe
open PySem L2
/-! ### need_house -/
def N_need_house : List Str := ["table", "house"]
def b_need_house : List S :=
  [.iff (.not (.ch .le .lt (.int 0) (.var 1) (.bi .len [.var 0]))) [.no] []]
def n_need_house : Nat := 0
def m_need_house : List D → R D
  | [.tup l, .int h] => if 0 ≤ h ∧ h < l.length then .ok .non else .stk
  | _ => .stk
theorem run_need_house (Γ : Mir) (ds : List D) : m_need_house ds = .stk ∨ runF Γ n_need_house 2 2 b_need_house ds = m_need_house ds := by
  unfold m_need_house
  split
  · rename_i l h
    split
    · rename_i hh
      right
      rw [runF_eq (by rfl)]
      simp [b_need_house, Op.p, chR, hh.1, hh.2]
    · exact .inl rfl
  · exact .inl rfl

/-! ### lent_by -/
def N_lent_by : List Str := ["table", "house"]
def b_lent_by : List S :=
  [.ret (.op .sub (.bi .sum [.sl (.ix (.var 0) (.var 1)) [] [.bi .len [.var 0]]]) (.ix (.ix (.var 0) (.var 1)) (.var 1)))]
def n_lent_by : Nat := 0
def m_lent_by : List D → R D
  | [d, .int h] => match tabOf d with
    | some t => if okTH t h = true then .ok (.int (lentByI t h)) else .stk
    | none => .stk
  | _ => .stk
theorem lent_by_eq {t : List (List Int)} {h : Int} (ok : okTH t h = true) : m_lent_by [tabD t, .int h] = .ok (.int (lentByI t h)) := by simp [m_lent_by, ok]
theorem run_lent_by (Γ : Mir) (ds : List D) : m_lent_by ds = .stk ∨ runF Γ n_lent_by 2 2 b_lent_by ds = m_lent_by ds := by
  unfold m_lent_by
  split
  · rename_i d h
    split
    · rename_i t ht
      obtain rfl := tabOf_eq ht
      split
      · rename_i ok
        obtain ⟨w, h0, h1, _⟩ := okTH_of.mp ok
        have hl := wf_len w h0 h1
        right
        rw [runF_eq (by rfl)]
        simp (disch := first | (simp; done) | omega) [b_lent_by, ix_tab, ix_row, sl_row, lentByI]
      · exact .inl rfl
    · exact .inl rfl
  · exact .inl rfl

/-! ### lent_to -/
def N_lent_to : List Str := ["table", "house", "row"]
def b_lent_to : List S :=
  [.ret (.op .sub (.bi .sum [.lc 0 [.var 0] false [2] [] (.ix (.var 2) (.var 1)) [2]]) (.ix (.ix (.var 0) (.var 1)) (.var 1)))]
def n_lent_to : Nat := 0
def m_lent_to : List D → R D
  | [d, .int h] => match tabOf d with
    | some t => if okTH t h = true then .ok (.int (lentToI t h)) else .stk
    | none => .stk
  | _ => .stk
theorem lent_to_eq {t : List (List Int)} {h : Int} (ok : okTH t h = true) : m_lent_to [tabD t, .int h] = .ok (.int (lentToI t h)) := by simp [m_lent_to, ok]
theorem run_lent_to (Γ : Mir) (ds : List D) : m_lent_to ds = .stk ∨ runF Γ n_lent_to 3 2 b_lent_to ds = m_lent_to ds := by
  unfold m_lent_to
  split
  · rename_i d h
    split
    · rename_i t ht
      obtain rfl := tabOf_eq ht
      split
      · rename_i ok
        obtain ⟨w, h0, h1, h2⟩ := okTH_of.mp ok
        have hl := wf_len w h0 h1
        right
        rw [runF_eq (by rfl)]
        simp (disch := first | (simp; done) | omega) [b_lent_to, ix_tab, ix_row]
        rw [lcO_map (fun r => .int (cellA r h)) _ (by omega)]
        · simp (disch := first | (simp; done) | omega) [gSum_ints, lentToI]
        · intro r hr
          have := wf_row w hr
          simp (disch := first | (simp; done) | omega) [lcT, ix_row]
      · exact .inl rfl
    · exact .inl rfl
  · exact .inl rfl

/-! ### rights -/
def N_rights : List Str := ["table", "house", "made", "used"]
def b_rights : List S :=
  [.expr (.call 11 [.var 0, .var 1]),
   .set 2 (.ix (.ix (.var 0) (.var 1)) (.var 1)),
   .set 3 (.ix (.ix (.var 0) (.var 1)) (.bi .len [.var 0])),
   .ret (.op .sub (.op .sub (.op .add (.var 2) (.call 13 [.var 0, .var 1])) (.call 12 [.var 0, .var 1])) (.var 3))]
def n_rights : Nat := 0
def m_rights : List D → R D
  | [d, .int h] => match tabOf d with
    | some t => if okTH t h = true then .ok (.int (rightsI t h)) else .stk
    | none => .stk
  | _ => .stk
theorem rights_eq {t : List (List Int)} {h : Int} (ok : okTH t h = true) : m_rights [tabD t, .int h] = .ok (.int (rightsI t h)) := by simp [m_rights, ok]
theorem run_rights (Γ : Mir) (h_need_house : Γ 11 = (2, m_need_house)) (h_lent_by : Γ 12 = (2, m_lent_by)) (h_lent_to : Γ 13 = (2, m_lent_to)) (ds : List D) : m_rights ds = .stk ∨ runF Γ n_rights 4 2 b_rights ds = m_rights ds := by
  unfold m_rights
  split
  · rename_i d h
    split
    · rename_i t ht
      obtain rfl := tabOf_eq ht
      split
      · rename_i ok
        obtain ⟨w, h0, h1, h2⟩ := okTH_of.mp ok
        have hl := wf_len w h0 h1
        have e1 : m_need_house [tabD t, .int h] = .ok .non := by simp [m_need_house, tabD, h0, h1]
        right
        rw [runF_eq (by rfl)]
        simp (disch := first | (simp; done) | omega) [b_rights, ix_tab, ix_row, callR_def, h_need_house, h_lent_by, h_lent_to, e1, lent_by_eq ok, lent_to_eq ok, rightsI]
      · exact .inl rfl
    · exact .inl rfl
  · exact .inl rfl

/-! ### need_alike -/
def N_need_alike : List Str := ["one", "other"]
def b_need_alike : List S :=
  [.iff (.op .ne (.bi .len [.var 0]) (.bi .len [.var 1])) [.no] []]
def n_need_alike : Nat := 0
def m_need_alike : List D → R D
  | [.tup l, .tup k] => if l.length = k.length then .ok .non else .stk
  | _ => .stk
theorem run_need_alike (Γ : Mir) (ds : List D) : m_need_alike ds = .stk ∨ runF Γ n_need_alike 2 2 b_need_alike ds = m_need_alike ds := by
  unfold m_need_alike
  split
  · rename_i l k
    split
    · rename_i hh
      right
      rw [runF_eq (by rfl)]
      simp [b_need_alike, hh]
    · exact .inl rfl
  · exact .inl rfl

/-! ### joined -/
def N_joined : List Str := ["one", "other", "row", "line", "a", "b"]
def b_joined : List S :=
  [.expr (.call 20 [.var 0, .var 1]),
   .ret (.bi .tuple [.lc 3 [.var 0, .var 1] true [2, 3] [] (.bi .tuple [.lc 3 [.var 2, .var 3] true [4, 5] [] (.bi .max [.var 4, .var 5]) [4, 5]]) [2, 3]])]
def n_joined : Nat := 0
def joinR (p : List Int × List Int) : List Int := (p.1.zip p.2).map fun q => if q.2 > q.1 then q.2 else q.1
def joinI (s t : List (List Int)) : List (List Int) := (s.zip t).map joinR
def okJ (s t : List (List Int)) : Bool := decide (s.length = t.length ∧ s.length ≤ 1000) && s.all fun r => decide (r.length ≤ 100000)
def m_joined : List D → R D
  | [d, e] => match tabOf d, tabOf e with
    | some s, some t => if okJ s t = true then .ok (tabD (joinI s t)) else .stk
    | _, _ => .stk
  | _ => .stk
theorem joined_eq {s t : List (List Int)} (ok : okJ s t = true) : m_joined [tabD s, tabD t] = .ok (tabD (joinI s t)) := by simp [m_joined, ok]
theorem run_joined (Γ : Mir) (h_need_alike : Γ 20 = (2, m_need_alike)) (ds : List D) : m_joined ds = .stk ∨ runF Γ n_joined 6 2 b_joined ds = m_joined ds := by
  unfold m_joined
  split
  · rename_i d e
    split
    · rename_i s t hs ht
      obtain rfl := tabOf_eq hs
      obtain rfl := tabOf_eq ht
      split
      · rename_i ok
        have ok2 : (s.length = t.length ∧ s.length ≤ 1000) ∧ ∀ r ∈ s, r.length ≤ 100000 := by simpa [okJ] using ok
        obtain ⟨⟨k1, k2⟩, k3⟩ := ok2
        have e1 : m_need_alike [tabD s, tabD t] = .ok .non := by simp [m_need_alike, tabD, k1]
        right
        rw [runF_eq (by rfl)]
        simp (disch := first | (simp; done) | omega) [b_joined, callR_def, h_need_alike, e1, zip_tab]
        rw [lcO_map (fun p => rowD (joinR p)) _ (by simp; omega)]
        · simp [joinI, tabD, Function.comp_def]
        · intro p hp
          have hp1 : p.1 ∈ s := (List.of_mem_zip (a := p.1) (b := p.2) hp).1
          have := k3 _ hp1
          simp (disch := first | (simp; done) | omega) [lcT, pairD, tgF_two, zip_row]
          rw [lcO_map (fun q => .int (if q.2 > q.1 then q.2 else q.1)) _ (by simp; omega)]
          · simp [joinR, rowD, Function.comp_def]
          · intro q _
            simp (disch := first | (simp; done) | omega) [lcT, pairI, tgF_two, gMax]
      · exact .inl rfl
    · exact .inl rfl
  · exact .inl rfl

/-! ### _law_b_draw -/
def N_law_b_draw : List Str := ["script", "k", "mixed", "cell"]
def b_law_b_draw : List S :=
  [.iff (.op .lt (.var 1) (.bi .len [.var 0])) [.ret (.op .mod (.ix (.var 0) (.var 1)) (.op .pow (.int 10) (.int 40)))] [],
   .set 2 (.op .mul (.int 1000003) (.op .add (.var 1) (.int 1))),
   .loop 0 [.sl (.var 0) [] [.int 7]] false [3] [.set 2 (.op .mod (.op .add (.op .add (.op .mul (.var 2) (.int 69621)) (.op .mod (.var 3) (.int 998244353))) (.int 1)) (.int 1000000007))],
   .set 2 (.op .mod (.op .mul (.var 2) (.var 2)) (.int 1000000007)),
   .set 2 (.op .mod (.op .mul (.op .add (.var 2) (.op .mul (.op .mul (.int 7919) (.var 1)) (.var 1))) (.int 48271)) (.int 2147483647)),
   .ret (.op .fdiv (.op .mod (.op .mul (.var 2) (.var 2)) (.int 2147483647)) (.int 8))]
def n_law_b_draw : Nat := 0
def mixI (ns : List Int) (k : Int) : Int := (ns.take 7).foldl (fun m c => (m * 69621 + c % 998244353 + 1) % 1000000007) (1000003 * (k + 1))
def mix2 (ns : List Int) (k : Int) : Int := ((mixI ns k * mixI ns k % 1000000007 + 7919 * k * k) * 48271) % 2147483647
def drawI (ns : List Int) (k : Int) : Int := if k < ns.length then (ns[k.toNat]?).getD 0 % 10 ^ 40 else (mix2 ns k * mix2 ns k % 2147483647) / 8
theorem drawI_bd (ns : List Int) (k : Int) : 0 ≤ drawI ns k ∧ drawI ns k < 10 ^ 40 := by
  unfold drawI
  split
  · exact ⟨Int.emod_nonneg _ (by decide), Int.emod_lt_of_pos _ (by decide)⟩
  · have h1 := Int.emod_nonneg (mix2 ns k * mix2 ns k) (b := 2147483647) (by decide)
    have h2 := Int.emod_lt_of_pos (mix2 ns k * mix2 ns k) (b := 2147483647) (by decide)
    have : (10 : Int) ^ 40 = 10000000000000000000000000000000000000000 := by decide
    omega
theorem mixI_bd (ns : List Int) (k : Int) (h0 : 0 ≤ k) (h1 : k ≤ 10 ^ 20) : (mixI ns k).natAbs < 2 ^ 100 := by
  have : ∀ (l : List Int) (m : Int), m.natAbs < 2 ^ 100 → (l.foldl (fun m c => (m * 69621 + c % 998244353 + 1) % 1000000007) m).natAbs < 2 ^ 100 := by
    intro l
    induction l with
    | nil => exact fun m h => h
    | cons c r ih =>
      intro m h
      refine ih _ ?_
      show ((m * 69621 + c % 998244353 + 1) % 1000000007).natAbs < 2 ^ 100
      have h1 := Int.emod_nonneg (m * 69621 + c % 998244353 + 1) (b := 1000000007) (by decide)
      have h2 := Int.emod_lt_of_pos (m * 69621 + c % 998244353 + 1) (b := 1000000007) (by decide)
      omega
  exact this _ _ (by omega)
def scOf : D → Option (List Int)
  | .lst .cl l => intsOf l
  | _ => none
def m_law_b_draw : List D → R D
  | [.lst .cl l, .int k] => match intsOf l with
    | some ns => if 0 ≤ k ∧ k ≤ 10 ^ 20 then .ok (.int (drawI ns k)) else .stk
    | none => .stk
  | _ => .stk
theorem draw_eq {ns : List Int} {k : Int} (h0 : 0 ≤ k) (h1 : k ≤ 10 ^ 20) : m_law_b_draw [.lst .cl (ns.map .int), .int k] = .ok (.int (drawI ns k)) := by
  unfold m_law_b_draw
  dsimp only
  rw [intsOf_map]
  dsimp only
  rw [if_pos ⟨h0, h1⟩]
theorem run_law_b_draw (Γ : Mir) (ds : List D) : m_law_b_draw ds = .stk ∨ runF Γ n_law_b_draw 4 2 b_law_b_draw ds = m_law_b_draw ds := by
  unfold m_law_b_draw
  split
  · rename_i l k
    split
    · rename_i ns hns
      obtain rfl := intsOf_back hns
      split
      · rename_i hk
        right
        obtain ⟨k0, k1⟩ := hk
        rw [runF_eq (by rfl)]
        simp [b_law_b_draw, Op.g, Bi.g]
        by_cases hl : k < ns.length
        · have e1 : ns[k.toNat]? = some (ns[k.toNat]'(by omega)) := List.getElem?_eq_getElem (by omega)
          simp [hl, gIx_lst k0 hl, drawI, e1]
        · have hm := mixI_bd ns k k0 k1
          rw [if_neg hl, gMul_int (by omega) (by omega)]
          have e7 : gSl none (some (7 : Int)) (D.lst .cl (ns.map .int)) = some (.lst .own ((ns.map D.int).take 7)) := sl_take (k := 7)
          have F := forL_fold (β := Int × Option D) (f := D.int) (turn := turnO (tgF false [3]) (S.evs Γ n_law_b_draw [.set 2 (.op .mod (.op .add (.op .add (.op .mul (.var 2) (.int 69621)) (.op .mod (.var 3) (.int 998244353))) (.int 1)) (.int 1000000007))])) (fun b => [some (D.lst Fl.cl (List.map D.int ns)), some (D.int k), some (.int b.1), b.2]) (fun b c => ((b.1 * 69621 + c % 998244353 + 1) % 1000000007, some (.int c))) (fun b => b.1.natAbs < 2 ^ 100) (ns.take 7) (1000003 * (k + 1), none) (by show Int.natAbs _ < _; omega) (fun b a _ hb => by
            have h1 := Int.emod_nonneg (b.1 * 69621 + a % 998244353 + 1) (b := 1000000007) (by decide)
            have h2 := Int.emod_lt_of_pos (b.1 * 69621 + a % 998244353 + 1) (b := 1000000007) (by decide)
            refine ⟨?_, by show Int.natAbs _ < _; omega⟩
            simp [turnO, Op.g]
            rw [gMul_int (by omega) (by omega)]
            simp)
          have F1 := F.1
          have F2 : (List.foldl (fun (b : Int × Option D) (c : Int) => ((b.1 * 69621 + c % 998244353 + 1) % 1000000007, some (D.int c))) (1000003 * (k + 1), none) (ns.take 7)).1 = mixI ns k := foldl_fst (f := fun m c => (m * 69621 + c % 998244353 + 1) % 1000000007)
          rw [F2] at F1
          generalize hy : (List.foldl (fun (b : Int × Option D) (c : Int) => ((b.1 * 69621 + c % 998244353 + 1) % 1000000007, some (D.int c))) (1000003 * (k + 1), none) (ns.take 7)).2 = y at F1
          dsimp only at F1
          simp [e7, Op.g, ← List.map_take]
          rw [F1]
          have a1 := Int.emod_nonneg (mixI ns k * mixI ns k) (b := 1000000007) (by decide)
          have a2 := Int.emod_lt_of_pos (mixI ns k * mixI ns k) (b := 1000000007) (by decide)
          have a3 := Int.emod_nonneg ((mixI ns k * mixI ns k % 1000000007 + 7919 * k * k) * 48271) (b := 2147483647) (by decide)
          have a4 := Int.emod_lt_of_pos ((mixI ns k * mixI ns k % 1000000007 + 7919 * k * k) * 48271) (b := 2147483647) (by decide)
          have a5 : 0 ≤ 7919 * k * k := Int.mul_nonneg (by omega) k0
          have a6 : 7919 * k * k ≤ 7919 * 10 ^ 20 * 10 ^ 20 := Int.mul_le_mul (by omega) k1 k0 (by decide)
          simp (disch := first | (simp; done) | omega) [gMul_int, gFdiv_int]
          simp [drawI, hl, mix2]
      · exact .inl rfl
    · exact .inl rfl
  · exact .inl rfl

/-! ### _law_b_entry -/
def N_law_b_entry : List Str := ["draw", "way", "rest"]
def b_law_b_entry : List S :=
  [.set 1 (.op .mod (.var 0) (.int 8)),
   .set 2 (.op .fdiv (.var 0) (.int 8)),
   .iff (.op .lt (.var 1) (.int 3)) [.ret (.int 0)] [],
   .iff (.op .lt (.var 1) (.int 6)) [.ret (.op .mod (.var 2) (.int 4))] [],
   .iff (.op .eq (.var 1) (.int 6)) [.ret (.op .mod (.var 2) (.int 100))] [],
   .ret (.op .mod (.var 2) (.op .pow (.int 10) (.int 28)))]
def n_law_b_entry : Nat := 0
def entryI (d : Int) : Int := if d % 8 < 3 then 0 else if d % 8 < 6 then d / 8 % 4 else if d % 8 = 6 then d / 8 % 100 else d / 8 % 10 ^ 28
theorem entryI_bd (d : Int) : 0 ≤ entryI d ∧ entryI d < 10 ^ 28 := by
  have : (10 : Int) ^ 28 = 10000000000000000000000000000 := by decide
  unfold entryI
  rw [this]
  split
  · omega
  split
  · omega
  split <;> omega
def m_law_b_entry : List D → R D
  | [.int d] => .ok (.int (entryI d))
  | _ => .stk
theorem run_law_b_entry (Γ : Mir) (ds : List D) : m_law_b_entry ds = .stk ∨ runF Γ n_law_b_entry 3 1 b_law_b_entry ds = m_law_b_entry ds := by
  unfold m_law_b_entry
  split
  · rename_i d
    right
    rw [runF_eq (by rfl)]
    simp (disch := first | (simp; done) | omega) [b_law_b_entry, gFdiv_int, entryI]
    by_cases h1 : d % 8 < 3
    · simp [h1]
    by_cases h2 : d % 8 < 6
    · simp [h1, h2]
    by_cases h3 : d % 8 = 6
    · simp [h3]
    · simp [h1, h2, h3]
  · exact .inl rfl

/-! ### _law_b_table -/
def N_law_b_table : List Str := ["script", "n", "at", "rows", "i", "j"]
def b_law_b_table : List S :=
  [.set 3 (.lst []),
   .loop 1 [.var 1] false [4] [.mth .append 3 [] [.bi .tuple [.lc 1 [.op .add (.var 1) (.int 1)] false [5] [] (.call 6 [.call 4 [.var 0, .op .add (.op .add (.var 2) (.op .mul (.var 4) (.op .add (.var 1) (.int 1)))) (.var 5)]]) [5]]]],
   .ret (.bi .tuple [.var 3])]
def n_law_b_table : Nat := 0
def rowI (ns : List Int) (n at' : Int) (i : Nat) : List Int := (List.range (n + 1).toNat).map fun (j : Nat) => entryI (drawI ns (at' + i * (n + 1) + j))
def tableI (ns : List Int) (n at' : Int) : List (List Int) := (List.range n.toNat).map (rowI ns n at')
def m_law_b_table : List D → R D
  | [.lst .cl l, .int n, .int a] => match intsOf l with
    | some ns => if 0 ≤ n ∧ n ≤ 100 ∧ 0 ≤ a ∧ a ≤ 1000 then .ok (tabD (tableI ns n a)) else .stk
    | none => .stk
  | _ => .stk
theorem table_eq {ns : List Int} {n a : Int} (h0 : 0 ≤ n) (h1 : n ≤ 100) (h2 : 0 ≤ a) (h3 : a ≤ 1000) : m_law_b_table [.lst .cl (ns.map .int), .int n, .int a] = .ok (tabD (tableI ns n a)) := by
  unfold m_law_b_table
  dsimp only
  rw [intsOf_map]
  dsimp only
  rw [if_pos ⟨h0, h1, h2, h3⟩]
theorem run_law_b_table (Γ : Mir) (h_law_b_entry : Γ 6 = (1, m_law_b_entry)) (h_law_b_draw : Γ 4 = (2, m_law_b_draw)) (ds : List D) : m_law_b_table ds = .stk ∨ runF Γ n_law_b_table 6 3 b_law_b_table ds = m_law_b_table ds := by
  unfold m_law_b_table
  split
  · rename_i l n a
    split
    · rename_i ns hns
      obtain rfl := intsOf_back hns
      split
      · rename_i hk
        obtain ⟨n0, n1, a0, a1⟩ := hk
        right
        rw [runF_eq (by rfl)]
        simp (disch := first | (simp; done) | omega) [b_law_b_table, rng1]
        rw [show D.lst .own [] = D.lst .own (([] : List (List Int)).map rowD) from rfl, forL_coll (fun (acc : List (List Int)) x => [some (D.lst Fl.cl (List.map D.int ns)), some (D.int n), some (D.int a), some (D.lst Fl.own (acc.map rowD)), x, none]) (rowI ns n a) 1000 (List.range n.toNat) [] none (by simp; omega)]
        · simp [tabD, tableI, Function.comp_def]
        · intro acc x i hi hl
          have hi := List.mem_range.mp hi
          simp (disch := first | (simp; done) | omega) [turnO, mth0]
          simp (disch := first | (simp; done) | omega) [rng1]
          rw [lcO_map (fun (j : Nat) => .int (entryI (drawI ns (a + i * (n + 1) + j))))]
          · simp (disch := first | (simp; done) | omega)
            simp (disch := first | (simp [Function.comp_def]; done) | (simp; omega)) [rowD, rowI, Function.comp_def]
          · simp; omega
          · intro j hj
            have hj := List.mem_range.mp hj
            have b1 : 0 ≤ (i : Int) * (n + 1) := Int.mul_nonneg (by omega) (by omega)
            have b2 : (i : Int) * (n + 1) ≤ 100 * 101 := Int.mul_le_mul (by omega) (by omega) (by omega) (by omega)
            have b3 : ((i : Int) * (n + 1)).natAbs < 2 ^ 240 := by omega
            simp (disch := first | (simp; done) | omega) [lcT, gMul_int, callR_def, h_law_b_draw, h_law_b_entry, draw_eq, m_law_b_entry]
      · exact .inl rfl
    · exact .inl rfl
  · exact .inl rfl

/-! ### _law_b_no_more -/
def N_law_b_no_more : List Str := ["row", "line", "draw", "some", "a", "b", "way"]
def b_law_b_no_more : List S :=
  [.set 3 (.lst []),
   .loop 3 [.var 0, .var 1] true [4, 5] [.set 6 (.op .mod (.var 2) (.int 3)), .set 2 (.op .fdiv (.var 2) (.int 3)), .iff (.or (.op .eq (.var 6) (.int 0)) (.op .gt (.var 5) (.var 4))) [.mth .append 3 [] [.var 4]] [.iff (.op .eq (.var 6) (.int 1)) [.mth .append 3 [] [.var 5]] [.mth .append 3 [] [.bi .min [.var 4, .int 1]]]]],
   .ret (.bi .tuple [.var 3])]
def n_law_b_no_more : Nat := 0
def nmV (d : Int) (p : Int × Int) : Int := if d % 3 = 0 then p.1 else if p.1 < p.2 then p.1 else if d % 3 = 1 then p.2 else if 1 < p.1 then 1 else p.1
def nmGo : Int → List (Int × Int) → List Int
  | _, [] => []
  | d, p :: r => nmV d p :: nmGo (d / 3) r
theorem nmV_le (d : Int) (p : Int × Int) : nmV d p ≤ p.1 := by
  unfold nmV
  split
  · omega
  split
  · omega
  split
  · omega
  split <;> omega
theorem nmGo_len : ∀ (l : List (Int × Int)) (d : Int), (nmGo d l).length = l.length
  | [], _ => rfl
  | p :: r, d => by simp [nmGo, nmGo_len r]
theorem nmGo_le : ∀ (l : List (Int × Int)) (d : Int) (i : Nat) (h : i < l.length), (nmGo d l)[i]'(by rw [nmGo_len]; exact h) ≤ (l[i]).1
  | p :: r, d, 0, _ => nmV_le d p
  | p :: r, d, i + 1, h => by
    simp only [nmGo, List.getElem_cons_succ]
    exact nmGo_le r (d / 3) i (by simpa using h)
def m_law_b_no_more : List D → R D
  | [a, b, .int d] => match rowOf a, rowOf b with
    | some r, some l => if r.length ≤ 1000 then .ok (rowD (nmGo d (r.zip l))) else .stk
    | _, _ => .stk
  | _ => .stk
theorem no_more_eq {r l : List Int} {d : Int} (h : r.length ≤ 1000) : m_law_b_no_more [rowD r, rowD l, .int d] = .ok (rowD (nmGo d (r.zip l))) := by simp [m_law_b_no_more, h]
structure NmS where
  d : Int
  acc : List Int
  a : Option D
  b : Option D
  w : Option D
theorem nm_fold : ∀ (l : List (Int × Int)) (b : NmS), (l.foldl (fun (b : NmS) p => ⟨b.d / 3, b.acc ++ [nmV b.d p], some (.int p.1), some (.int p.2), some (.int (b.d % 3))⟩) b).acc = b.acc ++ nmGo b.d l
  | [], b => by simp [nmGo]
  | p :: r, b => by rw [List.foldl_cons, nm_fold r]; simp [nmGo]
theorem run_law_b_no_more (Γ : Mir) (ds : List D) : m_law_b_no_more ds = .stk ∨ runF Γ n_law_b_no_more 7 3 b_law_b_no_more ds = m_law_b_no_more ds := by
  unfold m_law_b_no_more
  split
  · rename_i a b d
    split
    · rename_i r l hr hl
      obtain rfl := rowOf_eq hr
      obtain rfl := rowOf_eq hl
      split
      · rename_i hlen
        right
        rw [runF_eq (by rfl)]
        simp (disch := first | (simp; done) | omega) [b_law_b_no_more, zip_row]
        have F := forL_foldI (f := pairI) (turn := turnO (tgF true [4, 5]) (S.evs Γ n_law_b_no_more [.set 6 (.op .mod (.var 2) (.int 3)), .set 2 (.op .fdiv (.var 2) (.int 3)), .iff (.or (.op .eq (.var 6) (.int 0)) (.op .gt (.var 5) (.var 4))) [.mth .append 3 [] [.var 4]] [.iff (.op .eq (.var 6) (.int 1)) [.mth .append 3 [] [.var 5]] [.mth .append 3 [] [.bi .min [.var 4, .int 1]]]]])) (fun (b : NmS) => [some (rowD r), some (rowD l), some (.int b.d), some (.lst .own (b.acc.map .int)), b.a, b.b, b.w]) (fun (b : NmS) p => ⟨b.d / 3, b.acc ++ [nmV b.d p], some (.int p.1), some (.int p.2), some (.int (b.d % 3))⟩) (fun i b => b.acc.length = i) 100000 (r.zip l) 0 ⟨d, [], none, none, none⟩ (by simp; omega) rfl (fun i b p _ hi hb => by
          refine ⟨?_, by simp [hb]⟩
          simp (disch := first | (simp; done) | omega) [turnO, pairI, tgF_two, gFdiv_int, mth0, gMin, nmV]
          by_cases c1 : b.d % 3 = 0
          · simp (disch := first | (simp; done) | (simp; omega)) [c1]
          · by_cases c2 : p.1 < p.2
            · simp (disch := first | (simp; done) | (simp; omega)) [c1, c2]
            · by_cases c3 : b.d % 3 = 1
              · simp (disch := first | (simp; done) | (simp; omega)) [c1, c2, c3]
              · simp (disch := first | (simp; done) | (simp; omega)) [c1, c2, c3])
        have F1 := F.1
        have F2 := nm_fold (r.zip l) ⟨d, [], none, none, none⟩
        generalize (r.zip l).foldl (fun (b : NmS) p => (⟨b.d / 3, b.acc ++ [nmV b.d p], some (.int p.1), some (.int p.2), some (.int (b.d % 3))⟩ : NmS)) ⟨d, [], none, none, none⟩ = z at F1 F2
        simp at F1 F2
        rw [F1]
        simp [F2, rowD]
      · exact .inl rfl
    · exact .inl rfl
  · exact .inl rfl

end Fe
namespace K05
open PySem L2 Fe
def top (i : Nat) : Stmt := PySem.Challenge.pw_lendwharf_k05_knowing_more.main.body.getD i (.Pass ⟨0, 0, 0, 0⟩)
def blts : List Str := ["ValueError", "tuple", "range", "zip", "list", "sum", "len", "max", "min"]
def csts : List (Str × D) := []
def gam : Mir := mirA [(11, 2, m_need_house), (12, 2, m_lent_by), (13, 2, m_lent_to), (14, 2, m_rights), (20, 2, m_need_alike), (27, 2, m_joined), (4, 2, m_law_b_draw), (6, 1, m_law_b_entry), (7, 3, m_law_b_table), (32, 3, m_law_b_no_more)]
def N_law : List Str := ["script", "n", "draw", "house", "first", "second", "more", "other", "found", "both", "rows", "line", "k"]
def b_law : List S :=
  [.set 1 (.op .add (.int 2) (.op .mod (.call 4 [.var 0, .int 0]) (.int 3))),
   .set 2 (.call 4 [.var 0, .int 1]),
   .set 3 (.op .mod (.var 2) (.var 1)),
   .set 4 (.call 7 [.var 0, .var 1, .int 2]),
   .set 5 (.bi .list [.call 7 [.var 0, .var 1, .int 22]]),
   .store 5 [] (.var 3) (.call 32 [.ix (.var 4) (.var 3), .ix (.var 5) (.var 3), .op .fdiv (.var 2) (.int 12)]),
   .set 5 (.bi .tuple [.var 5]),
   .set 6 (.int 0),
   .loop 1 [.var 1] false [7] [.iff (.and (.op .ne (.var 7) (.var 3)) (.op .gt (.ix (.ix (.var 5) (.var 7)) (.var 3)) (.ix (.ix (.var 4) (.var 7)) (.var 3)))) [.set 6 (.op .sub (.op .add (.var 6) (.ix (.ix (.var 5) (.var 7)) (.var 3))) (.ix (.ix (.var 4) (.var 7)) (.var 3)))] []],
   .set 8 (.call 14 [.call 27 [.var 4, .var 5], .var 3]),
   .iff (.or (.op .lt (.var 6) (.int 0)) (.or (.op .ne (.var 8) (.op .add (.call 14 [.var 4, .var 3]) (.var 6))) (.op .ne (.call 14 [.call 27 [.var 5, .var 4], .var 3]) (.var 8)))) [.ret (.bl false)] [],
   .set 9 (.call 27 [.var 4, .var 5]),
   .set 10 (.lst []),
   .loop 1 [.var 1] false [7] [.set 11 (.lc 1 [.op .add (.var 1) (.int 1)] false [12] [] (.op .add (.ix (.ix (.var 9) (.var 7)) (.var 12)) (.op .mod (.call 4 [.var 0, .op .add (.op .add (.int 42) (.op .mul (.var 7) (.op .add (.var 1) (.int 1)))) (.var 12)]) (.int 4))) [12]), .store 11 [] (.var 3) (.ix (.ix (.var 9) (.var 7)) (.var 3)), .mth .append 10 [] [.bi .tuple [.var 11]]],
   .store 10 [] (.var 3) (.ix (.var 9) (.var 3)),
   .ret (.op .eq (.call 14 [.bi .tuple [.var 10], .var 3]) (.var 8))]
def n_law : Nat := 0
theorem g4 : gam 4 = (2, m_law_b_draw) := rfl
theorem g7 : gam 7 = (3, m_law_b_table) := rfl
theorem g32 : gam 32 = (3, m_law_b_no_more) := rfl
theorem g14 : gam 14 = (2, m_rights) := rfl
theorem g27 : gam 27 = (2, m_joined) := rfl
theorem tableI_wf (ns : List Int) (n a : Int) (h : 0 ≤ n) : wfB (tableI ns n a) = true := by
  unfold wfB
  refine List.all_eq_true.mpr fun r hr => ?_
  unfold tableI at hr ⊢
  obtain ⟨i, _, rfl⟩ := List.mem_map.mp hr
  simp [rowI]
  omega
theorem tableI_len (ns : List Int) (n a : Int) : (tableI ns n a).length = n.toNat := by simp [tableI]
theorem joinI_len {s t : List (List Int)} (l : s.length = t.length) : (joinI s t).length = s.length := by simp [joinI, l]
theorem joinR_len {r l : List Int} (e : r.length = l.length) : (joinR (r, l)).length = r.length := by simp [joinR, e]
theorem joinI_row {s t : List (List Int)} {i : Nat} (l : s.length = t.length) (h : i < s.length) : rowA (joinI s t) i = joinR (rowA s i, rowA t i) := by
  rw [rowA_nat (by rw [joinI_len l]; exact h), rowA_nat h, rowA_nat (by omega)]
  simp [joinI]
theorem joinR_cell {r l : List Int} {i : Nat} (e : r.length = l.length) (h : i < r.length) : cellA (joinR (r, l)) i = if cellA l i > cellA r i then cellA l i else cellA r i := by
  rw [cellA_nat (by rw [joinR_len e]; exact h), cellA_nat h, cellA_nat (by omega)]
  simp [joinR]
theorem joinI_wf {s t : List (List Int)} (l : s.length = t.length) (ws : wfB s = true) (wt : wfB t = true) : wfB (joinI s t) = true := by
  unfold wfB
  refine List.all_eq_true.mpr fun r hr => ?_
  rw [joinI_len l]
  obtain ⟨p, hp, rfl⟩ := List.mem_map.mp hr
  obtain ⟨h1, h2⟩ := List.of_mem_zip (a := p.1) (b := p.2) hp
  have a := wf_row ws h1
  have b := wf_row wt h2
  have := joinR_len (r := p.1) (l := p.2) (by omega)
  simp [this, a]
theorem okJ_of {s t : List (List Int)} (l : s.length = t.length) (b : s.length ≤ 1000) (ws : wfB s = true) : okJ s t = true := by
  unfold okJ
  rw [Bool.and_eq_true]
  refine ⟨decide_eq_true ⟨l, b⟩, List.all_eq_true.mpr fun r hr => decide_eq_true ?_⟩
  have := wf_row ws hr
  omega
theorem joinR_comm {r l : List Int} (e : r.length = l.length) : joinR (r, l) = joinR (l, r) := by
  refine List.ext_getElem (by simp [joinR, e]) fun i h1 h2 => ?_
  simp [joinR]
  split <;> split <;> omega
theorem joinR_low {r l : List Int} (e : r.length = l.length) (h : ∀ i : Nat, i < r.length → cellA l i ≤ cellA r i) : joinR (r, l) = r := by
  refine List.ext_getElem (by simp [joinR, e]) fun i h1 h2 => ?_
  have := h i h2
  rw [cellA_nat (by omega), cellA_nat h2] at this
  simp [joinR]
  omega
/-- how much more of the house's own is told by the second -/
def moreI (t u : List (List Int)) (n : Nat) (h : Int) (i : Nat) : Int := if (i : Int) ≠ h then (if cellA (rowA t i) h < cellA (rowA u i) h then cellA (rowA u i) h - cellA (rowA t i) h else 0) else 0
theorem more_nonneg (t u : List (List Int)) (n : Nat) (h : Int) (i : Nat) : 0 ≤ moreI t u n h i := by
  unfold moreI
  split
  · split <;> omega
  · omega
theorem join_rights {t u : List (List Int)} {h : Int} (h0 : 0 ≤ h) (h1 : h < t.length) (l : t.length = u.length) (wt : wfB t = true) (wu : wfB u = true) (low : ∀ i : Nat, i < t.length + 1 → cellA (rowA u h) i ≤ cellA (rowA t h) i) :
    rightsI (joinI t u) h = rightsI t h + ((List.range t.length).map (moreI t u t.length h)).sum := by
  have hh : h = (h.toNat : Int) := by omega
  have lt := wf_len wt h0 h1
  have lu := wf_len wu h0 (by omega)
  have er : rowA (joinI t u) h = rowA t h := by
    rw [hh, joinI_row l (by omega), ← hh]
    exact joinR_low (by omega) fun i hi => low i (by omega)
  have ec : ((joinI t u).map fun r => cellA r h).sum = (t.map fun r => cellA r h).sum + ((List.range t.length).map (moreI t u t.length h)).sum := by
    rw [sum_rows, sum_rows, joinI_len l, ← sum_add]
    refine sum_congr fun i hi => ?_
    have hi := List.mem_range.mp hi
    have a := wf_len wt (h := (i : Int)) (by omega) (by omega)
    have b := wf_len wu (h := (i : Int)) (by omega) (by omega)
    rw [joinI_row l hi]
    have := joinR_cell (r := rowA t i) (l := rowA u i) (i := h.toNat) (by omega) (by omega)
    rw [← hh] at this
    rw [this]
    unfold moreI
    by_cases e : (i : Int) = h
    · have q := low h.toNat (by omega)
      rw [← hh] at q
      rw [e, if_neg (by omega)]
      simp
    · rw [if_pos e]
      split <;> omega
  unfold rightsI lentToI lentByI
  rw [er, ec, joinI_len l]
  omega
structure AccS where
  acc : List (List Int)
  a : Option D
  b : Option D
theorem acc_fold {g : Nat → List Int} {p q : Nat → Option D} : ∀ (l : List Nat) (b : AccS), (l.foldl (fun (b : AccS) i => ⟨b.acc ++ [g i], p i, q i⟩) b).acc = b.acc ++ l.map g
  | [], b => by simp
  | i :: r, b => by rw [List.foldl_cons, acc_fold r]; simp
def lineI (ns : List Int) (J : List (List Int)) (n : Int) (i : Nat) : List Int := (List.range (n + 1).toNat).map fun (k : Nat) => cellA (rowA J i) k + drawI ns (42 + i * (n + 1) + k) % 4
def lineS (ns : List Int) (J : List (List Int)) (n h : Int) (i : Nat) : List Int := (lineI ns J n i).set h.toNat (cellA (rowA J i) h)
theorem lineS_len (ns : List Int) (J : List (List Int)) (n h : Int) (i : Nat) : (lineS ns J n h i).length = (n + 1).toNat := by simp [lineS, lineI]
theorem law_true (ns : List Int) (hl : ns.length ≤ 63) : runF gam n_law 13 1 b_law [script ns] = .ok (.bl true) := by
  rw [runF_eq (by rfl), show b_law = b_law.take 5 ++ ((b_law.drop 5).take 3 ++ ((b_law.drop 8).take 1 ++ ((b_law.drop 9).take 4 ++ ((b_law.drop 13).take 1 ++ b_law.drop 14)))) from rfl, evs_append]
  generalize hB : S.evs gam n_law ((b_law.drop 5).take 3 ++ ((b_law.drop 8).take 1 ++ ((b_law.drop 9).take 4 ++ ((b_law.drop 13).take 1 ++ b_law.drop 14)))) = B
  simp (disch := first | (simp; done) | omega) [b_law, script, callR_def, g4, draw_eq]
  have n0 := Int.emod_nonneg (drawI ns 0) (b := 3) (by decide)
  have n1 := Int.emod_lt_of_pos (drawI ns 0) (b := 3) (by decide)
  generalize hn : 2 + drawI ns 0 % 3 = n
  have n2 : 2 ≤ n := by omega
  have n3 : n ≤ 4 := by omega
  have w0 := Int.emod_nonneg (drawI ns 1) (b := n) (by omega)
  have w1 := Int.emod_lt_of_pos (drawI ns 1) (b := n) (by omega)
  generalize drawI ns 1 = dr at w0 w1
  simp (disch := first | (simp; done) | omega) [callR_def, g7, table_eq]
  have wt := tableI_wf ns n 2 (by omega)
  have wu := tableI_wf ns n 22 (by omega)
  have lt : ((tableI ns n 2).length : Int) = n := by rw [tableI_len]; omega
  have lu : ((tableI ns n 22).length : Int) = n := by rw [tableI_len]; omega
  have e0 : gListF [tabD (tableI ns n 22)] = some (.lst .own ((tableI ns n 22).map rowD)) := rfl
  generalize tableI ns n 2 = t at wt lt
  generalize tableI ns n 22 = u at wu lu e0
  generalize dr % n = h at w0 w1
  rw [e0]
  simp (disch := first | (simp; done) | omega) [Function.comp_def]
  subst hB
  rw [evs_append]
  have rt := wf_len wt w0 (by omega)
  have ru := wf_len wu w0 (by omega)
  generalize hr : nmGo (dr / 12) ((rowA t h).zip (rowA u h)) = r
  have lr : (r.length : Int) = n + 1 := by rw [← hr, nmGo_len, List.length_zip]; omega
  have low : ∀ i : Nat, i < t.length + 1 → cellA r i ≤ cellA (rowA t h) i := by
    intro i hi
    have hz : i < ((rowA t h).zip (rowA u h)).length := by rw [List.length_zip]; omega
    have := nmGo_le _ (dr / 12) i hz
    rw [cellA_nat (by omega), cellA_nat (by omega)]
    simp only [← hr]
    simpa using this
  have e1 : S.evs gam n_law ((b_law.drop 5).take 3) [some (D.lst .cl (ns.map .int)), some (.int n), some (.int dr), some (.int h), some (tabD t), some (.lst .own (u.map rowD)), none, none, none, none, none, none, none]
      = .nx [some (D.lst .cl (ns.map .int)), some (.int n), some (.int dr), some (.int h), some (tabD t), some (tabD (u.set h.toNat r)), some (.int 0), none, none, none, none, none, none] := by
    simp [b_law]
    rw [store0 (k := h) (l := u.map rowD) (d := rowD r) rfl (by
      have e2 : gIx (.lst .bo (u.map rowD)) (.int h) = some (rowD (rowA u h)) := ix_tab w0 (by omega)
      simp (disch := first | (simp; done) | omega) [callR_def, g32, ix_tab, Function.comp_def, e2, gFdiv_int, no_more_eq, hr]) rfl w0 (by simp; omega) (by simp)]
    rw [show (u.map rowD).set h.toNat (rowD r) = (u.set h.toNat r).map rowD from List.map_set.symm]
    generalize u.set h.toNat r = u3
    simp [tabD, Function.comp_def]
  rw [e1]
  generalize hu : u.set h.toNat r = u2
  have lu2 : (u2.length : Int) = n := by rw [← hu, List.length_set]; exact lu
  have wu2 : wfB u2 = true := by rw [← hu]; exact wf_set wu (by omega)
  have hu2 : rowA u2 h = r := by rw [← hu, rowA_set w0 (by omega) w0, if_pos rfl]
  rw [seq_nx', evs_append]
  -- what is told more
  obtain ⟨X, e2⟩ : ∃ X, S.evs gam n_law ((b_law.drop 8).take 1) [some (D.lst .cl (ns.map .int)), some (.int n), some (.int dr), some (.int h), some (tabD t), some (tabD u2), some (.int 0), none, none, none, none, none, none]
      = .nx [some (D.lst .cl (ns.map .int)), some (.int n), some (.int dr), some (.int h), some (tabD t), some (tabD u2), some (.int ((List.range t.length).map (moreI t u2 t.length h)).sum), X, none, none, none, none, none] := by
    refine ⟨((List.range t.length).foldl (fun (b : Int × Option D) (i : Nat) => (b.1 + moreI t u2 t.length h i, some (.int i))) (0, none)).2, ?_⟩
    simp (disch := first | (simp; done) | omega) [b_law, rng1]
    rw [show n.toNat = t.length by omega]
    rw [(forL_fold (β := Int × Option D) (f := fun (i : Nat) => D.int i) (fun b => [some (D.lst .cl (ns.map .int)), some (.int n), some (.int dr), some (.int h), some (tabD t), some (tabD u2), some (.int b.1), b.2, none, none, none, none, none]) (fun b (i : Nat) => (b.1 + moreI t u2 t.length h i, some (.int i))) (fun _ => True) (List.range t.length) (0, none) trivial ?_).1]
    · rw [seq_nx', evs_nil, foldl_fst (f := fun m (i : Nat) => m + moreI t u2 t.length h i), foldl_sum, Int.zero_add]
    · intro b i hi _
      have hi := List.mem_range.mp hi
      refine ⟨?_, trivial⟩
      have r1 := wf_len wt (h := (i : Int)) (by omega) (by omega)
      have r2 := wf_len wu2 (h := (i : Int)) (by omega) (by omega)
      simp (disch := first | (simp; done) | omega) [turnO, ix_tab, ix_row]
      unfold moreI
      by_cases c1 : (i : Int) = h
      · simp [c1]
      · by_cases c2 : cellA (rowA t i) h < cellA (rowA u2 i) h
        · simp [c1, c2]; omega
        · simp [c1, c2]
  rw [e2, seq_nx', evs_append]
  -- the two joined
  have J1 := join_rights w0 (by omega) (by omega) wt wu2 (fun i hi => by rw [hu2]; exact low i hi)
  have M0 : 0 ≤ ((List.range t.length).map (moreI t u2 t.length h)).sum := sum_nonneg fun i _ => more_nonneg _ _ _ _ _
  generalize ((List.range t.length).map (moreI t u2 t.length h)).sum = M at J1 M0
  have l2 : t.length = u2.length := by omega
  have okt : okTH t h = true := okTH_of.mpr ⟨wt, w0, by omega, by omega⟩
  have oj := okJ_of l2 (by omega) wt
  have oj2 := okJ_of l2.symm (by omega) wu2
  have ecomm : joinI u2 t = joinI t u2 := by
    refine List.ext_getElem (by simp [joinI]; omega) fun i h1 h2 => ?_
    have i1 : i < t.length := by simp [joinI] at h2; omega
    have a := wf_len wt (h := (i : Int)) (by omega) (by omega)
    have b := wf_len wu2 (h := (i : Int)) (by omega) (by omega)
    rw [rowA_nat i1] at a
    rw [rowA_nat (by omega)] at b
    simp [joinI]
    exact joinR_comm (by omega)
  have lJ : ((joinI t u2).length : Int) = n := by rw [joinI_len l2]; omega
  have wJ := joinI_wf l2 wt wu2
  have okJh : okTH (joinI t u2) h = true := okTH_of.mpr ⟨wJ, w0, by omega, by omega⟩
  have e3 : S.evs gam n_law ((b_law.drop 9).take 4) [some (D.lst .cl (ns.map .int)), some (.int n), some (.int dr), some (.int h), some (tabD t), some (tabD u2), some (.int M), X, none, none, none, none, none]
      = .nx [some (D.lst .cl (ns.map .int)), some (.int n), some (.int dr), some (.int h), some (tabD t), some (tabD u2), some (.int M), X, some (.int (rightsI (joinI t u2) h)), some (tabD (joinI t u2)), some (.lst .own []), none, none] := by
    have c1 : ¬ M < 0 := by omega
    simp (disch := first | (simp; done) | omega) [b_law, callR_def, g14, g27, joined_eq oj, joined_eq oj2, rights_eq okt, rights_eq okJh, ecomm, c1, J1]
  rw [e3, seq_nx', evs_append]
  generalize joinI t u2 = J at lJ wJ okJh
  obtain ⟨Y, Z, e4⟩ : ∃ Y Z, S.evs gam n_law ((b_law.drop 13).take 1) [some (D.lst .cl (ns.map .int)), some (.int n), some (.int dr), some (.int h), some (tabD t), some (tabD u2), some (.int M), X, some (.int (rightsI J h)), some (tabD J), some (.lst .own []), none, none]
      = .nx [some (D.lst .cl (ns.map .int)), some (.int n), some (.int dr), some (.int h), some (tabD t), some (tabD u2), some (.int M), Y, some (.int (rightsI J h)), some (tabD J), some (.lst .own (((List.range n.toNat).map (lineS ns J n h)).map rowD)), Z, none] := by
    have F := forL_foldI (f := fun (i : Nat) => D.int i) (turn := turnO (tgF false [7]) (S.evs gam n_law [.set 11 (.lc 1 [.op .add (.var 1) (.int 1)] false [12] [] (.op .add (.ix (.ix (.var 9) (.var 7)) (.var 12)) (.op .mod (.call 4 [.var 0, .op .add (.op .add (.int 42) (.op .mul (.var 7) (.op .add (.var 1) (.int 1)))) (.var 12)]) (.int 4))) [12]), .store 11 [] (.var 3) (.ix (.ix (.var 9) (.var 7)) (.var 3)), .mth .append 10 [] [.bi .tuple [.var 11]]])) (fun (b : AccS) => [some (D.lst .cl (ns.map .int)), some (.int n), some (.int dr), some (.int h), some (tabD t), some (tabD u2), some (.int M), b.a, some (.int (rightsI J h)), some (tabD J), some (.lst .own (b.acc.map rowD)), b.b, none]) (fun (b : AccS) (i : Nat) => ⟨b.acc ++ [lineS ns J n h i], some (.int i), some (.lst .own ((lineS ns J n h i).map .int))⟩) (fun i b => b.acc.length = i) 1000 (List.range n.toNat) 0 ⟨[], X, none⟩ (by simp; omega) rfl (fun i b a ha hi hb => by
      have ha := List.mem_range.mp ha
      refine ⟨?_, by simp [hb]⟩
      have r1 := wf_len wJ (h := (a : Int)) (by omega) (by omega)
      have ll : (lineI ns J n a).length = (n + 1).toNat := by simp [lineI]
      simp (disch := first | (simp; done) | omega) [turnO, rng1]
      rw [lcO_map (fun (k : Nat) => .int (cellA (rowA J a) k + drawI ns (42 + a * (n + 1) + k) % 4)) _ (by simp; omega)]
      rotate_left
      · intro k hk
        have hk := List.mem_range.mp hk
        have b1 : 0 ≤ (a : Int) * (n + 1) := Int.mul_nonneg (by omega) (by omega)
        have b2 : (a : Int) * (n + 1) ≤ 10 * 10 := Int.mul_le_mul (by omega) (by omega) (by omega) (by omega)
        simp (disch := first | (simp; done) | omega) [lcT, ix_tab, ix_row, gMul_int, callR_def, g4, draw_eq]
      have el : D.lst .own ((List.range (n + 1).toNat).map fun (k : Nat) => .int (cellA (rowA J a) k + drawI ns (42 + a * (n + 1) + k) % 4)) = .lst .own ((lineI ns J n a).map .int) := by simp [lineI, Function.comp_def]
      rw [el, thenO_ok', setO_of (by simp) (by simp)]
      simp
      rw [store0 (k := h) (l := (lineI ns J n a).map .int) (d := .int (cellA (rowA J a) h)) rfl (by simp (disch := first | (simp; done) | omega) [ix_tab, ix_row]) rfl w0 (by simp [ll]; omega) (by simp)]
      have es : ((lineI ns J n a).map D.int).set h.toNat (.int (cellA (rowA J a) h)) = (lineS ns J n h a).map .int := List.map_set.symm
      rw [es, seq_nx']
      simp (disch := first | (simp; done) | omega) [mth0]
      rw [txAppend_of (by simp) (by simp [hb]; omega)]
      simp [rowD])
    have F1 := F.1
    have F2 := acc_fold (g := lineS ns J n h) (p := fun i => some (.int i)) (q := fun i => some (.lst .own ((lineS ns J n h i).map .int))) (List.range n.toNat) ⟨[], X, none⟩
    generalize (List.range n.toNat).foldl (fun (b : AccS) (i : Nat) => (⟨b.acc ++ [lineS ns J n h i], some (.int i), some (.lst .own ((lineS ns J n h i).map .int))⟩ : AccS)) ⟨[], X, none⟩ = z at F1 F2
    refine ⟨z.a, z.b, ?_⟩
    simp only [List.nil_append] at F2
    rw [F2] at F1
    simp (disch := first | (simp; done) | omega) [b_law, rng1]
    simp only [List.map_nil] at F1
    rw [F1]
    simp
  rw [e4, seq_nx']
  generalize hR : (List.range n.toNat).map (lineS ns J n h) = Rw
  have lR : (Rw.length : Int) = n := by rw [← hR]; simp; omega
  have wR : wfB Rw = true := by
    unfold wfB
    refine List.all_eq_true.mpr fun x hx => ?_
    rw [← hR] at hx
    obtain ⟨i, _, rfl⟩ := List.mem_map.mp hx
    simp [lineS_len]
    omega
  have rJ := wf_len wJ w0 (by omega)
  have wR2 : wfB (Rw.set h.toNat (rowA J h)) = true := wf_set wR (by omega)
  have okR : okTH (Rw.set h.toNat (rowA J h)) h = true := okTH_of.mpr ⟨wR2, w0, by rw [List.length_set]; omega, by rw [List.length_set]; omega⟩
  have same : rightsI (Rw.set h.toNat (rowA J h)) h = rightsI J h := by
    refine rights_same w0 (by rw [List.length_set]; omega) (by rw [List.length_set]; omega) (by rw [rowA_set w0 (by omega) w0, if_pos rfl]) fun i hi => ?_
    rw [List.length_set] at hi
    rw [rowA_set w0 (by omega) (by omega)]
    split
    · rename_i e; rw [e]
    · have e : rowA Rw i = lineS ns J n h i := by
        rw [rowA_nat hi]
        simp only [← hR]
        simp
      rw [e]
      unfold lineS
      rw [cellA_set w0 (by simp [lineI]; omega) w0, if_pos rfl]
  simp [b_law]
  rw [store0 (k := h) (l := Rw.map rowD) (d := rowD (rowA J h)) rfl (by simp (disch := first | (simp; done) | omega) [ix_tab]) rfl w0 (by simp; omega) (by simp)]
  rw [show (Rw.map rowD).set h.toNat (rowD (rowA J h)) = (Rw.set h.toNat (rowA J h)).map rowD from List.map_set.symm]
  generalize Rw.set h.toNat (rowA J h) = R2 at okR same
  have e5 := rights_eq okR
  unfold tabD at e5
  simp (disch := first | (simp; done) | omega) [callR_def, g14, Function.comp_def, e5, same]

def fid_need_house : List (Str × Nat) := []
def g_need_house : Cfg := ⟨N_need_house, defScope (top 5), blts, fid_need_house, csts⟩
theorem c_need_house : mapO (compS 30 [] g_need_house 30) (defBody (top 5)) = some b_need_house := comp_eq (by decide +kernel)
theorem s_need_house : FnScope N_need_house ["table", "house"] (defScope (top 5)) := ⟨rfl, rfl, rfl, by decide +kernel, rfl, by decide +kernel, by decide +kernel⟩
def fid_lent_by : List (Str × Nat) := []
def g_lent_by : Cfg := ⟨N_lent_by, defScope (top 6), blts, fid_lent_by, csts⟩
theorem c_lent_by : mapO (compS 30 [] g_lent_by 30) (defBody (top 6)) = some b_lent_by := comp_eq (by decide +kernel)
theorem s_lent_by : FnScope N_lent_by ["table", "house"] (defScope (top 6)) := ⟨rfl, rfl, rfl, by decide +kernel, rfl, by decide +kernel, by decide +kernel⟩
def fid_lent_to : List (Str × Nat) := []
def g_lent_to : Cfg := ⟨N_lent_to, defScope (top 7), blts, fid_lent_to, csts⟩
theorem c_lent_to : mapO (compS 30 [] g_lent_to 30) (defBody (top 7)) = some b_lent_to := comp_eq (by decide +kernel)
theorem s_lent_to : FnScope N_lent_to ["table", "house"] (defScope (top 7)) := ⟨rfl, rfl, rfl, by decide +kernel, rfl, by decide +kernel, by decide +kernel⟩
def fid_rights : List (Str × Nat) := [("need_house", 11), ("lent_by", 12), ("lent_to", 13)]
def g_rights : Cfg := ⟨N_rights, defScope (top 8), blts, fid_rights, csts⟩
theorem c_rights : mapO (compS 30 [] g_rights 30) (defBody (top 8)) = some b_rights := comp_eq (by decide +kernel)
theorem s_rights : FnScope N_rights ["table", "house"] (defScope (top 8)) := ⟨rfl, rfl, rfl, by decide +kernel, rfl, by decide +kernel, by decide +kernel⟩
def fid_need_alike : List (Str × Nat) := []
def g_need_alike : Cfg := ⟨N_need_alike, defScope (top 9), blts, fid_need_alike, csts⟩
theorem c_need_alike : mapO (compS 30 [] g_need_alike 30) (defBody (top 9)) = some b_need_alike := comp_eq (by decide +kernel)
theorem s_need_alike : FnScope N_need_alike ["one", "other"] (defScope (top 9)) := ⟨rfl, rfl, rfl, by decide +kernel, rfl, by decide +kernel, by decide +kernel⟩
def fid_joined : List (Str × Nat) := [("need_alike", 20)]
def g_joined : Cfg := ⟨N_joined, defScope (top 10), blts, fid_joined, csts⟩
theorem c_joined : mapO (compS 30 [] g_joined 30) (defBody (top 10)) = some b_joined := comp_eq (by decide +kernel)
theorem s_joined : FnScope N_joined ["one", "other"] (defScope (top 10)) := ⟨rfl, rfl, rfl, by decide +kernel, rfl, by decide +kernel, by decide +kernel⟩
def fid_law_b_draw : List (Str × Nat) := []
def g_law_b_draw : Cfg := ⟨N_law_b_draw, defScope (top 12), blts, fid_law_b_draw, csts⟩
theorem c_law_b_draw : mapO (compS 30 [] g_law_b_draw 30) (defBody (top 12)) = some b_law_b_draw := comp_eq (by decide +kernel)
theorem s_law_b_draw : FnScope N_law_b_draw ["script", "k"] (defScope (top 12)) := ⟨rfl, rfl, rfl, by decide +kernel, rfl, by decide +kernel, by decide +kernel⟩
def fid_law_b_entry : List (Str × Nat) := []
def g_law_b_entry : Cfg := ⟨N_law_b_entry, defScope (top 13), blts, fid_law_b_entry, csts⟩
theorem c_law_b_entry : mapO (compS 30 [] g_law_b_entry 30) (defBody (top 13)) = some b_law_b_entry := comp_eq (by decide +kernel)
theorem s_law_b_entry : FnScope N_law_b_entry ["draw"] (defScope (top 13)) := ⟨rfl, rfl, rfl, by decide +kernel, rfl, by decide +kernel, by decide +kernel⟩
def fid_law_b_table : List (Str × Nat) := [("_law_b_entry", 6), ("_law_b_draw", 4)]
def g_law_b_table : Cfg := ⟨N_law_b_table, defScope (top 14), blts, fid_law_b_table, csts⟩
theorem c_law_b_table : mapO (compS 30 [] g_law_b_table 30) (defBody (top 14)) = some b_law_b_table := comp_eq (by decide +kernel)
theorem s_law_b_table : FnScope N_law_b_table ["script", "n", "at"] (defScope (top 14)) := ⟨rfl, rfl, rfl, by decide +kernel, rfl, by decide +kernel, by decide +kernel⟩
def fid_law_b_no_more : List (Str × Nat) := []
def g_law_b_no_more : Cfg := ⟨N_law_b_no_more, defScope (top 15), blts, fid_law_b_no_more, csts⟩
theorem c_law_b_no_more : mapO (compS 30 [] g_law_b_no_more 30) (defBody (top 15)) = some b_law_b_no_more := comp_eq (by decide +kernel)
theorem s_law_b_no_more : FnScope N_law_b_no_more ["row", "line", "draw"] (defScope (top 15)) := ⟨rfl, rfl, rfl, by decide +kernel, rfl, by decide +kernel, by decide +kernel⟩
def fid_law : List (Str × Nat) := [("_law_b_draw", 4), ("_law_b_table", 7), ("_law_b_no_more", 32), ("rights", 14), ("joined", 27)]
def g_law : Cfg := ⟨N_law, defScope (top 16), blts, fid_law, csts⟩
theorem c_law : mapO (compS 30 [] g_law 30) (defBody (top 16)) = some b_law := comp_eq (by decide +kernel)
theorem s_law : FnScope N_law ["script"] (defScope (top 16)) := ⟨rfl, rfl, rfl, by decide +kernel, rfl, by decide +kernel, by decide +kernel⟩
theorem all_mk {P : Program} {w : World} {K : PySem.W.Frag} {h : Heap} {mg : Str → Option Value} {fa : Addr} (X : K.In h) (G : h.Ns mainGlobals mg) (hfa : mg "law" = some (.ref fa))
    {f_need_house : Addr} {od_need_house an_need_house : Option Addr} {sl_need_house : Array (Option Value)} {oc_need_house kV_need_house dc_need_house pm_need_house cd_need_house ct_need_house : Value}
    {f_lent_by : Addr} {od_lent_by an_lent_by : Option Addr} {sl_lent_by : Array (Option Value)} {oc_lent_by kV_lent_by dc_lent_by pm_lent_by cd_lent_by ct_lent_by : Value}
    {f_lent_to : Addr} {od_lent_to an_lent_to : Option Addr} {sl_lent_to : Array (Option Value)} {oc_lent_to kV_lent_to dc_lent_to pm_lent_to cd_lent_to ct_lent_to : Value}
    {f_rights : Addr} {od_rights an_rights : Option Addr} {sl_rights : Array (Option Value)} {oc_rights kV_rights dc_rights pm_rights cd_rights ct_rights : Value}
    {f_need_alike : Addr} {od_need_alike an_need_alike : Option Addr} {sl_need_alike : Array (Option Value)} {oc_need_alike kV_need_alike dc_need_alike pm_need_alike cd_need_alike ct_need_alike : Value}
    {f_joined : Addr} {od_joined an_joined : Option Addr} {sl_joined : Array (Option Value)} {oc_joined kV_joined dc_joined pm_joined cd_joined ct_joined : Value}
    {f_law_b_draw : Addr} {od_law_b_draw an_law_b_draw : Option Addr} {sl_law_b_draw : Array (Option Value)} {oc_law_b_draw kV_law_b_draw dc_law_b_draw pm_law_b_draw cd_law_b_draw ct_law_b_draw : Value}
    {f_law_b_entry : Addr} {od_law_b_entry an_law_b_entry : Option Addr} {sl_law_b_entry : Array (Option Value)} {oc_law_b_entry kV_law_b_entry dc_law_b_entry pm_law_b_entry cd_law_b_entry ct_law_b_entry : Value}
    {f_law_b_table : Addr} {od_law_b_table an_law_b_table : Option Addr} {sl_law_b_table : Array (Option Value)} {oc_law_b_table kV_law_b_table dc_law_b_table pm_law_b_table cd_law_b_table ct_law_b_table : Value}
    {f_law_b_no_more : Addr} {od_law_b_no_more an_law_b_no_more : Option Addr} {sl_law_b_no_more : Array (Option Value)} {oc_law_b_no_more kV_law_b_no_more dc_law_b_no_more pm_law_b_no_more cd_law_b_no_more ct_law_b_no_more : Value}
    {f_law : Addr} {od_law an_law : Option Addr} {sl_law : Array (Option Value)} {oc_law kV_law dc_law pm_law cd_law ct_law : Value}
    (a_need_house : PySem.W.nsIn K mainGlobals "need_house" = some (some (.ref f_need_house))) (l_need_house : K.lookup f_need_house = some ⟨oc_need_house, od_need_house, .func (PySem.W.fnOf "need_house" "need_house" (defArgs (top 5)) (defBody (top 5)) (defScope (top 5)) .none kV_need_house dc_need_house pm_need_house an_need_house cd_need_house ct_need_house), sl_need_house⟩) (q_need_house : PySem.W.codeIn K cd_need_house "need_house" = true) (k_need_house : PySem.W.keepIn K (.ref f_need_house) = true)
    (a_lent_by : PySem.W.nsIn K mainGlobals "lent_by" = some (some (.ref f_lent_by))) (l_lent_by : K.lookup f_lent_by = some ⟨oc_lent_by, od_lent_by, .func (PySem.W.fnOf "lent_by" "lent_by" (defArgs (top 6)) (defBody (top 6)) (defScope (top 6)) .none kV_lent_by dc_lent_by pm_lent_by an_lent_by cd_lent_by ct_lent_by), sl_lent_by⟩) (q_lent_by : PySem.W.codeIn K cd_lent_by "lent_by" = true) (k_lent_by : PySem.W.keepIn K (.ref f_lent_by) = true)
    (a_lent_to : PySem.W.nsIn K mainGlobals "lent_to" = some (some (.ref f_lent_to))) (l_lent_to : K.lookup f_lent_to = some ⟨oc_lent_to, od_lent_to, .func (PySem.W.fnOf "lent_to" "lent_to" (defArgs (top 7)) (defBody (top 7)) (defScope (top 7)) .none kV_lent_to dc_lent_to pm_lent_to an_lent_to cd_lent_to ct_lent_to), sl_lent_to⟩) (q_lent_to : PySem.W.codeIn K cd_lent_to "lent_to" = true) (k_lent_to : PySem.W.keepIn K (.ref f_lent_to) = true)
    (a_rights : PySem.W.nsIn K mainGlobals "rights" = some (some (.ref f_rights))) (l_rights : K.lookup f_rights = some ⟨oc_rights, od_rights, .func (PySem.W.fnOf "rights" "rights" (defArgs (top 8)) (defBody (top 8)) (defScope (top 8)) .none kV_rights dc_rights pm_rights an_rights cd_rights ct_rights), sl_rights⟩) (q_rights : PySem.W.codeIn K cd_rights "rights" = true) (k_rights : PySem.W.keepIn K (.ref f_rights) = true)
    (a_need_alike : PySem.W.nsIn K mainGlobals "need_alike" = some (some (.ref f_need_alike))) (l_need_alike : K.lookup f_need_alike = some ⟨oc_need_alike, od_need_alike, .func (PySem.W.fnOf "need_alike" "need_alike" (defArgs (top 9)) (defBody (top 9)) (defScope (top 9)) .none kV_need_alike dc_need_alike pm_need_alike an_need_alike cd_need_alike ct_need_alike), sl_need_alike⟩) (q_need_alike : PySem.W.codeIn K cd_need_alike "need_alike" = true) (k_need_alike : PySem.W.keepIn K (.ref f_need_alike) = true)
    (a_joined : PySem.W.nsIn K mainGlobals "joined" = some (some (.ref f_joined))) (l_joined : K.lookup f_joined = some ⟨oc_joined, od_joined, .func (PySem.W.fnOf "joined" "joined" (defArgs (top 10)) (defBody (top 10)) (defScope (top 10)) .none kV_joined dc_joined pm_joined an_joined cd_joined ct_joined), sl_joined⟩) (q_joined : PySem.W.codeIn K cd_joined "joined" = true) (k_joined : PySem.W.keepIn K (.ref f_joined) = true)
    (a_law_b_draw : PySem.W.nsIn K mainGlobals "_law_b_draw" = some (some (.ref f_law_b_draw))) (l_law_b_draw : K.lookup f_law_b_draw = some ⟨oc_law_b_draw, od_law_b_draw, .func (PySem.W.fnOf "_law_b_draw" "_law_b_draw" (defArgs (top 12)) (defBody (top 12)) (defScope (top 12)) .none kV_law_b_draw dc_law_b_draw pm_law_b_draw an_law_b_draw cd_law_b_draw ct_law_b_draw), sl_law_b_draw⟩) (q_law_b_draw : PySem.W.codeIn K cd_law_b_draw "_law_b_draw" = true) (k_law_b_draw : PySem.W.keepIn K (.ref f_law_b_draw) = true)
    (a_law_b_entry : PySem.W.nsIn K mainGlobals "_law_b_entry" = some (some (.ref f_law_b_entry))) (l_law_b_entry : K.lookup f_law_b_entry = some ⟨oc_law_b_entry, od_law_b_entry, .func (PySem.W.fnOf "_law_b_entry" "_law_b_entry" (defArgs (top 13)) (defBody (top 13)) (defScope (top 13)) .none kV_law_b_entry dc_law_b_entry pm_law_b_entry an_law_b_entry cd_law_b_entry ct_law_b_entry), sl_law_b_entry⟩) (q_law_b_entry : PySem.W.codeIn K cd_law_b_entry "_law_b_entry" = true) (k_law_b_entry : PySem.W.keepIn K (.ref f_law_b_entry) = true)
    (a_law_b_table : PySem.W.nsIn K mainGlobals "_law_b_table" = some (some (.ref f_law_b_table))) (l_law_b_table : K.lookup f_law_b_table = some ⟨oc_law_b_table, od_law_b_table, .func (PySem.W.fnOf "_law_b_table" "_law_b_table" (defArgs (top 14)) (defBody (top 14)) (defScope (top 14)) .none kV_law_b_table dc_law_b_table pm_law_b_table an_law_b_table cd_law_b_table ct_law_b_table), sl_law_b_table⟩) (q_law_b_table : PySem.W.codeIn K cd_law_b_table "_law_b_table" = true) (k_law_b_table : PySem.W.keepIn K (.ref f_law_b_table) = true)
    (a_law_b_no_more : PySem.W.nsIn K mainGlobals "_law_b_no_more" = some (some (.ref f_law_b_no_more))) (l_law_b_no_more : K.lookup f_law_b_no_more = some ⟨oc_law_b_no_more, od_law_b_no_more, .func (PySem.W.fnOf "_law_b_no_more" "_law_b_no_more" (defArgs (top 15)) (defBody (top 15)) (defScope (top 15)) .none kV_law_b_no_more dc_law_b_no_more pm_law_b_no_more an_law_b_no_more cd_law_b_no_more ct_law_b_no_more), sl_law_b_no_more⟩) (q_law_b_no_more : PySem.W.codeIn K cd_law_b_no_more "_law_b_no_more" = true) (k_law_b_no_more : PySem.W.keepIn K (.ref f_law_b_no_more) = true)
    (a_law : PySem.W.nsIn K mainGlobals "law" = some (some (.ref f_law))) (l_law : K.lookup f_law = some ⟨oc_law, od_law, .func (PySem.W.fnOf "law" "law" (defArgs (top 16)) (defBody (top 16)) (defScope (top 16)) .none kV_law dc_law pm_law an_law cd_law ct_law), sl_law⟩) (q_law : PySem.W.codeIn K cd_law "law" = true) (k_law : PySem.W.keepIn K (.ref f_law) = true)
    (z0 : PySem.W.nsIn K mainGlobals "ValueError" = some none)
    (z1 : PySem.W.nsIn K mainGlobals "tuple" = some none)
    (z2 : PySem.W.nsIn K mainGlobals "range" = some none)
    (z3 : PySem.W.nsIn K mainGlobals "zip" = some none)
    (z4 : PySem.W.nsIn K mainGlobals "list" = some none)
    (z5 : PySem.W.nsIn K mainGlobals "sum" = some none)
    (z6 : PySem.W.nsIn K mainGlobals "len" = some none)
    (z7 : PySem.W.nsIn K mainGlobals "max" = some none)
    (z8 : PySem.W.nsIn K mainGlobals "min" = some none)
    : ∃ fd : FuncData, (∀ (s : Shared) (v : Value), BindsTo s fd ⟨[v], []⟩ [("script", v)]) ∧ ∀ base : Heap, K.In base → base.Ns mainGlobals mg → FnOk P w K mg base (L2.CX P w) 3 fa fd ["script"] (spOf K (fun _ => .none) 1 (runF gam n_law 13 1 b_law)) := by
  have e := hfa.symm.trans (PySem.W.mg_of X G a_law)
  cases e
  have hb : ∀ x ∈ blts, mg x = none := blt_cons (PySem.W.mg_none_of X G z0) (blt_cons (PySem.W.mg_none_of X G z1) (blt_cons (PySem.W.mg_none_of X G z2) (blt_cons (PySem.W.mg_none_of X G z3) (blt_cons (PySem.W.mg_none_of X G z4) (blt_cons (PySem.W.mg_none_of X G z5) (blt_cons (PySem.W.mg_none_of X G z6) (blt_cons (PySem.W.mg_none_of X G z7) (blt_cons (PySem.W.mg_none_of X G z8) (blt_nil)))))))))
  have hc : CstOk K mg csts := cst_nil
  have F_need_house := fun_mk (st := top 5) l_need_house q_need_house k_need_house
  have B_need_house := F_need_house.binds (ps := ["table", "house"]) fun _ _ _ _ _ _ us hl => match us, hl with | [_, _], _ => rfl
  have F_lent_by := fun_mk (st := top 6) l_lent_by q_lent_by k_lent_by
  have B_lent_by := F_lent_by.binds (ps := ["table", "house"]) fun _ _ _ _ _ _ us hl => match us, hl with | [_, _], _ => rfl
  have F_lent_to := fun_mk (st := top 7) l_lent_to q_lent_to k_lent_to
  have B_lent_to := F_lent_to.binds (ps := ["table", "house"]) fun _ _ _ _ _ _ us hl => match us, hl with | [_, _], _ => rfl
  have F_rights := fun_mk (st := top 8) l_rights q_rights k_rights
  have B_rights := F_rights.binds (ps := ["table", "house"]) fun _ _ _ _ _ _ us hl => match us, hl with | [_, _], _ => rfl
  have F_need_alike := fun_mk (st := top 9) l_need_alike q_need_alike k_need_alike
  have B_need_alike := F_need_alike.binds (ps := ["one", "other"]) fun _ _ _ _ _ _ us hl => match us, hl with | [_, _], _ => rfl
  have F_joined := fun_mk (st := top 10) l_joined q_joined k_joined
  have B_joined := F_joined.binds (ps := ["one", "other"]) fun _ _ _ _ _ _ us hl => match us, hl with | [_, _], _ => rfl
  have F_law_b_draw := fun_mk (st := top 12) l_law_b_draw q_law_b_draw k_law_b_draw
  have B_law_b_draw := F_law_b_draw.binds (ps := ["script", "k"]) fun _ _ _ _ _ _ us hl => match us, hl with | [_, _], _ => rfl
  have F_law_b_entry := fun_mk (st := top 13) l_law_b_entry q_law_b_entry k_law_b_entry
  have B_law_b_entry := F_law_b_entry.binds (ps := ["draw"]) fun _ _ _ _ _ _ us hl => match us, hl with | [_], _ => rfl
  have F_law_b_table := fun_mk (st := top 14) l_law_b_table q_law_b_table k_law_b_table
  have B_law_b_table := F_law_b_table.binds (ps := ["script", "n", "at"]) fun _ _ _ _ _ _ us hl => match us, hl with | [_, _, _], _ => rfl
  have F_law_b_no_more := fun_mk (st := top 15) l_law_b_no_more q_law_b_no_more k_law_b_no_more
  have B_law_b_no_more := F_law_b_no_more.binds (ps := ["row", "line", "draw"]) fun _ _ _ _ _ _ us hl => match us, hl with | [_, _, _], _ => rfl
  have F_law := fun_mk (st := top 16) l_law q_law k_law
  have B_law := F_law.binds (ps := ["script"]) fun _ _ _ _ _ _ us hl => match us, hl with | [_], _ => rfl
  refine ⟨PySem.W.fnOf "law" "law" (defArgs (top 16)) (defBody (top 16)) (defScope (top 16)) .none kV_law dc_law pm_law an_law cd_law ct_law, fun s v => .of_eq rfl, fun base _ _ => ?_⟩
  have G_need_house := fn_as (r' := m_need_house) (fn_run (P := P) (w := w) (base := base) (cls := fun _ => .none) (Γ := gam) (k := 0) (n := n_need_house) (c := g_need_house) F_need_house s_need_house rfl c_need_house hb (low_nil) hc) (run_need_house gam)
  have G_lent_by := fn_as (r' := m_lent_by) (fn_run (P := P) (w := w) (base := base) (cls := fun _ => .none) (Γ := gam) (k := 0) (n := n_lent_by) (c := g_lent_by) F_lent_by s_lent_by rfl c_lent_by hb (low_nil) hc) (run_lent_by gam)
  have G_lent_to := fn_as (r' := m_lent_to) (fn_run (P := P) (w := w) (base := base) (cls := fun _ => .none) (Γ := gam) (k := 0) (n := n_lent_to) (c := g_lent_to) F_lent_to s_lent_to rfl c_lent_to hb (low_nil) hc) (run_lent_to gam)
  have G_rights := fn_as (r' := m_rights) (fn_run (P := P) (w := w) (base := base) (cls := fun _ => .none) (Γ := gam) (k := 1) (n := n_rights) (c := g_rights) F_rights s_rights rfl c_rights hb (low_cons (PySem.W.mg_of X G a_need_house) k_need_house B_need_house (G_need_house.mono (by decide)) rfl (low_cons (PySem.W.mg_of X G a_lent_by) k_lent_by B_lent_by (G_lent_by.mono (by decide)) rfl (low_cons (PySem.W.mg_of X G a_lent_to) k_lent_to B_lent_to (G_lent_to.mono (by decide)) rfl (low_nil)))) hc) (run_rights gam rfl rfl rfl)
  have G_need_alike := fn_as (r' := m_need_alike) (fn_run (P := P) (w := w) (base := base) (cls := fun _ => .none) (Γ := gam) (k := 0) (n := n_need_alike) (c := g_need_alike) F_need_alike s_need_alike rfl c_need_alike hb (low_nil) hc) (run_need_alike gam)
  have G_joined := fn_as (r' := m_joined) (fn_run (P := P) (w := w) (base := base) (cls := fun _ => .none) (Γ := gam) (k := 1) (n := n_joined) (c := g_joined) F_joined s_joined rfl c_joined hb (low_cons (PySem.W.mg_of X G a_need_alike) k_need_alike B_need_alike (G_need_alike.mono (by decide)) rfl (low_nil)) hc) (run_joined gam rfl)
  have G_law_b_draw := fn_as (r' := m_law_b_draw) (fn_run (P := P) (w := w) (base := base) (cls := fun _ => .none) (Γ := gam) (k := 0) (n := n_law_b_draw) (c := g_law_b_draw) F_law_b_draw s_law_b_draw rfl c_law_b_draw hb (low_nil) hc) (run_law_b_draw gam)
  have G_law_b_entry := fn_as (r' := m_law_b_entry) (fn_run (P := P) (w := w) (base := base) (cls := fun _ => .none) (Γ := gam) (k := 0) (n := n_law_b_entry) (c := g_law_b_entry) F_law_b_entry s_law_b_entry rfl c_law_b_entry hb (low_nil) hc) (run_law_b_entry gam)
  have G_law_b_table := fn_as (r' := m_law_b_table) (fn_run (P := P) (w := w) (base := base) (cls := fun _ => .none) (Γ := gam) (k := 1) (n := n_law_b_table) (c := g_law_b_table) F_law_b_table s_law_b_table rfl c_law_b_table hb (low_cons (PySem.W.mg_of X G a_law_b_entry) k_law_b_entry B_law_b_entry (G_law_b_entry.mono (by decide)) rfl (low_cons (PySem.W.mg_of X G a_law_b_draw) k_law_b_draw B_law_b_draw (G_law_b_draw.mono (by decide)) rfl (low_nil))) hc) (run_law_b_table gam rfl rfl)
  have G_law_b_no_more := fn_as (r' := m_law_b_no_more) (fn_run (P := P) (w := w) (base := base) (cls := fun _ => .none) (Γ := gam) (k := 0) (n := n_law_b_no_more) (c := g_law_b_no_more) F_law_b_no_more s_law_b_no_more rfl c_law_b_no_more hb (low_nil) hc) (run_law_b_no_more gam)
  exact fn_run (P := P) (w := w) (base := base) (cls := fun _ => .none) (Γ := gam) (k := 2) (n := n_law) (c := g_law) F_law s_law rfl c_law hb (low_cons (PySem.W.mg_of X G a_law_b_draw) k_law_b_draw B_law_b_draw (G_law_b_draw.mono (by decide)) rfl (low_cons (PySem.W.mg_of X G a_law_b_table) k_law_b_table B_law_b_table (G_law_b_table.mono (by decide)) rfl (low_cons (PySem.W.mg_of X G a_law_b_no_more) k_law_b_no_more B_law_b_no_more (G_law_b_no_more.mono (by decide)) rfl (low_cons (PySem.W.mg_of X G a_rights) k_rights B_rights (G_rights.mono (by decide)) rfl (low_cons (PySem.W.mg_of X G a_joined) k_joined B_joined (G_joined.mono (by decide)) rfl (low_nil)))))) hc
end K05
open PySem PySem.W PyProof.Rows
set_option maxHeartbeats 0 in
theorem PySem.Challenge.cw_lendwharf_k05_knowing_more_holds : PySem.Challenge.rw_lendwharf_k05_knowing_more.Holds := by
  w_on; o_law; k_head; (case hw => w_witness2)
  k_fill
  refine Fe.law_walk (l := PySem.Challenge.rw_lendwharf_k05_knowing_more) (k := 3) (x := "script") (cls := fun _ => .none) rfl rfl ⟨rfl, by decide, by decide⟩ K05.law_true (fun w h Y => PySem.W.kIn_of Y) ?F
  case F =>
    intro w mg fa h KX G hmg
    refine' K05.all_mk KX G hmg ?a_need_house ?l_need_house ?q_need_house ?k_need_house ?a_lent_by ?l_lent_by ?q_lent_by ?k_lent_by ?a_lent_to ?l_lent_to ?q_lent_to ?k_lent_to ?a_rights ?l_rights ?q_rights ?k_rights ?a_need_alike ?l_need_alike ?q_need_alike ?k_need_alike ?a_joined ?l_joined ?q_joined ?k_joined ?a_law_b_draw ?l_law_b_draw ?q_law_b_draw ?k_law_b_draw ?a_law_b_entry ?l_law_b_entry ?q_law_b_entry ?k_law_b_entry ?a_law_b_table ?l_law_b_table ?q_law_b_table ?k_law_b_table ?a_law_b_no_more ?l_law_b_no_more ?q_law_b_no_more ?k_law_b_no_more ?a_law ?l_law ?q_law ?k_law ?z0 ?z1 ?z2 ?z3 ?z4 ?z5 ?z6 ?z7 ?z8
    (case a_need_house => k_is); (case l_need_house => k_is); (case q_need_house => k_is); (case k_need_house => k_is); (case a_lent_by => k_is); (case l_lent_by => k_is); (case q_lent_by => k_is); (case k_lent_by => k_is)
    (case a_lent_to => k_is); (case l_lent_to => k_is); (case q_lent_to => k_is); (case k_lent_to => k_is); (case a_rights => k_is); (case l_rights => k_is); (case q_rights => k_is); (case k_rights => k_is)
    (case a_need_alike => k_is); (case l_need_alike => k_is); (case q_need_alike => k_is); (case k_need_alike => k_is); (case a_joined => k_is); (case l_joined => k_is); (case q_joined => k_is); (case k_joined => k_is)
    (case a_law_b_draw => k_is); (case l_law_b_draw => k_is); (case q_law_b_draw => k_is); (case k_law_b_draw => k_is); (case a_law_b_entry => k_is); (case l_law_b_entry => k_is); (case q_law_b_entry => k_is); (case k_law_b_entry => k_is)
    (case a_law_b_table => k_is); (case l_law_b_table => k_is); (case q_law_b_table => k_is); (case k_law_b_table => k_is); (case a_law_b_no_more => k_is); (case l_law_b_no_more => k_is); (case q_law_b_no_more => k_is); (case k_law_b_no_more => k_is)
    (case a_law => k_is); (case l_law => k_is); (case q_law => k_is); (case k_law => k_is); (case z0 => k_is); (case z1 => k_is); (case z2 => k_is); (case z3 => k_is)
    (case z4 => k_is); (case z5 => k_is); (case z6 => k_is); (case z7 => k_is); (case z8 => k_is)
#print axioms PySem.Challenge.cw_lendwharf_k05_knowing_more_holds
