import PyProof.Rows.All
import Wide.All
import OpenK.AllK
import Wide.FinOn
import Lean
import PySem.Challenge.RW_og0160_01
open PySem PySem.W PyProof.Rows
set_option Elab.async false
namespace Mine
section
open PySem PySem.W PyProof.Rows
abbrev BODY := PySem.Challenge.pw_og0160_01.main.body
abbrev LK : Look := { strict := false, foot := none }

theorem noRoad_all (lk : Look) : ∀ l, noRoadLSs lk l = l.all (noRoadLS lk)
  | [] => by simp [noRoadLSs]
  | s :: r => by rw [noRoadLSs, List.all_cons, noRoad_all lk r]

theorem frame_short : frameAttrs.all (fun a => decide (a.cps.size ≤ 60)) = true := by k_qdec
theorem frame_long {n : Str} (h : decide (60 < n.cps.size) = true) : frameAttrs.contains n = false := by
  cases hc : frameAttrs.contains n with
  | false => rfl
  | true =>
    have h1 := List.all_eq_true.mp frame_short n (by simpa using hc)
    simp only [decide_eq_true_eq] at h h1
    omega
theorem road_plain {n : Str} (h2 : (n.cps.toList.all fun c => Nat.blt c 123 && !Nat.beq c 46) = true) : roadStr n = false := by
  rw [List.all_eq_true] at h2
  unfold roadStr
  have e1 : (n.cps.any fun c => c == 123 || c == 125) = false := by
    rw [← Array.any_toList, List.any_eq_false]
    intro c hc
    have := h2 c hc
    simp only [Bool.and_eq_true, Nat.blt_eq, Bool.not_eq_true', beq_iff_eq, Bool.or_eq_true] at this ⊢
    omega
  have e2 : (n.cps.any fun c => c == 46) = false := by
    rw [← Array.any_toList, List.any_eq_false]
    intro c hc
    have := h2 c hc
    simp only [Bool.and_eq_true, Nat.blt_eq, Bool.not_eq_true', beq_iff_eq] at this ⊢
    intro h; subst h
    exact absurd this.2 (by decide)
  rw [e1, e2]; rfl
theorem str_long {n : Str} (h : decide (60 < n.cps.size) = true) (h1 : (!n.opensWith "__") = true) (h2 : (n.cps.toList.all fun c => Nat.blt c 123 && !Nat.beq c 46) = true) : LK.str n = true := by
  unfold Look.str Look.word attrL
  rw [Bool.not_eq_true'] at h1
  rw [frame_long h, h1, road_plain h2]
  simp
theorem long_assign {a : PySem.Expr} {n : Str} {k : Nat} {p q : Pos} (ha : LK.stores [a] = true) (hr : noRoadL LK a = true) (h : decide (60 < n.cps.size) = true) (h1 : (!n.opensWith "__") = true) (h2 : (n.cps.toList.all fun c => Nat.blt c 123 && !Nat.beq c 46) = true) :
    noRoadLS LK (.Assign [a] (.Constant (.str n) k p) q) = true := by
  rw [noRoadLS, ha, noRoadLs, hr, noRoadLs, noRoadL]
  rw [str_long h h1 h2]; rfl
theorem split_at (l : List PySem.Stmt) (i j : Nat) {f : PySem.Stmt → Bool} (h1 : ((l.drop i).take j).all f = true) (h2 : (l.drop (i + j)).all f = true) : (l.drop i).all f = true := by
  have e : l.drop i = (l.drop i).take j ++ (l.drop i).drop j := (List.take_append_drop _ _).symm
  rw [e, List.all_append, h1, List.drop_drop, h2]; rfl
theorem one {f : PySem.Stmt → Bool} {s : PySem.Stmt} (h : f s = true) : [s].all f = true := by simp [h]
set_option maxRecDepth 100000 in
set_option maxHeartbeats 8000000 in
theorem road0 : (BODY.drop 0).all (noRoadLS LK) = true := by
  refine split_at BODY 0 18 (by k_qdec) ?_
  refine split_at BODY 18 1 ?_ ?_
  · refine one (s := .Assign [_] (.Constant (.str _) _ _) _) ?_
    exact long_assign (by k_qdec) (by k_qdec) (by k_qdec) (by k_qdec) (by k_qdec)
  refine split_at BODY 19 2 (by k_qdec) ?_
  refine split_at BODY 21 1 ?_ ?_
  · refine one (s := .Assign [_] (.Constant (.str _) _ _) _) ?_
    exact long_assign (by k_qdec) (by k_qdec) (by k_qdec) (by k_qdec) (by k_qdec)
  refine split_at BODY 22 1 ?_ ?_
  · refine one (s := .Assign [_] (.Constant (.str _) _ _) _) ?_
    exact long_assign (by k_qdec) (by k_qdec) (by k_qdec) (by k_qdec) (by k_qdec)
  refine split_at BODY 23 1 ?_ ?_
  · refine one (s := .Assign [_] (.Constant (.str _) _ _) _) ?_
    exact long_assign (by k_qdec) (by k_qdec) (by k_qdec) (by k_qdec) (by k_qdec)
  refine split_at BODY 24 1 ?_ ?_
  · refine one (s := .Assign [_] (.Constant (.str _) _ _) _) ?_
    exact long_assign (by k_qdec) (by k_qdec) (by k_qdec) (by k_qdec) (by k_qdec)
  k_qdec
theorem h_bare : (["vars", "dir", "locals"] : List Str).filter (readsOut PySem.Challenge.pw_og0160_01 BODY) = [] := by
  have h1 : readsOut PySem.Challenge.pw_og0160_01 BODY "vars" = false := by
    have : (!readsOut PySem.Challenge.pw_og0160_01 BODY "vars") = true := by k_qdec
    simpa using this
  have h2 : readsOut PySem.Challenge.pw_og0160_01 BODY "dir" = false := by
    have : (!readsOut PySem.Challenge.pw_og0160_01 BODY "dir") = true := by k_qdec
    simpa using this
  have h3 : readsOut PySem.Challenge.pw_og0160_01 BODY "locals" = false := by
    have : (!readsOut PySem.Challenge.pw_og0160_01 BODY "locals") = true := by k_qdec
    simpa using this
  rw [List.filter_cons, h1, List.filter_cons, h2, List.filter_cons, h3]
  rfl
theorem h_strict : (!(importedModules BODY).all cThrough.contains) = false := by decide +kernel
set_option maxRecDepth 100000 in
set_option maxHeartbeats 8000000 in
theorem road : noRoadLSs { strict := !(importedModules PySem.Challenge.rw_og0160_01.row.prog.main.body).all cThrough.contains, foot := none, bare := (["vars", "dir", "locals"] : List Str).filter (readsOut PySem.Challenge.rw_og0160_01.row.prog PySem.Challenge.rw_og0160_01.row.prog.main.body) } PySem.Challenge.rw_og0160_01.row.prog.main.body = true := by
  show noRoadLSs { strict := !(importedModules BODY).all cThrough.contains, foot := none, bare := (["vars", "dir", "locals"] : List Str).filter (readsOut PySem.Challenge.pw_og0160_01 BODY) } BODY = true
  rw [h_strict, h_bare, noRoad_all]
  exact road0
set_option maxRecDepth 100000 in
set_option maxHeartbeats 8000000 in
theorem ok_law : PySem.Challenge.rw_og0160_01.wellSaid = true := by
  have hroad := road
  revert hroad
  generalize hl : PySem.Challenge.rw_og0160_01 = l
  intro hroad
  unfold OpenLaw.wellSaid OpenRow.wellSaid OpenRow.partSaid looksOpen
  (repeat' (with_reducible refine look_both ?_ ?_))
  all_goals first | (with_reducible exact hroad) | (clear hroad; subst hl; first | k_qdec | decide +kernel)
end
section
open PySem PySem.W PyProof.Rows
/-- a list of objects as a tree, each laying looked at -/
def toBT : List Obj → BT → Nat → Option (BT × Nat)
  | [], t, n => some (t, n)
  | o :: r, t, n => match (t.ins n o).get n with
    | some _ => toBT r (t.ins n o) (n + 1)
    | none => none
theorem toBT_is {life : Life} : ∀ (l : List Obj) (t : BT) (n : Nat) (T : BT) (m : Nat), toBT l t n = some (T, m) → absHeap T m life = ⟨(absHeap t n life).objs ++ l.toArray, life⟩
  | [], t, n, T, m, h => by
    unfold toBT at h
    cases h
    rw [show ([] : List Obj).toArray = #[] from rfl, Array.append_empty]
    rfl
  | o :: r, t, n, T, m, h => by
    unfold toBT at h
    cases g : (t.ins n o).get n with
    | none => rw [g] at h; cases h
    | some v =>
      rw [g] at h
      rw [toBT_is r _ _ T m h, absHeap_ins (by rw [g]; rfl)]
      have e : ((absHeap t n life).push o).objs = (absHeap t n life).objs.push o := rfl
      rw [e]
      congr 1
      apply Array.toList_inj.mp
      simp
def startT (s : Shared) : Option SharedT := match toBT s.heap.objs.toList .nil 0 with
  | some x => some ⟨x.1, x.2, s.heap.life, s.gens, s.drawn, s.toks, s.os⟩
  | none => none
theorem startT_is {s : Shared} {x : SharedT} (h : startT s = some x) : x.abs = s := by
  obtain ⟨⟨objs, life⟩, gens, drawn, toks, os⟩ := s
  unfold startT at h
  cases g : toBT objs.toList .nil 0 with
  | none => simp only [g] at h; cases h
  | some q =>
    simp only [g] at h
    cases h
    have e := toBT_is (life := life) _ _ _ _ _ g
    show (⟨absHeap q.1 q.2 life, gens, drawn, toks, os⟩ : Shared) = _
    rw [e]
    have e0 : (absHeap .nil 0 life).objs = #[] := rfl
    rw [e0, Array.empty_append, Array.toArray_toList]
def topRunT (tb : String → Option Builtin) (p : Program) (w : World) (n₀ : Nat) (ann : Option Value) : Nat → SharedT → Thread → Option SharedT
  | 0, _, _ => none
  | n + 1, s, t => match through t with
    | true => some s
    | false => match stepOk n₀ ann t with
      | false => none
      | true => match stepT (denote tb) p w s t with
        | some (s', t') => topRunT tb p w n₀ ann n s' t'
        | none => none
theorem topRunT_is {tb : String → Option Builtin} {p : Program} {w : World} {n₀ : Nat} {ann : Option Value} : ∀ {n : Nat} {s s' : SharedT} {t : Thread}, topRunT tb p w n₀ ann n s t = some s' → topRun tb p w n₀ ann n s.abs t = some s'.abs
  | 0, _, _, _, h => by cases h
  | n + 1, s, s', t, h => by
    unfold topRunT at h
    unfold topRun
    cases he : through t with
    | true => rw [he] at h; cases h; rfl
    | false =>
      rw [he] at h
      cases hk : stepOk n₀ ann t with
      | false => rw [hk] at h; cases h
      | true =>
        rw [hk] at h
        cases hs : stepT (denote tb) p w s t with
        | none => rw [hs] at h; cases h
        | some r => obtain ⟨s₂, t₂⟩ := r; rw [hs] at h; rw [stepT_spec hs]; exact topRunT_is h
def topFromT (tb : String → Option Builtin) (p : Program) (w : World) (N : Nat) (s₀ : Shared) : Option Shared :=
  match s₀.heap.isNs mainGlobals && s₀.gens.size == 0 with
  | true => match startT s₀ with
    | some x => match topRunT tb p w s₀.heap.objs.size (s₀.heap.nsMap mainGlobals "__annotations__") N x (topStub p) with
      | some y => match staticsOk (importedModules p.main.body) s₀.heap y.abs.heap && namesBound p y.abs.heap && gensDone y.abs && laidKept s₀.heap y.abs.heap with
        | true => some y.abs
        | false => none
      | none => none
    | none => none
  | false => none
theorem topFromT_is {tb : String → Option Builtin} {p : Program} {w : World} {N : Nat} {s₀ s : Shared} (h : topFromT tb p w N s₀ = some s) : topFrom tb p w N s₀ = some s := by
  unfold topFromT at h
  unfold topFrom
  cases h0 : (s₀.heap.isNs mainGlobals && s₀.gens.size == 0) with
  | false => rw [h0] at h; cases h
  | true =>
    rw [h0] at h
    cases h1 : startT s₀ with
    | none => simp only [h1] at h; cases h
    | some x =>
      simp only [h1] at h
      cases h2 : topRunT tb p w s₀.heap.objs.size (s₀.heap.nsMap mainGlobals "__annotations__") N x (topStub p) with
      | none => simp only [h2] at h; cases h
      | some y =>
        simp only [h2] at h
        have e := topRunT_is h2
        rw [startT_is h1] at e
        simp only [e, Option.bind_some]
        exact h
def endsT (p : Program) (w : World) (N : Nat) : Option Shared := (fencedOpening treeTable p w N).bind (topFromT treeTable p w N)
theorem endsT_is {p : Program} {w : World} {N : Nat} {s : Shared} (h : endsT p w N = some s) : openEnds treeTable p w N = some s := by
  unfold endsT at h
  obtain ⟨s₀, e, h⟩ := Option.bind_eq_some_iff.mp h
  unfold openEnds
  rw [e]
  exact topFromT_is h
end
section
open PySem PySem.W PyProof.Rows
noncomputable def hd.view_1 : Program := view PySem.Challenge.pw_og0160_01 [0, 2, 3, 5, 6, 7, 8, 10, 11, 12, 13, 14, 16, 17, 18, 19, 20, 21, 22, 23, 24, 25, 26, 27, 28, 29, 31, 32, 33, 34, 35, 36]
noncomputable def run1 (p : Program) (w : World) : Option Shared := endsT p w 5310
noncomputable def see1 (w : World) := (run1 PySem.Challenge.pw_og0160_01 w).map fun s => openSeen hd.view_1 [Str.ofString "PaperError"] (importedModules PySem.Challenge.pw_og0160_01.main.body) (fun s => xlAt hd.view_1 [] s && recOk [] s) true s
noncomputable def good1 := some (openGood hd.view_1 [Str.ofString "PaperError"])
lay_quick Mine.run1 Mine.see1 Mine.good1
end
section
open PySem PySem.W PyProof.Rows
set_option maxRecDepth 1000000
set_option maxHeartbeats 0
theorem left1t : ∀ w : World, PySem.W.Fast.tw15352897626328440033 w = PySem.W.Fast.tw14993932899042103965 := by
  intro w
  kernel_rfl
theorem left1 (w : World) : see1 w = good1 := by
  rw [PySem.W.Fast.te15352897626328440033, PySem.W.Fast.te14993932899042103965]
  exact left1t w
end
section
open PySem PySem.W PyProof.Rows
theorem left_both {p q : Program} {loose : List Str} {Xt : Shared → Bool} {α : Type} {Yf : Shared → α} {Ya : World → α} {N : Nat} {g0 : Bool} {mods : List Str}
    (hm : mods = importedModules p.main.body) (h1 : ∀ w, (endsT p w N).map (fun s => openSeen q loose mods Xt g0 s) = some (openGood q loose)) (h2 : ∀ w, (endsT p w N).map Yf = some (Ya w)) : LeftO p q loose Xt Yf Ya N g0 := fun w => by
  subst hm
  have e1 := h1 w
  have e2 := h2 w
  cases h : endsT p w N with
  | none => rw [h] at e1; cases e1
  | some s =>
    rw [h] at e1 e2
    rw [endsT_is h]
    simp only [Option.map_some, Option.some.injEq] at e1 e2 ⊢
    rw [e1, e2]
theorem head1 (H : Hook) {d : DefRec} {kwd : List (Str × Expr)} (h2 : ∀ w, (run1 PySem.Challenge.pw_og0160_01 w).map H.obs = some (H.val w))
    (hdef : defOf hd.view_1 PySem.Challenge.rw_og0160_01.row.name = some (d, kwd)) (hp : PySem.Challenge.rw_og0160_01.row.prog.theDef PySem.Challenge.rw_og0160_01.row.name = some (d.params, d.body, d.scope)) (hk : kwWritten? d.params.kwonlyargs d.params.kw_defaults = some kwd)
    (k1 : PySem.Challenge.rw_og0160_01.row.wellSaid = true) (hw : PySem.Challenge.rw_og0160_01.row.toRowW.promised)
    (hc : WalkO hd.view_1 [Str.ofString "PaperError"] (XL hd.view_1 []) H.says PySem.Challenge.rw_og0160_01.row.toRowW d kwd fun f vs => PySem.call f vs) : PySem.Challenge.rw_og0160_01.row.Holds :=
  holds_open (q := hd.view_1) (loose := [Str.ofString "PaperError"]) (Xt := fun s => xlAt hd.view_1 [] s && recOk [] s) (XP := XL hd.view_1 []) (Yf := H.obs) (Ya := H.val) (YP := H.says) (N := 5310)
    (left_both rfl left1 h2) H.of H.keeps (fun s e => xl_of s (Bool.and_eq_true_iff.mp e).1) XL.keeps hdef hp hk (fun s e => recFacts_of (Bool.and_eq_true_iff.mp e).2) (by rfl) k1 (by decide +kernel) ⟨rfl, rfl, rfl, rfl, rfl, by decide +kernel⟩ hw hc
local macro_rules | `(tactic| o_law) => `(tactic| refine holds_law ok_law fun said => ?_)
theorem ok_row : PySem.Challenge.rw_og0160_01.row.wellSaid = true := row_said ok_law
local macro_rules | `(tactic| o_head $H) => `(tactic| (apply head1 $H (hdef := by rfl) (hp := by rfl) (hk := by rfl) (k1 := ok_row); (case h2 => (intro w; rw [PySem.W.Fast.te7744639918733259693]; kernel_rfl))))
set_option maxRecDepth 100000
set_option maxHeartbeats 8000000
open_top hd for PySem.Challenge.rw_og0160_01
end
section
open PySem PySem.W PyProof.Rows PySem.Calls PySem.Spec
section
variable {prog : Program} {w : World} {A : Around} {E : Value → Shared → Prop} {s : Shared} {h₀ : Heap} {L D : Addr} {m : Str → Option Value} {news news' : List (Addr × Obj)} {vs vs' : List Value} {n : Nat} {k : Int} {t u : Tok} {v : Value}
theorem put_any {Q : Unit → Shared → Prop} (F : Fr h₀ L s.heap m) (N : News h₀ L s.heap news) (h0 : 0 ≤ k) (h1 : k < vs.length) (hfit : k < 2 ^ 63) (hv : vs.set k.toNat v = vs') (U : Upd D (listOf vs.toArray n) (listOf vs'.toArray n) news news')
    (h : ∀ h', Fr h₀ L h' m → News h₀ L h' news' → Q () { s with heap := h' }) :
    wpAny (model prog w) A (setItem (.ref D) (.int k t) v) Q E s := by
  subst hv
  obtain ⟨pre, post, rfl, rfl, a, b⟩ := U.split
  have z := N (D, listOf vs.toArray n) (List.mem_append.mpr (.inr (.head _)))
  refine ki_setAt z.1 h0 hfit (by rw [List.size_toArray]; exact h1) (h _ (F.change (Heap.SameBut.update ..) z.2.1 z.2.2) (ki_turn _ N a b ?_ ?_))
  · show vs.toArray.setIfInBounds k.toNat v = (vs.set k.toNat v).toArray
    apply Array.toList_inj.mp
    simp
  · simp
theorem sub_any {value slice : PySem.Expr} {Q : Value → Shared → Prop} (N : News h₀ L s.heap news) (hm : (D, listOf vs.toArray n) ∈ news) (h0 : 0 ≤ k) (hx : vs[k.toNat]? = some v) (hfit : k < 2 ^ 63) (h : Q v s)
    (hs : subscripted slice false (.ref D) (.int k u) = operate [.ref D, .int k u] (getItem (.ref D) (.int k u)) := by with_unfolding_all rfl) :
    wpAny (model prog w) A (subscriptTail value slice (.ref D) (.int k u)) Q E s :=
  have hl : s.heap.IsList D vs.toArray := PySem.IsL.isList (n := n) (N _ hm).1
  tail_any hl.typeIs slot_list_getitem.lookup (wpAny_getItem_list hl h0 hfit (by simpa using hx) h) hs
inductive TextsAre : List Value → Prop where
  | nil : TextsAre []
  | cons (t : Str) (k : Tok) {vs : List Value} : TextsAre vs → TextsAre (.str t k :: vs)
theorem TextsAre.get {vs : List Value} (h : TextsAre vs) : ∀ {i : Nat}, i < vs.length → ∃ t k, vs[i]? = some (.str t k) := by
  induction h with
  | nil => intro i hi; exact absurd hi (Nat.not_lt_zero _)
  | cons t k _ ih =>
    intro i hi
    cases i with
    | zero => exact ⟨t, k, rfl⟩
    | succ i => simpa using ih (Nat.lt_of_succ_lt_succ hi)
theorem sub_text {value slice : PySem.Expr} {Q : Value → Shared → Prop} (N : News h₀ L s.heap news) (hm : (D, listOf vs.toArray n) ∈ news) (ht : TextsAre vs) (h0 : 0 ≤ k) (h1 : k < vs.length) (hfit : k < 2 ^ 63) (h : ∀ t u, Q (.str t u) s)
    (hs : subscripted slice false (.ref D) (.int k u) = operate [.ref D, .int k u] (getItem (.ref D) (.int k u)) := by with_unfolding_all rfl) :
    wpAny (model prog w) A (subscriptTail value slice (.ref D) (.int k u)) Q E s := by
  obtain ⟨t, j, e⟩ := ht.get (i := k.toNat) (by omega)
  exact sub_any N hm h0 e hfit (h t j) hs
theorem sub_mem {value slice : PySem.Expr} {Q : Value → Shared → Prop} (N : News h₀ L s.heap news) (hm : (D, listOf vs.toArray n) ∈ news) (h0 : 0 ≤ k) (h1 : k < vs.length) (hfit : k < 2 ^ 63) (h : ∀ v, v ∈ vs → Q v s)
    (hs : subscripted slice false (.ref D) (.int k u) = operate [.ref D, .int k u] (getItem (.ref D) (.int k u)) := by with_unfolding_all rfl) :
    wpAny (model prog w) A (subscriptTail value slice (.ref D) (.int k u)) Q E s := by
  have hx : vs[k.toNat]? = some vs[k.toNat] := List.getElem?_eq_getElem (by omega)
  exact sub_any N hm h0 hx hfit (h _ (List.getElem_mem _)) hs
theorem append_any {x : Value} {Q : Value → Shared → Prop} (F : Fr h₀ L s.heap m) (N : News h₀ L s.heap news) (U : Upd D (listOf vs.toArray n) (listOf (vs ++ [x]).toArray (n + 1)) news news')
    (h : ∀ h', Fr h₀ L h' m → News h₀ L h' news' → Q .none { s with heap := h' }) (hsz : vs.length ≤ sizeLine := by size_fits) : wpAny (model prog w) A (call (.builtin "list.append") [.ref D, x]) Q E s :=
  append_K F N (by rw [List.push_toArray]; exact U) h (by rw [List.size_toArray]; exact hsz)
end
end
section
open PySem PySem.W PyProof.Rows PySem.Calls PySem.Spec
def Stop (p : Prop) : Prop := p
theorem Stop.intro {p : Prop} (h : Stop p) : p := h

def TEnd (h₀ : Heap) (L I : Addr) (oI : Obj) (J : (Str → Option Value) → List (Addr × Obj) → Prop) (s₁ s₂ : Shared) : Prop :=
  ∃ h' tk m' nx, s₂ = { s₁ with heap := h', toks := tk } ∧ Fr h₀ L h' m' ∧ News h₀ L h' ((I, oI) :: nx) ∧ (∀ p ∈ nx, p.1 ≠ I) ∧ J m' nx
def TPost (h₀ : Heap) (L I : Addr) (oI : Obj) (J : (Str → Option Value) → List (Addr × Obj) → Prop) (s₁ : Shared) (Q : Flow → Shared → Prop) (f : Flow) (s₂ : Shared) : Prop :=
  match f with
  | .ret v => Q (.ret v) s₂
  | .brk => Q .next s₂
  | _ => TEnd h₀ L I oI J s₁ s₂
theorem TEnd.intro {h₀ h' : Heap} {L I : Addr} {oI : Obj} {J : (Str → Option Value) → List (Addr × Obj) → Prop} {s₁ : Shared} {m' : Str → Option Value} {nx : List (Addr × Obj)} {tk : Nat}
    (F : Fr h₀ L h' m') (N : News h₀ L h' ((I, oI) :: nx)) (hI : ∀ p ∈ nx, p.1 ≠ I) (hJ : J m' nx) : TEnd h₀ L I oI J s₁ { s₁ with heap := h', toks := tk } := ⟨h', tk, m', nx, rfl, F, N, hI, hJ⟩
theorem news_perm {h₀ : Heap} {L : Addr} {h : Heap} {l l' : List (Addr × Obj)} (N : News h₀ L h l) (hs : ∀ p ∈ l', p ∈ l) : News h₀ L h l' := fun p hp => N p (hs p hp)

section
variable {prog : Program} {w : World} {A : Around} {E : Value → Shared → Prop} {s : Shared} {env : Env} {h₀ : Heap} {x : Str} {body : List Stmt} {Q : Flow → Shared → Prop}

theorem for_list {l : Addr} {vs : List Value} {nn : Nat} {m₀ : Str → Option Value} {news : List (Addr × Obj)} (J : Nat → (Str → Option Value) → List (Addr × Obj) → Prop)
    (hh : A.handled = none) (hl : (l, listOf vs.toArray nn) ∈ news) (F : Fr h₀ env.locals s.heap m₀) (N : News h₀ env.locals s.heap news) (hj : J 0 m₀ news) (hjl : ∀ i m nx, J i m nx → (l, listOf vs.toArray nn) ∈ nx)
    (turn : ∀ i v m₁ news₁ h tk I oI, vs[i]? = some v → J i m₁ news₁ → (∀ p ∈ news₁, p.1 ≠ I) → Fr h₀ env.locals h (fun y => if y = x then some v else m₁ y) → News h₀ env.locals h ((I, oI) :: news₁) →
      wpAny (model prog w) A (execs body env) (TPost h₀ env.locals I oI (J (i + 1)) { s with heap := h, toks := tk } Q) E { s with heap := h, toks := tk })
    (done : ∀ m₁ news₁ h tk, J vs.length m₁ news₁ → Fr h₀ env.locals h m₁ → News h₀ env.locals h news₁ → Q .next { s with heap := h, toks := tk }) :
    wpAny (model prog w) A (pyIter (.ref l)) (fun it s₂ => LoopAtV prog w A h₀ env x body Q E it s₂) E s := by
  have hol : s.heap.get? l = some (listOf vs.toArray nn) := (N _ hl).1
  have hls : s.heap.IsList l vs.toArray := ⟨_, hol, rfl, nn, rfl⟩
  have hne : l ≠ s.heap.objs.size := Nat.ne_of_lt (Heap.lt_size hol)
  refine wpAny_pyIter_list hls ?_
  have W := Walks.list (prog := prog) (w := w) hh s.heap.objs.size l hne vs.toArray
  rw [List.size_toArray] at W
  refine ⟨_, _, _, vs.length, _, _, m₀, news, (fun i m nx => J i m nx), rfl, W, ?_, ?_, ?_, ⟨⟨_, Heap.get?_push_size _ rfl, rfl, rfl⟩, hls.at fun o e => Heap.get?_push_of_some _ e⟩, F.push _, (fun p hp => ⟨Heap.get?_push_of_some _ (N p hp).1, (N p hp).2⟩), hj, ?_, ?_⟩
  · intro hm
    rcases List.mem_cons.mp hm with e | hm
    · exact absurd F.ns.lt (e ▸ Nat.lt_irrefl _)
    · exact (N _ hl).2.1 ((List.mem_singleton.mp hm).symm)
  · intro b hb
    rw [List.mem_singleton.mp hb]
    exact next_is_new F
  · intro p hp hI
    exact absurd (Heap.lt_size (N p hp).1) ((List.mem_singleton.mp hI) ▸ Nat.lt_irrefl _)
  · rintro i v m₁ news₁ s₁ own ⟨hh', tk', rfl⟩ hin hP hJ hoff hown hget hfp hst F₁ N₁
    obtain ⟨⟨oI, hoI, _⟩, _⟩ := id hst
    have hnew : h₀.get? s.heap.objs.size = none := next_is_new F
    have hmI : (s.heap.objs.size, oI) ∈ own := hfp _ (.head _) hnew oI hoI
    have hoff' : ∀ p ∈ news₁, p.1 ≠ s.heap.objs.size := fun p hp e => hoff p hp (List.mem_singleton.mpr e)
    have hv : vs[i]? = some v := by simpa using hP
    have N₂ : News h₀ env.locals hh' ((s.heap.objs.size, oI) :: news₁) := fun p hp => by
      rcases List.mem_cons.mp hp with rfl | hp
      · exact N₁ _ (List.mem_append_left _ hmI)
      · exact N₁ _ (List.mem_append_right _ hp)
    refine wpAny_mono (turn i v m₁ news₁ hh' tk' _ oI hv hJ hoff' F₁ N₂) (fun f s₂ p => ?_) fun _ _ e => e
    have fin : TEnd h₀ env.locals s.heap.objs.size oI (J (i + 1)) { s with heap := hh', toks := tk' } s₂ → LoopStepU h₀ env.locals [s.heap.objs.size] own (J (i + 1)) { s with heap := hh', toks := tk' } .next s₂ := by
      rintro ⟨h', tk, m', nx, e, F', N', hn, hm⟩
      refine ⟨rfl, h', tk, m', nx, e, F', fun p hp => ?_, fun p hp hI => hn p hp (List.mem_singleton.mp hI), hm⟩
      rcases List.mem_append.mp hp with hp | hp
      · have hg := hget p hp
        rcases List.mem_cons.mp (hown p hp) with h1 | h1
        · have : p = (s.heap.objs.size, oI) := by
            rw [h1, hoI] at hg
            exact Prod.ext h1 (Option.some.inj hg).symm
          rw [this]; exact N' _ (.head _)
        · have h2 := List.mem_singleton.mp h1
          have h3 := (N₁ _ (List.mem_append_right _ (hjl i m₁ news₁ hJ))).1
          have : p = (l, listOf vs.toArray nn) := by
            rw [h2, h3] at hg
            exact Prod.ext h2 (Option.some.inj hg).symm
          rw [this]; exact N' _ (.tail _ (hjl _ _ _ hm))
      · exact N' _ (.tail _ hp)
    cases f with
    | ret v => exact p
    | brk => exact p
    | next => exact fin p
    | cont => exact fin p
  · rintro h' tk m' news' F' N' _ hJ
    exact done m' news' h' tk hJ F' N'

theorem for_range {r : Addr} {a₀ b₀ : Int} {t₀ u₀ v₀ : Tok} {n : Nat} {m₀ : Str → Option Value} {news : List (Addr × Obj)} (J : Nat → (Str → Option Value) → List (Addr × Obj) → Prop)
    (hh : A.handled = none) (hr : IsRange s.heap r a₀ b₀ 1 t₀ u₀ v₀) (hsmall : Builtin.Range.small a₀ b₀ 1 = true) (hn : Builtin.Range.rangeSize a₀ b₀ 1 = (n : Int))
    (F : Fr h₀ env.locals s.heap m₀) (N : News h₀ env.locals s.heap news) (hj : J 0 m₀ news)
    (turn : ∀ i t m₁ news₁ h tk I oI, i < n → J i m₁ news₁ → (∀ p ∈ news₁, p.1 ≠ I) → Fr h₀ env.locals h (fun y => if y = x then some (.int (a₀ + i) t) else m₁ y) → News h₀ env.locals h ((I, oI) :: news₁) →
      wpAny (model prog w) A (execs body env) (TPost h₀ env.locals I oI (J (i + 1)) { s with heap := h, toks := tk } Q) E { s with heap := h, toks := tk })
    (done : ∀ m₁ news₁ h tk, J n m₁ news₁ → Fr h₀ env.locals h m₁ → News h₀ env.locals h news₁ → Q .next { s with heap := h, toks := tk }) :
    wpAny (model prog w) A (pyIter (.ref r)) (fun it s₂ => LoopAtV prog w A h₀ env x body Q E it s₂) E s := by
  refine wpAny_pyIter_range hr hsmall ?_
  have W : Walks prog w A s.heap.objs.size [s.heap.objs.size] [s.heap.objs.size] n (fun i v => ∃ t, v = .int (a₀ + i * 1) t)
      (fun i h => IsRangeIter h s.heap.objs.size (a₀ + (i : Nat) * 1) ((n : Int) - (i : Nat)) 1) := Walks.range hh _ a₀ 1 n
  refine ⟨_, _, _, n, _, _, m₀, news, (fun i m nx => J i m nx), rfl, W, ?_, ?_, ?_, (by show IsRangeIter _ _ _ _ _; rw [hn]; simpa using Heap.get?_push_size _ rfl), F.push _, (fun p hp => ⟨Heap.get?_push_of_some _ (N p hp).1, (N p hp).2⟩), hj, ?_, ?_⟩
  · intro hm
    exact absurd F.ns.lt ((List.mem_singleton.mp hm) ▸ Nat.lt_irrefl _)
  · intro b hb
    rw [List.mem_singleton.mp hb]
    exact next_is_new F
  · intro p hp hI
    exact absurd (Heap.lt_size (N p hp).1) ((List.mem_singleton.mp hI) ▸ Nat.lt_irrefl _)
  · rintro i v m₁ news₁ s₁ own ⟨hh', tk', rfl⟩ hin ⟨t, rfl⟩ hJ hoff hown hget hfp hst F₁ N₁
    obtain ⟨oI, hoI⟩ : ∃ o, hh'.get? s.heap.objs.size = some o := ⟨_, hst⟩
    have hnew : h₀.get? s.heap.objs.size = none := next_is_new F
    have hmI := hfp _ (.head _) hnew _ hoI
    have hoff' : ∀ p ∈ news₁, p.1 ≠ s.heap.objs.size := fun p hp e => hoff p hp (List.mem_singleton.mpr e)
    have N₂ : News h₀ env.locals hh' ((s.heap.objs.size, oI) :: news₁) := fun p hp => by
      rcases List.mem_cons.mp hp with rfl | hp
      · exact N₁ _ (List.mem_append_left _ hmI)
      · exact N₁ _ (List.mem_append_right _ hp)
    have e1 : a₀ + (i : Int) * 1 = a₀ + (i : Int) := by omega
    rw [e1] at F₁
    refine wpAny_mono (turn i t m₁ news₁ hh' tk' _ oI hin hJ hoff' F₁ N₂) (fun f s₂ p => ?_) fun _ _ e => e
    have fin : TEnd h₀ env.locals s.heap.objs.size oI (J (i + 1)) { s with heap := hh', toks := tk' } s₂ → LoopStepU h₀ env.locals [s.heap.objs.size] own (J (i + 1)) { s with heap := hh', toks := tk' } .next s₂ := by
      rintro ⟨h', tk, m', nx, e, F', N', hn, hm⟩
      refine ⟨rfl, h', tk, m', nx, e, F', fun p hp => ?_, fun p hp hI => hn p hp (List.mem_singleton.mp hI), hm⟩
      rcases List.mem_append.mp hp with hp | hp
      · have hg := hget p hp
        have h1 := List.mem_singleton.mp (hown p hp)
        have : p = (s.heap.objs.size, oI) := by
          rw [h1, hoI] at hg
          exact Prod.ext h1 (Option.some.inj hg).symm
        rw [this]; exact N' _ (.head _)
      · exact N' _ (.tail _ hp)
    cases f with
    | ret v => exact p
    | brk => exact p
    | next => exact fin p
    | cont => exact fin p
  · rintro h' tk m' news' F' N' _ hJ
    exact done m' news' h' tk hJ F' N'
end
end
section
open PySem PySem.W PyProof.Rows PySem.Calls PySem.Spec
theorem fillD : hd.heap_1 = hd.heap_1 ∧ PySem.Challenge.rw_og0160_01.row.name = PySem.Challenge.rw_og0160_01.row.name := by
  k_fill
  exact ⟨rfl, rfl⟩
local macro_rules | `(tactic| k_all) => `(tactic| assumption)
local macro_rules | `(tactic| walk_at "setItem ref int") => `(tactic| (k_here; (with_reducible show wpAny _ _ (setItem (Value.ref _) (Value.int _ _) _) _ _ _); k_dflt (refine' put_any ?k1 ?k2 ?k4 ?k5 ?k6 ?k7 ?k3 ?_; (case k1 => k_asm); (case k2 => k_asm); (case k7 => exact rfl); (case k3 => k_upd); (case k4 => l_idx); (case k5 => first | decide | l_idx); (case k6 => l_idx); k_whole); intro h' F' N'; (try simp only [show Int.toNat 0 = 0 from rfl, show Int.toNat 1 = 1 from rfl, show Int.toNat 2 = 2 from rfl, List.set_cons_succ, List.set_cons_zero] at N'); (try k_sweep)))
/-- the pot as the ledger bears it -/
abbrev potL (pa ca n1 n2 : Nat) (vs : List Value) (st pl : Int) (t1 t2 : Tok) (rest : List (Addr × Obj)) : List (Addr × Obj) :=
  (pa, listOf [.ref ca, .int st t1, .int pl t2].toArray n1) :: (ca, listOf vs.toArray n2) :: rest
set_option maxRecDepth 100000 in
set_option maxHeartbeats 8000000 in
theorem draw_spec {w : World} {mean : ExcName → Option Value} {mg mb : Str → Option Value} {dp un : Nat} {gd : Option (List Code)} {cn : Str} {cs : Scope} {a : Addr} {ccd : Value} {cl : List (Str × Addr)} {outer : List Env} {A₀ : Around} {base h₀ : Heap} {L : Addr} {m : Str → Option Value} {s : Shared}
    {Q E : Value → Shared → Prop} {pa ca n1 n2 : Nat} {vs : List Value} {ns : List Int} {st pl lim : Int} {t1 t2 tl : Tok} {rest : List (Addr × Obj)}
    (B : Below A₀ base outer h₀) (F : Fr h₀ L s.heap m) (X : (hd.heap_1 w.params).In h₀) (N : News h₀ L s.heap (potL pa ca n1 n2 vs st pl t1 t2 rest))
    (T : Top hd.view_1 (looseW hd.view_1 [Str.ofString "PaperError"]) mean mg mb h₀) (hk : cs.kind = .function) (hne : pa ≠ ca) (hr1 : ∀ p ∈ rest, p.1 ≠ pa) (hr2 : ∀ p ∈ rest, p.1 ≠ ca)
    (I : IntsAre vs ns) (hlen : ns.length ≤ 40) (hpl : 0 ≤ pl) (hpl' : pl ≤ 1000) (hl0 : 0 < lim) (hl1 : lim ≤ 256)
    (hdp : dp + 10 < recursionLimit) (hun : un + 80 < cLine)
    (hret : ∀ r t vs' ns' st' t1' t2' h' tk', Fr h₀ L h' m → News h₀ L h' (potL pa ca n1 n2 vs' st' (pl + 1) t1' t2' rest) → IntsAre vs' ns' → ns'.length ≤ 40 → (0 : Int) ≤ r → r < lim → Q (.int r t) { s with heap := h', toks := tk' }) :
    wpAny (model PySem.Challenge.rw_og0160_01.row.prog w) (ktrTop dp un gd cn cs L a ccd cl outer) (call (.ref 320) [.ref pa, .int lim tl]) Q E s := by
  refine wpAny_call ?_
  k_dflt ktr_enter
  k_steps
  all_goals (refine hret _ _ _ _ _ _ _ _ _ (by assumption) (by assumption) (by first | assumption | exact ints_set (by assumption) _) ?_ ?_ ?_)
  all_goals first
    | assumption
    | (rw [List.length_set]; assumption)
    | exact fmod_lo _ (by assumption)
    | exact fmod_hi _ (by assumption)
end
section
open PySem PySem.W PyProof.Rows PySem.Calls PySem.Spec
inductive Part where
  | code (i : Int)
  | name (t : Str)
  | none
  | tru
  | str
  | arr
def Part.kind : Part → Str
  | .code _ => "int"
  | .name _ => "name"
  | .none => "null"
  | .tru => "truth"
  | .str => "string"
  | .arr => "array"
/-- how the ledger bears a part -/
inductive PartIn (news : List (Addr × Obj)) : Value → Part → Prop where
  | code (i : Int) (t : Tok) : PartIn news (.int i t) (.code i)
  | name {x dx : Addr} {hs : Int} {t1 t2 : Tok} {t : Str} {n : Nat} : (x, instObj 197 dx) ∈ news → (dx, dictOf [⟨hs, .str (Str.ofString "text") t1, .str t t2⟩] n) ∈ news → PartIn news (.ref x) (.name t)
  | none : PartIn news .none .none
  | tru : PartIn news (.bool true) .tru
  | str {x dx : Addr} {es : List DictEntry} {n : Nat} : (x, instObj 219 dx) ∈ news → (dx, dictOf es n) ∈ news → PartIn news (.ref x) .str
  | arr {x : Addr} {vs : List Value} {n : Nat} : (x, listOf vs.toArray n) ∈ news → PartIn news (.ref x) .arr
theorem PartIn.mono {news news' : List (Addr × Obj)} {v : Value} {p : Part} (h : PartIn news v p) (hs : ∀ q ∈ news, q ∈ news') : PartIn news' v p := by
  cases h with
  | code i t => exact .code i t
  | name h1 h2 => exact .name (hs _ h1) (hs _ h2)
  | none => exact .none
  | tru => exact .tru
  | str h1 h2 => exact .str (hs _ h1) (hs _ h2)
  | arr h1 => exact .arr (hs _ h1)
theorem fillK : hd.heap_1 = hd.heap_1 ∧ PySem.Challenge.rw_og0160_01.row.name = PySem.Challenge.rw_og0160_01.row.name := by
  k_fill
  exact ⟨rfl, rfl⟩
set_option maxRecDepth 100000 in
set_option maxHeartbeats 8000000 in
theorem kind_spec {w : World} {mean : ExcName → Option Value} {mg mb : Str → Option Value} {dp un : Nat} {gd : Option (List Code)} {cn : Str} {cs : Scope} {a : Addr} {ccd : Value} {cl : List (Str × Addr)} {outer : List Env} {A₀ : Around} {base h₀ : Heap} {L : Addr} {m : Str → Option Value} {s : Shared}
    {Q E : Value → Shared → Prop} {news : List (Addr × Obj)} {v : Value} {p : Part}
    (B : Below A₀ base outer h₀) (F : Fr h₀ L s.heap m) (X : (hd.heap_1 w.params).In h₀) (N : News h₀ L s.heap news)
    (T : Top hd.view_1 (looseW hd.view_1 [Str.ofString "PaperError"]) mean mg mb h₀) (hk : cs.kind = .function) (hp : PartIn news v p)
    (hdp : dp + 10 < recursionLimit) (hun : un + 80 < cLine)
    (hret : ∀ t h' tk', Fr h₀ L h' m → News h₀ L h' news → Q (.str p.kind t) { s with heap := h', toks := tk' }) :
    wpAny (model PySem.Challenge.rw_og0160_01.row.prog w) (ktrTop dp un gd cn cs L a ccd cl outer) (call (.ref 279) [v]) Q E s := by
  cases hp
  all_goals refine wpAny_call ?_
  all_goals k_dflt ktr_enter
  all_goals k_steps
  all_goals exact hret _ _ _ (by assumption) (by assumption)
end
section
open PySem PySem.W PyProof.Rows PySem.Calls PySem.Spec
theorem fillP : hd.heap_1 = hd.heap_1 ∧ PySem.Challenge.rw_og0160_01.row.name = PySem.Challenge.rw_og0160_01.row.name := by
  k_fill
  exact ⟨rfl, rfl⟩
theorem allLt_ne {d : Addr} : ∀ {l : List (Addr × Obj)}, AllLt d l → ∀ p ∈ l, p.1 ≠ d
  | [], _, _, hp => (nomatch hp)
  | q :: r, h, p, hp => by
    rcases List.mem_cons.mp hp with rfl | hp
    · exact Nat.ne_of_lt h.1
    · exact allLt_ne h.2 p hp
inductive PartsIn (news : List (Addr × Obj)) : List Value → List Part → Prop where
  | nil : PartsIn news [] []
  | cons {v : Value} {p : Part} {vs : List Value} {ps : List Part} : PartIn news v p → PartsIn news vs ps → PartsIn news (v :: vs) (p :: ps)
theorem PartsIn.mono {news news' : List (Addr × Obj)} {vs : List Value} {ps : List Part} (h : PartsIn news vs ps) (hs : ∀ q ∈ news, q ∈ news') : PartsIn news' vs ps := by
  induction h with
  | nil => exact .nil
  | cons h1 _ ih => exact .cons (h1.mono hs) ih
theorem PartsIn.append {news : List (Addr × Obj)} {vs us : List Value} {ps qs : List Part} (h : PartsIn news vs ps) (h' : PartsIn news us qs) : PartsIn news (vs ++ us) (ps ++ qs) := by
  induction h with
  | nil => exact h'
  | cons h1 _ ih => exact .cons h1 ih
theorem PartsIn.length {news : List (Addr × Obj)} {vs : List Value} {ps : List Part} (h : PartsIn news vs ps) : vs.length = ps.length := by
  induction h with
  | nil => rfl
  | cons _ _ ih => simp [ih]
theorem PartsIn.get {news : List (Addr × Obj)} {vs : List Value} {ps : List Part} (h : PartsIn news vs ps) : ∀ {i : Nat} {v : Value}, vs[i]? = some v → ∃ p, ps[i]? = some p ∧ PartIn news v p := by
  induction h with
  | nil => intro i v hv; simp at hv
  | cons h1 _ ih =>
    intro i v hv
    cases i with
    | zero => simp at hv; subst hv; exact ⟨_, rfl, h1⟩
    | succ i => simpa using ih (by simpa using hv)
local macro_rules | `(tactic| k_all) => `(tactic| first | assumption | exact allLt_ne (by assumption))
local macro_rules | `(tactic| k_lt $h:ident) => `(tactic| (replace $h := allLt_of $h; simp only [AllLt, and_true] at $h:ident; (repeat (obtain ⟨_, $h:ident⟩ : _ ∧ _ := $h))))
local macro_rules | `(tactic| ktr_room) => `(tactic| ((try simp only [depth_mark, depth_under_make, depth_under_kw, depth_in1, depth_deeper, depth_caller]); (try dsimp only [ktrTop]); omega))
local macro_rules | `(tactic| ktr_units) => `(tactic| ((try simp only [units_in1, units_deeper, Around.mark_units, units_caller]); (try dsimp only [ktrTop]); omega))
local macro_rules | `(tactic| k_room) => `(tactic| ktr_room)
local macro_rules | `(tactic| walk_at "subscriptTail") => `(tactic| (k_here; (with_reducible show wpAny _ _ (subscriptTail _ _ (Value.ref _) (Value.int _ _)) _ _ _); k_dflt (refine' sub_text ?k1 ?k2 ?k3 ?k4 ?k5 ?k6 ?_ ?k7; (case k1 => k_asm); (case k2 => k_mem); (case k3 => (repeat (first | exact TextsAre.nil | refine TextsAre.cons _ _ ?_))); (case k4 => omega); (case k5 => (simp only [List.length_cons, List.length_nil]; omega)); (case k6 => omega); (case k7 => with_unfolding_all rfl); k_whole); intro t' u'))
local macro_rules | `(tactic| walk_at "pyIter ref") => `(tactic| refine Stop.intro ?_)
local macro_rules | `(tactic| walk_at "exec For Name Call cons nil") => `(tactic| (k_here; (rename Fr _ _ _ _ => lF'); (with_unfolding_all refine' For_invVF lF' ?k1 ?k2 ?_; (case k1 => exact rfl); (case k2 => exact rfl); k_whole)))
section
variable {w : World} {mean : ExcName → Option Value} {mg mb : Str → Option Value} {dp un : Nat} {gd : Option (List Code)} {cn : Str} {cs : Scope} {a : Addr} {ccd : Value} {cl : List (Str × Addr)} {outer : List Env} {A₀ : Around} {base h₀ : Heap} {L : Addr} {m : Str → Option Value} {s : Shared}
    {Q E : Value → Shared → Prop} {pa ca n1 n2 : Nat} {vs : List Value} {ns : List Int} {st pl lim : Int} {t1 t2 tl : Tok} {rest : List (Addr × Obj)}
theorem sub_mixed {prog : Program} {A : Around} {D : Addr} {news : List (Addr × Obj)} {r : List Value} {n : Nat} {k : Int} {u : Tok} {z : Addr} {value slice : PySem.Expr} (N : News h₀ L s.heap news) (hm : (D, listOf (Value.ref z :: Value.none :: r).toArray n) ∈ news) (h0 : 0 ≤ k) (h1 : k < (Value.ref z :: Value.none :: r).length) (hfit : k < 2 ^ 63) (h : ∀ v, v ∈ Value.ref z :: Value.none :: r → Q v s)
    (hs : subscripted slice false (.ref D) (.int k u) = operate [.ref D, .int k u] (getItem (.ref D) (.int k u)) := by with_unfolding_all rfl) :
    wpAny (model prog w) A (subscriptTail value slice (.ref D) (.int k u)) Q E s := sub_mem N hm h0 h1 hfit h hs
theorem draw_pre (pre : List (Addr × Obj))
    (B : Below A₀ base outer h₀) (F : Fr h₀ L s.heap m) (X : (hd.heap_1 w.params).In h₀) (N : News h₀ L s.heap (pre ++ ((pa, listOf [.ref ca, .int st t1, .int pl t2].toArray n1) :: (ca, listOf vs.toArray n2) :: rest)))
    (T : Top hd.view_1 (looseW hd.view_1 [Str.ofString "PaperError"]) mean mg mb h₀) (hk : cs.kind = .function) (hne : pa ≠ ca) (hp1 : ∀ p ∈ pre, p.1 ≠ pa) (hp2 : ∀ p ∈ pre, p.1 ≠ ca) (hr1 : ∀ p ∈ rest, p.1 ≠ pa) (hr2 : ∀ p ∈ rest, p.1 ≠ ca)
    (I : IntsAre vs ns) (hlen : ns.length ≤ 40) (hpl : 0 ≤ pl) (hpl' : pl ≤ 1000) (hl0 : 0 < lim) (hl1 : lim ≤ 256)
    (hdp : dp + 10 < recursionLimit) (hun : un + 80 < cLine)
    (hret : ∀ r t vs' ns' st' t1' t2' h' tk', Fr h₀ L h' m → News h₀ L h' (pre ++ ((pa, listOf [.ref ca, .int st' t1', .int (pl + 1) t2'].toArray n1) :: (ca, listOf (List.toArray vs') n2) :: rest)) → IntsAre vs' ns' → ns'.length ≤ 40 → (0 : Int) ≤ r → r < lim → Q (.int r t) { s with heap := h', toks := tk' }) :
    wpAny (model PySem.Challenge.rw_og0160_01.row.prog w) (ktrTop dp un gd cn cs L a ccd cl outer) (call (.ref 320) [.ref pa, .int lim tl]) Q E s := by
  have perm : ∀ (x y : Addr × Obj), ∀ p, p ∈ x :: y :: (pre ++ rest) ↔ p ∈ pre ++ (x :: y :: rest) := by
    intro x y p; simp only [List.mem_cons, List.mem_append]
    constructor
    · rintro (h | h | h | h) <;> simp [h]
    · rintro (h | h | h | h) <;> simp [h]
  refine draw_spec (rest := pre ++ rest) B F X (news_perm N fun p hp => (perm _ _ p).mp hp) T hk hne ?_ ?_ I hlen hpl hpl' hl0 hl1 hdp hun ?_
  · intro p hp; rcases List.mem_append.mp hp with h | h; exact hp1 p h; exact hr1 p h
  · intro p hp; rcases List.mem_append.mp hp with h | h; exact hp2 p h; exact hr2 p h
  · intro r t vs' ns' st' t1' t2' h' tk' F' N' I' h1 h2 h3
    exact hret r t vs' ns' st' t1' t2' h' tk' F' (news_perm N' fun p hp => (perm _ _ p).mpr hp) I' h1 h2 h3
end
local macro_rules | `(tactic| walk_at "subscriptTail") => `(tactic| (k_here; (with_reducible show wpAny _ _ (subscriptTail _ _ (Value.ref _) (Value.int _ _)) _ _ _); k_dflt ((refine' sub_mixed ?k1 ?k2 ?k4 ?k5 ?k6 ?_ ?k7); (case k1 => k_asm); (case k2 => k_mem); (case k4 => omega); (case k5 => (simp only [List.length_cons, List.length_nil]; omega)); (case k6 => omega); (case k7 => with_unfolding_all rfl); (intro v' hv'); (simp only [List.mem_cons, List.not_mem_nil, or_false] at hv'); ((rcases hv' with e9 | e9 | e9 | e9 | e9) <;> subst e9))))
local macro_rules | `(tactic| walk_at "call ref") => `(tactic| (k_here; (with_reducible show wpAny _ _ (call (Value.ref 320) [Value.ref _, Value.int _ _]) _ _ _); first | (k_dflt ((first | (refine' draw_pre [] ?kB ?kF ?kX ?kN ?kT ?kk ?kne ?kp1 ?kp2 ?kr1 ?kr2 ?kI ?kl ?kpl ?kpl' ?kl0 ?kl1 ?kd ?ku ?_; (case kN => (with_unfolding_all assumption))) | (refine' draw_pre [_] ?kB ?kF ?kX ?kN ?kT ?kk ?kne ?kp1 ?kp2 ?kr1 ?kr2 ?kI ?kl ?kpl ?kpl' ?kl0 ?kl1 ?kd ?ku ?_; (case kN => (with_unfolding_all assumption))) | (refine' draw_pre [_, _] ?kB ?kF ?kX ?kN ?kT ?kk ?kne ?kp1 ?kp2 ?kr1 ?kr2 ?kI ?kl ?kpl ?kpl' ?kl0 ?kl1 ?kd ?ku ?_; (case kN => (with_unfolding_all assumption))) | (refine' draw_pre [_, _, _] ?kB ?kF ?kX ?kN ?kT ?kk ?kne ?kp1 ?kp2 ?kr1 ?kr2 ?kI ?kl ?kpl ?kpl' ?kl0 ?kl1 ?kd ?ku ?_; (case kN => (with_unfolding_all assumption))) | (refine' draw_pre [_, _, _, _, _, _, _, _] ?kB ?kF ?kX ?kN ?kT ?kk ?kne ?kp1 ?kp2 ?kr1 ?kr2 ?kI ?kl ?kpl ?kpl' ?kl0 ?kl1 ?kd ?ku ?_; (case kN => (with_unfolding_all assumption))) | (refine' draw_pre [_, _, _, _, _, _, _] ?kB ?kF ?kX ?kN ?kT ?kk ?kne ?kp1 ?kp2 ?kr1 ?kr2 ?kI ?kl ?kpl ?kpl' ?kl0 ?kl1 ?kd ?ku ?_; (case kN => (with_unfolding_all assumption))) | (refine' draw_pre [_, _, _, _, _, _, _, _, _] ?kB ?kF ?kX ?kN ?kT ?kk ?kne ?kp1 ?kp2 ?kr1 ?kr2 ?kI ?kl ?kpl ?kpl' ?kl0 ?kl1 ?kd ?ku ?_; (case kN => (with_unfolding_all assumption)))); (case kB => k_asm); (case kF => k_asm); (case kX => k_asm); (case kT => k_asm); (case kk => first | exact rfl | assumption); (case kne => k_ne); (case kp1 => k_all); (case kp2 => k_all); (case kr1 => k_all); (case kr2 => k_all); (case kI => k_asm); (case kl => assumption); (case kpl => omega); (case kpl' => omega); (case kl0 => decide); (case kl1 => decide); (case kd => ktr_room); (case ku => ktr_units)); intro r9 t9 vs9 ns9 st9 ta9 tb9 h9 tk9 F9 N9 I9 hl9 ho9 hi9; (try dsimp only [List.nil_append, List.cons_append] at N9); (try k_sweep)) | refine Stop.intro ?_))
local macro_rules | `(tactic| walk_at "call type:range") => `(tactic| ((rename Fr _ _ _ _ => F'); (rename News _ _ _ _ => N'); (with_unfolding_all refine range1_rows F' N' ?_); intro h' tk' ta' tb' tc' R' F'' N'' k'))

theorem range_size {r : Int} (h : 0 ≤ r) : Builtin.Range.rangeSize 0 r 1 = ((r.toNat : Nat) : Int) := by
  unfold Builtin.Range.rangeSize
  simp
  omega
theorem small_seven {r : Int} (h0 : 0 ≤ r) (h1 : r < 7) : Builtin.Range.small 0 r 1 = true := by
  have h : r = 0 ∨ r = 1 ∨ r = 2 ∨ r = 3 ∨ r = 4 ∨ r = 5 ∨ r = 6 := by omega
  rcases h with rfl | rfl | rfl | rfl | rfl | rfl | rfl <;> decide
theorem map2 {m : Str → Option Value} {x y : Str} {u v : Value} (hx : m x = some u) (hy : m y = some v) : m = fun z => if z = x then some u else if z = y then some v else m z := by
  funext z
  by_cases h1 : z = x
  · simp [h1, hx]
  · by_cases h2 : z = y
    · subst h2; simp [h1, hy]
    · simp [h1, h2]
def PJ (pa ca la n1 n2 : Nat) (pl : Int) (rest : List (Addr × Obj)) (i : Nat) (m : Str → Option Value) (nx : List (Addr × Obj)) : Prop :=
  ∃ vs ns st pl' t1 t2 pvs ps n3 R, nx = (la, listOf (List.toArray pvs) n3) :: (pa, listOf [.ref ca, .int st t1, .int pl' t2].toArray n1) :: (ca, listOf (List.toArray vs) n2) :: R ∧ IntsAre vs ns ∧ ns.length ≤ 40 ∧ (0 : Int) ≤ pl' ∧ pl' ≤ pl + 1 + 4 * i ∧
    PartsIn R pvs ps ∧ pvs.length = i ∧ (∀ p ∈ rest, p ∈ R) ∧ (∀ p ∈ R, p.1 ≠ la) ∧ (∀ p ∈ R, p.1 ≠ pa) ∧ (∀ p ∈ R, p.1 ≠ ca) ∧ m "pot" = some (.ref pa) ∧ m "parts" = some (.ref la)
theorem parts_end {h₀ h' : Heap} {L : Addr} {m' : Str → Option Value} {I pa ca la n1 n2 n3 : Nat} {oI : Obj} {pl pl' st : Int} {t1 t2 : Tok} {rest R : List (Addr × Obj)} {i : Nat} {s₁ : Shared} {tk : Nat} {vs pvs : List Value} {ns : List Int} {ps : List Part} {v : Value} {p : Part} (hs : List (Addr × Obj))
    (F : Fr h₀ L h' m') (N : News h₀ L h' (hs ++ ((I, oI) :: (la, listOf (pvs.toArray.push v) n3) :: (pa, listOf [.ref ca, .int st t1, .int pl' t2].toArray n1) :: (ca, listOf vs.toArray n2) :: R)))
    (hv : PartIn (hs ++ R) v p) (h1 : ∀ p ∈ hs, p.1 ≠ I) (h2 : ∀ p ∈ hs, p.1 ≠ la) (h3 : ∀ p ∈ hs, p.1 ≠ pa) (h4 : ∀ p ∈ hs, p.1 ≠ ca) (hIl : la ≠ I) (hIp : pa ≠ I) (hIc : ca ≠ I)
    (hIR : ∀ p ∈ R, p.1 ≠ I) (hRl : ∀ p ∈ R, p.1 ≠ la) (hRp : ∀ p ∈ R, p.1 ≠ pa) (hRc : ∀ p ∈ R, p.1 ≠ ca) (hI : IntsAre vs ns) (hl : ns.length ≤ 40) (h0 : 0 ≤ pl') (hb : pl' ≤ pl + 1 + 4 * ((i + 1 : Nat) : Int)) (hP : PartsIn R pvs ps) (hlen : pvs.length = i)
    (hsub : ∀ p ∈ rest, p ∈ R) (hmp : m' "pot" = some (.ref pa)) (hms : m' "parts" = some (.ref la)) :
    TEnd h₀ L I oI (PJ pa ca la n1 n2 pl rest (i + 1)) s₁ { s₁ with heap := h', toks := tk } := by
  have both : ∀ {P : Addr × Obj → Prop}, (∀ p ∈ hs, P p) → (∀ p ∈ R, P p) → ∀ p ∈ hs ++ R, P p := fun a b p hp => (List.mem_append.mp hp).elim (a p) (b p)
  refine TEnd.intro (nx := (la, listOf (pvs ++ [v]).toArray n3) :: (pa, listOf [.ref ca, .int st t1, .int pl' t2].toArray n1) :: (ca, listOf vs.toArray n2) :: (hs ++ R)) F ?_ ?_
    ⟨vs, ns, st, pl', t1, t2, pvs ++ [v], ps ++ [p], n3, hs ++ R, rfl, hI, hl, h0, hb, ?_, by simp [hlen], fun p hp => List.mem_append_right _ (hsub p hp), both h2 hRl, both h3 hRp, both h4 hRc, hmp, hms⟩
  · rw [← List.push_toArray]
    refine news_perm N fun p hp => ?_
    simp only [List.mem_cons, List.mem_append] at hp ⊢
    rcases hp with h | h | h | h | h | h <;> simp [h]
  · intro p hp
    rcases List.mem_cons.mp hp with rfl | hp
    · exact hIl
    rcases List.mem_cons.mp hp with rfl | hp
    · exact hIp
    rcases List.mem_cons.mp hp with rfl | hp
    · exact hIc
    exact both h1 hIR p hp
  · exact (hP.mono fun q hq => List.mem_append_right _ hq).append (.cons hv .nil)
theorem pin_other {news : List (Addr × Obj)} {v : Value} {p : Part} (h : PartIn news v p) : PartIn news v p := h
set_option maxRecDepth 100000 in
set_option maxHeartbeats 8000000 in
theorem parts_spec {w : World} {mean : ExcName → Option Value} {mg mb : Str → Option Value} {dp un : Nat} {gd : Option (List Code)} {cn : Str} {cs : Scope} {a : Addr} {ccd : Value} {cl : List (Str × Addr)} {outer : List Env} {A₀ : Around} {base h₀ : Heap} {L : Addr} {m : Str → Option Value} {s : Shared}
    {Q E : Value → Shared → Prop} {pa ca n1 n2 : Nat} {vs : List Value} {ns : List Int} {st pl : Int} {t1 t2 : Tok} {rest : List (Addr × Obj)}
    (B : Below A₀ base outer h₀) (F : Fr h₀ L s.heap m) (X : (hd.heap_1 w.params).In h₀) (N : News h₀ L s.heap ((pa, listOf [.ref ca, .int st t1, .int pl t2].toArray n1) :: (ca, listOf vs.toArray n2) :: rest))
    (T : Top hd.view_1 (looseW hd.view_1 [Str.ofString "PaperError"]) mean mg mb h₀) (hk : cs.kind = .function) (hne : pa ≠ ca) (hr1 : ∀ p ∈ rest, p.1 ≠ pa) (hr2 : ∀ p ∈ rest, p.1 ≠ ca)
    (I : IntsAre vs ns) (hlen : ns.length ≤ 40) (hpl : 0 ≤ pl) (hpl' : pl ≤ 500)
    (hdp : dp + 20 < recursionLimit) (hun : un + 200 < cLine)
    (hret : ∀ la pvs ps n3 R vs' ns' st' pl' t1' t2' h' tk', Fr h₀ L h' m → News h₀ L h' ((la, listOf (List.toArray pvs) n3) :: (pa, listOf [.ref ca, .int st' t1', .int pl' t2'].toArray n1) :: (ca, listOf (List.toArray vs') n2) :: R) → IntsAre vs' ns' → ns'.length ≤ 40 → (0 : Int) ≤ pl' → pl' ≤ pl + 25 →
      PartsIn R pvs ps → pvs.length ≤ 6 → (∀ p ∈ rest, p ∈ R) → (∀ p ∈ R, p.1 ≠ la) → (∀ p ∈ R, p.1 ≠ pa) → (∀ p ∈ R, p.1 ≠ ca) → la ≠ pa → la ≠ ca → Q (.ref la) { s with heap := h', toks := tk' }) :
    wpAny (model PySem.Challenge.rw_og0160_01.row.prog w) (ktrTop dp un gd cn cs L a ccd cl outer) (call (.ref 327) [.ref pa]) Q E s := by
  refine wpAny_call ?_
  k_dflt ktr_enter
  k_steps
  rename IsRange _ _ _ _ _ _ _ _ => R2
  rename Fr _ _ _ _ => F2
  rename News _ _ _ _ => N2
  refine' for_range (PJ pa ca ?la n1 n2 pl rest) rfl R2 ?zs (range_size (by assumption)) F2 N2 ?zj ?zt ?zd
  case zj =>
    refine' ⟨_, _, _, _, _, _, [], [], 0, rest, ?e, ?i, ?l, ?a, ?b, PartsIn.nil, rfl, fun _ h => h, ?r1, ?r2, ?r3, rfl, rfl⟩
    case e => exact rfl
    case i => assumption
    case l => assumption
    case a => omega
    case b => omega
    case r1 => exact allLt_ne (by assumption)
    case r2 => assumption
    case r3 => assumption
  case zs =>
    exact small_seven (by assumption) (by assumption)
  case zt =>
    intro i t m₁ news₁ h tk I oI hi hJ hoI F₁ N₁
    obtain ⟨vs, ns, st, pl', t1, t2, pvs, ps, n3, R, rfl, hI, hl, h0, h1, hP, hlen, hsub, hRl, hRp, hRc, hmp, hms⟩ := hJ
    rw [map2 hmp hms] at F₁
    dsimp only at F₁
    have hIR : ∀ p ∈ R, p.1 ≠ I := fun p hp => hoI p (.tail _ (.tail _ (.tail _ hp)))
    have hIl := neN (hoI _ (.head _))
    have hIp := neN (hoI _ (.tail _ (.head _)))
    have hIc := neN (hoI _ (.tail _ (.tail _ (.head _))))
    dsimp only at hIl hIp hIc
    have hlp : (l : Nat) → True := fun _ => trivial
    k_steps
    all_goals first
      | (refine parts_end [_] (by assumption) (by with_unfolding_all assumption) (.code _ _) ?_ ?_ ?_ ?_ hIl hIp hIc hIR hRl hRp hRc (by assumption) (by assumption) (by omega) (by omega) hP hlen hsub rfl rfl <;> k_all)
      | (refine parts_end [_, _, _] (by assumption) (by with_unfolding_all assumption) (.name (.head _) (.tail _ (.head _))) ?_ ?_ ?_ ?_ hIl hIp hIc hIR hRl hRp hRc (by assumption) (by assumption) (by omega) (by omega) hP hlen hsub rfl rfl <;> k_all)
      | (refine parts_end [_, _, _, _, _, _] (by assumption) (by with_unfolding_all assumption) .none ?_ ?_ ?_ ?_ hIl hIp hIc hIR hRl hRp hRc (by assumption) (by assumption) (by omega) (by omega) hP hlen hsub rfl rfl <;> k_all)
      | (refine parts_end [_, _, _, _, _, _] (by assumption) (by with_unfolding_all assumption) .tru ?_ ?_ ?_ ?_ hIl hIp hIc hIR hRl hRp hRc (by assumption) (by assumption) (by omega) (by omega) hP hlen hsub rfl rfl <;> k_all)
      | (refine parts_end [_, _, _, _, _, _] (by assumption) (by with_unfolding_all assumption) (.name (by k_mem) (by k_mem)) ?_ ?_ ?_ ?_ hIl hIp hIc hIR hRl hRp hRc (by assumption) (by assumption) (by omega) (by omega) hP hlen hsub rfl rfl <;> k_all)
      | (refine parts_end [_, _, _, _, _, _] (by assumption) (by with_unfolding_all assumption) (.str (by k_mem) (by k_mem)) ?_ ?_ ?_ ?_ hIl hIp hIc hIR hRl hRp hRc (by assumption) (by assumption) (by omega) (by omega) hP hlen hsub rfl rfl <;> k_all)
      | (refine parts_end [_, _, _, _, _, _] (by assumption) (by with_unfolding_all assumption) (.arr (by k_mem)) ?_ ?_ ?_ ?_ hIl hIp hIc hIR hRl hRp hRc (by assumption) (by assumption) (by omega) (by omega) hP hlen hsub rfl rfl <;> k_all)
      | fail "no way"
  case zd =>
    intro m₁ news₁ h tk hJ F₁ N₁
    obtain ⟨vs, ns, st, pl', t1, t2, pvs, ps, n3, R, rfl, hI, hl, h0, h1, hP, hlen, hsub, hRl, hRp, hRc, hmp, hms⟩ := hJ
    rw [map2 hmp hms] at F₁
    dsimp only at F₁ ⊢
    k_steps
    exact hret _ _ _ _ _ _ _ _ _ _ _ _ _ (by assumption) (by assumption) hI hl h0 (by omega) hP (by omega) hsub hRl hRp hRc (by k_ne) (by k_ne)
end
open PySem.Calls PySem.Spec
local macro_rules | `(tactic| k_all) => `(tactic| first | assumption | exact allLt_ne (by assumption))
local macro_rules | `(tactic| k_lt $h:ident) => `(tactic| (replace $h := allLt_of $h; simp only [AllLt, and_true] at $h:ident; (repeat (obtain ⟨_, $h:ident⟩ : _ ∧ _ := $h))))
local macro_rules | `(tactic| ktr_room) => `(tactic| ((try simp only [depth_mark, depth_under_make, depth_under_kw, depth_in1, depth_deeper, depth_caller]); (try dsimp only [ktrTop]); omega))
local macro_rules | `(tactic| ktr_units) => `(tactic| ((try simp only [units_in1, units_deeper, Around.mark_units, units_caller]); (try dsimp only [ktrTop]); omega))
local macro_rules | `(tactic| k_room) => `(tactic| ktr_room)
section
open PySem PySem.W PyProof.Rows PySem.Calls PySem.Spec
def dStep (x : List Str × Int) : Part → Option (List Str × Int)
  | .code i => if 0 ≤ i ∧ i ≤ 255 then some (x.1, i) else none
  | .name t => if 0 ≤ x.2 ∧ x.2 ≤ 255 then some (x.1.set x.2.toNat (if t = Str.ofString ".notdef" then Str.ofString "" else t), x.2 + 1) else none
  | _ => none
def dFold : List Part → List Str × Int → Option (List Str × Int)
  | [], x => some x
  | p :: r, x => match dStep x p with
    | some y => dFold r y
    | none => none
theorem dFold_append (ps qs : List Part) (x : List Str × Int) : dFold (ps ++ qs) x = match dFold ps x with
    | some y => dFold qs y
    | none => none := by
  induction ps generalizing x with
  | nil => rfl
  | cons p r ih =>
    show (match dStep x p with | some y => dFold (r ++ qs) y | none => none) = _
    cases h : dStep x p with
    | none => simp [dFold, h]
    | some y => simp [dFold, h, ih]
/-- values that are texts -/
inductive TextsV : List Value → List Str → Prop where
  | nil : TextsV [] []
  | cons (t : Str) (k : Tok) {vs : List Value} {ts : List Str} : TextsV vs ts → TextsV (.str t k :: vs) (t :: ts)
theorem TextsV.length {vs : List Value} {ts : List Str} (h : TextsV vs ts) : vs.length = ts.length := by
  induction h with
  | nil => rfl
  | cons _ _ _ ih => simp [ih]
theorem TextsV.set {vs : List Value} {ts : List Str} (h : TextsV vs ts) (t : Str) (k : Tok) : ∀ j : Nat, TextsV (vs.set j (.str t k)) (ts.set j t) := by
  induction h with
  | nil => intro j; exact .nil
  | cons u l h ih =>
    intro j
    cases j with
    | zero => exact .cons t k h
    | succ j => exact .cons u l (ih j)
section
variable {prog : Program} {w : World} {A : Around} {E : Value → Shared → Prop} {s : Shared} {h₀ : Heap} {L D : Addr} {m : Str → Option Value} {news news' : List (Addr × Obj)} {vs vs' : List Value} {n : Nat} {k : Int} {t u : Tok} {v : Value}
theorem copy_any {l : Addr} {Q : Value → Shared → Prop} (F : Fr h₀ L s.heap m) (N : News h₀ L s.heap news) (hm : (l, listOf vs.toArray n) ∈ news) (hz : vs.length ≤ 1000)
    (h : ∀ D c h', Fr h₀ L h' m → News h₀ L h' ((D, listOf vs.toArray c) :: news) → (∀ q ∈ news, q.1 < D) → Q (.ref D) { s with heap := h' }) :
    wpAny (model prog w) A (call (.type "list") [.ref l]) Q E s :=
  list_copyK F N (PySem.IsL.isList (n := n) (N _ hm).1) h (by rw [List.size_toArray, sizeLine_eq]; omega)
end
end
section
open PySem PySem.W PyProof.Rows PySem.Calls PySem.Spec
/-- an exception object newly made, of any class; all that stood stands -/
structure NewExcV (h h' : Heap) (e : Addr) (cls : Value) : Prop where
  keeps : ∀ b o, h.get? b = some o → h'.get? b = some o
  new : h.get? e = none
  there : ∃ ob t, h'.get? e = some ob ∧ ob.cls = cls ∧ ob.data = .fields #[t, .none, .none, .none, .bool false, .none]
section
variable {M : Model} {A : Around} {E : Value → Shared → Prop} {s' : Shared} {base g h : Heap} {outer : List Env} {L a e : Addr} {m : Str → Option Value} {name : Str} {scope : Scope} {cd : Value} {Q : Unit → Shared → Prop} {news : List (Addr × Obj)}
theorem leave_newV {cls : Value} (K : Below A base outer g) (hx : NewExcV h s'.heap e cls) (F : Fr g L h m) (N : News g L h news)
    (hQ : ∀ h', RaisedSN base g outer e cls news h' → g.UpToSlots h' → Q () { s' with heap := h' }) (hk : scope.kind = .function := by rfl) :
    wpAny M (A.deeper (envOf name scope L a cd)) (leaving (envOf name scope L a cd) (.ref e)) Q E s' := by
  have K' := K.push (name := name) (a := a) (cd := cd) F hk
  let fs := (envOf name scope L a cd :: outer).filterMap (·.frame)
  have inFs : ∀ env ∈ (envOf name scope L a cd :: outer), ∀ b, env.frame = some b → b ∈ fs := fun env he b hb => List.mem_filterMap.mpr ⟨env, he, hb⟩
  have stays : base.StaysIn (hideAll h fs) := fun b o q => hideAll_get _ (K'.stays b o q) fun hm => by
    have z := (K'.frames.mem hm).1
    rw [q] at z; cases z
  have ground : ∀ b o, g.get? b = some o → b ∉ outer.filterMap (·.frame) → (hideAll h fs).get? b = some o := fun b o q nm => hideAll_get _ (F.keep b o q) fun hm => by
    rcases kts_mem hm with z | z
    · have z' := kts_self F
      rw [← z, q] at z'; cases z'
    · exact nm z
  have ledger : ∀ q ∈ news, (hideAll h fs).get? q.1 = some q.2 ∧ g.get? q.1 = none ∧ base.get? q.1 = none := fun q hq => by
    refine ⟨hideAll_get _ (N q hq).1 fun hm => ?_, (N q hq).2.2, fresh_of_stays K.stays (N q hq).2.2⟩
    rcases kts_mem hm with z | z
    · exact (N q hq).2.1 z
    · obtain ⟨o, ho, _⟩ := (K.frames.mem z).2
      rw [(N q hq).2.2] at ho; cases ho
  obtain ⟨ob, tp, he, hcls, hd⟩ := hx.there
  have fresh : (hideAll h fs).get? e = none := by
    cases q : (hideAll h fs).get? e with
    | none => rfl
    | some o =>
      have z := of_hideAll _ q
      rw [hx.new] at z; cases z
  refine wpAny_leaving_firstW (a0 := tp) K'.stack ((funFrames_hide K'.frames inFs).of_keeps fun b o hb _ => ⟨o, hx.keeps b o hb, rfl⟩) rfl he (fun b o hb => hx.keeps b o (of_hideAll _ hb)) fresh hd rfl rfl fun h' hL => ?_
  obtain ⟨k1, ⟨_, _, k2⟩, k3, k4⟩ := hL
  exact hQ h' ⟨_, tp, stays, ground, ledger, k1, fresh, k2, hcls ▸ k3⟩ (((Heap.UpToSlots.of_keeps F.keep).trans (Heap.UpToSlots.of_keeps hx.keeps)).trans k4)
end
end
section
set_option maxRecDepth 100000
open PySem PySem.W PyProof.Rows PySem.Calls PySem.Spec
/-- the facts of an own exception class whose __init__ stands in a class above it -/
structure OwnExc (K : Frag) (C fI : Addr) (nm q : Str) (N : Addr) (bs bm : List Value) (hdct : Bool) (sn : List Str) (sub : List Value) (ab : Bool) (col : Option Bool) (dd : Option Addr) (k0 k1 k2 k3 k5 : Option Value) : Prop where
  obj : K.lookup C = some (excClassObj nm q C N bs bm hdct sn sub ab col dd k0 k1 k2 k3 k5 "Exception.__new__")
  init : findIn K (.ref C) "__init__" = some (some (.ref fI))
  fn : isFn K (.ref fI) = true
  hasE : bm.contains (.type "Exception") = true
  hasB : bm.contains (.type "BaseException") = true
  noA : bm.contains (.type "AttributeError") = false
  noN : bm.contains (.type "NameError") = false
section
variable {prog : Program} {w : World} {A : Around} {E : Value → Shared → Prop} {h : Heap} {g : Array GenState} {d : Drawn} {t : Nat} {os : OsState} {K : Frag} {C fI N : Addr} {nm q : Str} {bs bm : List Value} {hdct : Bool} {sn : List Str} {sub : List Value} {ab : Bool} {col : Option Bool} {dd : Option Addr} {k0 k1 k2 k3 k5 : Option Value}

theorem made_new (O : OwnExc K C fI nm q N bs bm hdct sn sub ab col dd k0 k1 k2 k3 k5) (X : K.In h) {rest : List Value} {R : Result → Shared → Prop}
    (hq : R (.ok (.ret (.ref (h.objs.size + 1)))) ⟨(h.push { cls := .type "tuple", data := .seq rest.toArray }).push
      { cls := .ref C, data := .fields #[.ref h.objs.size, .none, .none, .none, .bool false, .none] }, g, d, t, os⟩) (hrest : rest.length ≤ sizeLine) :
    codeAny (model prog w) A (.builtin "Exception.__new__" ⟨.ref C :: rest, []⟩) R ⟨h, g, d, t, os⟩ := by
  have F := PySem.F.excBase_Exception
  have hC := X _ _ O.obj
  have hends := F.ends
  have hcB : (Value.ref C :: bm).contains (.type "Exception") = true := by rw [List.contains_cons, O.hasE, Bool.or_true]
  have hcA : (Value.ref C :: bm).contains (.type "AttributeError") = false := by rw [List.contains_cons, O.noA]; rfl
  have hcN : (Value.ref C :: bm).contains (.type "NameError") = false := by rw [List.contains_cons, O.noN]; rfl
  refine codeAny_builtinAt F.entry ?_
  unfold Builtin.«BaseException.__new__»
  refine _root_.PySem.wpAt_bind ?_
  show _root_.PySem.wpAt _ _ _ (stack >>= _) _ _ _
  refine _root_.PySem.wpAt_bind (_root_.PySem.wpAt_stack fun p below => _root_.PySem.wpAt_of_wpAny ?_)
  wp_walk
  refine _root_.PySem.wpAt_of_wpAny ?_
  rw [F.owner]
  repeat (first | with_reducible refine wpAny_madeHere_exc F.canon hC ?_ | with_reducible refine wpAny_loadPart_at hC ?_ | (with_reducible refine wpAny_isSubtype_exc hC ?_; first | rw [hcB] | rw [hcA] | rw [hcN]) | wp_step)
  show R _ _
  rw [Heap.size_push]
  exact hq

theorem check_new (O : OwnExc K C fI nm q N bs bm hdct sn sub ab col dd k0 k1 k2 k3 k5) (X : K.In h) {M : Model} {rest : List Value} {Q : Unit → Shared → Prop} (hq : Q () ⟨h, g, d, t, os⟩) :
    wpAny M A (checkBuiltinCall "Exception.__new__" ⟨.ref C :: rest, []⟩) Q E ⟨h, g, d, t, os⟩ := by
  have F := PySem.F.excBase_Exception
  have hC := X _ _ O.obj
  have hcont : (Value.ref C :: bm).contains (.type "Exception") = true := by rw [List.contains_cons, O.hasE, Bool.or_true]
  have hstar := F.noStar
  simp only [checkBuiltinCall, F.newKind, F.newSplit, F.newRow]
  repeat (first | refine wpAny_loadPart_at hC ?_ | (refine wpAny_isSubtype_exc hC ?_; rw [hcont]) | refine wpAny_staticBase_exc hC ?_ | refine wpAny_madeBy_exc hC ?_ | simp only [bne_self_eq_false, Bool.false_eq_true, if_false] | wp_step)
  exact hq

theorem made_call (O : OwnExc K C fI nm q N bs bm hdct sn sub ab col dd k0 k1 k2 k3 k5) (X : K.In h) {rest : List Value} {Q : Value → Shared → Prop} (hrest : rest.length ≤ sizeLine)
    (hq : wpAny (model prog w) (A.under (.builtin "type.__call__" ⟨.ref C :: rest, []⟩)) (call (.ref fI) (.ref (h.objs.size + 1) :: rest)) (fun r s' => r = .none ∧ Q (.ref (h.objs.size + 1)) s') E
      ⟨(h.push { cls := .type "tuple", data := .seq rest.toArray }).push { cls := .ref C, data := .fields #[.ref h.objs.size, .none, .none, .none, .bool false, .none] }, g, d, t, os⟩) :
    wpAny (model prog w) A (call (.ref C) rest) Q E ⟨h, g, d, t, os⟩ := by
  have hC := X _ _ O.obj
  have f1 := tc_lookup
  have f2 := tc_bind (.ref C)
  have hT : (⟨h, g, d, t, os⟩ : Shared).TypeIs (.ref C) "type" := ⟨_, hC, rfl⟩
  refine wpAny_call (codeAny_of_tree ?_)
  show wpAny _ _ (callAny (.ref C) _) _ _ _
  repeat (any_goals (first | assumption | with_reducible refine wpAny_loadPart_at hC ?_ | wp_step))
  refine ⟨rfl, ?_⟩
  refine codeAny_call_builtin_at (Code.quiet_builtin _ (by decide +kernel)) entry_typeCall (wpAny_check_type_call_sub hC ?_)
  repeat (first | with_reducible refine wpAny_loadPart_at hC ?_ | with_reducible refine wpAny_madeBy_exc hC ?_ | wp_step)
  refine codeAny_call_builtin_code (Code.quiet_builtin _ PySem.F.excBase_Exception.quiet) (check_new O X ?_)
  refine made_new O X ?_ hrest
  show wpAny _ _ _ _ _ _
  have keep : ∀ b o, h.get? b = some o → ((h.push { cls := .type "tuple", data := .seq rest.toArray }).push { cls := .ref C, data := .fields #[.ref h.objs.size, .none, .none, .none, .bool false, .none] }).get? b = some o :=
    fun b o e => Heap.get?_push_of_some _ (Heap.get?_push_of_some _ e)
  have hC₁ := keep _ _ hC
  have X₁ : K.In ((h.push { cls := .type "tuple", data := .seq rest.toArray }).push { cls := .ref C, data := .fields #[.ref h.objs.size, .none, .none, .none, .bool false, .none] }) := X.keeps keep
  have hget : ((h.push { cls := .type "tuple", data := .seq rest.toArray }).push { cls := .ref C, data := .fields #[.ref h.objs.size, .none, .none, .none, .bool false, .none] }).get? (h.objs.size + 1) = some
      { cls := .ref C, data := .fields #[.ref h.objs.size, .none, .none, .none, .bool false, .none] } := by heap_get
  have hcC : (Value.ref C :: bm).contains (.ref C) = true := by simp
  unfold isInstance
  repeat (first | with_reducible refine wpAny_loadPart_at hget ?_ | (refine wpAny_isSubtype_exc hC₁ ?_; rw [hcC]) | wp_step)
  show wpAny _ _ (typeLookup (.ref C) _) _ _ _
  refine (looks_findIn X₁ O.init).here ?_
  refine wpAny_holding (wpAny_bind ((bind_fn X₁ _ (beq_iff_eq.mp O.fn)).here ?_))
  refine wpAny_bind (wpAny_mono hq (fun r s' hr => ?_) fun _ _ x => x)
  obtain ⟨rfl, hQ⟩ := hr
  wp_walk
  exact hQ
end
end
section
set_option maxRecDepth 100000
open PySem PySem.W PyProof.Rows PySem.Calls PySem.Spec
section
variable {prog : Program} {w : World} {A : Around} {E : Value → Shared → Prop} {h : Heap} {g : Array GenState} {d : Drawn} {t : Nat} {os : OsState} {K : Frag} {C fI N : Addr} {nm q : Str} {bs bm : List Value} {hdct : Bool} {sn : List Str} {sub : List Value} {ab : Bool} {col : Option Bool} {dd : Option Addr} {k0 k1 k2 k3 k5 : Option Value}
theorem check_init (O : OwnExc K C fI nm q N bs bm hdct sn sub ab col dd k0 k1 k2 k3 k5) (X : K.In h) {M : Model} {e : Addr} {oe : Obj} {rest : List Value} {Q : Unit → Shared → Prop}
    (he : h.get? e = some oe) (hcls : oe.cls = .ref C) (hq : Q () ⟨h, g, d, t, os⟩) :
    wpAny M A (checkBuiltinCall "Exception.__init__" ⟨.ref e :: rest, []⟩) Q E ⟨h, g, d, t, os⟩ := by
  have F := PySem.F.excBase_Exception
  have hC := X _ _ O.obj
  have hcB : (Value.ref C :: bm).contains (.type "Exception") = true := by rw [List.contains_cons, O.hasE, Bool.or_true]
  have hshort := F.noStar
  simp only [checkBuiltinCall, F.initKind, F.initSplit, F.initRow]
  repeat (first | (with_reducible refine wpAny_loadPart_at he ?_; rw [hcls]) | with_reducible refine wpAny_loadPart_at hC ?_ | (refine wpAny_isSubtype_exc hC ?_; rw [hcB]) | wp_step)
  refine wpAny_onRaise ?_
  rw [show ∀ (a b : String) (n : Nat), Bind.check ⟨.positional, "*", "Exception", .self, [⟨"args", .varPos, false⟩]⟩ a b n (List.map (fun x => x.fst) ({ pos := Value.ref e :: rest } : Args).kw) = pure () from
    fun a b n => check_star_args _ _ _ _ _ _]
  exact wpAny_pure hq
/-- an exception as it stands: its class, its fields, its dict if it has one -/
def ExcStands (h : Heap) (e C : Addr) (dd : Option Addr) : Prop := ∃ tp : Addr, h.get? e = some { cls := .ref C, dict := dd, data := .fields #[.ref tp, .none, .none, .none, .bool false, .none] }
theorem base_init (O : OwnExc K C fI nm q N bs bm hdct sn sub ab col dd k0 k1 k2 k3 k5) (X : K.In h) {e : Addr} {rest : List Value} {Q : Value → Shared → Prop} {dx : Option Addr} (he : ExcStands h e C dx)
    (hq : ∀ h', ExcStands h' e C dx → (∀ b o, b ≠ e → h.get? b = some o → h'.get? b = some o) → h.objs.size ≤ h'.objs.size → Q .none ⟨h', g, d, t, os⟩) (hrest : rest.length ≤ sizeLine) :
    wpAny (model prog w) A (call (.builtin "Exception.__init__") (.ref e :: rest)) Q E ⟨h, g, d, t, os⟩ := by
  have F := PySem.F.excBase_Exception
  obtain ⟨tp, he⟩ := he
  refine wpAny_call (codeAny_call_builtin F.init.plain F.initEntry (check_init O X he rfl ?_))
  wp_walk
  refine hq _ ⟨h.objs.size, ?_⟩ (fun b o hb ho => ?_) ?_
  · rw [Heap.get?_update_self _ (Heap.get?_push_of_some _ he) rfl]
    rfl
  · rw [Heap.get?_update_other _ _ (Ne.symm hb)]
    exact Heap.get?_push_of_some _ ho
  · rw [Heap.size_update, Heap.size_push]
    omega
end
end
section
set_option maxRecDepth 100000
open PySem PySem.W PyProof.Rows PySem.Calls PySem.Spec PySem.Builtin PySem.Builtin.ObjectAttr
section
variable {prog : Program} {w : World} {A : Around} {E : Value → Shared → Prop} {s : Shared} {h : Heap} {g : Array GenState} {d : Drawn} {t : Nat} {os : OsState} {K : Frag} {C x dx : Addr} {o ox : Obj} {od : Option Obj} {cd : ClassData} {name : Str} {v : Value} {tk : Tok}
/-- what a store on an object of an own exception class leans on -/
structure PlainEx (K : Frag) (C : Addr) (cd : ClassData) : Prop where
  cls : clsIn K C = some cd
  dict : cd.hasDict = true
  obj : cd.mro.contains (.type "object") = true
  ne : cd.mro.isEmpty = false
  free : ∀ self, refuseLoop self "__setattr__" cd.mro = pure ()
  set : findIn K (.ref C) "__setattr__" = some (some (.builtin "object.__setattr__"))

theorem osa_exc {R : Result → Shared → Prop} (P : PlainEx K C cd) (X : K.In s.heap) (I : s.heap.get? x = some ox) (hcl : ox.cls = .ref C) (ht : findIn K (.ref C) name = some none)
    (h : wpAny (model prog w) A.in1 (storeInOwnDict (.ref x) (.ref C) (.str name tk) name v false)
      (fun fin s' => match fin with | .done f => R (.ok f) s' | .again c' => c'.quiet = true ∧ codeAny (model prog w) A c' R s') (fun e s' => R (.error e) s') s) :
    codeAny (model prog w) A (.call (.builtin "object.__setattr__") ⟨[.ref x, .str name tk, v], []⟩) R s := by
  have SF := PySem.F.store_object
  have hc := P.cls
  have It : Looks (model prog w) s.heap (typeOf (.ref x)) (.ref C) := hcl ▸ (Looks.ld I).andThen .now
  have sub : Looks (model prog w) s.heap (isInstance (.ref x) (.type "object")) true := It.andThen (looks_mroIn X (by unfold mroIn; rw [hc, Option.bind_some, if_neg (by rw [P.ne]; decide), P.obj]))
  refine codeAny_call_builtin SF.slot.plain SF.entry (@check_slot (model prog w) _ _ s "object.__setattr__" "object" "__setattr__" (.ref x) [.str name tk, v] [] _ SF.kind SF.split sub (SF.args (.ref x) (.str name tk) v) ?_)
  have hm : Looks (model prog w) s.heap (mroOf (.ref C)) cd.mro := (looks_clsIn X hc).andThen .now
  rw [osa_eq, refuse_eq]
  refine wpAny_bind (wpAny_bind (It.here (wpAny_bind (hm.here ?_))))
  rw [P.free]
  refine wpAny_pure (wpAny_bind (It.here (wpAny_bind ((looks_findIn X ht).here (wpAny_bind ?_)))))
  exact wpAny_pure h

theorem set_exc {Q : Unit → Shared → Prop} (P : PlainEx K C cd) (X : K.In s.heap) (I : s.heap.get? x = some ox) (hcl : ox.cls = .ref C) (ht : findIn K (.ref C) name = some none)
    (h : wpAny (model prog w) A.in1 (storeInOwnDict (.ref x) (.ref C) (.str name s.toks) name v false)
      (fun fin s' => fin = .done (.ret .none) ∧ Q () s') (fun e s' => E e s') { s with toks := s.toks + 1 }) :
    wpAny (model prog w) A (setAttr (.ref x) name v) Q E s := by
  have It : Looks (model prog w) s.heap (typeOf (.ref x)) (.ref C) := hcl ▸ (Looks.ld I).andThen .now
  refine wpAny_bind (wpAny_mkText (wpAny_bind (wpAny_bind (wpAny_bind (It _ _ _ _ (fun _ _ e => e) (looks_findIn X P.set _ _ _ _ (fun _ _ e => e) (wpAny_holding ?_)))))))
  rw [PySem.F.store_object.slot.bind]
  refine wpAny_bind (wpAny_pure (wpAny_bind (wpAny_call (osa_exc (s := { s with toks := s.toks + 1 }) P X I hcl ht (wpAny_mono h (fun r s' z => ?_) fun _ _ z => z)))))
  obtain ⟨rfl, hQ⟩ := z
  exact wpAny_pure (wpAny_pure hQ)

theorem store_first {Q : Unit → Shared → Prop} {es : Array Value} (P : PlainEx K C cd) (X : K.In h) (hx : h.get? x = some { cls := .ref C, dict := none, data := .fields es, slots := #[] }) (ht : findIn K (.ref C) name = some none)
    (hq : ∀ h' tk', h'.get? x = some { cls := .ref C, dict := some h.objs.size, data := .fields es, slots := #[] } → h'.Ns1 h.objs.size (fun y => if y = name then some v else none) →
      (∀ b o, b ≠ x → h.get? b = some o → h'.get? b = some o) → Q () ⟨h', g, d, tk', os⟩) :
    wpAny (model prog w) A (setAttr (.ref x) name v) Q E ⟨h, g, d, t, os⟩ := by
  refine set_exc P X hx rfl ht ?_
  have hC := looks_clsIn (M := model prog w) X P.cls
  have hx₁ : (h.push { cls := .type "dict", data := .dict #[] }).get? x = some { cls := .ref C, dict := none, data := .fields es, slots := #[] } := Heap.get?_push_of_some _ hx
  have hxs : x ≠ h.objs.size := Nat.ne_of_lt (Heap.lt_size hx)
  refine wpAny_bind (wpAny_pure (wpAny_bind (wpAny_bind (wpAny_loadPart hx (wpAny_bind (hC.here ?_))))))
  rw [P.dict]
  refine wpAny_bind (wpAny_alloc' ?_)
  refine wpAny_bind (wpAny_update' hx₁ ?_)
  refine wpAny_pure (wpAny_bind (wpAny_pure ?_))
  have hgd : ((h.push { cls := .type "dict", data := .dict #[] }).update x fun o => { cls := o.cls, dict := some h.objs.size, data := o.data, slots := o.slots }).get? h.objs.size
      = some { cls := .type "dict", data := .dict #[] } :=
    (Heap.get?_update_ne _ _ _ _ hxs.symm).trans (Heap.get?_push_at rfl rfl)
  have hnd : ((h.push { cls := .type "dict", data := .dict #[] }).update x fun o => { cls := o.cls, dict := some h.objs.size, data := o.data, slots := o.slots }).Ns h.objs.size (fun _ => none) :=
    ⟨_, #[], _, hgd, rfl, fun e he => absurd he (by simp), fun _ => rfl⟩
  refine wpAny_bind (wpAny_nsSet1 (Heap.Ns1.of_empty hnd) fun h' hn' hs => ?_)
  obtain ⟨oD, esD, epD, hoD, hdD, hcD⟩ := hn'.count (Within.cons name v Within.nil)
  refine wpAny_bind (wpAny_lookBehind hoD (by rw [hdD]; exact pastItsLine_dict (Nat.le_trans hcD (by rw [List.length_cons, List.length_nil, sizeLine_eq]; omega))) ?_)
  refine wpAny_pure ⟨rfl, ?_⟩
  refine hq h' _ ((hs.2 x hxs).trans (Heap.get?_update_self _ hx₁ rfl)) hn' fun b ob hbx hb => ?_
  exact (hs.2 b (Nat.ne_of_lt (Heap.lt_size hb))).trans ((Heap.get?_update_ne _ _ _ _ hbx).trans (Heap.get?_push_of_some _ hb))

theorem store_again {Q : Unit → Shared → Prop} {es : Array Value} {mA : Str → Option Value} {ns : List Str} (P : PlainEx K C cd) (X : K.In h) (hx : h.get? x = some { cls := .ref C, dict := some dx, data := .fields es, slots := #[] }) (ht : findIn K (.ref C) name = some none)
    (hn : h.Ns1 dx mA) (hne : dx ≠ x) (hw : Within mA ns) (hsz : ns.length < sizeLine)
    (hq : ∀ h' tk', h'.get? x = some { cls := .ref C, dict := some dx, data := .fields es, slots := #[] } → 
      (∀ b o, b ≠ dx → h.get? b = some o → h'.get? b = some o) → Q () ⟨h', g, d, tk', os⟩) :
    wpAny (model prog w) A (setAttr (.ref x) name v) Q E ⟨h, g, d, t, os⟩ := by
  refine set_exc P X hx rfl ht ?_
  have hC := looks_clsIn (M := model prog w) X P.cls
  refine wpAny_bind (wpAny_pure (wpAny_bind (wpAny_bind (wpAny_loadPart hx (wpAny_bind (hC.here ?_))))))
  rw [P.dict]
  refine wpAny_pure (a := some dx) (wpAny_bind (wpAny_pure ?_))
  refine wpAny_bind (wpAny_nsSet1 hn fun h' hn' hs => ?_)
  obtain ⟨oD, esD, epD, hoD, hdD, hcD⟩ := hn'.count (Within.cons name v hw)
  refine wpAny_bind (wpAny_lookBehind hoD (by rw [hdD]; exact pastItsLine_dict (Nat.le_trans hcD (by rw [List.length_cons]; omega))) ?_)
  refine wpAny_pure ⟨rfl, ?_⟩
  exact hq h' _ ((hs.2 x hne.symm).trans hx) fun b ob hb e => (hs.2 b hb).trans e
end
end
section
open PySem PySem.W PyProof.Rows PySem.Calls PySem.Spec
theorem fillOF : hd.heap_1 = hd.heap_1 ∧ PySem.Challenge.rw_og0160_01.row.name = PySem.Challenge.rw_og0160_01.row.name := by
  k_fill
  exact ⟨rfl, rfl⟩
set_option maxRecDepth 100000 in
theorem own_ff (p : Params) : ∃ nm q N bs bm hdct sn sub ab col dd k0 k1 k2 k3 k5, OwnExc (hd.heap_1 p) 59 36 nm q N bs bm hdct sn sub ab col dd k0 k1 k2 k3 k5 := by
  refine' ⟨_, _, _, _, _, _, _, _, _, _, _, _, _, _, _, _, ⟨?a, ?b, ?c, ?d, ?e, ?f, ?g⟩⟩
  case a => k_is
  case b => k_is
  case c => k_is
  all_goals decide
set_option maxRecDepth 100000 in
theorem plain_ff (p : Params) : ∃ cd, PlainEx (hd.heap_1 p) 59 cd := by
  refine' ⟨_, ⟨?a, ?b, ?c, ?d, ?e, ?f⟩⟩
  case a => k_is
  case f => k_is
  case e => intro self; first | rfl | kernel_rfl
  all_goals decide
set_option maxRecDepth 100000 in
theorem no_what (p : Params) : findIn (hd.heap_1 p) (.ref 59) (Str.ofString "what") = some none ∧ findIn (hd.heap_1 p) (.ref 59) (Str.ofString "at") = some none := by
  refine ⟨?_, ?_⟩ <;> k_is
end
section
open PySem PySem.W PyProof.Rows PySem.Calls PySem.Spec
theorem fillR2 : hd.heap_1 = hd.heap_1 ∧ PySem.Challenge.rw_og0160_01.row.name = PySem.Challenge.rw_og0160_01.row.name := by
  k_fill
  exact ⟨rfl, rfl⟩
set_option maxRecDepth 100000 in
theorem type_exc : typeOf (.type "Exception") = pure (.type "type") := by first | rfl | kernel_rfl
set_option maxRecDepth 100000 in
theorem stub_exc : Manifest.isStub "Exception" = false := by decide +kernel
local macro_rules | `(tactic| walk_at "getMethod type:Exception") => `(tactic| (k_here; k_dflt ((refine' method_type ?k1 ?k2 type_exc stub_exc ?k3 ?k4 ?_); (case k1 => k_asm); (case k2 => k_asm); (case k3 => k_is); (case k4 => rfl))))
theorem code_mine {prog : Program} {w : World} {A : Around} {s : Shared} {G : Heap} {K : Frag} {R : Result → Shared → Prop} {name qual : Str} {params : Arguments} {body : List Stmt} {scope : Scope} {dV kV doc pm cdv ct oc : Value} {an od : Option Addr} {osl : Array (Option Value)} {f : Addr} {args : Args} {binds : List (Str × Value)}
    (X : K.In G) (kG : ∀ b o, G.get? b = some o → s.heap.get? b = some o) (hz : G.objs.size ≤ s.heap.objs.size) (hlim : G.NoLimit)
    (ho : K.lookup f = some ⟨oc, od, .func (fnOf name qual params body scope dV kV doc pm an cdv ct), osl⟩) (hcd : codeIn K cdv qual = true) (hroom : A.depth < recursionLimit)
    (hbind : BindsTo s (fnOf name qual params body scope dV kV doc pm an cdv ct) args binds) (hloc : ∀ y ∈ binds, scope.names.lookup y.1 = some .local)
    (h : ∀ L' h₁, Fr G L' h₁ (fun y => binds.reverse.lookup y) → (∀ b o, s.heap.get? b = some o → h₁.get? b = some o) → s.heap.objs.size = L' →
      wpAny (model prog w) (A.deeper (envOf qual scope L' f cdv)) (execs body (envOf qual scope L' f cdv)) (fun fl s' => R (.ok (.ret (match fl with | .ret v => v | _ => .none))) s')
        (fun e s' => wpAny (model prog w) (A.deeper (envOf qual scope L' f cdv)) (leaving (envOf qual scope L' f cdv) e) (fun _ s'' => R (.error e) s'') (fun e' s'' => R (.error e') s'') s')
        { s with heap := h₁, toks := s.toks + binds.length })
    (hco : scope.isCoroutine = false) (hgen : scope.isGenerator = false) (hk : scope.kind = .function)
    (hcell : ∀ x ∈ scope.names, x.2 ≠ .cell) : codeAny (model prog w) A (.call (.ref f) args) R s := by
  have X' : K.In s.heap := X.keeps kG
  refine codeAny_call_def (fd := fnOf name qual params body scope dV kV doc pm an cdv ct) (body := body) (binds := binds) hroom (X' _ _ ho) rfl (hlim.keeps kG) (codeRec_of X' hcd) rfl hbind hcell hloc (fun h₁ hns hk₁ => ?_) hco hgen hk
  exact h _ h₁ ⟨hns, fun b o e => hk₁ b o (kG b o e), hz⟩ hk₁ rfl
theorem fr_but {G h h' : Heap} {L e : Addr} {m : Str → Option Value} (F : Fr G L h m) (hGe : G.get? e = none) (eL : e ≠ L) (k : ∀ b o, b ≠ e → h.get? b = some o → h'.get? b = some o) : Fr G L h' m := by
  obtain ⟨⟨o, es, ep, x, y⟩, kp, ab⟩ := F
  exact ⟨⟨o, es, ep, k _ _ (fun q => eL q.symm) x, y⟩, fun b o q => k _ _ (fun z => by rw [z, hGe] at q; cases q) (kp b o q), ab⟩
set_option maxRecDepth 100000 in
set_option maxHeartbeats 8000000 in
theorem init_x {w : World} {mean : ExcName → Option Value} {mg mb : Str → Option Value} {A : Around} {base G : Heap} {outer : List Env} {s : Shared} {Q E : Value → Shared → Prop} {e : Nat} {txt : Str} {tk : Tok}
    (B : Below A base outer G) (kG : ∀ b o, G.get? b = some o → s.heap.get? b = some o) (hz : G.objs.size ≤ s.heap.objs.size) (hGe : G.get? e = none)
    (X : (hd.heap_1 w.params).In G) (T : Top hd.view_1 (looseW hd.view_1 [Str.ofString "PaperError"]) mean mg mb G) (he : ExcStands s.heap e 59 none) (hdp : A.depth + 10 < recursionLimit) (hun : A.units + 100 < cLine)
    (hq : ∀ h' tk' dd, ExcStands h' e 59 dd → (∀ b o, b ≠ e → s.heap.get? b = some o → h'.get? b = some o) → s.heap.objs.size ≤ h'.objs.size → Q .none { s with heap := h', toks := tk' }) :
    wpAny (model PySem.Challenge.rw_og0160_01.row.prog w) A (call (.ref 36) [.ref e, .str txt tk]) Q E s := by
  refine wpAny_call ?_
  k_dflt (refine' code_mine X kG hz T.nolimit ?k6 ?k7 ?k8 ?k9 ?kB ?_ ?c2 ?c3 ?c4 ?c5; (case k6 => k_is); (case k7 => k_is); (case k8 => k_room); (case k9 => first | exact BindsTo.of_eq rfl | exact binds_K (X.keeps kG) rfl (by k_is) rfl rfl rfl); (case c5 => decide); (case kB => exact locs rfl); (case c2 => exact rfl); (case c3 => exact rfl); (case c4 => exact rfl); intro L' h₁ F' k' l')
  have eL : e ≠ L' := by
    obtain ⟨tp, he⟩ := he
    exact fun q => absurd (Heap.lt_size he) (by rw [l', q]; exact Nat.lt_irrefl _)
  have he1 : ExcStands h₁ e 59 none := let ⟨tp, x⟩ := he; ⟨tp, k' _ _ x⟩
  have N' : News G L' h₁ [] := fun _ h => nomatch h
  obtain ⟨nm, q, NN, bs, bm, hdct, sn, sub, ab, col, dd, k0, k1, k2, k3, k5, O⟩ := own_ff w.params
  obtain ⟨cdx, P⟩ := plain_ff w.params
  have W := no_what w.params
  k_steps
  refine base_init O (X.keeps F'.keep) he1 (fun h2 e2 k2 z2 => ?_) (by rw [sizeLine_eq]; simp)
  have F2 := fr_but F' hGe eL k2
  have N2 : News G L' h2 [] := fun _ h => nomatch h
  have z3 : s.heap.objs.size < h₁.objs.size := by
    obtain ⟨⟨o, _, _, x, _⟩, _, _⟩ := F'
    rw [l']; exact Heap.lt_size x
  have eL2 : h2.objs.size ≠ L' := by
    obtain ⟨⟨o, _, _, x, _⟩, _, _⟩ := F2
    exact fun q => absurd (Heap.lt_size x) (by rw [← q]; exact Nat.lt_irrefl _)
  clear F' N'
  k_steps
  obtain ⟨tp2, he2⟩ := e2
  refine store_first P (X.keeps F2.keep) he2 W.1 (fun h3 tk3 e3 n3 k3 => ?_)
  have F3 := fr_but F2 hGe eL k3
  have N3 : News G L' h3 [] := fun _ h => nomatch h
  clear F2 N2
  k_steps
  refine store_again P (X.keeps F3.keep) e3 W.2 n3 (Nat.ne_of_gt (Heap.lt_size he2)) (Within.cons _ _ Within.nil) (by rw [sizeLine_eq]; simp) (fun h4 tk4 e4 k4 => ?_)
  have hGd : G.get? h2.objs.size = none := Heap.get?_none_of_le (by omega)
  have F4 := fr_but F3 hGd eL2 k4
  have N4 : News G L' h4 [] := fun _ h => nomatch h
  clear F3 N3
  k_steps
  have hed : h2.objs.size ≠ e := Nat.ne_of_gt (Heap.lt_size he2)
  have z4 : @LT.lt Nat _ L' h4.objs.size := by
    obtain ⟨⟨o, _, _, x, _⟩, _, _⟩ := F4
    exact Heap.lt_size x
  refine hq h4 _ _ ⟨_, e4⟩ (fun b o hb x => ?_) (by omega)
  have x1 := k' b o x
  refine k4 b o (fun q => ?_) (k3 b o hb (k2 b o hb x1))
  have y1 := Heap.lt_size (k2 b o hb x1)
  rw [q] at y1
  exact Nat.lt_irrefl _ y1
end
section
open PySem PySem.W PyProof.Rows PySem.Calls PySem.Spec
theorem fillR3 : hd.heap_1 = hd.heap_1 ∧ PySem.Challenge.rw_og0160_01.row.name = PySem.Challenge.rw_og0160_01.row.name := by
  k_fill
  exact ⟨rfl, rfl⟩
section
variable {M : Model} {A : Around} {E : Value → Shared → Prop} {env : Env} {C : Addr} {K : Frag} {fI N : Addr} {nm q : Str} {bs bm : List Value} {hdct : Bool} {sn : List Str} {sub : List Value} {ab : Bool} {col : Option Bool} {dd : Option Addr} {k0 k1 k2 k3 k5 : Option Value}
theorem raise_made (O : OwnExc K C fI nm q N bs bm hdct sn sub ab col dd k0 k1 k2 k3 k5) {s : Shared} {x : Sem Value} {Q : Flow → Shared → Prop} (hh : A.handled = none)
    (h : wpAny M A x (fun v s₁ => ∃ e dx, v = .ref e ∧ K.In s₁.heap ∧ ExcStands s₁.heap e C dx ∧ E (.ref e) s₁) E s) :
    wpAny M A (raiseStmt env (some x) none) Q E s := by
  have hcB : (Value.ref C :: bm).contains (.type "BaseException") = true := by rw [List.contains_cons, O.hasB, Bool.or_true]
  unfold raiseStmt
  refine wpAny_bind (wpAny_mono h (fun v s₁ h₁ => ?_) fun _ _ x => x)
  obtain ⟨e, dx, rfl, X, ⟨t, he⟩, hE⟩ := h₁
  obtain ⟨hp, g, d, tk, os⟩ := s₁
  have hC := X _ _ O.obj
  repeat (first | with_reducible refine wpAny_loadPart_at he ?_ | with_reducible refine wpAny_loadPart_at hC ?_ | (with_reducible refine wpAny_isSubtype_exc hC ?_; rw [hcB]) | wp_step)
  exact wpAny_raiseNew_none hh hE
end
section
variable {w : World} {mean : ExcName → Option Value} {mg mb : Str → Option Value} {A₀ : Around} {base h₀ : Heap} {outer : List Env} {L a : Addr} {m : Str → Option Value} {s : Shared} {Q : Flow → Shared → Prop} {E : Value → Shared → Prop} {news : List (Addr × Obj)} {name : Str} {scope : Scope} {cd : Value}
set_option maxRecDepth 100000 in
set_option maxHeartbeats 8000000 in
theorem call_ff {txt : Str} {tk : Tok} {Q : Value → Shared → Prop} (B : Below A₀ base outer h₀) (F : Fr h₀ L s.heap m) (X : (hd.heap_1 w.params).In h₀)
    (T : Top hd.view_1 (looseW hd.view_1 [Str.ofString "PaperError"]) mean mg mb h₀) (hdp : A₀.depth + 20 < recursionLimit) (hun : A₀.units + 200 < cLine)
    (hq : ∀ h' e tk' dd, NewExcV s.heap h' e (.ref 59) → ExcStands h' e 59 dd → (hd.heap_1 w.params).In h' → Q (.ref e) { s with heap := h', toks := tk' })
    (hk : scope.kind = .function) :
    wpAny (model PySem.Challenge.rw_og0160_01.row.prog w) (A₀.deeper (envOf name scope L a cd)) (call (.ref 59) [.str txt tk]) Q E s := by
  obtain ⟨nm, q, NN, bs, bm, hdct, sn, sub, ab, col, dd, k0, k1, k2, k3, k5, O⟩ := own_ff w.params
  obtain ⟨hp, g, d, t, os⟩ := s
  have B' := B.push (name := name) (scope := scope) (a := a) (cd := cd) F hk
  have X' := X.keeps F.keep
  refine made_call O X' (by rw [sizeLine_eq]; simp) ?_
  have keep : ∀ b o, hp.get? b = some o → ((hp.push { cls := .type "tuple", data := .seq [Value.str txt tk].toArray }).push { cls := .ref 59, data := .fields #[.ref hp.objs.size, .none, .none, .none, .bool false, .none] }).get? b = some o :=
    fun b o e => Heap.get?_push_of_some _ (Heap.get?_push_of_some _ e)
  refine init_x (base := base) (G := hp) (outer := envOf name scope L a cd :: outer) ⟨?_, B'.stays, B'.frames⟩ keep (by dsimp only; simp only [Heap.size_push]; omega) (Heap.get?_none_of_le (Nat.le_succ _)) X' (T.keeps F.keep) ⟨hp.objs.size, by heap_get⟩ ?_ ?_ ?_
  · exact B'.stack
  · ktr_room
  · rw [units_under_make]; ktr_units
  · intro h' tk' dd hx hkp hz
    refine ⟨rfl, hq _ _ _ dd ⟨fun b o ho => hkp b o (fun z => ?_) (keep b o ho), Heap.get?_none_of_le (by omega), ?_⟩ hx ?_⟩
    · have := Heap.lt_size ho
      rw [z] at this
      exact absurd this (Nat.not_lt.mpr (Nat.le_succ _))
    · obtain ⟨tp, hx⟩ := hx
      exact ⟨_, _, hx, rfl, rfl⟩
    · refine X'.keeps fun b o ho => hkp b o (fun z => ?_) (keep b o ho)
      have := Heap.lt_size ho
      rw [z] at this
      exact absurd this (Nat.not_lt.mpr (Nat.le_succ _))
set_option maxRecDepth 100000 in
set_option maxHeartbeats 8000000 in
theorem raise_ff {txt : Str} {kk : Nat} {p1 p2 p3 p4 : Pos} (B : Below A₀ base outer h₀) (F : Fr h₀ L s.heap m) (X : (hd.heap_1 w.params).In h₀) (N : News h₀ L s.heap news)
    (T : Top hd.view_1 (looseW hd.view_1 [Str.ofString "PaperError"]) mean mg mb h₀) (hh : A₀.handled = none) (hdp : A₀.depth + 20 < recursionLimit) (hun : A₀.units + 200 < cLine)
    (hE : ∀ h' e tk', NewExcV s.heap h' e (.ref 59) → E (.ref e) { s with heap := h', toks := tk' })
    (hk : scope.kind = .function := by rfl) (hx : (envOf name scope L a cd).kindOf (Str.ofString "FontFault") = some .globalImplicit := by rfl) :
    wpAny (model PySem.Challenge.rw_og0160_01.row.prog w) (A₀.deeper (envOf name scope L a cd)) (exec (.Raise (some (.Call (.Name (Str.ofString "FontFault") p1) [.Constant (.str txt) kk p2] [] p3)) none p4) (envOf name scope L a cd)) Q E s := by
  obtain ⟨nm, q, NN, bs, bm, hdct, sn, sub, ab, col, dd, k0, k1, k2, k3, k5, O⟩ := own_ff w.params
  have hn : nsIn (hd.heap_1 w.params) mainGlobals (Str.ofString "FontFault") = some (some (.ref 59)) := by k_is
  have hh' : (A₀.deeper (envOf name scope L a cd)).handled = none := hh
  rw [arm_exec_Raise]
  first
    | refine wpAny_bind (wpAny_standAt (raise_made O hh' ?_))
    | (simp only [evalOpt, Option.map]; refine wpAny_bind (wpAny_standAt (raise_made O hh' ?_)))
  refine wpAny_bind (wpAny_mono (wpAny_Call_ofName (name_K F X (topRead_of T) hn ?_ hk hx)) (fun v s₃ h₃ => wpAny_bind (wpAny_standAt (wpAny_pure h₃))) fun _ _ x => x)
  unfold callWith
  have ea : wpAny (model PySem.Challenge.rw_og0160_01.row.prog w) (A₀.deeper (envOf name scope L a cd)) (evalArgs (Value.ref 59) true (backTo p3 (starEach [Expr.Constant (Const.str txt) kk p2] (envOf name scope L a cd)))
      (backToKw p3 (keywordEach [] (envOf name scope L a cd)))) (fun r s' => r = ⟨[.str txt s.toks], []⟩ ∧ s' = { s with toks := s.toks + 1 }) E s := by
    wp_walk
    exact ⟨rfl, rfl⟩
  refine wpAny_bind (wpAny_holding (wpAny_mono ea (fun r s' hr => wpAny_bind (wpAny_standAt ?_)) fun _ _ x => x))
  obtain ⟨rfl, rfl⟩ := hr
  have hC := (X.keeps F.keep) _ _ O.obj
  refine wpAny_bind (wpAny_keeperOf_exc hC ?_)
  refine wpAny_bind (call_ff B ⟨F.ns, F.keep, F.above⟩ X T hdp hun (fun h' e tk' dx hx hs hX => ?_) hk)
  refine wpAny_bind (wpAny_holding (wpAny_point (wpAny_pure ?_)))
  exact ⟨e, dx, rfl, hX, hs, hE _ _ _ hx⟩
end
end
section
open PySem PySem.W PyProof.Rows PySem.Calls PySem.Spec
theorem fillF : hd.heap_1 = hd.heap_1 ∧ PySem.Challenge.rw_og0160_01.row.name = PySem.Challenge.rw_og0160_01.row.name := by
  k_fill
  exact ⟨rfl, rfl⟩
local macro_rules | `(tactic| walk_at "pyIter ref") => `(tactic| refine Stop.intro ?_)
local macro_rules | `(tactic| walk_at "exec Raise some none") => `(tactic| refine Stop.intro ?_)
local macro_rules | `(tactic| walk_at "exec For Name Name cons nil") => `(tactic| (k_here; (rename Fr _ _ _ _ => lF'); (with_unfolding_all refine' For_invVF lF' ?k1 ?k2 ?_; (case k1 => exact rfl); (case k2 => exact rfl); k_whole)))
local macro_rules | `(tactic| walk_at "setItem ref int") => `(tactic| (k_here; (with_reducible show wpAny _ _ (setItem (Value.ref _) (Value.int _ _) _) _ _ _); k_dflt ((refine' put_any ?k1 ?k2 ?k4 ?k5 ?k6 ?k7 ?k3 ?_); (case k1 => k_asm); (case k2 => k_asm); (case k7 => exact rfl); (case k3 => k_upd); (case k4 => omega); (case k5 => omega); (case k6 => omega); k_whole); intro h' F' N'; (try k_sweep)))
local macro_rules | `(tactic| walk_at "call ref") => `(tactic| (k_here; (with_reducible show wpAny _ _ (call (Value.ref 279) [_]) _ _ _); first | (k_dflt ((refine' kind_spec ?kB ?kF ?kX ?kN ?kT ?kk ?kp ?kd ?ku ?_); (case kB => k_asm); (case kF => k_asm); (case kX => k_asm); (case kN => k_asm); (case kT => k_asm); (case kk => first | exact rfl | assumption); (case kp => assumption); (case kd => ktr_room); (case ku => ktr_units)); intro t9 h9 tk9 F9 N9; (try dsimp only [Part.kind]); (try k_sweep)) | refine Stop.intro ?_))
local macro_rules | `(tactic| walk_at "call type:list") => `(tactic| (k_here; (with_reducible show wpAny _ _ (call (Value.type _) [Value.ref _]) _ _ _); k_dflt ((refine' copy_any ?k1 ?k2 ?k3 ?k4 ?_); (case k1 => k_asm); (case k2 => k_asm); (case k3 => k_mem); (case k4 => omega); k_whole); intro D' c' h' F' N' l1; (try k_lt l1); (try k_sweep)))
theorem pin_led {h₀ h : Heap} {L : Addr} {x y : Addr × Obj} {rest : List (Addr × Obj)} {v : Value} {p : Part} (_N : News h₀ L h (x :: y :: rest)) (hp : PartIn rest v p) : PartIn (x :: y :: rest) v p := hp.mono fun _ hq => .tail _ (.tail _ hq)
def DJ (da : Nat) (ts : List Str) (ps : List Part) (rest : List (Addr × Obj)) (i : Nat) (m : Str → Option Value) (nx : List (Addr × Obj)) : Prop :=
  ∃ lvs ts' c tc dn, nx = (da, listOf (List.toArray lvs) dn) :: rest ∧ TextsV lvs ts' ∧ lvs.length = 256 ∧ dFold (ps.take i) (ts, -1) = some (ts', c) ∧ (-1 : Int) ≤ c ∧ c ≤ 256 ∧ m "laid" = some (.ref da) ∧ m "code" = some (.int c tc)
theorem dFold_step {ps : List Part} {x y : List Str × Int} {i : Nat} {p : Part} (hp : ps[i]? = some p) (hf : dFold (ps.take i) x = some y) : dFold (ps.take (i + 1)) x = dStep y p := by
  rw [List.take_add_one, hp, dFold_append, hf]
  show (match dStep y p with | some z => dFold [] z | none => none) = _
  cases dStep y p <;> rfl
theorem dFold_stop {ps : List Part} {x y : List Str × Int} {i : Nat} {p : Part} (hp : ps[i]? = some p) (hf : dFold (ps.take i) x = some y) (hn : dStep y p = none) : dFold ps x = none := by
  have h := dFold_step hp hf
  rw [hn] at h
  have e : ps = ps.take (i + 1) ++ ps.drop (i + 1) := (List.take_append_drop _ _).symm
  rw [e, dFold_append, h]
theorem step_code {ts : List Str} {c i : Int} (h1 : 0 ≤ i) (h2 : i ≤ 255) : dStep (ts, c) (.code i) = some (ts, i) := if_pos ⟨h1, h2⟩
theorem step_nodef {ts : List Str} {c : Int} {t : Str} (h1 : 0 ≤ c) (h2 : c ≤ 255) (h : (t == Str.ofString ".notdef") = true) : dStep (ts, c) (.name t) = some (ts.set c.toNat (Str.ofString ""), c + 1) := by
  show (if 0 ≤ c ∧ c ≤ 255 then _ else _) = _
  rw [if_pos ⟨h1, h2⟩, if_pos (beq_iff_eq.mp h)]
theorem step_name {ts : List Str} {c : Int} {t : Str} (h1 : 0 ≤ c) (h2 : c ≤ 255) (h : (t == Str.ofString ".notdef") = false) : dStep (ts, c) (.name t) = some (ts.set c.toNat t, c + 1) := by
  show (if 0 ≤ c ∧ c ≤ 255 then _ else _) = _
  rw [if_pos ⟨h1, h2⟩, if_neg (beq_eq_false_iff_ne.mp h)]
theorem stop_code {ts : List Str} {c i : Int} (h : ¬ (0 ≤ i ∧ i ≤ 255)) : dStep (ts, c) (.code i) = none := if_neg h
theorem stop_name {ts : List Str} {c : Int} {t : Str} (h : ¬ (0 ≤ c ∧ c ≤ 255)) : dStep (ts, c) (.name t) = none := if_neg h
theorem diff_end {h₀ h' : Heap} {L : Addr} {m' : Str → Option Value} {I da dn : Nat} {oI : Obj} {ts ts' : List Str} {ps : List Part} {rest : List (Addr × Obj)} {i : Nat} {s₁ : Shared} {tk : Nat} {lvs : List Value} {c : Int} {tc : Tok}
    (F : Fr h₀ L h' m') (N : News h₀ L h' ((I, oI) :: (da, listOf lvs.toArray dn) :: rest)) (hId : da ≠ I) (hIr : ∀ p ∈ rest, p.1 ≠ I) (hf : dFold (ps.take (i + 1)) (ts, -1) = some (ts', c)) (hT : TextsV lvs ts') (hl : lvs.length = 256) (h0 : -1 ≤ c) (h1 : c ≤ 256)
    (hml : m' "laid" = some (.ref da)) (hmc : m' "code" = some (.int c tc)) : TEnd h₀ L I oI (DJ da ts ps rest (i + 1)) s₁ { s₁ with heap := h', toks := tk } :=
  TEnd.intro (nx := (da, listOf lvs.toArray dn) :: rest) F N (fun p hp => by
    rcases List.mem_cons.mp hp with rfl | hp
    · exact hId
    · exact hIr p hp) ⟨lvs, ts', c, tc, dn, rfl, hT, hl, hf, h0, h1, hml, hmc⟩
theorem raisedSN_sub {base G : Heap} {l : List Env} {e : Addr} {cls : Value} {news rest : List (Addr × Obj)} {h : Heap} (R : RaisedSN base G l e cls news h) (hs : ∀ q ∈ rest, q ∈ news) : RaisedSN base G l e cls rest h := by
  obtain ⟨B, a0, h1, h2, h3, h4⟩ := R
  exact ⟨B, a0, h1, h2, fun q hq => h3 q (hs q hq), h4⟩
set_option maxRecDepth 100000 in
set_option maxHeartbeats 8000000 in
theorem diff_spec {w : World} {mean : ExcName → Option Value} {mg mb : Str → Option Value} {dp un : Nat} {gd : Option (List Code)} {cn : Str} {cs : Scope} {a : Addr} {ccd : Value} {cl : List (Str × Addr)} {outer : List Env} {A₀ : Around} {base h₀ : Heap} {L : Addr} {m : Str → Option Value} {s : Shared}
    {Q E : Value → Shared → Prop} {na la nn ln : Nat} {nvs pvs : List Value} {ts : List Str} {ps : List Part} {rest : List (Addr × Obj)}
    (B : Below A₀ base outer h₀) (F : Fr h₀ L s.heap m) (X : (hd.heap_1 w.params).In h₀) (N : News h₀ L s.heap rest)
    (T : Top hd.view_1 (looseW hd.view_1 [Str.ofString "PaperError"]) mean mg mb h₀) (hk : cs.kind = .function) (hna : (na, listOf nvs.toArray nn) ∈ rest) (hla : (la, listOf pvs.toArray ln) ∈ rest)
    (hT : TextsV nvs ts) (hlen : nvs.length = 256) (hP : PartsIn rest pvs ps)
    (hdp : dp + 40 < recursionLimit) (hun : un + 400 < cLine)
    (hret : ∀ da lvs ts' c dn h' tk', Fr h₀ L h' m → News h₀ L h' ((da, listOf (List.toArray lvs) dn) :: rest) → TextsV lvs ts' → lvs.length = 256 → dFold ps (ts, -1) = some (ts', c) → (∀ p ∈ rest, p.1 < da) → Q (.ref da) { s with heap := h', toks := tk' })
    (hexc : ∀ e G h' tk', Fr h₀ L G m → RaisedSN base G (envX cn cs L a ccd cl :: outer) e (.ref 59) rest h' → G.UpToSlots h' → dFold ps (ts, -1) = none → E (.ref e) { s with heap := h', toks := tk' }) :
    wpAny (model PySem.Challenge.rw_og0160_01.row.prog w) (ktrTop dp un gd cn cs L a ccd cl outer) (call (.ref 308) [.ref na, .ref la]) Q E s := by
  refine wpAny_call ?_
  k_dflt ktr_enter
  k_steps
  rename Fr _ _ _ _ => F2
  rename News _ _ _ _ => N2
  refine' for_list (vs := pvs) (DJ ?da ts ps rest) rfl ?zl F2 N2 ?zj ?zk ?zt ?zd
  case zj =>
    refine' ⟨nvs, ts, -1, _, _, ?e, hT, hlen, rfl, by omega, by omega, rfl, rfl⟩
    case e => exact rfl
  case zl => exact .tail _ hla
  case zk =>
    rintro i m nx ⟨lvs, ts', c, tc, dn, rfl, _⟩
    exact .tail _ hla
  case zt =>
    intro i v m₁ news₁ h tk I oI hv hJ hoI F₁ N₁
    obtain ⟨lvs, ts', c, tc, dn, rfl, hTV, hll, hf, hc0, hc1, hml, hmc⟩ := hJ
    rw [map2 hml hmc] at F₁
    dsimp only at F₁
    obtain ⟨p, hp1, hp2⟩ := hP.get hv
    have hId := neN (hoI _ (.head _))
    dsimp only at hId
    have hIr : ∀ p ∈ rest, p.1 ≠ I := fun p hp => hoI p (.tail _ hp)
    have hp3 := pin_led N₁ hp2
    have hp4 := hp3
    cases hp4
    all_goals k_steps
    all_goals first
      | exact diff_end (by assumption) (by assumption) hId hIr ((dFold_step hp1 hf).trans (step_code (by assumption) (by assumption))) hTV hll (by omega) (by omega) rfl rfl
      | exact diff_end (by assumption) (by assumption) hId hIr ((dFold_step hp1 hf).trans (step_nodef (by assumption) (by assumption) (by assumption))) (hTV.set _ _ _) ((List.length_set ..).trans hll) (by omega) (by omega) rfl rfl
      | exact diff_end (by assumption) (by assumption) hId hIr ((dFold_step hp1 hf).trans (step_name (by assumption) (by assumption) (by assumption))) (hTV.set _ _ _) ((List.length_set ..).trans hll) (by omega) (by omega) rfl rfl
      | (unfold Stop
         refine raise_ff (by k_asm) (by k_asm) (by k_asm) (by k_asm) (by k_asm) rfl (by ktr_room) (by ktr_units) ?_
         intro h8 e8 tk8 hx8
         refine leave_newV (by k_asm) hx8 (by k_asm) (by k_asm) fun h9 R9 U9 => ?_
         exact hexc _ _ _ _ (by k_asm) (raisedSN_sub R9 fun q hq => .tail _ (.tail _ hq)) U9 (dFold_stop hp1 hf (by first | rfl | exact stop_code (by omega) | exact stop_name (by omega))))
      | fail "no way"
  case zd =>
    intro m₁ news₁ h tk hJ F₁ N₁
    obtain ⟨lvs, ts', c, tc, dn, rfl, hTV, hll, hf, hc0, hc1, hml, hmc⟩ := hJ
    rw [map2 hml hmc] at F₁
    dsimp only at F₁ ⊢
    k_steps
    exact hret _ _ _ _ _ _ _ (by assumption) (by assumption) hTV hll (by rw [← hf, hP.length, List.take_length]) (by assumption)
end
section
open PySem PySem.W PyProof.Rows PySem.Calls PySem.Spec
theorem fillL : hd.heap_1 = hd.heap_1 ∧ PySem.Challenge.rw_og0160_01.row.name = PySem.Challenge.rw_og0160_01.row.name := by
  k_fill
  exact ⟨rfl, rfl⟩
local macro_rules | `(tactic| walk_at "pyIter ref") => `(tactic| refine Stop.intro ?_)
local macro_rules | `(tactic| walk_at "exec Raise some none") => `(tactic| refine Stop.intro ?_)
local macro_rules | `(tactic| walk_at "exec For Name Name cons nil") => `(tactic| (k_here; (rename Fr _ _ _ _ => lF'); (with_unfolding_all refine' For_invVF lF' ?k1 ?k2 ?_; (case k1 => exact rfl); (case k2 => exact rfl); k_whole)))
local macro_rules | `(tactic| walk_at "setItem ref int") => `(tactic| (k_here; (with_reducible show wpAny _ _ (setItem (Value.ref _) (Value.int _ _) _) _ _ _); k_dflt ((refine' put_any ?k1 ?k2 ?k4 ?k5 ?k6 ?k7 ?k3 ?_); (case k1 => k_asm); (case k2 => k_asm); (case k7 => exact rfl); (case k3 => k_upd); (case k4 => omega); (case k5 => omega); (case k6 => omega); k_whole); intro h' F' N'; (try k_sweep)))
local macro_rules | `(tactic| walk_at "call ref") => `(tactic| (k_here; (with_reducible show wpAny _ _ (call (Value.ref 279) [_]) _ _ _); first | (k_dflt ((refine' kind_spec ?kB ?kF ?kX ?kN ?kT ?kk ?kp ?kd ?ku ?_); (case kB => k_asm); (case kF => k_asm); (case kX => k_asm); (case kN => k_asm); (case kT => k_asm); (case kk => first | exact rfl | assumption); (case kp => assumption); (case kd => ktr_room); (case ku => ktr_units)); intro t9 h9 tk9 F9 N9; (try dsimp only [Part.kind]); (try k_sweep)) | refine Stop.intro ?_))
local macro_rules | `(tactic| walk_at "call type:list") => `(tactic| (k_here; (with_reducible show wpAny _ _ (call (Value.type _) [Value.ref _]) _ _ _); k_dflt ((refine' copy_any ?k1 ?k2 ?k3 ?k4 ?_); (case k1 => k_asm); (case k2 => k_asm); (case k3 => k_mem); (case k4 => omega); k_whole); intro D' c' h' F' N' l1; (try k_lt l1); (try k_sweep)))

def CodeV (c : Int) (v : Value) : Prop := (c = -1 ∧ v = .none) ∨ ∃ t, 0 ≤ c ∧ c ≤ 256 ∧ v = .int c t
def LJ (da : Nat) (ts : List Str) (ps : List Part) (rest : List (Addr × Obj)) (i : Nat) (m : Str → Option Value) (nx : List (Addr × Obj)) : Prop :=
  ∃ lvs ts' c cv dn, nx = (da, listOf (List.toArray lvs) dn) :: rest ∧ TextsV lvs ts' ∧ lvs.length = 256 ∧ dFold (ps.take i) (ts, -1) = some (ts', c) ∧ CodeV c cv ∧ m "found" = some (.ref da) ∧ m "code" = some cv
theorem laid_end {h₀ h' : Heap} {L : Addr} {m' : Str → Option Value} {I da dn : Nat} {oI : Obj} {ts ts' : List Str} {ps : List Part} {rest : List (Addr × Obj)} {i : Nat} {s₁ : Shared} {tk : Nat} {lvs : List Value} {c : Int} {tc : Tok}
    (F : Fr h₀ L h' m') (N : News h₀ L h' ((I, oI) :: (da, listOf lvs.toArray dn) :: rest)) (hId : da ≠ I) (hIr : ∀ p ∈ rest, p.1 ≠ I) (hf : dFold (ps.take (i + 1)) (ts, -1) = some (ts', c)) (hT : TextsV lvs ts') (hl : lvs.length = 256) (h0 : 0 ≤ c) (h1 : c ≤ 256)
    (hml : m' "found" = some (.ref da)) (hmc : m' "code" = some (.int c tc)) : TEnd h₀ L I oI (LJ da ts ps rest (i + 1)) s₁ { s₁ with heap := h', toks := tk } :=
  TEnd.intro (nx := (da, listOf lvs.toArray dn) :: rest) F N (fun p hp => by
    rcases List.mem_cons.mp hp with rfl | hp
    · exact hId
    · exact hIr p hp) ⟨lvs, ts', c, _, dn, rfl, hT, hl, hf, .inr ⟨tc, h0, h1, rfl⟩, hml, hmc⟩
set_option maxRecDepth 100000 in
set_option maxHeartbeats 8000000 in
theorem laid_spec {w : World} {mean : ExcName → Option Value} {mg mb : Str → Option Value} {dp un : Nat} {gd : Option (List Code)} {cn : Str} {cs : Scope} {a : Addr} {ccd : Value} {cl : List (Str × Addr)} {outer : List Env} {A₀ : Around} {base h₀ : Heap} {L : Addr} {m : Str → Option Value} {s : Shared}
    {Q E : Value → Shared → Prop} {na la nn ln : Nat} {nvs pvs : List Value} {ts : List Str} {ps : List Part} {rest : List (Addr × Obj)}
    (B : Below A₀ base outer h₀) (F : Fr h₀ L s.heap m) (X : (hd.heap_1 w.params).In h₀) (N : News h₀ L s.heap rest)
    (T : Top hd.view_1 (looseW hd.view_1 [Str.ofString "PaperError"]) mean mg mb h₀) (hk : cs.kind = .function) (hna : (na, listOf nvs.toArray nn) ∈ rest) (hla : (la, listOf pvs.toArray ln) ∈ rest)
    (hT : TextsV nvs ts) (hlen : nvs.length = 256) (hP : PartsIn rest pvs ps)
    (hdp : dp + 40 < recursionLimit) (hun : un + 400 < cLine)
    (hret : ∀ da lvs ts' c dn h' tk', Fr h₀ L h' m → News h₀ L h' ((da, listOf (List.toArray lvs) dn) :: rest) → TextsV lvs ts' → lvs.length = 256 → dFold ps (ts, -1) = some (ts', c) → (∀ p ∈ rest, p.1 < da) → Q (.ref da) { s with heap := h', toks := tk' })
    (hnone : ∀ h' tk', Fr h₀ L h' m → News h₀ L h' rest → dFold ps (ts, -1) = none → Q .none { s with heap := h', toks := tk' }) :
    wpAny (model PySem.Challenge.rw_og0160_01.row.prog w) (ktrTop dp un gd cn cs L a ccd cl outer) (call (.ref 334) [.ref na, .ref la]) Q E s := by
  refine wpAny_call ?_
  k_dflt ktr_enter
  k_steps
  rename Fr _ _ _ _ => F2
  rename News _ _ _ _ => N2
  refine' for_list (vs := pvs) (LJ ?da ts ps rest) rfl ?zl F2 N2 ?zj ?zk ?zt ?zd
  case zj =>
    refine' ⟨nvs, ts, -1, _, _, ?e, hT, hlen, rfl, .inl ⟨rfl, rfl⟩, rfl, rfl⟩
    case e => exact rfl
  case zl => exact .tail _ hla
  case zk =>
    rintro i m nx ⟨lvs, ts', c, cv, dn, rfl, _⟩
    exact .tail _ hla
  case zt =>
    intro i v m₁ news₁ h tk I oI hv hJ hoI F₁ N₁
    obtain ⟨lvs, ts', c, cv, dn, rfl, hTV, hll, hf, hcv, hml, hmc⟩ := hJ
    obtain ⟨p, hp1, hp2⟩ := hP.get hv
    have hId := neN (hoI _ (.head _))
    dsimp only at hId
    have hIr : ∀ p ∈ rest, p.1 ≠ I := fun p hp => hoI p (.tail _ hp)
    have hp3 := pin_led N₁ hp2
    have hp4 := hp3
    rcases hcv with ⟨rfl, rfl⟩ | ⟨tc, hc0, hc1, rfl⟩
    all_goals rw [map2 hml hmc] at F₁
    all_goals dsimp only at F₁
    all_goals cases hp4
    all_goals k_steps
    all_goals first
      | exact laid_end (by assumption) (by assumption) hId hIr ((dFold_step hp1 hf).trans (step_code (by assumption) (by assumption))) hTV hll (by omega) (by omega) rfl rfl
      | exact laid_end (by assumption) (by assumption) hId hIr ((dFold_step hp1 hf).trans (step_nodef (by omega) (by omega) (by assumption))) (hTV.set _ _ _) ((List.length_set ..).trans hll) (by omega) (by omega) rfl rfl
      | exact laid_end (by assumption) (by assumption) hId hIr ((dFold_step hp1 hf).trans (step_name (by omega) (by omega) (by assumption))) (hTV.set _ _ _) ((List.length_set ..).trans hll) (by omega) (by omega) rfl rfl
      | (dsimp only [TPost]
         k_steps
         exact hnone _ _ (by assumption) (news_perm (by assumption) fun q hq => .tail _ (.tail _ hq)) (dFold_stop hp1 hf (by first | rfl | exact stop_code (by omega) | exact stop_name (by omega))))
      | fail "no way"
  case zd =>
    intro m₁ news₁ h tk hJ F₁ N₁
    obtain ⟨lvs, ts', c, cv, dn, rfl, hTV, hll, hf, hcv, hml, hmc⟩ := hJ
    rw [map2 hml hmc] at F₁
    dsimp only at F₁ ⊢
    k_steps
    exact hret _ _ _ _ _ _ _ (by assumption) (by assumption) hTV hll (by rw [← hf, hP.length, List.take_length]) (by assumption)
end
section
open PySem PySem.W PyProof.Rows PySem.Calls PySem.Spec
theorem fillH : hd.heap_1 = hd.heap_1 ∧ PySem.Challenge.rw_og0160_01.row.name = PySem.Challenge.rw_og0160_01.row.name := by
  k_fill
  exact ⟨rfl, rfl⟩
local macro_rules | `(tactic| walk_at "setItem ref int") => `(tactic| (k_here; (with_reducible show wpAny _ _ (setItem (Value.ref _) (Value.int _ _) _) _ _ _); k_dflt ((refine' put_any ?k1 ?k2 ?k4 ?k5 ?k6 ?k7 ?k3 ?_); (case k1 => k_asm); (case k2 => k_asm); (case k7 => exact rfl); (case k3 => k_upd); (case k4 => omega); (case k5 => omega); (case k6 => omega); k_whole); intro h' F' N'; (try k_sweep)))
local macro_rules | `(tactic| walk_at "call type:list") => `(tactic| (k_here; (with_reducible show wpAny _ _ (call (Value.type _) [Value.ref _]) _ _ _); k_dflt ((refine' copy_any ?k1 ?k2 ?k3 ?k4 ?_); (case k1 => k_asm); (case k2 => k_asm); (case k3 => k_mem); (case k4 => omega); k_whole); intro D' c' h' F' N' l1; (try k_lt l1); (try k_sweep)))

local macro_rules | `(tactic| walk_at "call ref") => `(tactic| (k_here; (with_reducible show wpAny _ _ (call (Value.ref 308) [_, _]) _ _ _); first | (k_dflt ((refine' diff_spec ?kB ?kF ?kX ?kN ?kT ?kk ?kna ?kla ?kt ?kl ?kp ?kd ?ku ?_ ?_); (case kB => k_asm); (case kF => k_asm); (case kX => k_asm); (case kN => k_asm); (case kT => k_asm); (case kk => first | exact rfl | assumption); (case kna => assumption); (case kla => assumption); (case kt => assumption); (case kl => assumption); (case kp => assumption); (case kd => ktr_room); (case ku => ktr_units)); (all_goals (first | (intro da9 lvs9 ts9 c9 dn9 h9 tk9 F9 N9 hT9 hl9 hf9 hb9; (try k_sweep)) | (intro e9 G9 h9 tk9 F9 R9 U9 hn9)))) | refine Stop.intro ?_))
theorem allLt_lt {d : Addr} : ∀ {l : List (Addr × Obj)}, AllLt d l → ∀ p ∈ l, p.1 < d
  | [], _, _, hp => (nomatch hp)
  | q :: r, h, p, hp => by
    rcases List.mem_cons.mp hp with rfl | hp
    · exact h.1
    · exact allLt_lt h.2 p hp
theorem cons_lt {d : Addr} {x : Addr × Obj} {l : List (Addr × Obj)} (h : x.1 < d) (hl : ∀ p ∈ l, p.1 < d) : ∀ p ∈ x :: l, p.1 < d := fun p hp => by
  rcases List.mem_cons.mp hp with rfl | hp
  · exact h
  · exact hl p hp
set_option maxRecDepth 100000 in
set_option maxHeartbeats 8000000 in
theorem heard_spec {w : World} {mean : ExcName → Option Value} {mg mb : Str → Option Value} {cn : Str} {nms : List (Str × NameKind)} {a : Addr} {ccd : Value} {base h₀ : Heap} {L : Addr} {m : Str → Option Value} {s : Shared}
    {Q E : Value → Shared → Prop} {na la nn ln : Nat} {nvs pvs : List Value} {ts : List Str} {ps : List Part} {rest : List (Addr × Obj)}
    (B : Below callerA base [] h₀) (F : Fr h₀ L s.heap m) (X : (hd.heap_1 w.params).In h₀) (N : News h₀ L s.heap rest)
    (T : Top hd.view_1 (looseW hd.view_1 [Str.ofString "PaperError"]) mean mg mb h₀) (XB : (hd.heap_1 w.params).In base) (TB : Top hd.view_1 (looseW hd.view_1 [Str.ofString "PaperError"]) mean mg mb base)
    (hna : (na, listOf nvs.toArray nn) ∈ rest) (hla : (la, listOf pvs.toArray ln) ∈ rest)
    (hT : TextsV nvs ts) (hlen : nvs.length = 256) (hP : PartsIn rest pvs ps)
    (hret : ∀ da lvs ts' c dn R h' tk', Fr h₀ L h' m → News h₀ L h' ((da, listOf (List.toArray lvs) dn) :: R) → (∀ p ∈ rest, p ∈ R) → (∀ p ∈ R, p.1 < da) → TextsV lvs ts' → lvs.length = 256 → dFold ps (ts, -1) = some (ts', c) → Q (.ref da) { s with heap := h', toks := tk' })
    (hnone : ∀ h' tk', Fr h₀ L h' m → News h₀ L h' rest → dFold ps (ts, -1) = none → Q .none { s with heap := h', toks := tk' }) :
    wpAny (model PySem.Challenge.rw_og0160_01.row.prog w) (callerA.deeper (envOf cn { kind := .function, names := nms, isGenerator := false, isCoroutine := false } L a ccd)) (call (.ref 341) [.ref na, .ref la]) Q E s := by
  refine wpAny_call ?_
  k_dflt kts_go
  k_steps
  all_goals first
    | exact hnone _ _ (by assumption) (by assumption) (by assumption)
    | exact hret _ _ _ _ _ _ _ _ (by assumption) (by assumption) (fun p hp => .tail _ hp) (cons_lt (by assumption) (allLt_lt (by assumption))) (by assumption) (by assumption) (by assumption)
    | fail "no way"
end
section
open PySem PySem.W PyProof.Rows PySem.Calls PySem.Spec
section
variable {prog : Program} {w : World} {A : Around} {s : Shared} {h₀ : Heap} {L : Addr} {m : Str → Option Value} {env : Env}
/-- the turns of a comprehension over a list of any length, whose element makes nothing new -/
theorem comp_rest {elt : Expr} {x : Str} {scope : Scope} {cl : List (Str × Addr)} {S : List (Addr × Obj) → Prop} {P : Nat → Value → Prop} {Fin : List Value → List (Addr × Obj) → Prop} {news : List (Addr × Obj)} {n : Nat}
    (J : Nat → List Value → Prop)
    (turn : ∀ i ys v I oI C oC D m₂ h tk (E' : Value → Shared → Prop), P i v → J i ys → i < n → LCg.NsObj oC m₂ → m₂ x = some v → Fr h₀ L h m → News h₀ L h ((I, oI) :: (C, oC) :: (D, LCg.lst ys) :: news) → LCg.Off3 I C D news → ((@Ne Nat I C) ∧ (@Ne Nat I D) ∧ (@Ne Nat C D)) →
      wpAny (model prog w) A (eval elt (compEnvC scope cl C env)) (LCg.CompEnd h₀ L m { s with heap := h, toks := tk } I oI C oC D (LCg.lst ys) S (fun y news' => news' = news ∧ J (i + 1) (ys ++ [y]))) E' { s with heap := h, toks := tk })
    (fin : ∀ ys, J n ys → Fin ys news) : ∀ k i ys, i + k = n → J i ys → LCg.CompRest prog w A h₀ L m env elt x scope cl s S P Fin k i ys news
  | 0, i, ys, e, hJ => by
    obtain rfl : i = n := by omega
    exact LCg.CompRest.zero (fin ys hJ)
  | k + 1, i, ys, e, hJ => by
    refine LCg.CompRest.succ fun v I oI C oC D m₂ h tk E' hP hC hx hF hN hO hne => ?_
    refine wpAny_mono (turn i ys v I oI C oC D m₂ h tk E' hP hJ (by omega) hC hx hF hN hO hne) (fun y s₂ z => ?_) fun _ _ q => q
    obtain ⟨h', tk', news', rfl, F', N', O', S', rfl, J'⟩ := z
    exact ⟨h', tk', news', rfl, F', N', O', S', comp_rest J turn fin k (i + 1) _ (by omega) J'⟩
end
end
section
open PySem PySem.W PyProof.Rows PySem.Calls PySem.Spec
def OJ (D : Nat) (ys : List Value) (news : List (Addr × Obj)) (_i : Nat) (m : Str → Option Value) (nx : List (Addr × Obj)) : Prop :=
  ∃ st t, nx = (D, listOf (List.toArray ys) 0) :: news ∧ m "cells" = some (.ref D) ∧ m "state" = some (.int st t)
theorem ints_snoc {k : Int} {t : Tok} : ∀ {vs : List Value} {zs : List Int}, IntsAre vs zs → IntsAre (vs ++ [.int k t]) (zs ++ [k])
  | _, _, .nil => .cons k t .nil
  | _, _, .cons n u h => .cons n u (ints_snoc h)
theorem off1_ne {D : Addr} : ∀ {l : List (Addr × Obj)}, LCg.Off1 D l → ∀ p ∈ l, p.1 ≠ D
  | [], _, _, hp => (nomatch hp)
  | q :: r, h, p, hp => by
    rcases List.mem_cons.mp hp with rfl | hp
    · exact h.1
    · exact off1_ne h.2 p hp
theorem cons_ne {d : Addr} {x : Addr × Obj} {l : List (Addr × Obj)} (h : x.1 ≠ d) (hl : ∀ p ∈ l, p.1 ≠ d) : ∀ p ∈ x :: l, p.1 ≠ d := fun p hp => by
  rcases List.mem_cons.mp hp with rfl | hp
  · exact h
  · exact hl p hp
theorem fillO : hd.heap_1 = hd.heap_1 ∧ PySem.Challenge.rw_og0160_01.row.name = PySem.Challenge.rw_og0160_01.row.name := by
  k_fill
  exact ⟨rfl, rfl⟩
local macro_rules | `(tactic| walk_at "exec Assign cons ListComp") => `(tactic| (with_reducible refine Stop.intro ?_))
local macro_rules | `(tactic| walk_at "eval ListComp") => `(tactic| (with_reducible refine Stop.intro ?_))
local macro_rules | `(tactic| walk_at "pyIter ref") => `(tactic| refine Stop.intro ?_)
local macro_rules | `(tactic| walk_at "CompSrc") => `(tactic| (refine Stop.intro ?_))
set_option maxRecDepth 100000 in
set_option maxHeartbeats 8000000 in
theorem pot_spec {w : World} {mean : ExcName → Option Value} {mg mb : Str → Option Value} {cn : Str} {nms : List (Str × NameKind)} {a : Addr} {ccd : Value} {base h₀ : Heap} {L : Addr} {m : Str → Option Value} {s : Shared}
    {Q E : Value → Shared → Prop} {sl : Nat} {svs : List Value} {sns : List Int} {rest : List (Addr × Obj)}
    (B : Below callerA base [] h₀) (F : Fr h₀ L s.heap m) (X : (hd.heap_1 w.params).In h₀) (N : News h₀ L s.heap rest)
    (T : Top hd.view_1 (looseW hd.view_1 [Str.ofString "PaperError"]) mean mg mb h₀)
    (GL : Glob 0 mg mb (List.map itemOf (recsOf hd.view_1)) (scalarsOf [] ++ constsW hd.view_1) [] (namesW hd.view_1 [Str.ofString "PaperError"]) base)
    {bm1 : Addr} {bo1 : Obj} (BM : BMod base mainGlobals mg bm1 bo1)
    (hl : base.IsList sl svs.toArray) (I : IntsAre svs sns) (hlen : sns.length ≤ 63)
    (hret : ∀ pa ca n1 n2 vs ns st t1 t2 R h' tk', Fr h₀ L h' m → News h₀ L h' ((pa, listOf [.ref ca, .int st t1, .int 0 t2].toArray n1) :: (ca, listOf (List.toArray vs) n2) :: R) → IntsAre vs ns → ns.length ≤ 40 → (∀ p ∈ rest, p ∈ R) → (∀ p ∈ R, p.1 ≠ pa) → (∀ p ∈ R, p.1 ≠ ca) → pa ≠ ca → Q (.ref pa) { s with heap := h', toks := tk' }) :
    wpAny (model PySem.Challenge.rw_og0160_01.row.prog w) (callerA.deeper (envOf cn { kind := .function, names := nms, isGenerator := false, isCoroutine := false } L a ccd)) (call (.ref 313) [.ref sl]) Q E s := by
  refine wpAny_call ?_
  k_dflt k_enter
  k_steps
  unfold Stop
  lcg_calm
  refine LCg.Assign_ListComp_U (F₀ := by k_asm) (by rfl) (by with_unfolding_all rfl) (by rfl) (by decide) (by rfl) (by decide) (by rfl) (by rfl) (by rfl) ?_
  lcg_toSrc
  unfold Stop
  rename_i _ _ hI1 hC1 hL1
  refine LCg.CompSrc.ledger (by rfl) (by k_asm) (by k_asm) (by k_mem) ?_ ?_
  · rw [List.size_toArray, IntsAre.length hI1, sizeLine_eq]; omega
  intro g
  refine comp_rest (fun i ys => ∃ zs, IntsAre ys zs ∧ zs.length = i) ?turn ?fin _ 0 [] (Nat.zero_add _) ⟨[], .nil, rfl⟩
  case turn =>
    intro i ys v I oI C oC D m₂ h tk E' hP hJ hin hC hx hF hN hO hne
    obtain ⟨k, t, e9, hk⟩ := IntsAre.at hI1 i v (by simpa using hP)
    subst e9
    k_steps
    obtain ⟨zs, hz, hzl⟩ := hJ
    refine LCg.CompEnd.intro (by k_asm) (by k_asm) _ (fun p hp => hp) hO (Or.inr ⟨_, by k_mem, rfl, _, rfl⟩) ⟨rfl, zs ++ [k], ints_snoc hz, by simp [hzl]⟩
  case fin =>
    intro ys hJ
    obtain ⟨zs, hz, hzl⟩ := hJ
    have hz40 : ∃ zs, IntsAre ys zs ∧ zs.length ≤ 40 := ⟨zs, hz, by rw [hzl, List.size_toArray, IntsAre.length hI1]; omega⟩
    unfold LCg.FinA
    intro D h3 tk3 F3 N3 O3
    dsimp only at F3
    k_steps
    rename (∃ zs, IntsAre _ zs ∧ List.length zs ≤ 40) => hz40
    obtain ⟨zs, hz, hzl⟩ := hz40
    unfold Stop
    lcg_calm
    refine LCg.ListComp_U (F₀ := by k_asm) (by rfl) (by decide) (by rfl) (by decide) (by rfl) ?_
    lcg_toSrc
    unfold Stop
    refine LCg.CompSrc.ledger (by rfl) (by k_asm) (by k_asm) (by k_mem) ?_ ?_
    · rw [List.size_toArray, IntsAre.length hz, sizeLine_eq]; omega
    intro g2
    refine comp_rest (fun i ys => ∃ zs, IntsAre ys zs ∧ zs.length = i) ?turn ?fin _ 0 [] (Nat.zero_add _) ⟨[], .nil, rfl⟩
    case turn =>
      intro i v0 v I oI C oC D m₂ h tk E' hP hJ hin hC hx hF hN hO hne
      obtain ⟨k, t, e9, hk⟩ := IntsAre.at hz i v (by simpa using hP)
      subst e9
      k_steps
      obtain ⟨zs, hz, hzl⟩ := hJ
      refine LCg.CompEnd.intro (by k_asm) (by k_asm) _ (fun p hp => hp) hO (Or.inr ⟨_, by k_mem, rfl, _, rfl⟩) ⟨rfl, zs ++ [_], ints_snoc hz, by simp [hzl]⟩
    case fin =>
      intro ys hJ
      obtain ⟨zs2, hz2, hzl2⟩ := hJ
      unfold LCg.FinE
      intro D2 h4 tk4 F4 N4 O4
      dsimp only at F4
      k_steps
      refine hret _ _ _ _ ys zs2 _ _ _ _ _ _ (by assumption) (by with_unfolding_all assumption) hz2 (by rw [hzl2, List.size_toArray, IntsAre.length hz]; exact hzl) (fun p hp => .tail _ (.tail _ hp)) ?_ (off1_ne O4) (by k_ne)
      exact cons_ne (by k_ne) (cons_ne (by k_ne) (allLt_ne (by assumption)))
end
section
open PySem PySem.W PyProof.Rows PySem.Calls PySem.Spec
open PySem.SeqAt in
theorem TextsV.eqAt {A : Around} {s : Shared} {vs us : List Value} {ts : List Str} (h : TextsV vs ts) : TextsV us ts → ∀ j (h1 : j < vs.length) (h2 : j < us.length), EqAt A s vs[j] us[j] true := by
  induction h generalizing us with
  | nil => intro _ j h1; exact absurd h1 (Nat.not_lt_zero _)
  | cons t k _ ih =>
    intro h' j h1 h2
    cases h' with
    | cons _ k' r =>
      cases j with
      | zero =>
        have e := EqAt.str_str (A := A) (s := s) t k t k'
        rw [beq_self_eq_true] at e
        exact e
      | succ j => exact ih r j (Nat.lt_of_succ_lt_succ h1) (Nat.lt_of_succ_lt_succ h2)
theorem all_true : ∀ n : Nat, (List.range n).all (fun _ => true) = true := fun n => by simp
section
variable {prog : Program} {w : World} {A : Around} {E : Value → Shared → Prop} {s : Shared} {h₀ : Heap} {L a b : Addr} {news : List (Addr × Obj)} {vs us : List Value} {ts : List Str} {n k : Nat} {Q : Value → Shared → Prop}
theorem eq_texts (N : News h₀ L s.heap news) (ha : (a, listOf vs.toArray n) ∈ news) (hb : (b, listOf us.toArray k) ∈ news) (h1 : TextsV vs ts) (h2 : TextsV us ts) (hu : A.units < cLine) (h : Q (.bool true) s) :
    wpAny (model prog w) A (compareOp .Eq (.ref a) (.ref b)) Q E s := by
  have e := PySem.SeqAt.RcAt.lists (A := A) (e := fun _ => true) (PySem.IsL.isList (n := n) (N _ ha).1) (PySem.IsL.isList (n := k) (N _ hb).1) (by rw [List.size_toArray, List.size_toArray, h1.length, h2.length]) hu (fun j j1 j2 => by
    have := h1.eqAt (A := A.in1) (s := s) h2 j (by simpa using j1) (by simpa using j2)
    simpa using this)
  rw [all_true] at e
  exact e prog w E Q h
theorem ne_texts (N : News h₀ L s.heap news) (ha : (a, listOf vs.toArray n) ∈ news) (hb : (b, listOf us.toArray k) ∈ news) (h1 : TextsV vs ts) (h2 : TextsV us ts) (hu : A.units < cLine) (h : Q (.bool false) s) :
    wpAny (model prog w) A (compareOp .NotEq (.ref a) (.ref b)) Q E s := by
  have e := PySem.SeqAt.RcNeAt.lists (A := A) (e := fun _ => true) (PySem.IsL.isList (n := n) (N _ ha).1) (PySem.IsL.isList (n := k) (N _ hb).1) (by rw [List.size_toArray, List.size_toArray, h1.length, h2.length]) hu (fun j j1 j2 => by
    have := h1.eqAt (A := A.in1) (s := s) h2 j (by simpa using j1) (by simpa using j2)
    simpa using this)
  rw [all_true] at e
  exact e prog w E Q h
theorem ne_none {Q : Value → Shared → Prop} (h : Q (.bool false) s) : wpAny (model prog w) A (compareOp .NotEq .none .none) Q E s := PySem.SeqAt.RcNeAt.none_none prog w E Q h
end
end
section
open PySem PySem.W PyProof.Rows PySem.Calls PySem.Spec
theorem fillW : hd.heap_1 = hd.heap_1 ∧ PySem.Challenge.rw_og0160_01.row.name = PySem.Challenge.rw_og0160_01.row.name := by
  k_fill
  exact ⟨rfl, rfl⟩
abbrev figs : Str := Str.ofString "0123456789"
def isFig (x : Str) : Bool := !(Builtin.Str.occurrences figs (Txt.item x 0) 0 figs.length 1).isEmpty
/-- the words run over: no code out of the list -/
def wOk (n : Nat) : List Str → Nat → Bool
  | [], _ => true
  | x :: r, c => decide (1 ≤ x.length) && decide (x.length ≤ 640) && (if isFig x then
      (match PySem.intText? x with
        | some k => decide (0 ≤ k) && decide (k ≤ 256) && wOk n r k.toNat
        | none => false)
    else decide (c < n) && wOk n r (c + 1))
local macro_rules | `(tactic| walk_at "pyIter ref") => `(tactic| refine Stop.intro ?_)
local macro_rules | `(tactic| walk_at "exec For Name Call cons nil") => `(tactic| (k_here; (rename Fr _ _ _ _ => lF'); (with_unfolding_all refine' For_invVF lF' ?k1 ?k2 ?_; (case k1 => exact rfl); (case k2 => exact rfl); k_whole)))
local macro_rules | `(tactic| walk_at "call builtin:str.split") => `(tactic| (k_here; (with_reducible show wpAny _ _ (call (Value.builtin "str.split") _) _ _ _); refine Stop.intro ?_))
local macro_rules | `(tactic| walk_at "call type:list") => `(tactic| (k_here; (with_reducible show wpAny _ _ (call (Value.type _) [Value.ref _]) _ _ _); k_dflt ((refine' copy_any ?k1 ?k2 ?k3 ?k4 ?_); (case k1 => k_asm); (case k2 => k_asm); (case k3 => k_mem); (case k4 => omega); k_whole); intro D' c' h' F' N' l1; (try k_lt l1); (try k_sweep)))
local macro_rules | `(tactic| walk_at "subscriptTail") => `(tactic| (k_here; (with_reducible show wpAny _ _ (subscriptTail _ _ (Value.str _ _) (Value.int _ _)) _ _ _); (refine KXi.item rfl (by omega) (by omega) (by omega) ?_); intro kxiE))
local macro_rules | `(tactic| walk_at "call type:int") => `(tactic| (k_here; (with_reducible show wpAny _ _ (call (Value.type "int") [Value.str _ _]) _ _ _); (refine KIN.call_text (by with_reducible assumption) (by with_reducible assumption) ?_)))
local macro_rules | `(tactic| walk_at "setItem ref int") => `(tactic| (k_here; (with_reducible show wpAny _ _ (setItem (Value.ref _) (Value.int _ _) _) _ _ _); k_dflt ((refine' put_any ?k1 ?k2 ?k4 ?k5 ?k6 ?k7 ?k3 ?_); (case k1 => k_asm); (case k2 => k_asm); (case k7 => exact rfl); (case k3 => k_upd); (case k4 => omega); (case k5 => omega); (case k6 => omega); k_whole); intro h' F' N'; (try k_sweep)))
def WJ (da W : Nat) (wvs : List Value) (ws : List Str) (n : Nat) (rest : List (Addr × Obj)) (i : Nat) (m : Str → Option Value) (nx : List (Addr × Obj)) : Prop :=
  ∃ lvs ts' c tc dn, nx = (W, listOf (List.toArray wvs) 0) :: (da, listOf (List.toArray lvs) dn) :: rest ∧ TextsV lvs ts' ∧ lvs.length = n ∧ wOk n (ws.drop i) c = true ∧ c ≤ 256 ∧ m "laid" = some (.ref da) ∧ m "code" = some (.int (c : Int) tc)
theorem words_get {l : List (Str × Tok)} {i : Nat} {v : Value} (h : (strValues l)[i]? = some v) : ∃ x t, v = .str x t ∧ (l.map (·.1)).drop i = x :: (l.map (·.1)).drop (i + 1) := by
  unfold strValues at h
  rw [List.getElem?_map] at h
  cases e : l[i]? with
  | none => rw [e] at h; cases h
  | some p =>
    rw [e] at h
    refine ⟨p.1, p.2, (Option.some.inj h).symm, ?_⟩
    obtain ⟨hi, hp⟩ := List.getElem?_eq_some_iff.mp e
    rw [List.drop_eq_getElem_cons (by simpa using hi), List.getElem_map, hp]
theorem wOk_cons {n c : Nat} {x : Str} {r : List Str} (h : wOk n (x :: r) c = true) : 1 ≤ x.length ∧ x.length ≤ 640 ∧ ((isFig x = true ∧ ∃ k : Int, PySem.intText? x = some k ∧ 0 ≤ k ∧ k ≤ 256 ∧ wOk n r k.toNat = true) ∨ (isFig x = false ∧ c < n ∧ wOk n r (c + 1) = true)) := by
  unfold wOk at h
  simp only [Bool.and_eq_true, decide_eq_true_eq] at h
  obtain ⟨⟨h1, h2⟩, h3⟩ := h
  refine ⟨h1, h2, ?_⟩
  cases hf : isFig x with
  | true =>
    rw [hf, if_pos rfl] at h3
    cases hk : PySem.intText? x with
    | none => rw [hk] at h3; cases h3
    | some k =>
      rw [hk] at h3
      simp only [Bool.and_eq_true, decide_eq_true_eq] at h3
      exact .inl ⟨rfl, k, rfl, h3.1.1, h3.1.2, h3.2⟩
  | false =>
    rw [hf] at h3
    simp only [Bool.false_eq_true, if_false, Bool.and_eq_true, decide_eq_true_eq] at h3
    exact .inr ⟨rfl, h3.1, h3.2⟩
theorem words_end {h₀ h' : Heap} {L : Addr} {m' : Str → Option Value} {I da W dn n : Nat} {oI : Obj} {ts' ws : List Str} {wvs : List Value} {rest : List (Addr × Obj)} {i : Nat} {s₁ : Shared} {tk : Nat} {lvs : List Value} {c : Nat} {k : Int} {tc : Tok}
    (F : Fr h₀ L h' m') (N : News h₀ L h' ((I, oI) :: (W, listOf wvs.toArray 0) :: (da, listOf lvs.toArray dn) :: rest)) (hIW : W ≠ I) (hId : da ≠ I) (hIr : ∀ p ∈ rest, p.1 ≠ I) (hk : k = (c : Int)) (hf : wOk n (ws.drop (i + 1)) c = true) (hT : TextsV lvs ts') (hl : lvs.length = n) (h1 : c ≤ 256)
    (hml : m' "laid" = some (.ref da)) (hmc : m' "code" = some (.int k tc)) : TEnd h₀ L I oI (WJ da W wvs ws n rest (i + 1)) s₁ { s₁ with heap := h', toks := tk } := by
  subst hk
  refine TEnd.intro (nx := (W, listOf wvs.toArray 0) :: (da, listOf lvs.toArray dn) :: rest) F N (fun p hp => ?_) ⟨lvs, ts', c, tc, dn, rfl, hT, hl, hf, h1, hml, hmc⟩
  rcases List.mem_cons.mp hp with rfl | hp
  · exact hIW
  rcases List.mem_cons.mp hp with rfl | hp
  · exact hId
  · exact hIr p hp
set_option maxRecDepth 100000 in
set_option maxHeartbeats 8000000 in
theorem words_spec {w : World} {mean : ExcName → Option Value} {mg mb : Str → Option Value} {dp un : Nat} {gd : Option (List Code)} {cn : Str} {cs : Scope} {a : Addr} {ccd : Value} {cl : List (Str × Addr)} {outer : List Env} {A₀ : Around} {base h₀ : Heap} {L : Addr} {m : Str → Option Value} {s : Shared}
    {Q E : Value → Shared → Prop} {na nn : Nat} {nvs : List Value} {ts : List Str} {x : Str} {tx : Tok} {rest : List (Addr × Obj)}
    (B : Below A₀ base outer h₀) (F : Fr h₀ L s.heap m) (X : (hd.heap_1 w.params).In h₀) (N : News h₀ L s.heap rest)
    (T : Top hd.view_1 (looseW hd.view_1 [Str.ofString "PaperError"]) mean mg mb h₀) (hk : cs.kind = .function) (hna : (na, listOf nvs.toArray nn) ∈ rest)
    (hT : TextsV nvs ts) (hlen : nvs.length ≤ 256) (hsz : x.length + 2 ≤ sizeLine) (hok : wOk nvs.length (Txt.words x) 0 = true)
    (hdp : dp + 40 < recursionLimit) (hun : un + 400 < cLine)
    (hret : ∀ da lvs ts' dn R h' tk', Fr h₀ L h' m → News h₀ L h' ((da, listOf (List.toArray lvs) dn) :: R) → (∀ p ∈ rest, p ∈ R) → (∀ p ∈ R, p.1 ≠ da) → TextsV lvs ts' → lvs.length = nvs.length → Q (.ref da) { s with heap := h', toks := tk' }) :
    wpAny (model PySem.Challenge.rw_og0160_01.row.prog w) (ktrTop dp un gd cn cs L a ccd cl outer) (call (.ref 296) [.ref na, .str x tx]) Q E s := by
  refine wpAny_call ?_
  k_dflt ktr_enter
  k_steps
  unfold Stop
  dsimp only
  refine KSpl.split0 (by k_asm) (by k_asm) ?_ hsz
  intro W l hW kW eW _ FW NW lW
  k_lt lW
  k_steps
  rename Fr _ _ _ _ => F2
  unfold Stop
  refine' for_list (vs := strValues l) (WJ ?da W (strValues l) (l.map (·.1)) nvs.length rest) rfl (.head _) F2 NW ?zj ?zk ?zt ?zd
  case zj =>
    refine' ⟨nvs, ts, 0, _, _, ?e, hT, rfl, ?e2, by omega, rfl, rfl⟩
    case e => exact rfl
    case e2 => rw [eW]; exact hok
  case zk =>
    rintro i m nx ⟨lvs, ts', c, tc, dn, rfl, _⟩
    exact .head _
  case zt =>
    intro i v m₁ news₁ h tk I oI hv hJ hoI F₁ N₁
    obtain ⟨lvs, ts', c, tc, dn, rfl, hTV, hll, hf, hc1, hml, hmc⟩ := hJ
    rw [map2 hml hmc] at F₁
    dsimp only at F₁
    obtain ⟨x, t, e9, hx⟩ := words_get hv
    subst e9
    rw [hx] at hf
    obtain ⟨hx1, hx2, hx3⟩ := wOk_cons hf
    have hIW := neN (hoI _ (.head _))
    have hId := neN (hoI _ (.tail _ (.head _)))
    dsimp only at hIW hId
    have hIr : ∀ p ∈ rest, p.1 ≠ I := fun p hp => hoI p (.tail _ (.tail _ hp))
    rcases hx3 with ⟨hfig, k, hk, hk0, hk1, hw⟩ | ⟨hfig, hc, hw⟩
    all_goals unfold isFig at hfig
    all_goals k_steps
    all_goals first
      | exact words_end (by assumption) (by assumption) hIW hId hIr (Int.toNat_of_nonneg hk0).symm hw hTV hll (by omega) rfl rfl
      | exact words_end (by assumption) (by assumption) hIW hId hIr (show ((c : Int) + 1) = ((c + 1 : Nat) : Int) by omega) hw (hTV.set _ _ _) ((List.length_set ..).trans hll) (by omega) rfl rfl
      | fail "no way"
  case zd =>
    intro m₁ news₁ h tk hJ F₁ N₁
    obtain ⟨lvs, ts', c, tc, dn, rfl, hTV, hll, hf, hc1, hml, hmc⟩ := hJ
    rw [map2 hml hmc] at F₁
    dsimp only at F₁ ⊢
    k_steps
    refine hret _ lvs _ dn ((W, listOf (strValues l).toArray 0) :: rest) _ _ (by assumption) (news_perm (by assumption) fun p hp => ?_) (fun p hp => .tail _ hp) (fun p hp => ?_) hTV hll
    · simp only [List.mem_cons] at hp ⊢
      rcases hp with h | h | h <;> simp [h]
    · rcases List.mem_cons.mp hp with rfl | hp
      · dsimp only; k_ne
      · first | exact allLt_ne (by assumption) p hp | exact Nat.ne_of_lt ((by assumption : ∀ q ∈ rest, q.1 < _) p hp)
end
section
open PySem PySem.W PyProof.Rows PySem.Calls PySem.Spec
theorem words_chars {s : String} {l : List Char} (h : s.toList = l) : Txt.words (Str.ofString s) = KWd.fin (KWd.scan ⟨(l.map Char.toNat).toArray⟩) := by
  rw [KWd.words_scan, Str.ofString_eq_toList, h]
theorem len_chars {s : String} {l : List Char} (h : s.toList = l) : (Str.ofString s).length = l.length := by
  rw [Str.ofString_eq_toList, h]
  show (List.map Char.toNat l).toArray.size = _
  rw [List.size_toArray, List.length_map]
abbrev tx_STANDARD_WORDS : String := "39 quoteright 96 quoteleft 161 exclamdown cent sterling fraction yen florin section currency quotesingle quotedblleft guillemotleft guilsinglleft guilsinglright fi fl 177 endash dagger daggerdbl periodcentered 182 paragraph bullet quotesinglbase quotedblbase quotedblright guillemotright ellipsis perthousand 191 questiondown 193 grave acute circumflex tilde macron breve dotaccent dieresis 202 ring cedilla 205 hungarumlaut ogonek caron emdash 225 AE 227 ordfeminine 232 Lslash Oslash OE ordmasculine 241 ae 245 dotlessi 248 lslash oslash oe germandbls"
set_option maxRecDepth 100000 in
theorem cs_STANDARD_WORDS : tx_STANDARD_WORDS.toList = ['3','9',' ','q','u','o','t','e','r','i','g','h','t',' ','9','6',' ','q','u','o','t','e','l','e','f','t',' ','1','6','1',' ','e','x','c','l','a','m','d','o','w','n',' ','c','e','n','t',' ','s','t','e','r','l','i','n','g',' ','f','r','a','c','t','i','o','n',' ','y','e','n',' ','f','l','o','r','i','n',' ','s','e','c','t','i','o','n',' ','c','u','r','r','e','n','c','y',' ','q','u','o','t','e','s','i','n','g','l','e',' ','q','u','o','t','e','d','b','l','l','e','f','t',' ','g','u','i','l','l','e','m','o','t','l','e','f','t',' ','g','u','i','l','s','i','n','g','l','l','e','f','t',' ','g','u','i','l','s','i','n','g','l','r','i','g','h','t',' ','f','i',' ','f','l',' ','1','7','7',' ','e','n','d','a','s','h',' ','d','a','g','g','e','r',' ','d','a','g','g','e','r','d','b','l',' ','p','e','r','i','o','d','c','e','n','t','e','r','e','d',' ','1','8','2',' ','p','a','r','a','g','r','a','p','h',' ','b','u','l','l','e','t',' ','q','u','o','t','e','s','i','n','g','l','b','a','s','e',' ','q','u','o','t','e','d','b','l','b','a','s','e',' ','q','u','o','t','e','d','b','l','r','i','g','h','t',' ','g','u','i','l','l','e','m','o','t','r','i','g','h','t',' ','e','l','l','i','p','s','i','s',' ','p','e','r','t','h','o','u','s','a','n','d',' ','1','9','1',' ','q','u','e','s','t','i','o','n','d','o','w','n',' ','1','9','3',' ','g','r','a','v','e',' ','a','c','u','t','e',' ','c','i','r','c','u','m','f','l','e','x',' ','t','i','l','d','e',' ','m','a','c','r','o','n',' ','b','r','e','v','e',' ','d','o','t','a','c','c','e','n','t',' ','d','i','e','r','e','s','i','s',' ','2','0','2',' ','r','i','n','g',' ','c','e','d','i','l','l','a',' ','2','0','5',' ','h','u','n','g','a','r','u','m','l','a','u','t',' ','o','g','o','n','e','k',' ','c','a','r','o','n',' ','e','m','d','a','s','h',' ','2','2','5',' ','A','E',' ','2','2','7',' ','o','r','d','f','e','m','i','n','i','n','e',' ','2','3','2',' ','L','s','l','a','s','h',' ','O','s','l','a','s','h',' ','O','E',' ','o','r','d','m','a','s','c','u','l','i','n','e',' ','2','4','1',' ','a','e',' ','2','4','5',' ','d','o','t','l','e','s','s','i',' ','2','4','8',' ','l','s','l','a','s','h',' ','o','s','l','a','s','h',' ','o','e',' ','g','e','r','m','a','n','d','b','l','s'] := String.toList_ofList
set_option maxRecDepth 100000 in
theorem ok_STANDARD_WORDS : wOk 256 (Txt.words (Str.ofString tx_STANDARD_WORDS)) 0 = true := by
  rw [words_chars cs_STANDARD_WORDS]
  decide +kernel
set_option maxRecDepth 100000 in
theorem ln_STANDARD_WORDS : (Str.ofString tx_STANDARD_WORDS).length + 2 ≤ sizeLine := by
  rw [len_chars cs_STANDARD_WORDS, sizeLine_eq]
  decide +kernel
abbrev tx_WIN_WORDS : String := "128 Euro 130 quotesinglbase florin quotedblbase ellipsis dagger daggerdbl circumflex perthousand Scaron guilsinglleft OE 142 Zcaron 145 quoteleft quoteright quotedblleft quotedblright bullet endash emdash tilde trademark scaron guilsinglright oe 158 zcaron Ydieresis space"
set_option maxRecDepth 100000 in
theorem cs_WIN_WORDS : tx_WIN_WORDS.toList = ['1','2','8',' ','E','u','r','o',' ','1','3','0',' ','q','u','o','t','e','s','i','n','g','l','b','a','s','e',' ','f','l','o','r','i','n',' ','q','u','o','t','e','d','b','l','b','a','s','e',' ','e','l','l','i','p','s','i','s',' ','d','a','g','g','e','r',' ','d','a','g','g','e','r','d','b','l',' ','c','i','r','c','u','m','f','l','e','x',' ','p','e','r','t','h','o','u','s','a','n','d',' ','S','c','a','r','o','n',' ','g','u','i','l','s','i','n','g','l','l','e','f','t',' ','O','E',' ','1','4','2',' ','Z','c','a','r','o','n',' ','1','4','5',' ','q','u','o','t','e','l','e','f','t',' ','q','u','o','t','e','r','i','g','h','t',' ','q','u','o','t','e','d','b','l','l','e','f','t',' ','q','u','o','t','e','d','b','l','r','i','g','h','t',' ','b','u','l','l','e','t',' ','e','n','d','a','s','h',' ','e','m','d','a','s','h',' ','t','i','l','d','e',' ','t','r','a','d','e','m','a','r','k',' ','s','c','a','r','o','n',' ','g','u','i','l','s','i','n','g','l','r','i','g','h','t',' ','o','e',' ','1','5','8',' ','z','c','a','r','o','n',' ','Y','d','i','e','r','e','s','i','s',' ','s','p','a','c','e'] := String.toList_ofList
set_option maxRecDepth 100000 in
theorem ok_WIN_WORDS : wOk 161 (Txt.words (Str.ofString tx_WIN_WORDS)) 0 = true := by
  rw [words_chars cs_WIN_WORDS]
  decide +kernel
set_option maxRecDepth 100000 in
theorem ln_WIN_WORDS : (Str.ofString tx_WIN_WORDS).length + 2 ≤ sizeLine := by
  rw [len_chars cs_WIN_WORDS, sizeLine_eq]
  decide +kernel
abbrev tx_MAC_WORDS : String := "128 Adieresis Aring Ccedilla Eacute Ntilde Odieresis Udieresis aacute agrave acircumflex adieresis atilde aring ccedilla eacute egrave ecircumflex edieresis iacute igrave icircumflex idieresis ntilde oacute ograve ocircumflex odieresis otilde uacute ugrave ucircumflex udieresis dagger degree cent sterling section bullet paragraph germandbls registered copyright trademark acute dieresis 174 AE Oslash 177 plusminus 180 yen mu 187 ordfeminine ordmasculine 190 ae oslash questiondown exclamdown logicalnot 196 florin 199 guillemotleft guillemotright ellipsis space Agrave Atilde Otilde OE oe endash emdash quotedblleft quotedblright quoteleft quoteright divide 216 ydieresis Ydieresis fraction currency guilsinglleft guilsinglright fi fl daggerdbl periodcentered quotesinglbase quotedblbase perthousand Acircumflex Ecircumflex Aacute Edieresis Egrave Iacute Icircumflex Idieresis Igrave Oacute Ocircumflex 241 Ograve Uacute Ucircumflex Ugrave dotlessi circumflex tilde macron breve dotaccent ring cedilla hungarumlaut ogonek caron"
set_option maxRecDepth 100000 in
theorem cs_MAC_WORDS : tx_MAC_WORDS.toList = ['1','2','8',' ','A','d','i','e','r','e','s','i','s',' ','A','r','i','n','g',' ','C','c','e','d','i','l','l','a',' ','E','a','c','u','t','e',' ','N','t','i','l','d','e',' ','O','d','i','e','r','e','s','i','s',' ','U','d','i','e','r','e','s','i','s',' ','a','a','c','u','t','e',' ','a','g','r','a','v','e',' ','a','c','i','r','c','u','m','f','l','e','x',' ','a','d','i','e','r','e','s','i','s',' ','a','t','i','l','d','e',' ','a','r','i','n','g',' ','c','c','e','d','i','l','l','a',' ','e','a','c','u','t','e',' ','e','g','r','a','v','e',' ','e','c','i','r','c','u','m','f','l','e','x',' ','e','d','i','e','r','e','s','i','s',' ','i','a','c','u','t','e',' ','i','g','r','a','v','e',' ','i','c','i','r','c','u','m','f','l','e','x',' ','i','d','i','e','r','e','s','i','s',' ','n','t','i','l','d','e',' ','o','a','c','u','t','e',' ','o','g','r','a','v','e',' ','o','c','i','r','c','u','m','f','l','e','x',' ','o','d','i','e','r','e','s','i','s',' ','o','t','i','l','d','e',' ','u','a','c','u','t','e',' ','u','g','r','a','v','e',' ','u','c','i','r','c','u','m','f','l','e','x',' ','u','d','i','e','r','e','s','i','s',' ','d','a','g','g','e','r',' ','d','e','g','r','e','e',' ','c','e','n','t',' ','s','t','e','r','l','i','n','g',' ','s','e','c','t','i','o','n',' ','b','u','l','l','e','t',' ','p','a','r','a','g','r','a','p','h',' ','g','e','r','m','a','n','d','b','l','s',' ','r','e','g','i','s','t','e','r','e','d',' ','c','o','p','y','r','i','g','h','t',' ','t','r','a','d','e','m','a','r','k',' ','a','c','u','t','e',' ','d','i','e','r','e','s','i','s',' ','1','7','4',' ','A','E',' ','O','s','l','a','s','h',' ','1','7','7',' ','p','l','u','s','m','i','n','u','s',' ','1','8','0',' ','y','e','n',' ','m','u',' ','1','8','7',' ','o','r','d','f','e','m','i','n','i','n','e',' ','o','r','d','m','a','s','c','u','l','i','n','e',' ','1','9','0',' ','a','e',' ','o','s','l','a','s','h',' ','q','u','e','s','t','i','o','n','d','o','w','n',' ','e','x','c','l','a','m','d','o','w','n',' ','l','o','g','i','c','a','l','n','o','t',' ','1','9','6',' ','f','l','o','r','i','n',' ','1','9','9',' ','g','u','i','l','l','e','m','o','t','l','e','f','t',' ','g','u','i','l','l','e','m','o','t','r','i','g','h','t',' ','e','l','l','i','p','s','i','s',' ','s','p','a','c','e',' ','A','g','r','a','v','e',' ','A','t','i','l','d','e',' ','O','t','i','l','d','e',' ','O','E',' ','o','e',' ','e','n','d','a','s','h',' ','e','m','d','a','s','h',' ','q','u','o','t','e','d','b','l','l','e','f','t',' ','q','u','o','t','e','d','b','l','r','i','g','h','t',' ','q','u','o','t','e','l','e','f','t',' ','q','u','o','t','e','r','i','g','h','t',' ','d','i','v','i','d','e',' ','2','1','6',' ','y','d','i','e','r','e','s','i','s',' ','Y','d','i','e','r','e','s','i','s',' ','f','r','a','c','t','i','o','n',' ','c','u','r','r','e','n','c','y',' ','g','u','i','l','s','i','n','g','l','l','e','f','t',' ','g','u','i','l','s','i','n','g','l','r','i','g','h','t',' ','f','i',' ','f','l',' ','d','a','g','g','e','r','d','b','l',' ','p','e','r','i','o','d','c','e','n','t','e','r','e','d',' ','q','u','o','t','e','s','i','n','g','l','b','a','s','e',' ','q','u','o','t','e','d','b','l','b','a','s','e',' ','p','e','r','t','h','o','u','s','a','n','d',' ','A','c','i','r','c','u','m','f','l','e','x',' ','E','c','i','r','c','u','m','f','l','e','x',' ','A','a','c','u','t','e',' ','E','d','i','e','r','e','s','i','s',' ','E','g','r','a','v','e',' ','I','a','c','u','t','e',' ','I','c','i','r','c','u','m','f','l','e','x',' ','I','d','i','e','r','e','s','i','s',' ','I','g','r','a','v','e',' ','O','a','c','u','t','e',' ','O','c','i','r','c','u','m','f','l','e','x',' ','2','4','1',' ','O','g','r','a','v','e',' ','U','a','c','u','t','e',' ','U','c','i','r','c','u','m','f','l','e','x',' ','U','g','r','a','v','e',' ','d','o','t','l','e','s','s','i',' ','c','i','r','c','u','m','f','l','e','x',' ','t','i','l','d','e',' ','m','a','c','r','o','n',' ','b','r','e','v','e',' ','d','o','t','a','c','c','e','n','t',' ','r','i','n','g',' ','c','e','d','i','l','l','a',' ','h','u','n','g','a','r','u','m','l','a','u','t',' ','o','g','o','n','e','k',' ','c','a','r','o','n'] := String.toList_ofList
set_option maxRecDepth 100000 in
theorem ok_MAC_WORDS : wOk 256 (Txt.words (Str.ofString tx_MAC_WORDS)) 0 = true := by
  rw [words_chars cs_MAC_WORDS]
  decide +kernel
set_option maxRecDepth 100000 in
theorem ln_MAC_WORDS : (Str.ofString tx_MAC_WORDS).length + 2 ≤ sizeLine := by
  rw [len_chars cs_MAC_WORDS, sizeLine_eq]
  decide +kernel
abbrev tx_LOW_NAMES : String := "space exclam quotedbl numbersign dollar percent ampersand quotesingle parenleft parenright asterisk plus comma hyphen period slash zero one two three four five six seven eight nine colon semicolon less equal greater question at"
set_option maxRecDepth 100000 in
theorem cs_LOW_NAMES : tx_LOW_NAMES.toList = ['s','p','a','c','e',' ','e','x','c','l','a','m',' ','q','u','o','t','e','d','b','l',' ','n','u','m','b','e','r','s','i','g','n',' ','d','o','l','l','a','r',' ','p','e','r','c','e','n','t',' ','a','m','p','e','r','s','a','n','d',' ','q','u','o','t','e','s','i','n','g','l','e',' ','p','a','r','e','n','l','e','f','t',' ','p','a','r','e','n','r','i','g','h','t',' ','a','s','t','e','r','i','s','k',' ','p','l','u','s',' ','c','o','m','m','a',' ','h','y','p','h','e','n',' ','p','e','r','i','o','d',' ','s','l','a','s','h',' ','z','e','r','o',' ','o','n','e',' ','t','w','o',' ','t','h','r','e','e',' ','f','o','u','r',' ','f','i','v','e',' ','s','i','x',' ','s','e','v','e','n',' ','e','i','g','h','t',' ','n','i','n','e',' ','c','o','l','o','n',' ','s','e','m','i','c','o','l','o','n',' ','l','e','s','s',' ','e','q','u','a','l',' ','g','r','e','a','t','e','r',' ','q','u','e','s','t','i','o','n',' ','a','t'] := String.toList_ofList
set_option maxRecDepth 100000 in
theorem wl_LOW_NAMES : (Txt.words (Str.ofString tx_LOW_NAMES)).length = 33 := by
  rw [words_chars cs_LOW_NAMES]
  decide +kernel
set_option maxRecDepth 100000 in
theorem ln_LOW_NAMES : (Str.ofString tx_LOW_NAMES).length + 2 ≤ sizeLine := by
  rw [len_chars cs_LOW_NAMES, sizeLine_eq]
  decide +kernel
abbrev tx_MIDDLE_NAMES : String := "bracketleft backslash bracketright asciicircum underscore grave"
set_option maxRecDepth 100000 in
theorem cs_MIDDLE_NAMES : tx_MIDDLE_NAMES.toList = ['b','r','a','c','k','e','t','l','e','f','t',' ','b','a','c','k','s','l','a','s','h',' ','b','r','a','c','k','e','t','r','i','g','h','t',' ','a','s','c','i','i','c','i','r','c','u','m',' ','u','n','d','e','r','s','c','o','r','e',' ','g','r','a','v','e'] := String.toList_ofList
set_option maxRecDepth 100000 in
theorem wl_MIDDLE_NAMES : (Txt.words (Str.ofString tx_MIDDLE_NAMES)).length = 6 := by
  rw [words_chars cs_MIDDLE_NAMES]
  decide +kernel
set_option maxRecDepth 100000 in
theorem ln_MIDDLE_NAMES : (Str.ofString tx_MIDDLE_NAMES).length + 2 ≤ sizeLine := by
  rw [len_chars cs_MIDDLE_NAMES, sizeLine_eq]
  decide +kernel
abbrev tx_HIGH_NAMES : String := "braceleft bar braceright asciitilde"
set_option maxRecDepth 100000 in
theorem cs_HIGH_NAMES : tx_HIGH_NAMES.toList = ['b','r','a','c','e','l','e','f','t',' ','b','a','r',' ','b','r','a','c','e','r','i','g','h','t',' ','a','s','c','i','i','t','i','l','d','e'] := String.toList_ofList
set_option maxRecDepth 100000 in
theorem wl_HIGH_NAMES : (Txt.words (Str.ofString tx_HIGH_NAMES)).length = 4 := by
  rw [words_chars cs_HIGH_NAMES]
  decide +kernel
set_option maxRecDepth 100000 in
theorem ln_HIGH_NAMES : (Str.ofString tx_HIGH_NAMES).length + 2 ≤ sizeLine := by
  rw [len_chars cs_HIGH_NAMES, sizeLine_eq]
  decide +kernel
abbrev tx_LATIN_NAMES : String := "exclamdown cent sterling currency yen brokenbar section dieresis copyright ordfeminine guillemotleft logicalnot hyphen registered macron degree plusminus twosuperior threesuperior acute mu paragraph periodcentered cedilla onesuperior ordmasculine guillemotright onequarter onehalf threequarters questiondown Agrave Aacute Acircumflex Atilde Adieresis Aring AE Ccedilla Egrave Eacute Ecircumflex Edieresis Igrave Iacute Icircumflex Idieresis Eth Ntilde Ograve Oacute Ocircumflex Otilde Odieresis multiply Oslash Ugrave Uacute Ucircumflex Udieresis Yacute Thorn germandbls"
set_option maxRecDepth 100000 in
theorem cs_LATIN_NAMES : tx_LATIN_NAMES.toList = ['e','x','c','l','a','m','d','o','w','n',' ','c','e','n','t',' ','s','t','e','r','l','i','n','g',' ','c','u','r','r','e','n','c','y',' ','y','e','n',' ','b','r','o','k','e','n','b','a','r',' ','s','e','c','t','i','o','n',' ','d','i','e','r','e','s','i','s',' ','c','o','p','y','r','i','g','h','t',' ','o','r','d','f','e','m','i','n','i','n','e',' ','g','u','i','l','l','e','m','o','t','l','e','f','t',' ','l','o','g','i','c','a','l','n','o','t',' ','h','y','p','h','e','n',' ','r','e','g','i','s','t','e','r','e','d',' ','m','a','c','r','o','n',' ','d','e','g','r','e','e',' ','p','l','u','s','m','i','n','u','s',' ','t','w','o','s','u','p','e','r','i','o','r',' ','t','h','r','e','e','s','u','p','e','r','i','o','r',' ','a','c','u','t','e',' ','m','u',' ','p','a','r','a','g','r','a','p','h',' ','p','e','r','i','o','d','c','e','n','t','e','r','e','d',' ','c','e','d','i','l','l','a',' ','o','n','e','s','u','p','e','r','i','o','r',' ','o','r','d','m','a','s','c','u','l','i','n','e',' ','g','u','i','l','l','e','m','o','t','r','i','g','h','t',' ','o','n','e','q','u','a','r','t','e','r',' ','o','n','e','h','a','l','f',' ','t','h','r','e','e','q','u','a','r','t','e','r','s',' ','q','u','e','s','t','i','o','n','d','o','w','n',' ','A','g','r','a','v','e',' ','A','a','c','u','t','e',' ','A','c','i','r','c','u','m','f','l','e','x',' ','A','t','i','l','d','e',' ','A','d','i','e','r','e','s','i','s',' ','A','r','i','n','g',' ','A','E',' ','C','c','e','d','i','l','l','a',' ','E','g','r','a','v','e',' ','E','a','c','u','t','e',' ','E','c','i','r','c','u','m','f','l','e','x',' ','E','d','i','e','r','e','s','i','s',' ','I','g','r','a','v','e',' ','I','a','c','u','t','e',' ','I','c','i','r','c','u','m','f','l','e','x',' ','I','d','i','e','r','e','s','i','s',' ','E','t','h',' ','N','t','i','l','d','e',' ','O','g','r','a','v','e',' ','O','a','c','u','t','e',' ','O','c','i','r','c','u','m','f','l','e','x',' ','O','t','i','l','d','e',' ','O','d','i','e','r','e','s','i','s',' ','m','u','l','t','i','p','l','y',' ','O','s','l','a','s','h',' ','U','g','r','a','v','e',' ','U','a','c','u','t','e',' ','U','c','i','r','c','u','m','f','l','e','x',' ','U','d','i','e','r','e','s','i','s',' ','Y','a','c','u','t','e',' ','T','h','o','r','n',' ','g','e','r','m','a','n','d','b','l','s'] := String.toList_ofList
set_option maxRecDepth 100000 in
theorem wl_LATIN_NAMES : (Txt.words (Str.ofString tx_LATIN_NAMES)).length = 63 := by
  rw [words_chars cs_LATIN_NAMES]
  decide +kernel
set_option maxRecDepth 100000 in
theorem wz_LATIN_NAMES : (Txt.words (Str.ofString tx_LATIN_NAMES)).all (fun x => decide (x.length ≤ 1000)) = true := by
  rw [words_chars cs_LATIN_NAMES]
  decide +kernel
set_option maxRecDepth 100000 in
theorem ln_LATIN_NAMES : (Str.ofString tx_LATIN_NAMES).length + 2 ≤ sizeLine := by
  rw [len_chars cs_LATIN_NAMES, sizeLine_eq]
  decide +kernel
end
section
open PySem PySem.W PyProof.Rows PySem.Calls PySem.Spec
/-- n texts -/
def TN (vs : List Value) (n : Nat) : Prop := (∀ v ∈ vs, ∃ x t, v = .str x t) ∧ vs.length = n
theorem TN.texts : ∀ {vs : List Value} {n : Nat}, TN vs n → ∃ ts, TextsV vs ts
  | [], _, _ => ⟨[], .nil⟩
  | v :: r, _, h => by
    obtain ⟨ts, ht⟩ := TN.texts (vs := r) ⟨fun u hu => h.1 u (.tail _ hu), rfl⟩
    obtain ⟨x, t, rfl⟩ := h.1 v (.head _)
    exact ⟨x :: ts, .cons x t ht⟩
theorem TN.of_texts {vs : List Value} {ts : List Str} {n : Nat} (h : TextsV vs ts) (e : vs.length = n) : TN vs n := by
  refine ⟨?_, e⟩
  clear e
  induction h with
  | nil => intro v hv; cases hv
  | cons t k _ ih =>
    intro v hv
    rcases List.mem_cons.mp hv with rfl | hv
    · exact ⟨t, k, rfl⟩
    · exact ih v hv
theorem TN.nil : TN [] 0 := ⟨fun _ h => (nomatch h), rfl⟩
theorem TN.one (x : Str) (t : Tok) : TN [.str x t] 1 := ⟨fun v hv => by
  rcases List.mem_cons.mp hv with rfl | hv
  · exact ⟨x, t, rfl⟩
  · exact (nomatch hv), rfl⟩
theorem TN.append {vs us : List Value} {n k : Nat} (h : TN vs n) (h' : TN us k) : TN (vs ++ us) (n + k) := ⟨fun v hv => by
  rcases List.mem_append.mp hv with hv | hv
  · exact h.1 v hv
  · exact h'.1 v hv, by rw [List.length_append, h.2, h'.2]⟩
theorem TN.snoc {vs : List Value} {n : Nat} {x : Str} {t : Tok} (h : TN vs n) : TN (vs ++ [.str x t]) (n + 1) := h.append (TN.one x t)
theorem TN.set {vs : List Value} {n : Nat} (h : TN vs n) (j : Nat) (x : Str) (t : Tok) : TN (vs.set j (.str x t)) n := ⟨fun v hv => by
  rcases List.mem_or_eq_of_mem_set hv with hv | rfl
  · exact h.1 v hv
  · exact ⟨x, t, rfl⟩, by rw [List.length_set, h.2]⟩
section
variable {prog : Program} {w : World} {A : Around} {E : Value → Shared → Prop} {s : Shared} {h₀ : Heap} {L a b l : Addr} {m : Str → Option Value} {news : List (Addr × Obj)} {vs us : List Value} {n k x y : Nat} {Q : Value → Shared → Prop}
theorem add_any (F : Fr h₀ L s.heap m) (N : News h₀ L s.heap news) (ha : (a, listOf vs.toArray n) ∈ news) (hb : (b, listOf us.toArray k) ∈ news) (hz : vs.length + us.length ≤ sizeLine)
    (h : ∀ D h', Fr h₀ L h' m → News h₀ L h' ((D, listOf (vs ++ us).toArray 0) :: news) → (∀ p ∈ news, p.1 < D) → Q (.ref D) { s with heap := h' }) :
    wpAny (model prog w) A (binaryOp .Add (.ref a) (.ref b)) Q E s :=
  add_lists F N (PySem.IsL.isList (n := n) (N _ ha).1) (PySem.IsL.isList (n := k) (N _ hb).1) (fun h' F' N' => h _ h' F' N' fun p hp => Heap.lt_size (N p hp).1) hz
theorem add_tn (F : Fr h₀ L s.heap m) (N : News h₀ L s.heap news) (ha : (a, listOf vs.toArray n) ∈ news) (hb : (b, listOf us.toArray k) ∈ news) (h1 : TN vs x) (h2 : TN us y) (hz : x + y ≤ 1000)
    (h : ∀ D ws h', Fr h₀ L h' m → News h₀ L h' ((D, listOf (List.toArray ws) 0) :: news) → (∀ p ∈ news, p.1 < D) → TN ws (x + y) → Q (.ref D) { s with heap := h' }) :
    wpAny (model prog w) A (binaryOp .Add (.ref a) (.ref b)) Q E s :=
  add_any F N ha hb (by rw [h1.2, h2.2, sizeLine_eq]; omega) fun D h' F' N' l1 => h D _ h' F' N' l1 (h1.append h2)
theorem mul_tn {i : Int} {u : Tok} {x0 : Str} {t0 : Tok} {z : Nat} (F : Fr h₀ L s.heap m) (N : News h₀ L s.heap news) (ha : (a, listOf [Value.str x0 t0].toArray n) ∈ news) (e : i = (z : Int)) (hz : z ≤ 256)
    (h : ∀ D ws h', Fr h₀ L h' m → News h₀ L h' ((D, listOf (List.toArray ws) 0) :: news) → (∀ p ∈ news, p.1 < D) → TN ws z → Q (.ref D) { s with heap := h' }) :
    wpAny (model prog w) A (binaryOp .Mult (.ref a) (.int i u)) Q E s := by
  subst e
  refine KMa.mul F N (PySem.IsL.isList (n := n) (N _ ha).1) (by omega) (by omega) (by simp only [List.length_cons, List.length_nil, Int.toNat_natCast]; omega) rfl fun D h' F' N' l1 => h D _ h' F' N' l1 ?_
  rw [Int.toNat_natCast]
  exact ⟨fun v hv => by
    obtain ⟨r, hr, hv⟩ := List.mem_flatten.mp hv
    obtain ⟨_, rfl⟩ := List.mem_replicate.mp hr
    rcases List.mem_cons.mp hv with rfl | hv
    · exact ⟨_, _, rfl⟩
    · exact (nomatch hv), by simp⟩
theorem slice_tn {value slice : PySem.Expr} {vl vu : Value} {lo hi : Option Int} {i j c : Nat} (F : Fr h₀ L s.heap m) (N : News h₀ L s.heap news) (ha : (l, listOf vs.toArray n) ∈ news) (h1 : TN vs x) (pl : IsPart vl lo) (pu : IsPart vu hi)
    (e : sliceBounds lo hi none x = ((i : Int), (j : Int), 1)) (hc : min (j - i) (x - i) = c) (hz : x ≤ 1000)
    (h : ∀ D ws h', Fr h₀ L h' m → News h₀ L h' ((D, listOf (List.toArray ws) 0) :: news) → (∀ p ∈ news, p.1 < D) → TN ws c → (∀ v ∈ ws, v ∈ vs) → Q (.ref D) { s with heap := h' })
    (hs : subscripted slice false (.ref l) (.ref s.heap.objs.size) = operate [.ref s.heap.objs.size, .ref l] (getItem (.ref l) (.ref s.heap.objs.size))) (ht : ∀ r, letTemporaryGo value (.ref l) r = pure ()) :
    wpAny (model prog w) A (subscriptTail value slice (.ref l) (.ref s.heap.objs.size)) Q E { s with heap := s.heap.push { cls := .type "slice", data := .fields #[vl, vu, .none] } } := by
  refine kmk_slice F N (PySem.IsL.isList (n := n) (N _ ha).1) pl pu (fun D h' F' N' l1 => ?_) hs ht (by rw [List.size_toArray, h1.2, sizeLine_eq]; omega)
  rw [kmk_pick_nat (a := i) (b := j) _ (by rw [List.size_toArray, h1.2]; exact e)] at N'
  have hsub : ∀ v ∈ (vs.drop i).take (j - i), v ∈ vs := fun v hv => List.mem_of_mem_drop (List.mem_of_mem_take hv)
  exact h D _ h' F' N' l1 ⟨fun v hv => h1.1 v (hsub v hv), by rw [List.length_take, List.length_drop, h1.2]; exact hc⟩ hsub
theorem split_tn {X : Str} {t : Tok} (F : Fr h₀ L s.heap m) (N : News h₀ L s.heap news) (hw : (Txt.words X).length = n) (hsz : X.length + 2 ≤ sizeLine)
    (h : ∀ D ws h' tk, Fr h₀ L h' m → News h₀ L h' ((D, listOf (List.toArray ws) 0) :: news) → (∀ p ∈ news, p.1 < D) → TN ws n → (∀ v ∈ ws, ∃ y u, v = .str y u ∧ y ∈ Txt.words X) → Q (.ref D) { s with heap := h', toks := tk }) :
    wpAny (model prog w) A (call (.builtin "str.split") [.str X t]) Q E s := by
  refine KSpl.split0 F N (fun D l h' k e _ F' N' l1 => ?_) hsz
  have hv : ∀ v ∈ strValues l, ∃ y u, v = .str y u ∧ y ∈ Txt.words X := fun v hv => by
    unfold strValues at hv
    obtain ⟨p, hp, rfl⟩ := List.mem_map.mp hv
    exact ⟨p.1, p.2, rfl, e ▸ List.mem_map.mpr ⟨p, hp, rfl⟩⟩
  refine h D _ h' k F' N' l1 ⟨fun v q => ?_, ?_⟩ hv
  · obtain ⟨y, u, e, _⟩ := hv v q
    exact ⟨y, u, e⟩
  · unfold strValues
    rw [List.length_map, ← hw, ← e, List.length_map]
end
end
section
open PySem PySem.W PyProof.Rows PySem.Calls PySem.Spec
theorem fillA : hd.heap_1 = hd.heap_1 ∧ PySem.Challenge.rw_og0160_01.row.name = PySem.Challenge.rw_og0160_01.row.name := by
  k_fill
  exact ⟨rfl, rfl⟩
local macro_rules | `(tactic| walk_at "exec Assign cons ListComp") => `(tactic| (with_reducible refine Stop.intro ?_))
local macro_rules | `(tactic| walk_at "CompSrc") => `(tactic| (refine Stop.intro ?_))
local macro_rules | `(tactic| walk_at "call builtin:str.split") => `(tactic| (k_here; (with_reducible show wpAny _ _ (call (Value.builtin "str.split") _) _ _ _); k_dflt ((refine' split_tn ?k1 ?k2 ?k3 ?k4 ?_); (case k1 => k_asm); (case k2 => k_asm); (case k3 => with_reducible first | exact wl_LOW_NAMES | exact wl_MIDDLE_NAMES | exact wl_HIGH_NAMES); (case k4 => with_reducible first | exact ln_LOW_NAMES | exact ln_MIDDLE_NAMES | exact ln_HIGH_NAMES)); intro D' ws' h' k' F' N' l1 hT' hw'; clear hw'; k_lt l1; (try k_sweep)))
local macro_rules | `(tactic| walk_at "binaryOp Add ref ref") => `(tactic| (k_here; (with_reducible show wpAny _ _ (binaryOp Operator.Add (Value.ref _) (Value.ref _)) _ _ _); k_dflt ((refine' add_tn ?k1 ?k2 ?k3 ?k4 ?k5 ?k6 ?k7 ?_); (case k1 => k_asm); (case k2 => k_asm); (case k3 => k_mem); (case k4 => k_mem); (case k5 => first | assumption | exact TN.one _ _); (case k6 => first | assumption | exact TN.one _ _); (case k7 => decide)); intro D' ws' h' F' N' l1 hT'; (try simp only [Nat.reduceAdd] at hT'); k_lt l1; (try k_sweep)))
set_option maxRecDepth 100000 in
set_option maxHeartbeats 8000000 in
theorem ascii_spec {w : World} {mean : ExcName → Option Value} {mg mb : Str → Option Value} {dp un : Nat} {gd : Option (List Code)} {cn : Str} {cs : Scope} {a : Addr} {ccd : Value} {cl : List (Str × Addr)} {outer : List Env} {A₀ : Around} {base h₀ : Heap} {L : Addr} {m : Str → Option Value} {s : Shared}
    {Q E : Value → Shared → Prop} {rest : List (Addr × Obj)}
    (B : Below A₀ base outer h₀) (F : Fr h₀ L s.heap m) (X : (hd.heap_1 w.params).In h₀) (N : News h₀ L s.heap rest)
    (T : Top hd.view_1 (looseW hd.view_1 [Str.ofString "PaperError"]) mean mg mb h₀) (hk : cs.kind = .function)
    (hdp : dp + 40 < recursionLimit) (hun : un + 400 < cLine)
    (hret : ∀ D ws R h' tk', Fr h₀ L h' m → News h₀ L h' ((D, listOf (List.toArray ws) 0) :: R) → (∀ p ∈ rest, p ∈ R) → (∀ p ∈ R, p.1 ≠ D) → TN ws 95 → Q (.ref D) { s with heap := h', toks := tk' }) :
    wpAny (model PySem.Challenge.rw_og0160_01.row.prog w) (ktrTop dp un gd cn cs L a ccd cl outer) (call (.ref 284) []) Q E s := by
  refine wpAny_call ?_
  k_dflt ktr_enter
  k_steps
  unfold Stop
  lcg_calm
  refine LCg.Assign_ListComp_U (F₀ := by k_asm) (by rfl) (by with_unfolding_all rfl) (by rfl) (by decide) (by rfl) (by decide) (by rfl) (by rfl) (by rfl) ?_
  lcg_toSrc
  unfold Stop
  refine LCg.CompSrc.range (by rfl) (by k_asm) (by k_asm) (by assumption) (by first | decide | rfl) (by first | rfl | decide) (by first | size_fits | exact Nat.le_of_ble_eq_true rfl) ?_
  intro g
  refine comp_rest (n := 26) (fun i ys => TN ys i) ?turn ?fin _ 0 [] (Nat.zero_add _) TN.nil
  case turn =>
    intro i ys v I oI C oC D m₂ h tk E' hP hJ hin hC hx hF hN hO hne
    obtain ⟨t, e9⟩ := hP
    subst e9
    k_steps
    refine LCg.CompEnd.intro (by k_asm) (by k_asm) _ (fun p hp => hp) hO trivial ⟨rfl, hJ.snoc⟩
  case fin =>
    intro ys hJ
    unfold LCg.FinA
    intro D h3 tk3 F3 N3 O3
    dsimp only at F3
    k_steps
    unfold Stop
    lcg_calm
    refine LCg.Assign_ListComp_U (F₀ := by k_asm) (by rfl) (by with_unfolding_all rfl) (by rfl) (by decide) (by rfl) (by decide) (by rfl) (by rfl) (by rfl) ?_
    lcg_toSrc
    unfold Stop
    refine LCg.CompSrc.range (by rfl) (by k_asm) (by k_asm) (by assumption) (by first | decide | rfl) (by first | rfl | decide) (by first | size_fits | exact Nat.le_of_ble_eq_true rfl) ?_
    intro g2
    refine comp_rest (n := 26) (fun i ys => TN ys i) ?turn ?fin _ 0 [] (Nat.zero_add _) TN.nil
    case turn =>
      intro i ys v I oI C oC D m₂ h tk E' hP hJ hin hC hx hF hN hO hne
      obtain ⟨t, e9⟩ := hP
      subst e9
      k_steps
      refine LCg.CompEnd.intro (by k_asm) (by k_asm) _ (fun p hp => hp) hO trivial ⟨rfl, hJ.snoc⟩
    case fin =>
      intro ys2 hJ2
      unfold LCg.FinA
      intro D2 h4 tk4 F4 N4 O4
      dsimp only at F4
      k_steps
      refine hret _ _ _ _ _ (by assumption) (by assumption) ?_ ?_ (by assumption)
      · intro p hp
        repeat (first | exact hp | refine .tail _ ?_)
      · repeat (refine cons_ne (by k_ne) ?_)
        exact allLt_ne (by assumption)
end
section
open PySem PySem.W PyProof.Rows PySem.Calls PySem.Spec
theorem fillLa : hd.heap_1 = hd.heap_1 ∧ PySem.Challenge.rw_og0160_01.row.name = PySem.Challenge.rw_og0160_01.row.name := by
  k_fill
  exact ⟨rfl, rfl⟩
local macro_rules | `(tactic| walk_at "exec Assign cons ListComp") => `(tactic| (with_reducible refine Stop.intro ?_))
local macro_rules | `(tactic| walk_at "CompSrc") => `(tactic| (refine Stop.intro ?_))
local macro_rules | `(tactic| walk_at "call builtin:str.split") => `(tactic| (k_here; (with_reducible show wpAny _ _ (call (Value.builtin "str.split") _) _ _ _); k_dflt ((refine' split_tn ?k1 ?k2 ?k3 ?k4 ?_); (case k1 => k_asm); (case k2 => k_asm); (case k3 => with_reducible exact wl_LATIN_NAMES); (case k4 => with_reducible exact ln_LATIN_NAMES)); intro D' ws' h' k' F' N' l1 hT' hw'; (try k_lt l1); (try k_sweep)))
local macro_rules | `(tactic| walk_at "binaryOp Add ref ref") => `(tactic| (k_here; (with_reducible show wpAny _ _ (binaryOp Operator.Add (Value.ref _) (Value.ref _)) _ _ _); k_dflt ((refine' add_tn ?k1 ?k2 ?k3 ?k4 ?k5 ?k6 ?k7 ?_); (case k1 => k_asm); (case k2 => k_asm); (case k3 => k_mem); (case k4 => k_mem); (case k5 => first | assumption | exact TN.one _ _); (case k6 => first | assumption | exact TN.one _ _); (case k7 => decide)); intro D' ws' h' F' N' l1 hT'; (try simp only [Nat.reduceAdd] at hT'); (try k_lt l1); (try k_sweep)))
local macro_rules | `(tactic| walk_at "subscriptTail Name Slice ref ref") => `(tactic| (k_here; (with_reducible show wpAny _ _ (subscriptTail _ (PySem.Expr.Slice _ _ none _) (Value.ref _) (Value.ref _)) _ _ _); k_dflt ((refine' slice_tn ?F ?N ?l ?h1 ?p ?q ?e ?c ?z ?_ ?s ?t; (case F => k_asm); (case N => k_asm); (case l => k_mem); (case h1 => assumption); (case p => kmk_part); (case q => kmk_part); (case e => exact rfl); (case c => exact rfl); (case z => decide); (case s => with_unfolding_all rfl); (case t => kmk_pure))); intro D' ws' h' F' N' l1 hT' hw'; (try simp only [Nat.reduceSub, Nat.min_self, Nat.reduceLT, Nat.reduceLeDiff] at hT'); (try k_lt l1); (try k_sweep)))
local macro_rules | `(tactic| walk_at "setItem ref int") => `(tactic| (k_here; (with_reducible show wpAny _ _ (setItem (Value.ref _) (Value.int _ _) _) _ _ _); refine Stop.intro ?_))
set_option maxRecDepth 100000 in
set_option maxHeartbeats 8000000 in
theorem latin_spec {w : World} {mean : ExcName → Option Value} {mg mb : Str → Option Value} {dp un : Nat} {gd : Option (List Code)} {cn : Str} {cs : Scope} {a : Addr} {ccd : Value} {cl : List (Str × Addr)} {outer : List Env} {A₀ : Around} {base h₀ : Heap} {L : Addr} {m : Str → Option Value} {s : Shared}
    {Q E : Value → Shared → Prop} {rest : List (Addr × Obj)}
    (B : Below A₀ base outer h₀) (F : Fr h₀ L s.heap m) (X : (hd.heap_1 w.params).In h₀) (N : News h₀ L s.heap rest)
    (T : Top hd.view_1 (looseW hd.view_1 [Str.ofString "PaperError"]) mean mg mb h₀) (hk : cs.kind = .function)
    (hdp : dp + 40 < recursionLimit) (hun : un + 400 < cLine)
    (hret : ∀ D ws R h' tk', Fr h₀ L h' m → News h₀ L h' ((D, listOf (List.toArray ws) 0) :: R) → (∀ p ∈ rest, p ∈ R) → (∀ p ∈ R, p.1 ≠ D) → TN ws 95 → Q (.ref D) { s with heap := h', toks := tk' }) :
    wpAny (model PySem.Challenge.rw_og0160_01.row.prog w) (ktrTop dp un gd cn cs L a ccd cl outer) (call (.ref 289) []) Q E s := by
  refine wpAny_call ?_
  k_dflt ktr_enter
  k_steps
  unfold Stop
  lcg_calm
  refine LCg.Assign_ListComp_U (F₀ := by k_asm) (by rfl) (by with_unfolding_all rfl) (by rfl) (by decide) (by rfl) (by decide) (by rfl) (by rfl) (by rfl) ?_
  lcg_toSrc
  unfold Stop
  rename (∀ v ∈ _, ∃ y u, v = Value.str y u ∧ y ∈ Txt.words _) => hwds
  rename (TN _ 31) => h31
  rename (∀ v ∈ _, v ∈ _) => hsub
  have hb : ∀ v ∈ _, ∃ y u, v = Value.str y u ∧ y.length ≤ 1000 := fun v hv => by
    obtain ⟨y, u, e, hy⟩ := hwds v (hsub v hv)
    exact ⟨y, u, e, of_decide_eq_true (List.all_eq_true.mp wz_LATIN_NAMES y hy)⟩
  clear hwds hsub
  refine LCg.CompSrc.ledger (by rfl) (by k_asm) (by k_asm) (by k_mem) ?_ ?_
  · rw [List.size_toArray, h31.2, sizeLine_eq]; omega
  intro g
  refine comp_rest (fun i ys => TN ys i) ?turn ?fin _ 0 [] (Nat.zero_add _) TN.nil
  case turn =>
    intro i ys v I oI C oC D m₂ h tk E' hP hJ hin hC hx hF hN hO hne
    obtain ⟨y, u, e9, hy⟩ := hb v (List.mem_of_getElem? (by simpa using hP))
    subst e9
    k_steps
    refine LCg.CompEnd.intro (by k_asm) (by k_asm) _ (fun p hp => hp) hO (Or.inr ⟨_, by k_mem, rfl, _, rfl⟩) ⟨rfl, hJ.snoc⟩
  case fin =>
    intro ys hJ
    rw [List.size_toArray, h31.2] at hJ
    unfold LCg.FinA
    intro D h3 tk3 F3 N3 O3
    dsimp only at F3
    k_steps
    unfold Stop
    dsimp only
    refine' put_any (vs := ys) (n := ys.length) ?k1 ?k2 ?k4 ?k5 ?k6 ?k7 ?k3 ?_
    case k1 => k_asm
    case k2 => k_asm
    case k7 => exact rfl
    case k3 => exact Upd.head (off1_ne O3)
    case k4 => omega
    case k5 => rw [hJ.2]; omega
    case k6 => omega
    intro h4 F4 N4
    have hJ2 := hJ.set (Int.toNat 23) (Str.ofString "divide") tk3
    k_sweep
    k_steps
    refine hret _ _ _ _ _ (by assumption) (by assumption) ?_ ?_ (by assumption)
    · intro p hp
      repeat (first | exact hp | refine .tail _ ?_)
    · repeat (refine cons_ne (by k_ne) ?_)
      exact allLt_ne (by assumption)
end
section
open PySem PySem.W PyProof.Rows PySem.Calls PySem.Spec
theorem fillB : hd.heap_1 = hd.heap_1 ∧ PySem.Challenge.rw_og0160_01.row.name = PySem.Challenge.rw_og0160_01.row.name := by
  k_fill
  exact ⟨rfl, rfl⟩
local macro_rules | `(tactic| walk_at "exec Assign cons ListComp") => `(tactic| (with_reducible refine Stop.intro ?_))
local macro_rules | `(tactic| walk_at "CompSrc") => `(tactic| (refine Stop.intro ?_))
local macro_rules | `(tactic| walk_at "binaryOp Add ref ref") => `(tactic| (k_here; (with_reducible show wpAny _ _ (binaryOp Operator.Add (Value.ref _) (Value.ref _)) _ _ _); k_dflt ((refine' add_tn ?k1 ?k2 ?k3 ?k4 ?k5 ?k6 ?k7 ?_); (case k1 => k_asm); (case k2 => k_asm); (case k3 => k_mem); (case k4 => k_mem); (case k5 => first | assumption | exact TN.one _ _); (case k6 => first | assumption | exact TN.one _ _); (case k7 => decide)); intro D' ws' h' F' N' l1 hT'; (try simp only [Nat.reduceAdd] at hT'); k_lt l1; (try k_sweep)))
theorem ascii_rest {w : World} {mean : ExcName → Option Value} {mg mb : Str → Option Value} {dp un : Nat} {gd : Option (List Code)} {cn : Str} {cs : Scope} {a : Addr} {ccd : Value} {cl : List (Str × Addr)} {outer : List Env} {A₀ : Around} {base h₀ : Heap} {L : Addr} {m : Str → Option Value} {s : Shared}
    {Q E : Value → Shared → Prop} {rest : List (Addr × Obj)}
    (B : Below A₀ base outer h₀) (F : Fr h₀ L s.heap m) (X : (hd.heap_1 w.params).In h₀) (N : News h₀ L s.heap rest)
    (T : Top hd.view_1 (looseW hd.view_1 [Str.ofString "PaperError"]) mean mg mb h₀) (hk : cs.kind = .function)
    (hdp : dp + 40 < recursionLimit) (hun : un + 400 < cLine)
    (hret : ∀ D ws n h' tk', Fr h₀ L h' m → News h₀ L h' ((D, listOf (List.toArray ws) n) :: rest) → (∀ p ∈ rest, p.1 ≠ D) → TN ws 95 → Q (.ref D) { s with heap := h', toks := tk' }) :
    wpAny (model PySem.Challenge.rw_og0160_01.row.prog w) (ktrTop dp un gd cn cs L a ccd cl outer) (call (.ref 284) []) Q E s :=
  ascii_spec B F X N T hk hdp hun fun D ws R h' tk' F' N' hs ho hT => hret D ws _ h' tk' F' (news_perm N' fun p hp => (List.mem_cons.mp hp).elim (fun e => e ▸ .head _) fun q => .tail _ (hs p q)) (fun p hp => ho p (hs p hp)) hT
theorem latin_rest {w : World} {mean : ExcName → Option Value} {mg mb : Str → Option Value} {dp un : Nat} {gd : Option (List Code)} {cn : Str} {cs : Scope} {a : Addr} {ccd : Value} {cl : List (Str × Addr)} {outer : List Env} {A₀ : Around} {base h₀ : Heap} {L : Addr} {m : Str → Option Value} {s : Shared}
    {Q E : Value → Shared → Prop} {rest : List (Addr × Obj)}
    (B : Below A₀ base outer h₀) (F : Fr h₀ L s.heap m) (X : (hd.heap_1 w.params).In h₀) (N : News h₀ L s.heap rest)
    (T : Top hd.view_1 (looseW hd.view_1 [Str.ofString "PaperError"]) mean mg mb h₀) (hk : cs.kind = .function)
    (hdp : dp + 40 < recursionLimit) (hun : un + 400 < cLine)
    (hret : ∀ D ws n h' tk', Fr h₀ L h' m → News h₀ L h' ((D, listOf (List.toArray ws) n) :: rest) → (∀ p ∈ rest, p.1 ≠ D) → TN ws 95 → Q (.ref D) { s with heap := h', toks := tk' }) :
    wpAny (model PySem.Challenge.rw_og0160_01.row.prog w) (ktrTop dp un gd cn cs L a ccd cl outer) (call (.ref 289) []) Q E s :=
  latin_spec B F X N T hk hdp hun fun D ws R h' tk' F' N' hs ho hT => hret D ws _ h' tk' F' (news_perm N' fun p hp => (List.mem_cons.mp hp).elim (fun e => e ▸ .head _) fun q => .tail _ (hs p q)) (fun p hp => ho p (hs p hp)) hT
theorem words_rest {w : World} {mean : ExcName → Option Value} {mg mb : Str → Option Value} {dp un : Nat} {gd : Option (List Code)} {cn : Str} {cs : Scope} {a : Addr} {ccd : Value} {cl : List (Str × Addr)} {outer : List Env} {A₀ : Around} {base h₀ : Heap} {L : Addr} {m : Str → Option Value} {s : Shared}
    {Q E : Value → Shared → Prop} {na nn k : Nat} {nvs : List Value} {x : Str} {tx : Tok} {rest : List (Addr × Obj)}
    (B : Below A₀ base outer h₀) (F : Fr h₀ L s.heap m) (X : (hd.heap_1 w.params).In h₀) (N : News h₀ L s.heap rest)
    (T : Top hd.view_1 (looseW hd.view_1 [Str.ofString "PaperError"]) mean mg mb h₀) (hk : cs.kind = .function)
    (hna : (na, listOf nvs.toArray nn) ∈ rest) (hT : TN nvs k) (hlen : k ≤ 256) (hsz : x.length + 2 ≤ sizeLine) (hok : wOk k (Txt.words x) 0 = true)
    (hdp : dp + 40 < recursionLimit) (hun : un + 400 < cLine)
    (hret : ∀ D ws n h' tk', Fr h₀ L h' m → News h₀ L h' ((D, listOf (List.toArray ws) n) :: rest) → (∀ p ∈ rest, p.1 ≠ D) → TN ws k → Q (.ref D) { s with heap := h', toks := tk' }) :
    wpAny (model PySem.Challenge.rw_og0160_01.row.prog w) (ktrTop dp un gd cn cs L a ccd cl outer) (call (.ref 296) [.ref na, .str x tx]) Q E s := by
  obtain ⟨ts, ht⟩ := hT.texts
  obtain ⟨_, rfl⟩ := hT
  exact words_spec B F X N T hk hna ht hlen hsz hok hdp hun fun D ws ts' dn R h' tk' F' N' hs ho hT hl => hret D ws _ h' tk' F' (news_perm N' fun p hp => (List.mem_cons.mp hp).elim (fun e => e ▸ .head _) fun q => .tail _ (hs p q)) (fun p hp => ho p (hs p hp)) (TN.of_texts hT hl)
local macro_rules | `(tactic| walk_at "call ref") => `(tactic| (k_here; (with_reducible show wpAny _ _ (call (Value.ref _) _) _ _ _); first | ((k_dflt ((refine' ascii_rest ?kB ?kF ?kX ?kN ?kT ?kk ?kd ?ku ?_); (case kB => k_asm); (case kF => k_asm); (case kX => k_asm); (case kN => k_asm); (case kT => k_asm); (case kk => first | exact rfl | assumption); (case kd => ktr_room); (case ku => ktr_units))); intro D' ws' n' h' k' F' N' l1 hT'; (try simp only [List.forall_mem_cons] at l1); (repeat (obtain ⟨_, l1⟩ : _ ∧ _ := l1)); (try k_sweep)) | ((k_dflt ((refine' latin_rest ?kB ?kF ?kX ?kN ?kT ?kk ?kd ?ku ?_); (case kB => k_asm); (case kF => k_asm); (case kX => k_asm); (case kN => k_asm); (case kT => k_asm); (case kk => first | exact rfl | assumption); (case kd => ktr_room); (case ku => ktr_units))); intro D' ws' n' h' k' F' N' l1 hT'; (try simp only [List.forall_mem_cons] at l1); (repeat (obtain ⟨_, l1⟩ : _ ∧ _ := l1)); (try k_sweep)) | ((k_dflt ((refine' words_rest ?kB ?kF ?kX ?kN ?kT ?kk ?kna ?kt ?kl ?ks ?ko ?kd ?ku ?_); (case kB => k_asm); (case kF => k_asm); (case kX => k_asm); (case kN => k_asm); (case kT => k_asm); (case kk => first | exact rfl | assumption); (case kna => k_mem); (case kt => assumption); (case kl => decide); (case ks => with_reducible first | exact ln_STANDARD_WORDS | exact ln_MAC_WORDS | exact ln_WIN_WORDS); (case ko => with_reducible first | exact ok_STANDARD_WORDS | exact ok_MAC_WORDS | exact ok_WIN_WORDS); (case kd => ktr_room); (case ku => ktr_units))); intro D' ws' n' h' k' F' N' l1 hT'; (try simp only [List.forall_mem_cons] at l1); (repeat (obtain ⟨_, l1⟩ : _ ∧ _ := l1)); (try k_sweep)) | refine Stop.intro ?_))
local macro_rules | `(tactic| walk_at "eval ListComp") => `(tactic| (with_reducible refine Stop.intro ?_))
local macro_rules | `(tactic| walk_at "binaryOp Mult ref int") => `(tactic| (k_here; (with_reducible show wpAny _ _ (binaryOp Operator.Mult (Value.ref _) (Value.int _ _)) _ _ _); k_dflt ((refine' mul_tn ?k1 ?k2 ?k3 ?k4 ?k5 ?_; (case k1 => k_asm); (case k2 => k_asm); (case k3 => k_mem); (case k4 => exact (Int.toNat_of_nonneg (by decide)).symm); (case k5 => decide))); intro D' ws' h' F' N' l1 hT'; (try simp only [Int.reduceToNat] at hT'); (try k_lt l1); (try k_sweep)))
local macro_rules | `(tactic| walk_at "subscriptTail Name Slice ref ref") => `(tactic| (k_here; (with_reducible show wpAny _ _ (subscriptTail _ (PySem.Expr.Slice _ _ none _) (Value.ref _) (Value.ref _)) _ _ _); k_dflt ((refine' slice_tn ?F ?N ?l ?h1 ?p ?q ?e ?c ?z ?_ ?s ?t; (case F => k_asm); (case N => k_asm); (case l => k_mem); (case h1 => assumption); (case p => kmk_part); (case q => kmk_part); (case e => exact rfl); (case c => exact rfl); (case z => decide); (case s => with_unfolding_all rfl); (case t => kmk_pure))); intro D' ws' h' F' N' l1 hT' hw'; (try simp only [Nat.reduceSub, Nat.min_def, Nat.reduceLeDiff, ↓reduceIte] at hT'); (try k_lt l1); (try k_sweep)))
theorem mem_keep {x : Addr × Obj} {l l' : List (Addr × Obj)} (h : ∀ p ∈ l, p ∈ l') : ∀ p ∈ x :: l, p ∈ x :: l' := fun p hp => (List.mem_cons.mp hp).elim (fun e => e ▸ .head _) fun q => .tail _ (h p q)
theorem mem_skip {x : Addr × Obj} {l l' : List (Addr × Obj)} (h : ∀ p ∈ l, p ∈ l') : ∀ p ∈ l, p ∈ x :: l' := fun p hp => .tail _ (h p hp)
set_option maxRecDepth 100000 in
set_option maxHeartbeats 8000000 in
theorem base_std {w : World} {mean : ExcName → Option Value} {mg mb : Str → Option Value} {dp un : Nat} {gd : Option (List Code)} {cn : Str} {cs : Scope} {a : Addr} {ccd : Value} {cl : List (Str × Addr)} {outer : List Env} {A₀ : Around} {base h₀ : Heap} {L : Addr} {m : Str → Option Value} {s : Shared}
    {Q E : Value → Shared → Prop} {te : Tok} {rest : List (Addr × Obj)}
    (B : Below A₀ base outer h₀) (F : Fr h₀ L s.heap m) (X : (hd.heap_1 w.params).In h₀) (N : News h₀ L s.heap rest)
    (T : Top hd.view_1 (looseW hd.view_1 [Str.ofString "PaperError"]) mean mg mb h₀) (hk : cs.kind = .function)
    (hdp : dp + 80 < recursionLimit) (hun : un + 800 < cLine)
    (hret : ∀ D ws n h' tk', Fr h₀ L h' m → News h₀ L h' ((D, listOf (List.toArray ws) n) :: rest) → (∀ p ∈ rest, p.1 ≠ D) → TN ws 256 → Q (.ref D) { s with heap := h', toks := tk' }) :
    wpAny (model PySem.Challenge.rw_og0160_01.row.prog w) (ktrTop dp un gd cn cs L a ccd cl outer) (call (.ref 301) [.str (Str.ofString "StandardEncoding") te]) Q E s := by
  refine wpAny_call ?_
  k_dflt ktr_enter
  k_steps
  exact hret _ _ _ _ _ (by assumption) (news_perm (by assumption) (mem_keep (by repeat (first | exact fun _ h => h | refine mem_skip ?_)))) (by assumption) (by assumption)
set_option maxRecDepth 100000 in
set_option maxHeartbeats 8000000 in
theorem base_mac {w : World} {mean : ExcName → Option Value} {mg mb : Str → Option Value} {dp un : Nat} {gd : Option (List Code)} {cn : Str} {cs : Scope} {a : Addr} {ccd : Value} {cl : List (Str × Addr)} {outer : List Env} {A₀ : Around} {base h₀ : Heap} {L : Addr} {m : Str → Option Value} {s : Shared}
    {Q E : Value → Shared → Prop} {te : Tok} {rest : List (Addr × Obj)}
    (B : Below A₀ base outer h₀) (F : Fr h₀ L s.heap m) (X : (hd.heap_1 w.params).In h₀) (N : News h₀ L s.heap rest)
    (T : Top hd.view_1 (looseW hd.view_1 [Str.ofString "PaperError"]) mean mg mb h₀) (hk : cs.kind = .function)
    (hdp : dp + 80 < recursionLimit) (hun : un + 800 < cLine)
    (hret : ∀ D ws n h' tk', Fr h₀ L h' m → News h₀ L h' ((D, listOf (List.toArray ws) n) :: rest) → (∀ p ∈ rest, p.1 ≠ D) → TN ws 256 → Q (.ref D) { s with heap := h', toks := tk' }) :
    wpAny (model PySem.Challenge.rw_og0160_01.row.prog w) (ktrTop dp un gd cn cs L a ccd cl outer) (call (.ref 301) [.str (Str.ofString "MacRomanEncoding") te]) Q E s := by
  refine wpAny_call ?_
  k_dflt ktr_enter
  k_steps
  exact hret _ _ _ _ _ (by assumption) (news_perm (by assumption) (mem_keep (by repeat (first | exact fun _ h => h | refine mem_skip ?_)))) (by assumption) (by assumption)
set_option maxRecDepth 100000 in
set_option maxHeartbeats 8000000 in
theorem base_win {w : World} {mean : ExcName → Option Value} {mg mb : Str → Option Value} {dp un : Nat} {gd : Option (List Code)} {cn : Str} {cs : Scope} {a : Addr} {ccd : Value} {cl : List (Str × Addr)} {outer : List Env} {A₀ : Around} {base h₀ : Heap} {L : Addr} {m : Str → Option Value} {s : Shared}
    {Q E : Value → Shared → Prop} {te : Tok} {rest : List (Addr × Obj)}
    (B : Below A₀ base outer h₀) (F : Fr h₀ L s.heap m) (X : (hd.heap_1 w.params).In h₀) (N : News h₀ L s.heap rest)
    (T : Top hd.view_1 (looseW hd.view_1 [Str.ofString "PaperError"]) mean mg mb h₀) (hk : cs.kind = .function)
    (hdp : dp + 80 < recursionLimit) (hun : un + 800 < cLine)
    (hret : ∀ D ws n h' tk', Fr h₀ L h' m → News h₀ L h' ((D, listOf (List.toArray ws) n) :: rest) → (∀ p ∈ rest, p.1 ≠ D) → TN ws 256 → Q (.ref D) { s with heap := h', toks := tk' }) :
    wpAny (model PySem.Challenge.rw_og0160_01.row.prog w) (ktrTop dp un gd cn cs L a ccd cl outer) (call (.ref 301) [.str (Str.ofString "WinAnsiEncoding") te]) Q E s := by
  refine wpAny_call ?_
  k_dflt ktr_enter
  k_steps
  unfold Stop
  dsimp only
  refine LCg.ListComp_U (F₀ := by k_asm) (by rfl) (by decide) (by rfl) (by decide) (by rfl) ?_
  lcg_toSrc
  unfold Stop
  rename (TN _ 223) => h223
  refine LCg.CompSrc.ledger (by rfl) (by k_asm) (by k_asm) (by k_mem) ?_ ?_
  · rw [List.size_toArray, h223.2, sizeLine_eq]; omega
  intro g2
  refine comp_rest (fun i ys => TN ys i) ?turn ?fin _ 0 [] (Nat.zero_add _) TN.nil
  case turn =>
    intro i v0 v I oI C oC D m₂ h tk E' hP hJ hin hC hx hF hN hO hne
    obtain ⟨k, t, e9⟩ := h223.1 v (List.mem_of_getElem? (by simpa using hP))
    subst e9
    k_steps
    all_goals refine LCg.CompEnd.intro (by k_asm) (by k_asm) _ (fun p hp => hp) hO (Or.inr ⟨_, by k_mem, rfl, _, rfl⟩) ⟨rfl, hJ.snoc⟩
  case fin =>
    intro ys hJ
    rw [List.size_toArray, h223.2] at hJ
    unfold LCg.FinE
    intro D2 h4 tk4 F4 N4 O4
    dsimp only at F4
    k_steps
    refine hret _ _ _ _ _ (by assumption) (news_perm (by assumption) (mem_keep (by repeat (first | exact fun _ h => h | refine mem_skip ?_)))) ?_ (by assumption)
    · first | exact allLt_ne (by assumption) | exact fun p hp => Nat.ne_of_lt ((by assumption : ∀ q ∈ rest, q.1 < _) p hp)
theorem base_spec {w : World} {mean : ExcName → Option Value} {mg mb : Str → Option Value} {dp un : Nat} {gd : Option (List Code)} {cn : Str} {cs : Scope} {a : Addr} {ccd : Value} {cl : List (Str × Addr)} {outer : List Env} {A₀ : Around} {base h₀ : Heap} {L : Addr} {m : Str → Option Value} {s : Shared}
    {Q E : Value → Shared → Prop} {enc : Str} {te : Tok} {rest : List (Addr × Obj)}
    (B : Below A₀ base outer h₀) (F : Fr h₀ L s.heap m) (X : (hd.heap_1 w.params).In h₀) (N : News h₀ L s.heap rest)
    (T : Top hd.view_1 (looseW hd.view_1 [Str.ofString "PaperError"]) mean mg mb h₀) (hk : cs.kind = .function)
    (henc : enc = Str.ofString "StandardEncoding" ∨ enc = Str.ofString "WinAnsiEncoding" ∨ enc = Str.ofString "MacRomanEncoding")
    (hdp : dp + 80 < recursionLimit) (hun : un + 800 < cLine)
    (hret : ∀ D ws n h' tk', Fr h₀ L h' m → News h₀ L h' ((D, listOf (List.toArray ws) n) :: rest) → (∀ p ∈ rest, p.1 ≠ D) → TN ws 256 → Q (.ref D) { s with heap := h', toks := tk' }) :
    wpAny (model PySem.Challenge.rw_og0160_01.row.prog w) (ktrTop dp un gd cn cs L a ccd cl outer) (call (.ref 301) [.str enc te]) Q E s := by
  rcases henc with rfl | rfl | rfl
  · exact base_std B F X N T hk hdp hun hret
  · exact base_win B F X N T hk hdp hun hret
  · exact base_mac B F X N T hk hdp hun hret
end
section
open PySem PySem.W PyProof.Rows PySem.Calls PySem.Spec
theorem dFold_code (i : Int) (hi : 0 ≤ i) (h : i ≤ 255) (qs : List Part) (x : List Str) (c d : Int) : dFold (.code i :: qs) (x, c) = dFold (.code i :: qs) (x, d) := by
  simp [dFold, dStep, hi, h]
/-- what a hand gives back: None, or a list of 256 texts in the ledger -/
def Out (R : List (Addr × Obj)) (v : Value) (o : Option (List Str × Int)) : Prop :=
  (v = .none ∧ o = none) ∨ ∃ d lvs n ts c, v = .ref d ∧ (d, listOf (List.toArray lvs) n) ∈ R ∧ TextsV lvs ts ∧ lvs.length = 256 ∧ o = some (ts, c)
theorem Out.mono {R R' : List (Addr × Obj)} {v : Value} {o : Option (List Str × Int)} (h : Out R v o) (hs : ∀ p ∈ R, p ∈ R') : Out R' v o := by
  rcases h with h | ⟨d, lvs, n, ts, c, h1, h2, h3⟩
  · exact .inl h
  · exact .inr ⟨d, lvs, n, ts, c, h1, hs _ h2, h3⟩
section
variable {prog : Program} {w : World} {A : Around} {E : Value → Shared → Prop} {s : Shared} {h₀ : Heap} {L : Addr} {news : List (Addr × Obj)} {u v : Value} {o : Option (List Str × Int)} {Q : Value → Shared → Prop}
theorem ne_out (N : News h₀ L s.heap news) (h1 : Out news u o) (h2 : Out news v o) (hu : A.units < cLine) (h : Q (.bool false) s) :
    wpAny (model prog w) A (compareOp .NotEq u v) Q E s := by
  rcases h1 with ⟨rfl, rfl⟩ | ⟨d, lvs, n, ts, c, rfl, hd, ht, hl, rfl⟩
  · rcases h2 with ⟨rfl, _⟩ | ⟨d, lvs, n, ts, c, rfl, hd, ht, hl, e⟩
    · exact ne_none h
    · cases e
  · rcases h2 with ⟨_, e⟩ | ⟨d', lvs', n', ts', c', rfl, hd', ht', hl', e⟩
    · cases e
    · cases e
      exact ne_texts N hd hd' ht ht' hu h
end
section
variable {w : World} {mean : ExcName → Option Value} {mg mb : Str → Option Value} {cn : Str} {nms : List (Str × NameKind)} {a : Addr} {ccd : Value} {base h₀ : Heap} {L : Addr} {m : Str → Option Value} {s : Shared}
    {Q E : Value → Shared → Prop} {na la nn ln : Nat} {nvs pvs : List Value} {ts : List Str} {ps : List Part} {rest : List (Addr × Obj)}
theorem heard_out
    (B : Below callerA base [] h₀) (F : Fr h₀ L s.heap m) (X : (hd.heap_1 w.params).In h₀) (N : News h₀ L s.heap rest)
    (T : Top hd.view_1 (looseW hd.view_1 [Str.ofString "PaperError"]) mean mg mb h₀) (XB : (hd.heap_1 w.params).In base) (TB : Top hd.view_1 (looseW hd.view_1 [Str.ofString "PaperError"]) mean mg mb base)
    (hna : (na, listOf nvs.toArray nn) ∈ rest) (hla : (la, listOf pvs.toArray ln) ∈ rest)
    (hT : TextsV nvs ts) (hlen : nvs.length = 256) (hP : PartsIn rest pvs ps)
    (hret : ∀ v R h' tk', Fr h₀ L h' m → News h₀ L h' R → (∀ p ∈ rest, p ∈ R) → Out R v (dFold ps (ts, -1)) → Q v { s with heap := h', toks := tk' }) :
    wpAny (model PySem.Challenge.rw_og0160_01.row.prog w) (callerA.deeper (envOf cn { kind := .function, names := nms, isGenerator := false, isCoroutine := false } L a ccd)) (call (.ref 341) [.ref na, .ref la]) Q E s :=
  heard_spec B F X N T XB TB hna hla hT hlen hP
    (fun da lvs ts' c dn R h' tk' F' N' hs _ hT' hl' e => hret _ _ h' tk' F' N' (fun p hp => .tail _ (hs p hp)) (.inr ⟨da, lvs, dn, ts', c, rfl, .head _, hT', hl', e⟩))
    (fun h' tk' F' N' e => hret _ _ h' tk' F' N' (fun _ hp => hp) (.inl ⟨rfl, e⟩))
theorem laid_out {dp un : Nat} {gd : Option (List Code)} {cs : Scope} {cl : List (Str × Addr)} {outer : List Env} {A₀ : Around}
    (B : Below A₀ base outer h₀) (F : Fr h₀ L s.heap m) (X : (hd.heap_1 w.params).In h₀) (N : News h₀ L s.heap rest)
    (T : Top hd.view_1 (looseW hd.view_1 [Str.ofString "PaperError"]) mean mg mb h₀) (hk : cs.kind = .function)
    (hna : (na, listOf nvs.toArray nn) ∈ rest) (hla : (la, listOf pvs.toArray ln) ∈ rest)
    (hT : TextsV nvs ts) (hlen : nvs.length = 256) (hP : PartsIn rest pvs ps)
    (hdp : dp + 40 < recursionLimit) (hun : un + 400 < cLine)
    (hret : ∀ v R h' tk', Fr h₀ L h' m → News h₀ L h' R → (∀ p ∈ rest, p ∈ R) → Out R v (dFold ps (ts, -1)) → Q v { s with heap := h', toks := tk' }) :
    wpAny (model PySem.Challenge.rw_og0160_01.row.prog w) (ktrTop dp un gd cn cs L a ccd cl outer) (call (.ref 334) [.ref na, .ref la]) Q E s :=
  laid_spec B F X N T hk hna hla hT hlen hP hdp hun
    (fun da lvs ts' c dn h' tk' F' N' hT' hl' e _ => hret _ _ h' tk' F' N' (fun p hp => .tail _ hp) (.inr ⟨da, lvs, dn, ts', c, rfl, .head _, hT', hl', e⟩))
    (fun h' tk' F' N' e => hret _ _ h' tk' F' N' (fun _ hp => hp) (.inl ⟨rfl, e⟩))
end
end
section
open PySem PySem.W PyProof.Rows PySem.Calls PySem.Spec
theorem fillZ : hd.heap_1 = hd.heap_1 ∧ PySem.Challenge.rw_og0160_01.row.name = PySem.Challenge.rw_og0160_01.row.name := by
  k_fill
  exact ⟨rfl, rfl⟩
/-- what the ledger bears once all is drawn -/
def Kp (na hda la ot nn hc nl no : Nat) (nvs pvs qvs : List Value) (ps qs : List Part) (R : List (Addr × Obj)) : Prop :=
  (na, listOf nvs.toArray nn) ∈ R ∧ (hda, listOf nvs.toArray hc) ∈ R ∧ (la, listOf pvs.toArray nl) ∈ R ∧ (ot, listOf qvs.toArray no) ∈ R ∧ PartsIn R pvs ps ∧ PartsIn R qvs qs
theorem Kp.mono {na hda la ot nn hc nl no : Nat} {nvs pvs qvs : List Value} {ps qs : List Part} {R R' : List (Addr × Obj)} (h : Kp na hda la ot nn hc nl no nvs pvs qvs ps qs R) (hs : ∀ p ∈ R, p ∈ R') : Kp na hda la ot nn hc nl no nvs pvs qvs ps qs R' :=
  ⟨hs _ h.1, hs _ h.2.1, hs _ h.2.2.1, hs _ h.2.2.2.1, h.2.2.2.2.1.mono hs, h.2.2.2.2.2.mono hs⟩
theorem pot_pack {h₀ h : Heap} {L : Addr} {pre R : List (Addr × Obj)} {a c : Addr} {o1 o2 : Obj} (N : News h₀ L h (pre ++ (a, o1) :: (c, o2) :: R)) (h1 : ∀ p ∈ pre, p.1 ≠ a) (h2 : ∀ p ∈ pre, p.1 ≠ c) (hr1 : ∀ p ∈ R, p.1 ≠ a) (hr2 : ∀ p ∈ R, p.1 ≠ c) :
    ∃ R', News h₀ L h ((a, o1) :: (c, o2) :: R') ∧ (∀ p ∈ pre, p ∈ R') ∧ (∀ p ∈ R, p ∈ R') ∧ (∀ p ∈ R', p.1 ≠ a) ∧ (∀ p ∈ R', p.1 ≠ c) :=
  ⟨pre ++ R, news_perm N (fun p hp => by
    simp only [List.mem_cons, List.mem_append] at hp ⊢
    rcases hp with h | h | h | h <;> simp [h]), fun p hp => List.mem_append_left _ hp, fun p hp => List.mem_append_right _ hp,
    fun p hp => (List.mem_append.mp hp).elim (h1 p) (hr1 p), fun p hp => (List.mem_append.mp hp).elim (h2 p) (hr2 p)⟩
theorem sub_enc {prog : Program} {w : World} {A : Around} {E : Value → Shared → Prop} {s : Shared} {h₀ : Heap} {L D : Addr} {news : List (Addr × Obj)} {n : Nat} {k : Int} {u a b c : Tok} {x y z : Str} {value slice : PySem.Expr} {Q : Value → Shared → Prop} (N : News h₀ L s.heap news) (hm : (D, listOf [.str x a, .str y b, .str z c].toArray n) ∈ news) (h0 : 0 ≤ k) (h1 : k < 3)
    (h : ∀ enc te, (enc = x ∨ enc = y ∨ enc = z) → Q (.str enc te) s)
    (hs : subscripted slice false (.ref D) (.int k u) = operate [.ref D, .int k u] (getItem (.ref D) (.int k u))) :
    wpAny (model prog w) A (subscriptTail value slice (.ref D) (.int k u)) Q E s :=
  sub_mem N hm h0 h1 (by omega) (fun v hv => by
    simp only [List.mem_cons, List.not_mem_nil, or_false] at hv
    rcases hv with rfl | rfl | rfl
    · exact h _ _ (.inl rfl)
    · exact h _ _ (.inr (.inl rfl))
    · exact h _ _ (.inr (.inr rfl))) hs
local macro_rules | `(tactic| walk_at "call ref") => `(tactic| (k_here; refine Stop.intro ?_))
local macro_rules | `(tactic| walk_at "binaryOp Add ref ref") => `(tactic| (k_here; refine Stop.intro ?_))
local macro_rules | `(tactic| walk_at "call builtin:len") => `(tactic| (k_here; (with_reducible show wpAny _ _ (call (Value.builtin "len") _) _ _ _); refine Stop.intro ?_))
local macro_rules | `(tactic| walk_at "call type:list") => `(tactic| (k_here; refine Stop.intro ?_))
local macro_rules | `(tactic| walk_at "compareOp Eq ref ref") => `(tactic| (k_here; refine Stop.intro ?_))
local macro_rules | `(tactic| walk_at "compareOp NotEq ref ref") => `(tactic| (k_here; refine Stop.intro ?_))
local macro_rules | `(tactic| walk_at "compareOp NotEq") => `(tactic| (k_here; refine Stop.intro ?_))
local macro_rules | `(tactic| walk_at "subscriptTail") => `(tactic| (k_here; refine Stop.intro ?_))
set_option maxRecDepth 100000 in
set_option maxHeartbeats 8000000 in
theorem law_x : PySem.Challenge.rw_og0160_01.Holds := Mine.hd (by
  k_go0
  (all_goals try k_fold)
  k_steps
  unfold Stop
  try dsimp only
  refine' pot_spec (rest := []) ?kB ?kF ?kX ?kN ?kT ?kG ?kM ?kl ?kI ?kh ?_
  case kB => assumption
  case kF => assumption
  case kX => assumption
  case kN => assumption
  case kT => assumption
  case kG => assumption
  case kM => assumption
  case kl => assumption
  case kI => assumption
  case kh => omega
  intro pa ca n1 n2 vs ns st t1 t2 R h1 tk1 F1 N1 I1 hl1 hs1 ho1 ho2 hne
  (try k_sweep)
  k_steps
  try unfold Stop
  try dsimp only
  k_dflt (refine' draw_pre [_] ?kB ?kF ?kX ?kN ?kT ?kk ?kne ?kp1 ?kp2 ?kr1 ?kr2 ?kI ?kl ?kpl ?kpl' ?kl0 ?kl1 ?kd ?ku ?_)
  case kN => with_unfolding_all assumption
  case kB => assumption
  case kF => assumption
  case kX => assumption
  case kT => assumption
  case kk => exact rfl
  case kne => assumption
  case kp1 => (repeat (refine cons_ne (by k_ne) ?_)); first | assumption | exact fun _ h => (nomatch h)
  case kp2 => (repeat (refine cons_ne (by k_ne) ?_)); first | assumption | exact fun _ h => (nomatch h)
  case kr1 => assumption
  case kr2 => assumption
  case kI => assumption
  case kl => assumption
  case kpl => omega
  case kpl' => omega
  case kl0 => decide
  case kl1 => decide
  case kd => decide
  case ku => decide
  intro r2 t2 vs2 ns2 st2 ta2 tb2 h2 tk2 F2 N2 I2 hl2 ho2 hi2
  dsimp only [List.nil_append, List.cons_append] at N2
  (try k_sweep)
  try unfold Stop
  try dsimp only
  k_dflt (refine' sub_enc ?k1 ?k2 ?k3 ?k4 ?_ ?k5)
  case k1 => assumption
  case k2 => k_mem
  case k3 => omega
  case k4 => omega
  case k5 => with_unfolding_all rfl
  intro enc te henc
  k_steps
  try unfold Stop
  try dsimp only
  k_dflt (refine' base_spec ?kB ?kF ?kX ?kN ?kT ?kk henc ?kd ?ku ?_)
  case kN => assumption
  case kB => assumption
  case kF => assumption
  case kX => assumption
  case kT => assumption
  case kk => exact rfl
  case kd => decide
  case ku => decide
  intro na nvs nn h3 tk3 F3 N3 hna hT3
  simp only [List.forall_mem_cons] at hna
  obtain ⟨hna1, hna2, hna3, hna4⟩ := hna
  replace hna1 := neN hna1
  replace hna2 := neN hna2
  replace hna3 := neN hna3
  (try k_sweep)
  k_steps
  try unfold Stop
  try dsimp only
  k_dflt (refine' copy_any ?k1 ?k2 ?k3 ?k4 ?_)
  case k1 => assumption
  case k2 => assumption
  case k3 => k_mem
  case k4 => rw [hT3.2]; omega
  intro hda hc h4 F4 N4 l4
  k_lt l4
  obtain ⟨R4, M4, p4, q4, a4, b4⟩ := pot_pack (pre := [_, _, _]) N4 (by (repeat (refine cons_ne (by k_ne) ?_)); first | assumption | exact fun _ h => (nomatch h)) (by (repeat (refine cons_ne (by k_ne) ?_)); first | assumption | exact fun _ h => (nomatch h)) (by assumption) (by assumption)
  have hn4 := p4 _ (.tail _ (.head _))
  have hh4 := p4 _ (.head _)
  clear N4 p4 q4 ho1 ho2
  (try k_sweep)
  k_steps
  try unfold Stop
  try dsimp only
  k_dflt (refine' parts_spec ?kB ?kF ?kX ?kN ?kT ?kk ?kne ?kr1 ?kr2 ?kI ?kl ?kpl ?kpl' ?kd ?ku ?_)
  case kN => assumption
  case kB => assumption
  case kF => assumption
  case kX => assumption
  case kT => assumption
  case kk => exact rfl
  case kne => assumption
  case kr1 => assumption
  case kr2 => assumption
  case kI => assumption
  case kl => assumption
  case kpl => omega
  case kpl' => omega
  case kd => decide
  case ku => decide
  intro la5 pvs5 ps5 nl5 S5 vs5 ns5 st5 pl5 ta5 tb5 h5 tk5 F5 N5 I5 hl5 ho5 hi5 hP5 hlen5 hs5 hx5 hy5 hz5 hu5 hv5
  replace hu5 := neN hu5
  replace hv5 := neN hv5
  obtain ⟨R6, M6, p6, q6, a6, b6⟩ := pot_pack (pre := [_]) N5 (by (repeat (refine cons_ne (by k_ne) ?_)); first | assumption | exact fun _ h => (nomatch h)) (by (repeat (refine cons_ne (by k_ne) ?_)); first | assumption | exact fun _ h => (nomatch h)) (by assumption) (by assumption)
  have hP6 := hP5.mono q6
  have hn6 := q6 _ (hs5 _ hn4)
  have hh6 := q6 _ (hs5 _ hh4)
  have ho6 := p6 _ (.head _)
  clear N5 hP5 hs5 p6 q6 hn4 hh4 a4 b4 hx5 hy5 hz5
  (try k_sweep)
  k_steps
  try unfold Stop
  try dsimp only
  k_dflt (refine' draw_pre [] ?kB ?kF ?kX ?kN ?kT ?kk ?kne ?kp1 ?kp2 ?kr1 ?kr2 ?kI ?kl ?kpl ?kpl' ?kl0 ?kl1 ?kd ?ku ?_)
  case kN => with_unfolding_all assumption
  case kB => assumption
  case kF => assumption
  case kX => assumption
  case kT => assumption
  case kk => exact rfl
  case kne => assumption
  case kp1 => (repeat (refine cons_ne (by k_ne) ?_)); first | assumption | exact fun _ h => (nomatch h)
  case kp2 => (repeat (refine cons_ne (by k_ne) ?_)); first | assumption | exact fun _ h => (nomatch h)
  case kr1 => assumption
  case kr2 => assumption
  case kI => assumption
  case kl => assumption
  case kpl => omega
  case kpl' => omega
  case kl0 => decide
  case kl1 => decide
  case kd => decide
  case ku => decide
  intro r7 t7 vs7 ns7 st7 ta7 tb7 h7 tk7 F7 N7 I7 hl7 ho7 hi7
  dsimp only [List.nil_append, List.cons_append] at N7
  (try k_sweep)
  k_steps
  rename News _ _ _ _ => N8
  obtain ⟨R8, M8, p8, q8, a8, b8⟩ := pot_pack (pre := [_]) N8 (by (repeat (refine cons_ne (by k_ne) ?_)); first | assumption | exact fun _ h => (nomatch h)) (by (repeat (refine cons_ne (by k_ne) ?_)); first | assumption | exact fun _ h => (nomatch h)) (by assumption) (by assumption)
  have hc8 := p8 _ (.head _)
  have hP8 := hP6.mono q8
  have hn8 := q8 _ hn6
  have hh8 := q8 _ hh6
  have ho8 := q8 _ ho6
  clear N8 hP6 p8 q8 hn6 hh6 ho6 a6 b6
  try unfold Stop
  try dsimp only
  k_dflt (refine' parts_spec ?kB ?kF ?kX ?kN ?kT ?kk ?kne ?kr1 ?kr2 ?kI ?kl ?kpl ?kpl' ?kd ?ku ?_)
  case kN => assumption
  case kB => assumption
  case kF => assumption
  case kX => assumption
  case kT => assumption
  case kk => exact rfl
  case kne => assumption
  case kr1 => assumption
  case kr2 => assumption
  case kI => assumption
  case kl => assumption
  case kpl => omega
  case kpl' => omega
  case kd => decide
  case ku => decide
  intro la9 pvs9 ps9 nl9 S9 vs9 ns9 st9 pl9 ta9 tb9 h9 tk9 F9 N9 I9 hl9 ho9 hi9 hP9 hlen9 hs9 hx9 hy9 hz9 hu9 hv9
  replace hu9 := neN hu9
  replace hv9 := neN hv9
  k_steps
  try unfold Stop
  try dsimp only
  k_dflt (refine' add_any ?k1 ?k2 ?k3 ?k4 ?k5 ?_)
  case k1 => assumption
  case k2 => assumption
  case k3 => exact .tail _ (.tail _ (.tail _ (hs9 _ hc8)))
  case k4 => exact .head _
  case k5 => rw [sizeLine_eq, List.length_cons, List.length_nil]; omega
  intro ot h10 F10 N10 l10
  obtain ⟨ts, hts⟩ := hT3.texts
  obtain ⟨RR, M10, K10⟩ : ∃ RR, News _ _ h10 RR ∧ Kp na hda la5 ot nn hc nl5 0 nvs pvs5 ([Value.int (60 + r7) tk7] ++ pvs9) ps5 ([Part.code (60 + r7)] ++ ps9) RR :=
    ⟨_, N10, .tail _ (.tail _ (.tail _ (.tail _ (hs9 _ hn8)))), .tail _ (.tail _ (.tail _ (.tail _ (hs9 _ hh8)))), .tail _ (.tail _ (.tail _ (.tail _ (hs9 _ ho8)))), .head _, hP8.mono (fun q hq => .tail _ (.tail _ (.tail _ (.tail _ (hs9 _ hq))))), .append (.cons (.code _ _) .nil) (hP9.mono (fun q hq => .tail _ (.tail _ (.tail _ (.tail _ hq)))))⟩
  clear N10 N9 hs9 hx9 hy9 hz9 hn8 hh8 ho8 hc8 hP8 hP9 a8 b8 l10
  (try k_sweep)
  k_steps
  try unfold Stop
  try dsimp only
  k_dflt (refine' KM.len_K ?k1 ?k2 ?k3 ?k4 ?_)
  case k1 => assumption
  case k2 => exact K10.2.2.1
  case k3 => exact List.size_toArray ..
  case k4 => omega
  k_steps
  try unfold Stop
  try dsimp only
  k_dflt (refine' heard_out ?kB ?kF ?kX ?kN ?kT ?kXB ?kTB ?kna ?kla ?kt ?kl ?kP ?_)
  case kN => assumption
  case kB => assumption
  case kF => assumption
  case kX => assumption
  case kT => assumption
  case kXB => assumption
  case kTB => assumption
  case kna => exact K10.1
  case kla => exact K10.2.2.1
  case kt => exact hts
  case kl => exact hT3.2
  case kP => exact K10.2.2.2.2.1
  intro v12 R12 h12 tk12 F12 N12 hs12 O12
  replace K10 := K10.mono hs12
  (try k_sweep)
  k_steps
  try unfold Stop
  try dsimp only
  k_dflt (refine' laid_out ?kB ?kF ?kX ?kN ?kT ?kk ?kna ?kla ?kt ?kl ?kP ?kd ?ku ?_)
  case kN => assumption
  case kB => assumption
  case kF => assumption
  case kX => assumption
  case kT => assumption
  case kk => exact rfl
  case kna => exact K10.1
  case kla => exact K10.2.2.1
  case kt => exact hts
  case kl => exact hT3.2
  case kP => exact K10.2.2.2.2.1
  case kd => decide
  case ku => decide
  intro v13 R13 h13 tk13 F13 N13 hs13 O13
  replace K10 := K10.mono hs13
  replace O12 := O12.mono hs13
  (try k_sweep)
  k_steps
  try unfold Stop
  try dsimp only
  refine' ne_out ?k1 ?k2 ?k3 ?k4 ?_
  case k1 => assumption
  case k2 => exact O12
  case k3 => exact O13
  case k4 => simp only [units_deeper, units_caller]; decide
  k_steps
  try unfold Stop
  try dsimp only
  k_dflt (refine' heard_out ?kB ?kF ?kX ?kN ?kT ?kXB ?kTB ?kna ?kla ?kt ?kl ?kP ?_)
  case kN => assumption
  case kB => assumption
  case kF => assumption
  case kX => assumption
  case kT => assumption
  case kXB => assumption
  case kTB => assumption
  case kna => exact K10.1
  case kla => exact K10.2.2.2.1
  case kt => exact hts
  case kl => exact hT3.2
  case kP => exact K10.2.2.2.2.2
  intro v14 R14 h14 tk14 F14 N14 hs14 O14
  replace K10 := K10.mono hs14
  replace O12 := O12.mono hs14
  (try k_sweep)
  k_steps
  try unfold Stop
  try dsimp only
  k_dflt (refine' laid_out ?kB ?kF ?kX ?kN ?kT ?kk ?kna ?kla ?kt ?kl ?kP ?kd ?ku ?_)
  case kN => assumption
  case kB => assumption
  case kF => assumption
  case kX => assumption
  case kT => assumption
  case kk => exact rfl
  case kna => exact K10.1
  case kla => exact K10.2.2.2.1
  case kt => exact hts
  case kl => exact hT3.2
  case kP => exact K10.2.2.2.2.2
  case kd => decide
  case ku => decide
  intro v15 R15 h15 tk15 F15 N15 hs15 O15
  replace K10 := K10.mono hs15
  replace O12 := O12.mono hs15
  replace O14 := O14.mono hs15
  (try k_sweep)
  k_steps
  try unfold Stop
  try dsimp only
  refine' ne_out ?k1 ?k2 ?k3 ?k4 ?_
  case k1 => assumption
  case k2 => exact O14
  case k3 => exact O15
  case k4 => simp only [units_deeper, units_caller]; decide
  k_steps
  try unfold Stop
  try dsimp only
  k_dflt (refine' add_any ?k1 ?k2 ?k3 ?k4 ?k5 ?_)
  case k1 => assumption
  case k2 => assumption
  case k3 => exact K10.2.2.1
  case k4 => exact K10.2.2.2.1
  case k5 => rw [sizeLine_eq, List.length_append, List.length_cons, List.length_nil]; omega
  intro bt h16 F16 N16 l16
  have hs16 : ∀ p ∈ R15, p ∈ (bt, listOf (pvs5 ++ ([Value.int (60 + r7) tk7] ++ pvs9)).toArray 0) :: R15 := fun p hp => .tail _ hp
  replace K10 := K10.mono hs16
  replace O12 := O12.mono hs16
  clear l16
  (try k_sweep)
  k_steps
  try unfold Stop
  try dsimp only
  k_dflt (refine' heard_out ?kB ?kF ?kX ?kN ?kT ?kXB ?kTB ?kna ?kla ?kt ?kl ?kP ?_)
  case kN => assumption
  case kB => assumption
  case kF => assumption
  case kX => assumption
  case kT => assumption
  case kXB => assumption
  case kTB => assumption
  case kna => exact K10.1
  case kla => exact .head _
  case kt => exact hts
  case kl => exact hT3.2
  case kP => exact K10.2.2.2.2.1.append K10.2.2.2.2.2
  intro v17 R17 h17 tk17 F17 N17 hs17 O17
  replace K10 := K10.mono hs17
  replace O12 := O12.mono hs17
  (try k_sweep)
  k_steps
  rcases O12 with ⟨e12, ed12⟩ | ⟨fd, fvs, fn, ts', fc, e12, hfd, hft, hfl, ed12⟩
  case inl =>
    subst e12
    rw [dFold_append, ed12] at O17
    dsimp only at O17
    k_steps
    try unfold Stop
    try dsimp only
    refine' ne_out ?k1 ?k2 ?k3 ?k4 ?_
    case k1 => assumption
    case k2 => exact O17
    case k3 => exact .inl ⟨rfl, rfl⟩
    case k4 => simp only [units_deeper, units_caller]; decide
    k_steps
    try unfold Stop
    try dsimp only
    k_dflt (refine' copy_any ?k1 ?k2 ?k3 ?k4 ?_)
    case k1 => assumption
    case k2 => assumption
    case k3 => exact K10.1
    case k4 => rw [hT3.2]; omega
    intro D20 c20 h20 F20 N20 l20
    (try k_sweep)
    k_steps
    try unfold Stop
    try dsimp only
    refine' eq_texts ?k1 ?k2 ?k3 ?k4 ?k5 ?k6 ?_
    case k1 => assumption
    case k2 => exact .head _
    case k3 => exact .tail _ K10.2.1
    case k4 => exact hts
    case k5 => exact hts
    case k6 => simp only [units_deeper, units_caller]; decide
    k_steps
    try unfold Stop
    try dsimp only
    k_dflt (refine' KM.len_K ?k1 ?k2 ?k3 ?k4 ?_)
    case k1 => assumption
    case k2 => exact .tail _ K10.2.2.1
    case k3 => exact List.size_toArray ..
    case k4 => omega
    k_steps
    have e17 : v17 = .none := by
      rcases O17 with ⟨h, _⟩ | ⟨_, _, _, _, _, _, _, _, _, e⟩
      · exact h
      · cases e
    clear O17
    subst e17
    k_steps
  case inr =>
    subst e12
    rw [dFold_append, ed12] at O17
    dsimp only at O17
    k_steps
    try unfold Stop
    try dsimp only
    k_dflt (refine' heard_out ?kB ?kF ?kX ?kN ?kT ?kXB ?kTB ?kna ?kla ?kt ?kl ?kP ?_)
    case kN => assumption
    case kB => assumption
    case kF => assumption
    case kX => assumption
    case kT => assumption
    case kXB => assumption
    case kTB => assumption
    case kna => exact hfd
    case kla => exact K10.2.2.2.1
    case kt => exact hft
    case kl => exact hfl
    case kP => exact K10.2.2.2.2.2
    intro v18 R18 h18 tk18 F18 N18 hs18 O18
    replace K10 := K10.mono hs18
    replace O17 := O17.mono hs18
    (try k_sweep)
    k_steps
    rw [show dFold ([Part.code (60 + r7)] ++ ps9) (ts', fc) = dFold ([Part.code (60 + r7)] ++ ps9) (ts', -1) from dFold_code _ (by omega) (by omega) _ _ _ _] at O17
    try unfold Stop
    try dsimp only
    refine' ne_out ?k1 ?k2 ?k3 ?k4 ?_
    case k1 => assumption
    case k2 => exact O17
    case k3 => exact O18
    case k4 => simp only [units_deeper, units_caller]; decide
    k_steps
    try unfold Stop
    try dsimp only
    k_dflt (refine' copy_any ?k1 ?k2 ?k3 ?k4 ?_)
    case k1 => assumption
    case k2 => assumption
    case k3 => exact K10.1
    case k4 => rw [hT3.2]; omega
    intro D20 c20 h20 F20 N20 l20
    (try k_sweep)
    k_steps
    try unfold Stop
    try dsimp only
    refine' eq_texts ?k1 ?k2 ?k3 ?k4 ?k5 ?k6 ?_
    case k1 => assumption
    case k2 => exact .head _
    case k3 => exact .tail _ K10.2.1
    case k4 => exact hts
    case k5 => exact hts
    case k6 => simp only [units_deeper, units_caller]; decide
    k_steps
    try unfold Stop
    try dsimp only
    k_dflt (refine' KM.len_K ?k1 ?k2 ?k3 ?k4 ?_)
    case k1 => assumption
    case k2 => exact .tail _ K10.2.2.1
    case k3 => exact List.size_toArray ..
    case k4 => omega
    k_steps
    rcases O17 with ⟨e17, _⟩ | ⟨bd, bvs, bn, bts, bc, e17, hbd, hbt, hbl, _⟩
    case inl =>
      subst e17
      k_steps
    case inr =>
      subst e17
      k_steps
      try unfold Stop
      try dsimp only
      k_dflt (refine' KM.len_K ?k1 ?k2 ?k3 ?k4 ?_)
      case k1 => assumption
      case k2 => exact .tail _ hbd
      case k3 => exact (List.size_toArray ..).trans hbl
      case k4 => omega
      k_steps)
end
end Mine
theorem PySem.Challenge.cw_og0160_01_holds : PySem.Challenge.rw_og0160_01.Holds :=
  Mine.law_x
