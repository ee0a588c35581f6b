import PyProof.Rows.All
import Wide.All
import OpenK.AllK
import Wide.FinOn
import PySem.Challenge.RW_no0359_01
open PySem PySem.W PyProof.Rows
set_option Elab.async false
namespace Mine.Once
/-- the top's run from the boot on, said with the library's quick twins and under a name of our own: so the head checks it at once and not in pieces -/
abbrev Ends (p q : Program) (loose : List PySem.Str) (Xt : Shared → Bool) {α : Type} (Yf : Shared → α) (Ya : World → α) (N : Nat) : Prop :=
  ∀ w : World, (fun os => (Fast.tw14082659384304107361 Fast.tw14364793385576792824 p w (boot_heap w.params).objs.size ((boot_heap w.params).nsMap mainGlobals "__annotations__") N ⟨boot_heap w.params, #[], boot_drawn, boot_toks, os⟩ (topStub p)).map
    fun s => ((boot_heap w.params).isNs mainGlobals && (staticsOk (importedModules p.main.body) (boot_heap w.params) s.heap && namesBound p s.heap && gensDone s && laidKept (boot_heap w.params) s.heap), Fast.tw4187177175401517315 q loose (importedModules p.main.body) Xt true s, Yf s)) =
    fun _ => some (true, openGood q loose, Ya w)
theorem Ends.left {p q : Program} {loose : List PySem.Str} {Xt : Shared → Bool} {α : Type} {Yf : Shared → α} {Ya : World → α} {N : Nat} (x : Ends p q loose Xt Yf Ya N) (e : opening p = plainProg p.main.scope.names) (hN : Nat.ble 600 N = true) (f : ∀ s, fenceModules? p s = some s) :
    LeftO p q loose Xt Yf Ya N := fun w => by
  obtain ⟨⟨h, g, d, k, os⟩, hs, hv⟩ := Option.map_eq_some_iff.mp (boot_open e hN f w)
  simp only [Prod.mk.injEq] at hv
  obtain ⟨rfl, rfl, rfl, rfl⟩ := hv
  have y := congrFun (x w) os
  rw [← Fast.te14082659384304107361, ← Fast.te14364793385576792824, ← Fast.te4187177175401517315] at y
  obtain ⟨s, h1, h2⟩ := Option.map_eq_some_iff.mp y
  simp only [Prod.mk.injEq, Bool.and_eq_true] at h2
  obtain ⟨⟨a, b⟩, c, d⟩ := h2
  unfold openEnds
  rw [hs]
  show Option.map _ (topFrom treeTable p w N _) = _
  unfold topFrom
  rw [show ((boot_heap w.params).isNs mainGlobals && (#[] : Array GenState).size == 0) = true by rw [a]; rfl]
  dsimp only
  rw [h1]
  show Option.map _ (match (staticsOk (importedModules p.main.body) (boot_heap w.params) s.heap && namesBound p s.heap && gensDone s && laidKept (boot_heap w.params) s.heap) with | true => some s | false => none) = _
  rw [show (staticsOk (importedModules p.main.body) (boot_heap w.params) s.heap && namesBound p s.heap && gensDone s && laidKept (boot_heap w.params) s.heap) = true by simpa only [Bool.and_eq_true] using b]
  exact congrArg some (Prod.ext c d)
end Mine.Once
namespace Mine.Once.PySem.W
def holds_open {q : Program} {loose : List PySem.Str} {Xt : Shared → Bool} {XP : (PySem.Str → Option Value) → Heap → Prop} {α : Type} {Yf : Shared → α} {Ya : World → α} {YP : World → Heap → Prop} {d : DefRec} {kwd : List (PySem.Str × PySem.Expr)} {N : Nat} :=
  fun (left : Ends PySem.Challenge.rw_no0359_01.row.prog q loose Xt Yf Ya (600 + N)) => @_root_.PySem.W.holds_open PySem.Challenge.rw_no0359_01.row q loose Xt XP α Yf Ya YP d kwd (600 + N) (left.left rfl (Nat.ble_eq.mpr (Nat.le_add_right _ _)) fun _ => rfl)
end Mine.Once.PySem.W
namespace Mine.Once
set_option maxRecDepth 100000 in
set_option maxHeartbeats 8000000 in
open_top hd for PySem.Challenge.rw_no0359_01
end Mine.Once
namespace Mine
theorem top_off : True := by
  w_top off
  trivial
open PySem.Spec PySem.Calls
set_option maxRecDepth 100000
set_option maxHeartbeats 8000000

/-! ## the datum -/
inductive T where
  | leaf (b : Int)
  | letter (b : Int) (t : T)
  | multi (b : Int) (ts : List T)

def T.begin : T → Int
  | .leaf b => b
  | .letter b _ => b
  | .multi b _ => b
def T.kids : T → List T
  | .multi _ ts => ts
  | _ => []
def T.inner : T → Option T
  | .letter _ t => some t
  | _ => none

mutual
def T.height : T → Nat
  | .leaf _ => 0
  | .letter _ t => t.height + 1
  | .multi _ ts => heights ts + 1
def heights : List T → Nat
  | [] => 0
  | t :: ts => max t.height (heights ts)
end
theorem height_mem {t : T} : ∀ {ts : List T}, t ∈ ts → t.height ≤ heights ts
  | _ :: _, .head _ => by rw [heights]; exact Nat.le_max_left _ _
  | _ :: _, .tail _ h => by rw [heights]; exact Nat.le_trans (height_mem h) (Nat.le_max_right _ _)

/-! ## how the ledger bears it -/
abbrev News1 := List (Addr × Obj)

/-- an object of class Part, written out -/
inductive NodeAt (news : News1) (v : Value) (b : Int) (vs : List Value) (u : Value) : Prop where
  | mk : ∀ a dx kl nk n h1 h2 h3 h4 h5 h6 h7 h8 k1 k2 k3 k4 k5 k6 k7 k8 tb v2 v3 v4 v5 v6, (v = .ref a) → ((a, instObj 85 dx) ∈ news) → ((dx, dictOf [⟨h1, .str (Str.ofString "begin") k1, .int b tb⟩, ⟨h2, .str (Str.ofString "body") k2, v2⟩, ⟨h3, .str (Str.ofString "end") k3, v3⟩, ⟨h4, .str (Str.ofString "fields") k4, v4⟩, ⟨h5, .str (Str.ofString "kind") k5, v5⟩, ⟨h6, .str (Str.ofString "encoding") k6, v6⟩, ⟨h7, .str (Str.ofString "kids") k7, .ref kl⟩, ⟨h8, .str (Str.ofString "inner") k8, u⟩] n) ∈ news) → ((kl, listOf vs.toArray nk) ∈ news) → NodeAt news v b vs u
mutual
def PartAt (news : News1) : Value → T → Prop
  | v, .leaf b => NodeAt news v b [] .none
  | v, .letter b t => ∃ u, NodeAt news v b [] u ∧ PartAt news u t
  | v, .multi b ts => ∃ vs, NodeAt news v b vs .none ∧ PartsAt news vs ts
def PartsAt (news : News1) : List Value → List T → Prop
  | [], [] => True
  | v :: vs, t :: ts => PartAt news v t ∧ PartsAt news vs ts
  | _, _ => False
end

theorem NodeAt.mono {news news' : News1} (hs : ∀ p ∈ news, p ∈ news') {v b vs u} (h : NodeAt news v b vs u) : NodeAt news' v b vs u := by
  obtain ⟨a, dx, kl, nk, n, h1, h2, h3, h4, h5, h6, h7, h8, k1, k2, k3, k4, k5, k6, k7, k8, tb, v2, v3, v4, v5, v6, e, x, y, z⟩ := h
  exact ⟨a, dx, kl, nk, n, h1, h2, h3, h4, h5, h6, h7, h8, k1, k2, k3, k4, k5, k6, k7, k8, tb, v2, v3, v4, v5, v6, e, hs _ x, hs _ y, hs _ z⟩
mutual
theorem PartAt.mono {news news' : News1} (hs : ∀ p ∈ news, p ∈ news') : ∀ {v : Value} {t : T}, PartAt news v t → PartAt news' v t
  | v, .leaf b, h => by rw [PartAt] at h ⊢; exact h.mono hs
  | v, .letter b t, h => by
    rw [PartAt] at h ⊢
    obtain ⟨u, h1, h2⟩ := h
    exact ⟨u, h1.mono hs, PartAt.mono hs h2⟩
  | v, .multi b ts, h => by
    rw [PartAt] at h ⊢
    obtain ⟨vs, h1, h2⟩ := h
    exact ⟨vs, h1.mono hs, PartsAt.mono hs h2⟩
theorem PartsAt.mono {news news' : News1} (hs : ∀ p ∈ news, p ∈ news') : ∀ {vs : List Value} {ts : List T}, PartsAt news vs ts → PartsAt news' vs ts
  | [], [], _ => by rw [PartsAt]; exact trivial
  | v :: vs, t :: ts, h => by
    rw [PartsAt] at h ⊢
    exact ⟨PartAt.mono hs h.1, PartsAt.mono hs h.2⟩
  | [], _ :: _, h => by simp [PartsAt] at h
  | _ :: _, [], h => by simp [PartsAt] at h
end

theorem NodeAt.ref {news : News1} {v b vs u} (h : NodeAt news v b vs u) : ∃ a, v = .ref a := by
  obtain ⟨a, dx, kl, nk, n, h1, h2, h3, h4, h5, h6, h7, h8, k1, k2, k3, k4, k5, k6, k7, k8, tb, v2, v3, v4, v5, v6, e, x, y, z⟩ := h
  exact ⟨a, e⟩
theorem PartAt.ref {news : News1} : ∀ {v : Value} {t : T}, PartAt news v t → ∃ a, v = .ref a
  | v, .leaf b, h => by rw [PartAt] at h; exact h.ref
  | v, .letter b t, h => by rw [PartAt] at h; obtain ⟨_, h, _⟩ := h; exact h.ref
  | v, .multi b t, h => by rw [PartAt] at h; obtain ⟨_, h, _⟩ := h; exact h.ref

theorem PartsAt.ne {news : News1} : ∀ {vs : List Value} {ts : List T}, PartsAt news vs ts → ts ≠ [] → vs.isEmpty = false
  | [], [], _, h => absurd rfl h
  | _ :: _, _, _, _ => rfl
  | [], _ :: _, h, _ => by simp [PartsAt] at h

/-- what is new lies apart from what stood -/
def Ext (news news' : News1) : Prop := ∃ tl, news' = tl ++ news ∧ ∀ q ∈ news, ∀ p ∈ tl, q.1 ≠ p.1
theorem Ext.refl {news : News1} : Ext news news := ⟨[], rfl, fun _ _ _ h => nomatch h⟩
theorem Ext.cons {news news' : News1} {a : Addr} {o : Obj} (x : Ext news news') (h : ∀ p ∈ news, p.1 ≠ a) : Ext news ((a, o) :: news') := by
  obtain ⟨tl, rfl, k⟩ := x
  refine ⟨(a, o) :: tl, rfl, fun q hq p hp => ?_⟩
  rcases List.mem_cons.mp hp with rfl | hp
  · exact h q hq
  · exact k q hq p hp
theorem Ext.trans {a b c : News1} (x : Ext a b) (y : Ext b c) : Ext a c := by
  obtain ⟨t, rfl, k⟩ := x
  obtain ⟨u, rfl, l⟩ := y
  refine ⟨u ++ t, (List.append_assoc ..).symm, fun q hq p hp => ?_⟩
  rcases List.mem_append.mp hp with hp | hp
  · exact l q (List.mem_append_right _ hq) p hp
  · exact k q hq p hp
theorem Ext.sub {news news' : News1} (x : Ext news news') : ∀ p ∈ news, p ∈ news' := by
  obtain ⟨t, rfl, _⟩ := x
  exact fun p hp => List.mem_append_right _ hp
theorem Ext.app {news news' tl : News1} (x : Ext news news') (k : ∀ q ∈ news', ∀ p ∈ tl, q.1 ≠ p.1) : Ext news (tl ++ news') := x.trans ⟨tl, rfl, k⟩
theorem lt_use {l : News1} {a : Addr} (h : ∀ q ∈ l, q.1 < a) {p : Addr × Obj} (hp : p ∈ l) : p.1 ≠ a := Nat.ne_of_lt (h p hp)
theorem alt_use {l : News1} {a : Addr} (h : AllLt a l) {p : Addr × Obj} (hp : p ∈ l) : p.1 ≠ a := Nat.ne_of_lt (tb_ltOf h p hp)
theorem lt_use2 {l : News1} {a x : Addr} (k : @LT.lt Nat _ x a) (h : ∀ q ∈ l, q.1 < x) {p : Addr × Obj} (hp : p ∈ l) : p.1 ≠ a := Nat.ne_of_lt (Nat.lt_trans (h p hp) k)
theorem ne_use {l : News1} {a : Addr} (h : ∀ q ∈ l, q.1 ≠ a) {p : Addr × Obj} (hp : p ∈ l) : p.1 ≠ a := h p hp
theorem off1_use {l : News1} {a : Addr} (h : LCg.Off1 a l) {p : Addr × Obj} (hp : p ∈ l) : p.1 ≠ a := by
  induction l with
  | nil => cases hp
  | cons q r ih =>
    rcases List.mem_cons.mp hp with rfl | hp
    · exact h.1
    · exact ih h.2 hp

theorem allLt_append {d : Nat} : ∀ {a b : News1}, AllLt d (a ++ b) = (AllLt d a ∧ AllLt d b)
  | [], b => by simp [AllLt]
  | p :: a, b => by
    show (_ ∧ AllLt d (a ++ b)) = ((_ ∧ AllLt d a) ∧ AllLt d b)
    rw [allLt_append, and_assoc]
theorem ext_use {W tl : News1} {d : Addr} {o : Obj} (k : ∀ q ∈ W, ∀ p ∈ tl, q.1 ≠ p.1) (hq : (d, o) ∈ W) {p : Addr × Obj} (hp : p ∈ tl) : p.1 ≠ d := fun e => k _ hq p hp e.symm
theorem upd_app {d : Addr} {o o' : Obj} {r r' : News1} : ∀ {tl : News1}, (∀ p ∈ tl, p.1 ≠ d) → Upd d o o' r r' → Upd d o o' (tl ++ r) (tl ++ r')
  | [], _, u => u
  | p :: _, h, u => .tail (h p (.head _)) (upd_app (fun q hq => h q (.tail _ hq)) u)
theorem news_front {h₀ h : Heap} {L : Addr} {a b : Addr × Obj} {r : News1} (N : News h₀ L h (a :: b :: r)) : News h₀ L h (b :: a :: r) := fun p hp => N p (by
  rcases List.mem_cons.mp hp with e | hp
  · exact e ▸ List.mem_cons_of_mem _ List.mem_cons_self
  · rcases List.mem_cons.mp hp with e | hp
    · exact e ▸ List.mem_cons_self
    · exact List.mem_cons_of_mem _ (List.mem_cons_of_mem _ hp))
theorem news_front3 {h₀ h : Heap} {L : Addr} {a b c d : Addr × Obj} {r : News1} (N : News h₀ L h (a :: b :: c :: d :: r)) : News h₀ L h (d :: a :: b :: c :: r) := fun p hp => N p (by
  simp only [List.mem_cons] at hp ⊢
  rcases hp with h | h | h | h | h <;> simp [h])
theorem news_sub {h₀ h : Heap} {L : Addr} {a b : News1} (N : News h₀ L h a) (hs : ∀ p ∈ b, p ∈ a) : News h₀ L h b := fun p hp => N p (hs p hp)

theorem lt_ne1 {l : News1} {a d : Addr} {o o' : Obj} (h : ∀ q ∈ l, q.1 < d) (m : (a, o) ∈ l) : ((a, o') : Addr × Obj).1 ≠ d := Nat.ne_of_lt (show @LT.lt Nat _ _ _ from h (_, o) m)
theorem lt_ne2 {l : News1} {a d : Addr} {o o' : Obj} (h : ∀ q ∈ l, q.1 < a) (m : (d, o) ∈ l) : ((a, o') : Addr × Obj).1 ≠ d := Nat.ne_of_gt (show @LT.lt Nat _ _ _ from h (_, o) m)
theorem lt_ne3 {l : News1} {a d x : Addr} {o o' : Obj} (h : @LT.lt Nat _ x d) (k : ∀ q ∈ l, q.1 < x) (m : (a, o) ∈ l) : ((a, o') : Addr × Obj).1 ≠ d := Nat.ne_of_lt (Nat.lt_trans (show @LT.lt Nat _ _ _ from k (_, o) m) h)
theorem lt_ne4 {l : News1} {a d x : Addr} {o o' : Obj} (h : @LT.lt Nat _ x a) (k : ∀ q ∈ l, q.1 < x) (m : (d, o) ∈ l) : ((a, o') : Addr × Obj).1 ≠ d := Nat.ne_of_gt (Nat.lt_trans (show @LT.lt Nat _ _ _ from k (_, o) m) h)
theorem lt_ne5 {a d : Addr} {o' : Obj} (h : @LT.lt Nat _ a d) : ((a, o') : Addr × Obj).1 ≠ d := Nat.ne_of_lt h
theorem lt_ne6 {a d : Addr} {o' : Obj} (h : @LT.lt Nat _ d a) : ((a, o') : Addr × Obj).1 ≠ d := Nat.ne_of_gt h
theorem lt_ne7 {l : News1} {a d : Nat} {o o' : Obj} (h : ∀ q ∈ l, q.1 < a) (m : (d, o) ∈ l) : ((a + 1, o') : Addr × Obj).1 ≠ d := Nat.ne_of_gt (Nat.lt_succ_of_lt (show @LT.lt Nat _ _ _ from h (_, o) m))
theorem lt_ne8 {l : News1} {a d : Nat} {o o' : Obj} (h : ∀ q ∈ l, q.1 < a) (m : (d, o) ∈ l) : ((a + 1 + 1, o') : Addr × Obj).1 ≠ d := Nat.ne_of_gt (Nat.lt_succ_of_lt (Nat.lt_succ_of_lt (show @LT.lt Nat _ _ _ from h (_, o) m)))

theorem lt_ne9 {l : News1} {a d : Addr} {o o' : Obj} (h : LCg.Off1 a l) (m : (d, o) ∈ l) : ((a, o') : Addr × Obj).1 ≠ d := fun e => off1_use h m e.symm
theorem lt_ne10 {l : News1} {a d : Addr} {o o' : Obj} (h : LCg.Off1 d l) (m : (a, o) ∈ l) : ((a, o') : Addr × Obj).1 ≠ d := by have x := off1_use h m; exact x

theorem lt_ne11 {l : News1} {I C D d : Addr} {o o' : Obj} (h : LCg.Off3 I C D l) (m : (d, o) ∈ l) : ((I, o') : Addr × Obj).1 ≠ d := by have x := (h.mem _ m).1; exact Ne.symm x
theorem lt_ne12 {l : News1} {I C D d : Addr} {o o' : Obj} (h : LCg.Off3 I C D l) (m : (d, o) ∈ l) : ((C, o') : Addr × Obj).1 ≠ d := by have x := (h.mem _ m).2.1; exact Ne.symm x
theorem lt_ne13 {l : News1} {I C D d : Addr} {o o' : Obj} (h : LCg.Off3 I C D l) (m : (d, o) ∈ l) : ((D, o') : Addr × Obj).1 ≠ d := by have x := (h.mem _ m).2.2; exact Ne.symm x

theorem lt_ne14 {l : News1} {a d : Addr} {o o' : Obj} (h : ∀ q ∈ l, q.1 ≠ a) (m : (d, o) ∈ l) : ((a, o') : Addr × Obj).1 ≠ d := by have x := h _ m; exact Ne.symm x
theorem lt_ne15 {l : News1} {a d : Addr} {o o' : Obj} (h : ∀ q ∈ l, q.1 ≠ d) (m : (a, o) ∈ l) : ((a, o') : Addr × Obj).1 ≠ d := by have x := h _ m; exact x

theorem fits_small {xs : List Value} (h : xs.length ≤ 16384) : xs.toArray.size ≤ sizeLine := by rw [List.size_toArray, sizeLine_eq]; omega

/-- an entry taken to the front; what is no longer wanted (a cell) may be left out -/
inductive Front (d : Addr) (o : Obj) : News1 → News1 → Prop where
  | head {r : News1} : Front d o ((d, o) :: r) r
  | tail {p : Addr × Obj} {l r : News1} : Front d o l r → Front d o (p :: l) (p :: r)
  | skip {a : Nat} {o' : Obj} {l r : News1} : Front d o l r → Front d o ((a + 1, o') :: l) r
  | app {t l r : News1} : Front d o l r → Front d o (t ++ l) (t ++ r)
theorem Front.mem {d : Addr} {o : Obj} : ∀ {l r : News1}, Front d o l r → ∀ p ∈ (d, o) :: r, p ∈ l := by
  intro l r h
  induction h with
  | head => exact fun p hp => hp
  | tail _ ih =>
    intro p hp
    rcases List.mem_cons.mp hp with e | hp
    · exact List.mem_cons_of_mem _ (ih p (e ▸ List.mem_cons_self))
    · rcases List.mem_cons.mp hp with e | hp
      · exact e ▸ List.mem_cons_self
      · exact List.mem_cons_of_mem _ (ih p (List.mem_cons_of_mem _ hp))
  | skip _ ih => exact fun p hp => List.mem_cons_of_mem _ (ih p hp)
  | app _ ih =>
    intro p hp
    rcases List.mem_cons.mp hp with e | hp
    · exact List.mem_append_right _ (ih p (e ▸ List.mem_cons_self))
    · rcases List.mem_append.mp hp with hp | hp
      · exact List.mem_append_left _ hp
      · exact List.mem_append_right _ (ih p (List.mem_cons_of_mem _ hp))
theorem Front.news {d : Addr} {o : Obj} {l r : News1} {h₀ h : Heap} {L : Addr} (f : Front d o l r) (N : News h₀ L h l) : News h₀ L h ((d, o) :: r) := news_sub N f.mem
theorem Front.use {d : Addr} {o : Obj} {l r : News1} {h₀ h : Heap} {L : Addr} {G : Prop} (N : News h₀ L h l) (f : Front d o l r) (k : News h₀ L h ((d, o) :: r) → G) : G := k (f.news N)
theorem Front.useNamed {d : Addr} {o : Obj} {l r : News1} {h₀ h : Heap} {L : Addr} {G : Prop} (N : News h₀ L h l) (f : Front d o l r) (k : ∀ base, base = r → News h₀ L h ((d, o) :: base) → G) : G := k r rfl (f.news N)
theorem Front.named {d : Addr} {o : Obj} {l r : News1} {h₀ h : Heap} {L : Addr} (f : Front d o l r) (N : News h₀ L h l) : ∃ base, base = r ∧ News h₀ L h ((d, o) :: base) := ⟨r, rfl, f.news N⟩
theorem news_add {d : Addr} {o : Obj} {l : News1} {h₀ h : Heap} {L : Addr} (N : News h₀ L h l) (hm : (d, o) ∈ l) : News h₀ L h ((d, o) :: l) := fun p hp => by
  rcases List.mem_cons.mp hp with rfl | hp
  · exact N _ hm
  · exact N p hp
theorem pick_tuple {D1 D2 D3 D4 : Addr} {a1 a2 a3 a4 b1 b2 b3 b4 : Str} {u1 u2 u3 u4 v1 v2 v3 v4 : Tok} {l : News1} {h₀ h : Heap} {L : Addr} {i : Nat} {x : Value} (N : News h₀ L h l)
    (h1 : (D1, ({ cls := .type "tuple", data := .seq #[.str a1 u1, .str b1 v1] } : Obj)) ∈ l) (h2 : (D2, ({ cls := .type "tuple", data := .seq #[.str a2 u2, .str b2 v2] } : Obj)) ∈ l)
    (h3 : (D3, ({ cls := .type "tuple", data := .seq #[.str a3 u3, .str b3 v3] } : Obj)) ∈ l) (h4 : (D4, ({ cls := .type "tuple", data := .seq #[.str a4 u4, .str b4 v4] } : Obj)) ∈ l)
    (hx : [Value.ref D1, .ref D2, .ref D3, .ref D4][i]? = some x) : ∃ D a u b v, x = .ref D ∧ (D, ({ cls := .type "tuple", data := .seq #[.str a u, .str b v] } : Obj)) ∈ l := by
  match i, hx with
  | 0, hx => cases hx; exact ⟨_, _, _, _, _, rfl, h1⟩
  | 1, hx => cases hx; exact ⟨_, _, _, _, _, rfl, h2⟩
  | 2, hx => cases hx; exact ⟨_, _, _, _, _, rfl, h3⟩
  | 3, hx => cases hx; exact ⟨_, _, _, _, _, rfl, h4⟩
  | k + 4, hx => simp at hx

/-! ## a call's contract -/
def Does (w : World) (mean : ExcName → Option Value) (mg mb : Str → Option Value) (f : Addr) (need : Nat) (vs : List Value) (news : News1) (Post : Value → News1 → Prop) : Prop :=
  ∀ (dp un : Nat) (gd : Option (List Code)) (cn : Str) (cs : Scope) (a : Addr) (ccd : Value) (cl : List (Str × Addr)) (outer : List Env) (A₀ : Around) (base h₀ : Heap) (L : Addr) (m : Str → Option Value) (s : Shared) (Q E : Value → Shared → Prop),
    Below A₀ base outer h₀ → Fr h₀ L s.heap m → (Once.hd.heap_39 w.params).In h₀ → News h₀ L s.heap news → Top Once.hd.view_39 (looseW Once.hd.view_39 []) mean mg mb h₀ → cs.kind = .function → dp + need < recursionLimit → un + 8 * need < cLine →
    (∀ r news' h' tk', Fr h₀ L h' m → News h₀ L h' news' → Post r news' → Q r { s with heap := h', toks := tk' }) →
    wpAny (model PySem.Challenge.rw_no0359_01.row.prog w) (ktrTop dp un gd cn cs L a ccd cl outer) (call (.ref f) vs) Q E s

theorem Does.use {w : World} {mean : ExcName → Option Value} {mg mb : Str → Option Value} {f : Addr} {need : Nat} {vs : List Value} {news : News1} {Post : Value → News1 → Prop}
    {dp un : Nat} {gd : Option (List Code)} {cn : Str} {cs : Scope} {a : Addr} {ccd : Value} {cl : List (Str × Addr)} {outer : List Env} {A₀ : Around} {base h₀ : Heap} {L : Addr} {m : Str → Option Value} {s : Shared} {Q E : Value → Shared → Prop}
    (D : Does w mean mg mb f need vs news Post) (B : Below A₀ base outer h₀) (F : Fr h₀ L s.heap m) (X : (Once.hd.heap_39 w.params).In h₀) (N : News h₀ L s.heap news) (T : Top Once.hd.view_39 (looseW Once.hd.view_39 []) mean mg mb h₀) (hk : cs.kind = .function)
    (hd : dp + need < recursionLimit) (hu : un + 8 * need < cLine)
    (ret : ∀ r news' h' tk', Fr h₀ L h' m → News h₀ L h' news' → Post r news' → Q r { s with heap := h', toks := tk' }) :
    wpAny (model PySem.Challenge.rw_no0359_01.row.prog w) (ktrTop dp un gd cn cs L a ccd cl outer) (call (.ref f) vs) Q E s :=
  D _ _ _ _ _ _ _ _ _ _ _ _ _ _ _ _ _ B F X N T hk hd hu ret

theorem Does.useH {w : World} {mean : ExcName → Option Value} {mg mb : Str → Option Value} {f : Addr} {need : Nat} {vs : List Value} {news : News1} {Post : Value → News1 → Prop}
    {dp un : Nat} {gd : Option (List Code)} {cn : Str} {cs : Scope} {a : Addr} {ccd : Value} {cl : List (Str × Addr)} {outer : List Env} {A₀ : Around} {base h₀ : Heap} {L : Addr} {m : Str → Option Value} {s : Shared} {Q E : Value → Shared → Prop}
    (D : Does w mean mg mb f need vs news Post) (B : Below A₀ base outer h₀) (F : Fr h₀ L s.heap m) (X : (Once.hd.heap_39 w.params).In h₀) (N : News h₀ L s.heap news) (T : Top Once.hd.view_39 (looseW Once.hd.view_39 []) mean mg mb h₀) (hk : cs.kind = .function)
    (hd : dp + need < recursionLimit) (hu : un + 8 * need < cLine)
    (ret : ∀ G : Value → Shared → Prop, (∀ v s, Q v s → G v s) → ∀ r news' h' tk', Fr h₀ L h' m → News h₀ L h' news' → Post r news' → G r { s with heap := h', toks := tk' }) :
    wpAny (model PySem.Challenge.rw_no0359_01.row.prog w) (ktrTop dp un gd cn cs L a ccd cl outer) (call (.ref f) vs) Q E s :=
  D _ _ _ _ _ _ _ _ _ _ _ _ _ _ _ _ _ B F X N T hk hd hu (ret Q fun _ _ h => h)

theorem ne_nil {prog : Program} {w : World} {A : Around} {E : Value → Shared → Prop} {s : Shared} {h₀ : Heap} {L a b : Addr} {news : News1} {xs : List Value} {ka kb : Nat} {Q : Value → Shared → Prop}
    (N : News h₀ L s.heap news) (ha : (a, listOf xs.toArray ka) ∈ news) (hb : (b, listOf ([] : List Value).toArray kb) ∈ news) (hu : A.units < cLine) (h : Q (.bool (!xs.isEmpty)) s) :
    wpAny (model prog w) A (compareOp .NotEq (.ref a) (.ref b)) Q E s := by
  have la := N.isList ha
  have lb := N.isList hb
  cases xs with
  | nil => exact (SeqAt.RcNeAt.lists (e := fun _ => true) la lb rfl hu (fun j h1 _ => absurd h1 (by simp))) prog w E Q (by simpa using h)
  | cons x xs => exact (SeqAt.RcNeAt.lists_lengths la lb (by simp) hu) prog w E Q (by simpa using h)

/-! ## rows -/
def row : T → Bool → List T
  | .leaf b, w => if w then [.leaf b] else []
  | .letter b t, w => if w then [.letter b t] else row t true
  | .multi _ ts, _ => ts
mutual
def T.ok : T → Prop
  | .leaf _ => True
  | .letter _ t => t.ok
  | .multi _ ts => ts ≠ [] ∧ ts.length ≤ 3 ∧ oks ts
def oks : List T → Prop
  | [] => True
  | t :: ts => t.ok ∧ oks ts
end
inductive RowAt (news : News1) (r : Value) (ts : List T) : Prop where
  | mk : ∀ l vs n, (r = .ref l) → ((l, listOf vs.toArray n) ∈ news) → (PartsAt news vs ts) → RowAt news r ts
local macro_rules | `(tactic| k_mem) => `(tactic| first
  | (with_reducible exact List.mem_cons_self)
  | ((with_reducible refine' List.mem_cons_of_mem _ ?_); k_mem)
  | with_reducible assumption
  | ((with_reducible refine' List.mem_append_left _ ?_); k_mem)
  | ((with_reducible refine' List.mem_append_right _ ?_); k_mem)
  | fail "k_mem: not there")
local macro_rules | `(tactic| k_ne) => `(tactic| first
  | ((with_reducible refine' lt_ne1 ?h9 ?m9); (case h9 => with_reducible assumption); (case m9 => k_mem))
  | ((with_reducible refine' lt_ne2 ?h9 ?m9); (case h9 => with_reducible assumption); (case m9 => k_mem))
  | ((with_reducible refine' lt_ne3 ?h9 ?l9 ?m9); (case h9 => with_reducible assumption); (case l9 => with_reducible assumption); (case m9 => k_mem))
  | ((with_reducible refine' lt_ne4 ?h9 ?l9 ?m9); (case h9 => with_reducible assumption); (case l9 => with_reducible assumption); (case m9 => k_mem))
  | ((with_reducible refine' lt_ne5 ?h9); (case h9 => with_reducible assumption))
  | ((with_reducible refine' lt_ne6 ?h9); (case h9 => with_reducible assumption))
  | ((with_reducible refine' lt_ne7 ?h9 ?m9); (case h9 => with_reducible assumption); (case m9 => k_mem))
  | ((with_reducible refine' lt_ne8 ?h9 ?m9); (case h9 => with_reducible assumption); (case m9 => k_mem))
  | ((with_reducible refine' lt_ne9 ?h9 ?m9); (case h9 => with_reducible assumption); (case m9 => k_mem))
  | ((with_reducible refine' lt_ne10 ?h9 ?m9); (case h9 => with_reducible assumption); (case m9 => k_mem))
  | ((with_reducible refine' lt_ne11 ?h9 ?m9); (case h9 => with_reducible assumption); (case m9 => k_mem))
  | ((with_reducible refine' lt_ne12 ?h9 ?m9); (case h9 => with_reducible assumption); (case m9 => k_mem))
  | ((with_reducible refine' lt_ne13 ?h9 ?m9); (case h9 => with_reducible assumption); (case m9 => k_mem))
  | ((with_reducible refine' lt_ne14 ?h9 ?m9); (case h9 => with_reducible assumption); (case m9 => k_mem))
  | ((with_reducible refine' lt_ne15 ?h9 ?m9); (case h9 => with_reducible assumption); (case m9 => k_mem))
  | fail "k_ne")
local macro_rules | `(tactic| walk_at "m_enter") => `(tactic| (refine' code_def ?k1 ?k2 ?k3 ?k4 ?k5 ?kA ?kF ?kK ?k6 ?k7 ?k8 ?k9 ?kB ?_ ?c2 ?c3 ?c4 ?c5; (case kA => exact rfl); (case kF => exact rfl); (case kK => first | exact rfl | assumption); (case k1 => k_asm); (case k2 => k_asm); (case k3 => k_asm); (case k4 => k_asm); (case k5 => k_asm); (case k6 => k_is); (case k7 => k_is); (case k8 => walk_at "m_room"); (case k9 => exact BindsTo.of_eq rfl); (case c5 => decide); (case kB => exact locs rfl); (case c2 => exact rfl); (case c3 => exact rfl); (case c4 => exact rfl); k_whole; intro g' L' h' FG' F' N' B' X' T'; (try dsimp only); (try k_fold)))
local macro_rules | `(tactic| walk_at "m_room") => `(tactic| ((try simp only [depth_under_make, depth_under_kw, depth_in1, depth_deeper, depth_caller]); (try dsimp only [ktrTop]); (simp only [recursionLimit] at *); omega))
local macro_rules | `(tactic| walk_at "m_units") => `(tactic| ((try simp only [units_under_make, units_in1, units_deeper, Around.mark_units, units_caller]); (try dsimp only [ktrTop]); (simp only [cLine_is] at *); omega))
local macro_rules | `(tactic| walk_at "m_does") => `(tactic| (refine' Does.useH ?kD ?k1 ?k2 ?k3 ?k4 ?k5 ?kK ?kd ?ku ?_; (case k1 => k_asm); (case k2 => k_asm); (case k3 => k_asm); (case k4 => k_asm); (case k5 => k_asm); (case kK => first | exact rfl | assumption)))
local macro_rules | `(tactic| walk_at "compareOp NotEq ref ref") => `(tactic| (k_here; (with_reducible show wpAny _ _ (compareOp CmpOp.NotEq (Value.ref _) (Value.ref _)) _ _ _); k_dflt (refine' ne_nil ?N ?a ?b ?u ?_; (case N => k_asm); (case a => k_mem); (case b => k_mem); (case u => walk_at "m_units"); k_whole)))
local macro_rules | `(tactic| walk_at "m_ne") => `(tactic| (intro p9 hp9; first
  | ((refine' lt_use ?h9 ?m9; (case h9 => with_reducible assumption)); (case m9 => k_mem))
  | ((refine' lt_use2 ?l9 ?h9 ?m9; (case l9 => with_reducible assumption); (case h9 => with_reducible assumption)); (case m9 => k_mem))
  | ((refine' ne_use ?h9 ?m9; (case h9 => with_reducible assumption)); (case m9 => k_mem))
  | ((refine' alt_use ?h9 ?m9; (case m9 => exact hp9)); (case h9 => tbn_find))
  | ((refine' alt_use ?h9 ?m9; (case h9 => with_reducible assumption)); (case m9 => k_mem))
  | ((refine' ext_use ?h9 ?q9 ?m9; (case m9 => exact hp9)); (case h9 => with_reducible assumption); (case q9 => k_mem))
  | ((refine' off1_use ?h9 ?m9; (case h9 => with_reducible assumption)); (case m9 => k_mem))
  | fail "m_ne"))
local macro_rules | `(tactic| walk_at "m_ext") => `(tactic| first
  | exact Ext.refl
  | ((refine' Ext.cons ?x9 ?h9; (case h9 => walk_at "m_ne")); walk_at "m_ext")
  | ((refine' Ext.app ?x9 ?h9; (case h9 => with_reducible assumption)); walk_at "m_ext")
  | fail "m_ext")
local macro_rules | `(tactic| walk_at "m_enterC") => `(tactic| (refine' code_defC ?k1 ?k2 ?k3 ?k4 ?k5 ?kA ?kF ?kK ?k6 ?k7 ?k8 ?k9 ?kB ?kD ?_ ?c2 ?c3 ?c4; (case kA => exact rfl); (case kF => exact rfl); (case kK => first | exact rfl | assumption); (case k1 => k_asm); (case k2 => k_asm); (case k3 => k_asm); (case k4 => k_asm); (case k5 => k_asm); (case k6 => k_is); (case k7 => k_is); (case k8 => walk_at "m_room"); (case k9 => exact BindsTo.of_eq rfl); (case kB => exact rfl); (case kD => decide +kernel); (case c2 => exact rfl); (case c3 => exact rfl); (case c4 => exact rfl); k_whole; intro g' L' h' tk' cells' FG' F' N' Y' B' X' T' l1; (try k_lt l1); k_cells Y'; (try simp only [List.cons_append, List.nil_append] at N'); (try dsimp only); (try k_fold)))
local macro_rules | `(tactic| k_enter) => `(tactic| walk_at "m_enter")
local macro_rules | `(tactic| k_lt $h:ident) => `(tactic| skip)
local macro_rules | `(tactic| k_upd) => `(tactic| ((refine' upd_app ?a9 ?b9); (case a9 => walk_at "m_ne"); (case b9 => k_upd)))
local macro_rules | `(tactic| walk_at "m_stop") => `(tactic| first
  | (with_reducible show wpAny _ _ (exec (Stmt.For _ _ _ _ _) _) _ _ _)
  | (with_reducible show wpAny _ _ (exec (Stmt.While _ _ _ _) _) _ _ _)
  | (with_reducible show wpAny _ _ (eval (Expr.ListComp _ _ _ _) _) _ _ _)
  | (with_reducible show wpAny _ _ (exec (Stmt.Assign _ (Expr.ListComp _ _ _ _) _) _) _ _ _)
  | (with_reducible show wpAny _ _ (pyIter _) (fun it s₂ => LoopAt _ _ _ _ _ _ _ _ _ it s₂) _ _)
  | (with_reducible show LoopPost _ _ _ _ _ _ _ _ _)
  | (with_reducible show wpAny _ _ (binaryOp Operator.Add (Value.ref _) (Value.ref _)) _ _ _)
  | (with_reducible show wpAny _ _ (call (Value.builtin "len") [Value.ref _]) _ _ _)
  | (with_reducible show wpAny _ _ (subscriptTail (Expr.Tuple _ _ _) _ _ _) _ _ _)
  | (with_reducible show LCg.CompEnd _ _ _ _ _ _ _ _ _ _ _ _ _ _)
  | (with_reducible show LCg.CompSrc _ _ _ _ _ _ _ _ _ _ _ _ _ _)
  | (with_reducible show wpAny _ _ (call (Value.ref 33) _) _ _ _)
  | (with_reducible show wpAny _ _ (call (Value.ref 94) _) _ _ _)
  | (with_reducible show wpAny _ _ (call (Value.ref 101) _) _ _ _)
  | (with_reducible show wpAny _ _ (call (Value.ref 108) _) _ _ _)
  | (with_reducible show wpAny _ _ (call (Value.ref 115) _) _ _ _)
  | (with_reducible show wpAny _ _ (call (Value.ref 122) _) _ _ _)
  | (with_reducible show wpAny _ _ (call (Value.ref 178) _) _ _ _)
  | (with_reducible show wpAny _ _ (call (Value.ref 183) _) _ _ _)
  | (with_reducible show wpAny _ _ (call (Value.ref 190) _) _ _ _)
  | (with_reducible show wpAny _ _ (call (Value.ref 195) _) _ _ _))
local macro_rules | `(tactic| walk_at "m_steps") => `(tactic| repeat' ((fail_if_success (walk_at "m_stop")); (first | (k_unfold; (try dsimp only)) | (k_end; wrow_close) | walk1 | (dsimp only; walk1) | (leave1; walk_say "STEP leave1"; try dsimp only) | fail "no step")))
local macro_rules | `(tactic| k_all) => `(tactic| first
  | with_reducible assumption
  | exact List.forall_mem_nil _
  | ((with_reducible refine' List.forall_mem_cons.mpr ⟨?a9, ?b9⟩); (case a9 => k_ne); (case b9 => k_all))
  | ((with_reducible refine' List.forall_mem_append.mpr ⟨?a9, ?b9⟩); (case a9 => k_all); (case b9 => k_all))
  | walk_at "m_ne"
  | fail "k_all")
local macro_rules | `(tactic| walk_at "m_front") => `(tactic| first
  | (with_reducible exact Front.head)
  | ((with_reducible refine' Front.skip ?f9); (case f9 => walk_at "m_front"))
  | ((with_reducible refine' Front.tail ?f9); (case f9 => walk_at "m_front"))
  | ((with_reducible refine' Front.app ?f9); (case f9 => walk_at "m_front"))
  | fail "m_front")
local macro_rules | `(tactic| walk_at "m_frontK") => `(tactic| first
  | (with_reducible exact Front.head)
  | ((with_reducible refine' Front.tail ?f9); (case f9 => walk_at "m_frontK"))
  | ((with_reducible refine' Front.app ?f9); (case f9 => walk_at "m_frontK"))
  | fail "m_frontK")
local macro_rules | `(tactic| size_fits) => `(tactic| first | ((with_reducible refine' fits_small ?h9); (case h9 => with_reducible assumption)) | fail "no size")
local macro_rules | `(tactic| walk_at "m_sub") => `(tactic| first
  | exact List.forall_mem_nil _
  | ((refine' List.forall_mem_cons.mpr ⟨?a9, ?b9⟩); (case a9 => k_mem); (case b9 => walk_at "m_sub"))
  | ((refine' List.forall_mem_append.mpr ⟨?a9, ?b9⟩); (case a9 => walk_at "m_sub"); (case b9 => walk_at "m_sub"))
  | (intro p9 hp9; k_mem)
  | fail "m_sub")

/-! ## loops, by an invariant over frame and ledger -/
inductive LoopEnd (h₀ : Heap) (L I : Addr) (oI : Obj) (J : (Str → Option Value) → News1 → Prop) (s₁ s₂ : Shared) : Prop where
  | mk : ∀ h' tk m' nx, (s₂ = { s₁ with heap := h', toks := tk }) → (Fr h₀ L h' m') → (News h₀ L h' ((I, oI) :: nx)) → ((∀ p ∈ nx, p.1 ≠ I)) → (J m' nx) → LoopEnd h₀ L I oI J s₁ s₂
theorem LoopEnd.intro {h₀ h' : Heap} {L I : Addr} {oI : Obj} {J : (Str → Option Value) → News1 → Prop} {s₁ : Shared} {tk : Nat} {m' : Str → Option Value} {all : News1} (F : Fr h₀ L h' m') (N : News h₀ L h' all) (nx : News1)
    (sub : ∀ p ∈ (I, oI) :: nx, p ∈ all) (off : ∀ p ∈ nx, p.1 ≠ I) (hJ : J m' nx) : LoopEnd h₀ L I oI J s₁ { s₁ with heap := h', toks := tk } :=
  ⟨h', tk, m', nx, rfl, F, fun p hp => N p (sub p hp), off, hJ⟩
def LoopPost (h₀ : Heap) (L I : Addr) (oI : Obj) (J : (Str → Option Value) → News1 → Prop) (s₁ : Shared) (Q : Flow → Shared → Prop) (f : Flow) (s₂ : Shared) : Prop := match f with
  | .ret v => Q (.ret v) s₂
  | .brk => Q .next s₂
  | _ => LoopEnd h₀ L I oI J s₁ s₂
section
variable {prog : Program} {w : World} {A : Around} {E : Value → Shared → Prop} {s : Shared} {env : Env} {h₀ : Heap} {target : Expr} {body : List Stmt} {Q : Flow → Shared → Prop}
inductive LoopAt (prog : Program) (w : World) (A : Around) (h₀ : Heap) (env : Env) (target : Expr) (body : List Stmt) (Q : Flow → Shared → Prop) (E : Value → Shared → Prop) (it : Value) (s₂ : Shared) : Prop where
  | mk : ∀ (I : Addr) (fp : List Addr) (n : Nat) (P : Nat → Value → Prop) (St : Nat → Heap → Prop) (m : Str → Option Value) (news : News1) (J : Nat → (Str → Option Value) → News1 → Prop), (it = .ref I) → (Walks prog w A I fp [I] n P St) → (env.locals ∉ fp) → (h₀.get? I = none) → ((∀ p ∈ news, p.1 ≠ I)) → (St 0 s₂.heap) → ((∀ i h, St i h → ∃ o, h.get? I = some o)) → ((∀ i (s' : Shared) v (Q' : Unit → Shared → Prop) (E' : Value → Shared → Prop), St i s'.heap → Q' () s' → wpAny (model prog w) A (letOwnedTupleGo target (.ref I) v) Q' E' s')) → (Fr h₀ env.locals s₂.heap m) → (News h₀ env.locals s₂.heap news) → (J 0 m news) → ((∀ b ∈ fp, b ≠ I → (∃ o, h₀.get? b = some o) ∨ ∃ ob, ∀ i m nx, J i m nx → (b, ob) ∈ nx)) → ((∀ i v m₁ nx oI h tk, i < n → P i v → J i m₁ nx → (∀ p ∈ nx, p.1 ≠ I) → Fr h₀ env.locals h m₁ → News h₀ env.locals h ((I, oI) :: nx) → wpAny (model prog w) A (assign target env v) (fun _ s' => wpAny (model prog w) A (execs body env) (LoopPost h₀ env.locals I oI (J (i + 1)) { s₂ with heap := h, toks := tk } Q) E s') E { s₂ with heap := h, toks := tk })) → (∀ h tk m' nx, Fr h₀ env.locals h m' → News h₀ env.locals h nx → J n m' nx → Q .next { s₂ with heap := h, toks := tk }) → LoopAt prog w A h₀ env target body Q E it s₂
theorem For_rule {iter : Expr} {pos : Pos} (h₀ : Heap)
    (h : wpAny (model prog w) A (eval iter env) (fun xv s₁ => wpAny (model prog w) A (pyIter xv) (fun it s₂ => LoopAt prog w A h₀ env target body Q E it s₂) E s₁) E s)
    (hs : ∀ x, foldedSetIterable iter env x = pure x := by intro _; rfl)
    (hE : PassesOwn (model prog w) A env E := by passes_own) :
    wpAny (model prog w) A (exec (.For target iter body [] pos) env) Q E s := by
  refine wpAny_For (wpAny_mono h (fun xv s₁ h₁ => wpAny_mono h₁ (fun it s₂ h₂ => ?_) fun _ _ e => e) fun _ _ e => e) hs
  obtain ⟨I, fp, n, P, St, m, news, J, rfl, W, hLf, hI, hnw, hst, hob, hgo, F, N, h0, hsrc, turn, done⟩ := h₂
  have hIf : I ∈ fp := W.sub I (List.mem_singleton.mpr rfl)
  have hLI : env.locals ≠ I := fun e => hLf (e ▸ hIf)
  refine codeAny_forLoop_any
    (fun k s' => ∃ h' tk m' nx i, s' = { s₂ with heap := h', toks := tk } ∧ St i h' ∧ Fr h₀ env.locals h' m' ∧ News h₀ env.locals h' nx ∧ (∀ p ∈ nx, p.1 ≠ I) ∧ J i m' nx ∧ i ≤ n ∧ k = n + 1 - i) ?_ (n + 1)
    ⟨s₂.heap, s₂.toks, m, news, 0, rfl, hst, F, N, hnw, h0, Nat.zero_le _, rfl⟩
  rintro k s' ⟨h', tk, m', nx, i, rfl, hst', F', N', hoff, hJ, hi, rfl⟩
  have next : ∀ h₁ : Heap, (∀ b o, b ∉ [I] → h'.get? b = some o → h₁.get? b = some o) → Fr h₀ env.locals h₁ m' ∧ News h₀ env.locals h₁ nx := fun h₁ hk₁ =>
    ⟨⟨F'.ns.at' fun o e => hk₁ _ o (by simpa using hLI) e, fun b o e => hk₁ b o (fun q => by rw [List.mem_singleton.mp q, hI] at e; cases e) (F'.keep b o e), F'.above⟩,
      fun p hp => ⟨hk₁ _ _ (by simpa using hoff p hp) (N' p hp).1, (N' p hp).2⟩⟩
  by_cases hlt : i < n
  · refine W.item i _ _ _ hlt hst' fun v h₁ tk₁ hP hst₁ hk₁ => ?_
    obtain ⟨F₁, N₁⟩ := next h₁ hk₁
    obtain ⟨oI, heI⟩ := hob _ _ hst₁
    have N₂ : News h₀ env.locals h₁ ((I, oI) :: nx) := fun p hp => by
      rcases List.mem_cons.mp hp with rfl | hp
      · exact ⟨heI, Ne.symm hLI, hI⟩
      · exact N₁ p hp
    refine hgo _ _ _ _ _ hst₁ ?_
    have fin : ∀ s₃, LoopEnd h₀ env.locals I oI (J (i + 1)) { s₂ with heap := h₁, toks := tk₁ } s₃ → ∃ m, m < n + 1 - i ∧ ∃ h' tk m' nx i, s₃ = { s₂ with heap := h', toks := tk } ∧ St i h' ∧ Fr h₀ env.locals h' m' ∧ News h₀ env.locals h' nx ∧ (∀ p ∈ nx, p.1 ≠ I) ∧ J i m' nx ∧ i ≤ n ∧ m = n + 1 - i := by
      rintro s₃ ⟨h₃, tk₃, m₃, nx₃, rfl, F₃, N₃, off₃, hJ₃⟩
      refine ⟨n + 1 - (i + 1), by omega, h₃, tk₃, m₃, nx₃, i + 1, rfl, ?_, F₃, fun p hp => N₃ p (List.mem_cons_of_mem _ hp), off₃, hJ₃, hlt, rfl⟩
      refine W.frame _ _ _ hst₁ fun b hb o e => ?_
      by_cases hbI : b = I
      · subst hbI
        rw [heI] at e; cases e
        exact (N₃ _ List.mem_cons_self).1
      · rcases hsrc b hb hbI with ⟨o₀, e₀⟩ | ⟨ob, hob'⟩
        · have q := F₁.keep b o₀ e₀
          rw [e] at q; cases q
          exact F₃.keep b _ e₀
        · have q := (N₁ _ (hob' _ _ _ hJ)).1
          dsimp only at q
          rw [e] at q; cases q
          exact (N₃ _ (List.mem_cons_of_mem _ (hob' _ _ _ hJ₃))).1
    refine wpAny_passesOwn hE (wpAny_mono (turn i v m' nx oI h₁ tk₁ hlt hP hJ hoff F₁ N₂) (fun _ s₃ h₃ => wpAny_mono (wpAny_passesOwn hE h₃) (fun f s₄ h₄ => ?_) fun _ _ e => e) fun _ _ e => e)
    cases f with
    | ret v => exact h₄
    | brk => exact h₄
    | cont => exact fin _ h₄
    | next => exact fin _ h₄
  · have hin : i = n := by omega
    subst hin
    refine W.done _ _ _ hst' fun h₁ tk₁ hk₁ => wpAny_execs_nil ?_
    obtain ⟨F₁, N₁⟩ := next h₁ hk₁
    exact done h₁ tk₁ m' nx F₁ N₁ hJ
end
section
variable {prog : Program} {w : World} {A : Around} {E : Value → Shared → Prop} {s : Shared} {env : Env} {h₀ : Heap} {target : Expr} {body : List Stmt} {Q : Flow → Shared → Prop}
theorem letGo_iter {c : String} {I : Addr} {v : Value} {o : Obj} {Q' : Unit → Shared → Prop} (ho : s.heap.get? I = some o) (hc : o.cls = .type c)
    (hn : (["enumerate", "zip", "dict_itemiterator", "dict_reverseitemiterator", "odict_iterator", "itertools.zip_longest", "itertools.pairwise"] : List String).contains c = false) (h : Q' () s) :
    wpAny (model prog w) A (letOwnedTupleGo target (.ref I) v) Q' E s := by
  have key : ∀ a : Addr, wpAny (model prog w) A (do
      let o ← load I
      match o.cls, o.data with
      | .type n, .fields vs =>
        if ["enumerate", "zip", "dict_itemiterator", "dict_reverseitemiterator", "odict_iterator", "itertools.zip_longest", "itertools.pairwise"].contains n && vs[0]? == some (rawInt a) then
          rule "for.unpacks-the-owned-tuple"
          updateField I 0 .none
      | _, _ => pure ()) Q' E s := by
    intro a
    refine wpAny_bind (wpAny_load ho ?_)
    obtain ⟨cl, d, dt, sl⟩ := o
    simp only at hc
    subst hc
    cases dt <;> first | exact wpAny_pure h | (dsimp only; rw [hn, Bool.false_and]; exact wpAny_pure h)
  unfold letOwnedTupleGo
  split
  · cases v <;> first | exact wpAny_pure h | exact key _
  · cases v <;> first | exact wpAny_pure h | exact key _
  · exact wpAny_pure h

theorem loop_range {r : Addr} {a b c : Int} {t u v : Tok} {n : Nat} {m₀ : Str → Option Value} {news : News1} (J : Nat → (Str → Option Value) → News1 → Prop)
    (hh : A.handled = none) (hr : IsRange s.heap r a b c t u v) (hsmall : Builtin.Range.small a b c = true) (hn : Builtin.Range.rangeSize a b c = (n : Int)) (F : Fr h₀ env.locals s.heap m₀) (N : News h₀ env.locals s.heap news) (hj : J 0 m₀ news)
    (turn : ∀ i m₁ nx I oI h tk t, i < n → J i m₁ nx → (∀ p ∈ nx, p.1 ≠ I) → Fr h₀ env.locals h m₁ → News h₀ env.locals h ((I, oI) :: nx) →
      wpAny (model prog w) A (assign target env (.int (a + (i : Int) * c) t)) (fun _ s' => wpAny (model prog w) A (execs body env) (LoopPost h₀ env.locals I oI (J (i + 1)) { s with heap := h, toks := tk } Q) E s') E { s with heap := h, toks := tk })
    (done : ∀ m' nx h tk, J n m' nx → Fr h₀ env.locals h m' → News h₀ env.locals h nx → Q .next { s with heap := h, toks := tk }) :
    wpAny (model prog w) A (pyIter (.ref r)) (fun it s₂ => LoopAt prog w A h₀ env target body Q E it s₂) E s := by
  refine wpAny_pyIter_range hr hsmall ?_
  have W := Walks.range (prog := prog) (w := w) hh s.heap.objs.size a c n
  have hLlt : env.locals < s.heap.objs.size := F.ns.lt
  refine ⟨_, _, n, _, _, m₀, news, J, rfl, W, ?_, next_is_new F, ?_, ?_, ?_, ?_, F.push _, (fun p hp => ⟨Heap.get?_push_of_some _ (N p hp).1, (N p hp).2⟩), hj, ?_, ?_, ?_⟩
  · intro hm
    exact absurd hLlt ((List.mem_singleton.mp hm) ▸ Nat.lt_irrefl _)
  · intro p hp hI
    exact absurd (Heap.lt_size (N p hp).1) (hI ▸ Nat.lt_irrefl _)
  · show IsRangeIter _ _ _ _ _
    rw [hn]
    simpa using Heap.get?_push_size _ rfl
  · exact fun i h hi => ⟨_, hi⟩
  · exact fun i s' v Q' E' hi hq => letGo_iter (c := "range_iterator") hi rfl (by decide) hq
  · exact fun b hb hne => absurd (List.mem_singleton.mp hb) hne
  · rintro i v m₁ nx oI h tk hi ⟨t, rfl⟩ hJ off F₁ N₁
    exact turn i m₁ nx _ oI h tk t hi hJ off F₁ N₁
  · exact fun h tk m' nx F' N' hJ => done m' nx h tk hJ F' N'

theorem loop_list {l : Addr} {items : List Value} {k : Nat} {m₀ : Str → Option Value} {news : News1} (J : Nat → (Str → Option Value) → News1 → Prop)
    (hh : A.handled = none) (hl : (l, listOf items.toArray k) ∈ news) (hJs : ∀ i m nx, J i m nx → (l, listOf items.toArray k) ∈ nx) (F : Fr h₀ env.locals s.heap m₀) (N : News h₀ env.locals s.heap news) (hj : J 0 m₀ news)
    (turn : ∀ i v m₁ nx I oI h tk, items[i]? = some v → J i m₁ nx → (∀ p ∈ nx, p.1 ≠ I) → Fr h₀ env.locals h m₁ → News h₀ env.locals h ((I, oI) :: nx) →
      wpAny (model prog w) A (assign target env v) (fun _ s' => wpAny (model prog w) A (execs body env) (LoopPost h₀ env.locals I oI (J (i + 1)) { s with heap := h, toks := tk } Q) E s') E { s with heap := h, toks := tk })
    (done : ∀ m' nx h tk, J items.length m' nx → Fr h₀ env.locals h m' → News h₀ env.locals h nx → Q .next { s with heap := h, toks := tk }) :
    wpAny (model prog w) A (pyIter (.ref l)) (fun it s₂ => LoopAt prog w A h₀ env target body Q E it s₂) E s := by
  have hls := N.isList hl
  have hlt : l < s.heap.objs.size := Heap.lt_size (N.get hl)
  have hLlt : env.locals < s.heap.objs.size := F.ns.lt
  refine wpAny_pyIter_list hls ?_
  have W := Walks.list (prog := prog) (w := w) hh s.heap.objs.size l (Nat.ne_of_lt hlt) items.toArray
  rw [List.size_toArray] at W
  refine ⟨_, _, items.length, _, _, m₀, news, J, rfl, W, ?_, next_is_new F, ?_, ?_, ?_, ?_, F.push _, (fun p hp => ⟨Heap.get?_push_of_some _ (N p hp).1, (N p hp).2⟩), hj, ?_, ?_, ?_⟩
  · intro hm
    rcases List.mem_cons.mp hm with e | hm
    · exact absurd hLlt (e ▸ Nat.lt_irrefl _)
    · exact (N _ hl).2.1 (List.mem_singleton.mp hm).symm
  · intro p hp hI
    exact absurd (Heap.lt_size (N p hp).1) (hI ▸ Nat.lt_irrefl _)
  · exact ⟨⟨_, Heap.get?_push_size _ rfl, rfl, rfl⟩, hls.at fun o e => Heap.get?_push_of_some _ e⟩
  · exact fun i h hi => let ⟨o, ho, _⟩ := hi.1; ⟨o, ho⟩
  · exact fun i s' v Q' E' hi hq => let ⟨o, ho, hc, _⟩ := hi.1; letGo_iter (c := "list_iterator") ho hc (by decide) hq
  · intro b hb hne
    rcases List.mem_cons.mp hb with e | hm
    · exact absurd e hne
    · obtain rfl := List.mem_singleton.mp hm
      exact .inr ⟨_, hJs⟩
  · rintro i v m₁ nx oI h tk hi hv hJ off F₁ N₁
    exact turn i v m₁ nx _ oI h tk (by simpa using hv) hJ off F₁ N₁
  · exact fun h tk m' nx F' N' hJ => done m' nx h tk hJ F' N'

abbrev tupOf (its : Array Value) (n : Nat) : Obj := { cls := .type "tuple", data := .seq its n }
theorem loop_tuple {l : Addr} {items : List Value} {k : Nat} {m₀ : Str → Option Value} {news : News1} (J : Nat → (Str → Option Value) → News1 → Prop)
    (hh : A.handled = none) (hl : (l, tupOf items.toArray k) ∈ news) (hJs : ∀ i m nx, J i m nx → (l, tupOf items.toArray k) ∈ nx) (F : Fr h₀ env.locals s.heap m₀) (N : News h₀ env.locals s.heap news) (hj : J 0 m₀ news)
    (turn : ∀ i v m₁ nx I oI h tk, items[i]? = some v → J i m₁ nx → (∀ p ∈ nx, p.1 ≠ I) → Fr h₀ env.locals h m₁ → News h₀ env.locals h ((I, oI) :: nx) →
      wpAny (model prog w) A (assign target env v) (fun _ s' => wpAny (model prog w) A (execs body env) (LoopPost h₀ env.locals I oI (J (i + 1)) { s with heap := h, toks := tk } Q) E s') E { s with heap := h, toks := tk })
    (done : ∀ m' nx h tk, J items.length m' nx → Fr h₀ env.locals h m' → News h₀ env.locals h nx → Q .next { s with heap := h, toks := tk }) :
    wpAny (model prog w) A (pyIter (.ref l)) (fun it s₂ => LoopAt prog w A h₀ env target body Q E it s₂) E s := by
  have hls : s.heap.IsTuple l items.toArray := ⟨_, (N _ hl).1, rfl, _, rfl⟩
  have hlt : l < s.heap.objs.size := Heap.lt_size (N.get hl)
  have hLlt : env.locals < s.heap.objs.size := F.ns.lt
  refine wpAny_pyIter_tuple hls ?_
  have W := Walks.tuple (prog := prog) (w := w) hh s.heap.objs.size l (Nat.ne_of_lt hlt) items.toArray
  rw [List.size_toArray] at W
  refine ⟨_, _, items.length, _, _, m₀, news, J, rfl, W, ?_, next_is_new F, ?_, ?_, ?_, ?_, F.push _, (fun p hp => ⟨Heap.get?_push_of_some _ (N p hp).1, (N p hp).2⟩), hj, ?_, ?_, ?_⟩
  · intro hm
    rcases List.mem_cons.mp hm with e | hm
    · exact absurd hLlt (e ▸ Nat.lt_irrefl _)
    · exact (N _ hl).2.1 (List.mem_singleton.mp hm).symm
  · intro p hp hI
    exact absurd (Heap.lt_size (N p hp).1) (hI ▸ Nat.lt_irrefl _)
  · exact ⟨⟨_, Heap.get?_push_size _ rfl, rfl, rfl⟩, hls.at fun o e => Heap.get?_push_of_some _ e⟩
  · exact fun i h hi => let ⟨o, ho, _⟩ := hi.1; ⟨o, ho⟩
  · exact fun i s' v Q' E' hi hq => let ⟨o, ho, hc, _⟩ := hi.1; letGo_iter (c := "tuple_iterator") ho hc (by decide) hq
  · intro b hb hne
    rcases List.mem_cons.mp hb with e | hm
    · exact absurd e hne
    · obtain rfl := List.mem_singleton.mp hm
      exact .inr ⟨_, hJs⟩
  · rintro i v m₁ nx oI h tk hi hv hJ off F₁ N₁
    exact turn i v m₁ nx _ oI h tk (by simpa using hv) hJ off F₁ N₁
  · exact fun h tk m' nx F' N' hJ => done m' nx h tk hJ F' N'
end
theorem For_ruleF {prog : Program} {w : World} {A : Around} {E : Value → Shared → Prop} {s : Shared} {env : Env} {h₀ : Heap} {target : Expr} {body : List Stmt} {Q : Flow → Shared → Prop} {iter : Expr} {pos : Pos} {m : Str → Option Value} (F : Fr h₀ env.locals s.heap m)
    (h : wpAny (model prog w) A (eval iter env) (fun xv s₁ => wpAny (model prog w) A (pyIter xv) (fun it s₂ => LoopAt prog w A h₀ env target body Q E it s₂) E s₁) E s)
    (hs : ∀ x, foldedSetIterable iter env x = pure x := by intro _; rfl)
    (hE : PassesOwn (model prog w) A env E := by passes_own) :
    wpAny (model prog w) A (exec (.For target iter body [] pos) env) Q E s := For_rule h₀ h hs hE

/-! ## comprehensions -/
section
variable {prog : Program} {w : World} {A : Around} {E : Value → Shared → Prop} {s : Shared} {h₀ : Heap} {L : Addr} {m : Str → Option Value} {env : Env}
theorem comp_rest {elt : Expr} {x : Str} {scope : Scope} {cl : List (Str × Addr)} {S : News1 → Prop} {P : Nat → Value → Prop} {Fin : List Value → News1 → Prop} {n : Nat} {news : News1} (J : Nat → List Value → News1 → Prop) (hj : J 0 [] news)
    (turn : ∀ i v ys nx I oI C oC D m₂ h tk (E' : Value → Shared → Prop), i < n → P i v → J i ys nx → LCg.NsObj oC m₂ → m₂ x = some v → Fr h₀ L h m → News h₀ L h ((I, oI) :: (C, oC) :: (D, LCg.lst ys) :: nx) → LCg.Off3 I C D nx → ((@Ne Nat I C) ∧ (@Ne Nat I D) ∧ (@Ne Nat C D)) →
      wpAny (model prog w) A (eval elt (compEnvC scope cl C env)) (LCg.CompEnd h₀ L m { s with heap := h, toks := tk } I oI C oC D (LCg.lst ys) S (fun y nx' => J (i + 1) (ys ++ [y]) nx')) E' { s with heap := h, toks := tk })
    (fin : ∀ ys nx, J n ys nx → Fin ys nx) : LCg.CompRest prog w A h₀ L m env elt x scope cl s S P Fin n 0 [] news := by
  have key : ∀ k i ys nx, i + k = n → J i ys nx → LCg.CompRest prog w A h₀ L m env elt x scope cl s S P Fin k i ys nx := by
    intro k
    induction k with
    | zero =>
      intro i ys nx e hJ
      have : i = n := by omega
      subst this
      exact LCg.CompRest.zero (fin _ _ hJ)
    | succ k ih =>
      intro i ys nx e hJ
      refine LCg.CompRest.succ ?_
      intro v I oI C oC D m₂ h tk E' hP hC hx F N off ne
      refine wpAny_mono (turn i v ys nx I oI C oC D m₂ h tk E' (by omega) hP hJ hC hx F N off ne) (fun y s₂ q => ?_) fun _ _ e => e
      obtain ⟨h', tk', nx', e', F', N', off', hS, hJ'⟩ := q
      exact ⟨h', tk', nx', e', F', N', off', hS, ih (i + 1) _ _ (by omega) hJ'⟩
  exact key n 0 [] news (by omega) hj

inductive CompAt (prog : Program) (w : World) (A : Around) (h₀ : Heap) (L : Addr) (m : Str → Option Value) (env : Env) (elt : Expr) (x : Str) (scope : Scope) (cl : List (Str × Addr)) (Fin : Shared → List Value → News1 → Prop) (it : Value) (s₂ : Shared) : Prop where
  | mk : ∀ I fp n P St S news, (it = .ref I) → (Walks prog w A I fp [I] n P St) → (n ≤ sizeLine) → ((∀ i h, St i h → ∃ o, h.get? I = some o)) → ((∀ i h h' o nw, St i h → h.get? I = some o → h'.get? I = some o → (∀ b o, h₀.get? b = some o → h'.get? b = some o) → News h₀ L h' nw → S nw → St i h')) → (St 0 s₂.heap) → ((∀ b ∈ fp, b < s₂.heap.objs.size)) → (Fr h₀ L s₂.heap m) → (News h₀ L s₂.heap news) → (L ≠ I) → (h₀.get? I = none) → ((∀ p ∈ news, p.1 ≠ I)) → (S news) → (LCg.CompRest prog w A h₀ L m env elt x scope cl s₂ S P (Fin s₂) n 0 [] news) → CompAt prog w A h₀ L m env elt x scope cl Fin it s₂
theorem ListComp_W {elt iter : Expr} {x : Str} {px : Pos} {scope : Scope} {cl : List (Str × Addr)} {pos : Pos} {Q : Value → Shared → Prop} (F₀ : Fr h₀ L s.heap m)
    (hclos : closureFor scope env = pure cl) (hcell : ∀ y ∈ scope.names, y.2 ≠ .cell) (hkind : scope.kind = .function)
    (hnames : ∀ y ∈ scope.names, y.2 = .local → scope.names.lookup y.1 = some .local) (hx : scope.names.lookup x = some .local)
    (h : wpAny (model prog w) A (eval iter env) (fun xv s₁ => wpAny (model prog w) A (pyIter xv) (fun it s₂ => CompAt prog w A h₀ L m env elt x scope cl (fun s₂ => LCg.FinE h₀ L m s₂ Q) it s₂) E s₁) E s)
    (hs : ∀ x, foldedSetIterable iter env x = pure x := by intro _; rfl) :
    wpAny (model prog w) A (eval (.ListComp elt [⟨.Name x px, iter, [], 0⟩] scope pos) env) Q E s := by
  rw [eval_ListComp]
  refine wpAny_comprehension_free (use := none) rfl hs hclos hkind hnames (wpAny_mono h (fun xv s₁ h₁ => wpAny_mono h₁ (fun it s₂ h₂ => ?_) fun _ _ e => e) fun _ _ e => e)
  obtain ⟨I, fp, n, P, St, S, news, rfl, W, hsz, hIo, hSt, hst, hfp, F, N, hIL, hI₀, off, hS, R⟩ := h₂
  refine LCg.block_U W hsz hIo hSt hcell hkind hx hst hfp F N hIL hI₀ off hS R ?_
  intro D C h tk m' ys news' F' N' o1 hn hC₀ hD₀ hCL hDL hCD offC fin
  refine ⟨m', hn, fun h'' hs'' => fin D h'' tk (F'.change hs'' hCL hC₀) (fun p hp => ?_) o1⟩
  refine ⟨hs''.extBut _ _ ?_ (N' p hp).1, (N' p hp).2⟩
  rcases List.mem_cons.mp hp with rfl | hp
  · exact Ne.symm hCD
  · exact offC p hp
theorem comp_str {elt : Expr} {x : Str} {scope : Scope} {cl : List (Str × Addr)} {Fin : Shared → List Value → News1 → Prop} {y : Str} {t : Tok} {news : News1} (hh : A.handled = none) (F : Fr h₀ L s.heap m) (N : News h₀ L s.heap news) (hsz : y.cps.size ≤ sizeLine)
    (R : ∀ g, LCg.CompRest prog w A h₀ L m env elt x scope cl { s with heap := g } (fun _ => True) (SignAt y) (Fin { s with heap := g }) y.cps.size 0 [] news) :
    wpAny (model prog w) A (pyIter (.str y t)) (fun it s₂ => CompAt prog w A h₀ L m env elt x scope cl Fin it s₂) E s := by
  have one : ∀ (o : Obj) (c : String), Walks prog w A s.heap.objs.size [s.heap.objs.size] [s.heap.objs.size] y.cps.size (SignAt y) (fun i h => h.IsStrIter s.heap.objs.size c y t i) → (s.heap.push o).IsStrIter s.heap.objs.size c y t 0 →
      CompAt prog w A h₀ L m env elt x scope cl Fin (.ref s.heap.objs.size) { s with heap := s.heap.push o } := by
    intro o c W h0
    refine ⟨_, _, _, _, _, fun _ => True, news, rfl, W, hsz, fun i h hi => let ⟨o, ho, _⟩ := hi; ⟨o, ho⟩, ?_, h0, ?_, F.push _, fun p hp => ⟨Heap.get?_push_of_some _ (N p hp).1, (N p hp).2⟩, Nat.ne_of_lt F.ns.lt, next_is_new F, fun p hp => Nat.ne_of_lt (Heap.lt_size (N p hp).1), trivial, R _⟩
    · intro i h h' o nw st e e' _ _ _
      obtain ⟨o', q, r⟩ := st
      rw [e] at q; cases q
      exact ⟨o, e', r⟩
    · intro b hb
      rw [List.mem_singleton.mp hb]
      show s.heap.objs.size < (s.heap.push _).objs.size
      rw [Heap.size_push]; exact Nat.lt_succ_self _
  cases ha : y.cps.all (· < 128)
  · exact wpAny_pyIter_wide ha (one _ _ (Walks.strWide hh _ y t) ⟨_, Heap.get?_push_size _ rfl, rfl, rfl⟩)
  · exact wpAny_pyIter_ascii ha (one _ _ (Walks.strAscii hh _ y t) ⟨_, Heap.get?_push_size _ rfl, rfl, rfl⟩)
end

theorem sum_ones : ∀ {l : List (Str × Tok)}, (∀ p ∈ l, p.1.length = 1) → ((l.map (·.1)).map (·.length)).sum = l.length
  | [], _ => rfl
  | p :: l, h => by
    rw [List.map_cons, List.map_cons, List.sum_cons, sum_ones fun q hq => h q (.tail _ hq), h p (.head _), List.length_cons]
    omega
theorem strValues_snoc (x : Str) (t : Tok) : ∀ l : List (Str × Tok), strValues (l ++ [(x, t)]) = strValues l ++ [.str x t]
  | [] => rfl
  | p :: l => by
    show _ :: strValues (l ++ [(x, t)]) = _ :: (strValues l ++ [.str x t])
    rw [strValues_snoc x t l]
theorem cte_small : ∀ c ∈ (Str.ofString "content-transfer-encoding").cps, c < 128 := by decide +kernel
theorem lower_does (w : World) (mean : ExcName → Option Value) (mg mb : Str → Option Value) (tk : Tok) (news : News1) :
    Does w mean mg mb 33 4 [.str (Str.ofString "content-transfer-encoding") tk] news (fun r news' => Ext news news' ∧ ∃ x t, r = .str x t) := by
  have hk : PySem.Challenge.rw_no0359_01.row.prog = PySem.Challenge.rw_no0359_01.row.prog := rfl
  unfold Does
  k_fill
  intro dp un gd cn cs a ccd cl outer A₀ base h₀ L m s Q E B F X N T hk hd hu hret
  refine wpAny_call ?_
  k_dflt walk_at "m_enter"
  walk_at "m_steps"
  k_dflt (refine ListComp_W (by k_asm) (by rfl) (by decide) (by rfl) (by decide) (by rfl) ?_)
  walk_at "m_steps"
  k_dflt (refine comp_str (by rfl) (by k_asm) (by k_asm) (by decide +kernel) ?_)
  intro g
  refine comp_rest (fun i ys nx => nx = news ∧ ∃ l : List (Str × Tok), strValues l = ys ∧ l.length = i ∧ ∀ p ∈ l, p.1.length = 1) ⟨rfl, [], rfl, rfl, fun _ h => nomatch h⟩ ?_ ?_
  · rintro i v ys nx I oI C oC D m₂ h9 tk9 E' hi ⟨c, u, hc, rfl⟩ ⟨rfl, l, rfl, hl, hone⟩ hC hx F' N' off ne
    have hc9 : c < 128 := cte_small c (Array.mem_of_getElem? hc)
    try k_fold
    walk_at "m_steps"
    all_goals
      k_unfold
      refine LCg.CompEnd.intro (by k_asm) (by k_asm) nx (fun p hp => hp) off trivial ⟨rfl, l ++ [(_, _)], strValues_snoc _ _ l, by rw [List.length_append, hl]; rfl, ?_⟩
      intro p hp
      rcases List.mem_append.mp hp with hp | hp
      · exact hone p hp
      · rw [List.mem_singleton.mp hp]; rfl
  · rintro ys nx ⟨rfl, l, rfl, hl, hone⟩
    unfold LCg.FinE
    intro D h9 tk9 F' N' off
    walk_at "m_steps"
    refine SC.join (News.isList (by k_asm) (by k_mem)) rfl (joinOk_of_weight ?_ (by decide)) ?_
    · rw [sum_ones hone, List.length_map, hl]
      decide +kernel
    · intro t' k'
      walk_at "m_steps"
      exact hret _ _ _ _ (by k_asm) (by k_asm) ⟨by walk_at "m_ext", _, _, rfl⟩

theorem enc_does (w : World) (mean : ExcName → Option Value) (mg mb : Str → Option Value) (fl : Addr) (k : Nat) (news : News1) (hfl : (fl, listOf ([] : List Value).toArray k) ∈ news) :
    Does w mean mg mb 94 8 [.ref fl] news (fun r news' => news' = news ∧ ∃ t, r = .str (Str.ofString "7bit") t) := by
  have hk : PySem.Challenge.rw_no0359_01.row.prog = PySem.Challenge.rw_no0359_01.row.prog := rfl
  unfold Does
  k_fill
  intro dp un gd cn cs a ccd cl outer A₀ base h₀ L m s Q E B F X N T hk hd hu hret
  refine wpAny_call ?_
  k_dflt walk_at "m_enter"
  walk_at "m_steps"
  k_dflt walk_at "m_does"
  case kD => exact lower_does _ _ _ _ _ _
  case kd => walk_at "m_room"
  case ku => walk_at "m_units"
  rintro G9 hG9 r news' h' tk' F' N' ⟨hext, x, t, rfl⟩
  refine hG9 _ _ ?_
  have hfl' := hext.sub _ hfl
  walk_at "m_steps"
  k_dflt (refine For_ruleF (by k_asm) ?_)
  walk_at "m_steps"
  k_dflt (refine loop_list (fun _ m nx => m (Str.ofString "word") = m (Str.ofString "word") ∧ nx = news') (by rfl) (by k_mem) (fun i m nx hJ => by rw [hJ.2]; exact hfl') (by k_asm) (by k_asm) ⟨rfl, rfl⟩ ?_ ?_)
  · intro i v m₁ nx I oI h9 tk9 hi
    simp at hi
  · rintro m9 nx h9 tk9 ⟨_, rfl⟩ F9 N9
    walk_at "m_steps"
    exact hret _ _ _ _ (by k_asm) (news_sub (by k_asm) hext.sub) ⟨rfl, _, rfl⟩

theorem len_led {prog : Program} {w : World} {A : Around} {E : Value → Shared → Prop} {s : Shared} {h₀ : Heap} {L l : Addr} {news : News1} {vs : List Value} {k : Nat} {Q : Value → Shared → Prop}
    (N : News h₀ L s.heap news) (hl : (l, listOf vs.toArray k) ∈ news) (hfit : (vs.length : Int) < 2 ^ 63) (h : Q (.int vs.length (s.toks + 1)) { s with toks := s.toks + 1 + 1 }) : wpAny (model prog w) A (call (.builtin "len") [.ref l]) Q E s :=
  len_list (N.isList hl) (by rw [List.size_toArray]; exact hfit) (by rw [List.size_toArray]; exact h)
theorem item_led {prog : Program} {w : World} {A : Around} {E : Value → Shared → Prop} {s : Shared} {h₀ : Heap} {L l : Addr} {news : News1} {vs : List Value} {k : Nat} {value slice : Expr} {i : Int} {u : Tok} {x : Value} {Q : Value → Shared → Prop}
    (N : News h₀ L s.heap news) (hl : (l, listOf vs.toArray k) ∈ news) (h0 : 0 ≤ i) (hfit : i < 2 ^ 63) (hx : vs[i.toNat]? = some x) (h : Q x s)
    (hs : subscripted slice false (.ref l) (.int i u) = operate [.ref l, .int i u] (getItem (.ref l) (.int i u)) := by with_unfolding_all rfl) (hg : ∀ r, letTemporaryGo value (.ref l) r = pure () := by intro _; with_unfolding_all rfl) :
    wpAny (model prog w) A (subscriptTail value slice (.ref l) (.int i u)) Q E s := item_listL (N.isList hl) h0 hfit hx h hs hg
theorem draw_does (w : World) (mean : ExcName → Option Value) (mg mb : Str → Option Value) (tape cl : Addr) (lim : Int) (tl t1 t2 : Tok) (at' cnt : Int) (n kc : Nat) (cvs : List Value) (cells : List Int) (news : News1)
    (hoff : ∀ p ∈ news, p.1 ≠ tape) (hcl : (cl, listOf cvs.toArray kc) ∈ news) (hi : IntsAre cvs cells) (hne : cells ≠ []) (h0 : 0 ≤ at') (h1 : at' ≤ 1000) (hlim : 3 ≤ lim) (hlen : cells.length ≤ 100) :
    Does w mean mg mb 178 2 [.ref tape, .int lim tl] ((tape, listOf [.ref cl, .int at' t1, .int cnt t2].toArray n) :: news)
      (fun r news' => ∃ t v t1', news' = (tape, listOf [.ref cl, .int (at' + 1) t1', .int cnt t2].toArray n) :: news ∧ r = .int v t ∧ 0 ≤ v ∧ v < lim) := by
  have hk : PySem.Challenge.rw_no0359_01.row.prog = PySem.Challenge.rw_no0359_01.row.prog := rfl
  unfold Does
  k_fill
  intro dp un gd cn cs a ccd cl' outer A₀ base h₀ L m s Q E B F X N T hk hd hu hret
  have hlv : cvs.length = cells.length := hi.length
  have hpos : (0 : Int) < (cvs.length : Int) := by
    cases cells with
    | nil => exact absurd rfl hne
    | cons x r => rw [List.length_cons] at hlv; omega
  refine wpAny_call ?_
  k_dflt walk_at "m_enter"
  walk_at "m_steps"
  k_dflt (refine len_led (by k_asm) (by k_mem) (by omega) ?_)
  have hz : (cvs.length : Int) ≠ 0 := by omega
  have hf := fdiv_fmod_facts at' (cvs.length : Int)
  have hfm := hf.2.2.1 hpos
  walk_at "m_steps"
  k_dflt (refine len_led (by k_asm) (by k_mem) (by omega) ?_)
  walk_at "m_steps"
  have hl3 : (0 : Int) < lim := by omega
  exact hret _ _ _ _ (by k_asm) (by k_asm) ⟨_, _, _, rfl, rfl, Int.fmod_nonneg_of_pos _ hl3, Int.fmod_lt_of_pos _ hl3⟩

/-! ## Part and Kind made -/
inductive PartMade (news : News1) (b : Int) (r : Value) (news' : News1) : Prop where
  | mk : ∀ (a dx kl : Addr) (h1 h2 h3 h4 h5 h6 h7 h8 : Int) (k1 k2 k3 k4 k5 k6 k7 k8 tb : Tok) (v2 v3 v4 v5 v6 : Value), (r = .ref a) → (news' = (kl, listOf ([] : List Value).toArray 0) :: (a, instObj 85 dx) :: (dx, dictOf [⟨h1, .str (Str.ofString "begin") k1, .int b tb⟩, ⟨h2, .str (Str.ofString "body") k2, v2⟩, ⟨h3, .str (Str.ofString "end") k3, v3⟩, ⟨h4, .str (Str.ofString "fields") k4, v4⟩, ⟨h5, .str (Str.ofString "kind") k5, v5⟩, ⟨h6, .str (Str.ofString "encoding") k6, v6⟩, ⟨h7, .str (Str.ofString "kids") k7, .ref kl⟩, ⟨h8, .str (Str.ofString "inner") k8, .none⟩] 8) :: news) → ((∀ p ∈ news, p.1 < dx)) → ((∀ p ∈ news, p.1 < a)) → ((∀ p ∈ news, p.1 < kl)) → ((@LT.lt Nat _ dx a)) → ((@LT.lt Nat _ dx kl)) → ((@LT.lt Nat _ a kl)) → PartMade news b r news'
theorem lt_all2 {l : News1} {d x : Addr} (h : ∀ p ∈ l, p.1 < d) (k : @LT.lt Nat _ d x) : ∀ p ∈ l, p.1 < x := fun p hp => Nat.lt_trans (show @LT.lt Nat _ _ _ from h p hp) k
theorem lt_tail2 {l : News1} {p q : Addr × Obj} {d : Addr} (h : ∀ r ∈ p :: q :: l, r.1 < d) : ∀ r ∈ l, r.1 < d := fun r hr => h r (List.mem_cons_of_mem _ (List.mem_cons_of_mem _ hr))
theorem lt_head1 {l : News1} {a : Addr} {o : Obj} {q : Addr × Obj} {d : Addr} (h : ∀ r ∈ (a, o) :: q :: l, r.1 < d) : @LT.lt Nat _ a d := h (a, o) List.mem_cons_self
theorem lt_head2 {l : News1} {a : Addr} {o : Obj} {q : Addr × Obj} {d : Addr} (h : ∀ r ∈ q :: (a, o) :: l, r.1 < d) : @LT.lt Nat _ a d := h (a, o) (List.mem_cons_of_mem _ List.mem_cons_self)
theorem part_made (w : World) (mean : ExcName → Option Value) (mg mb : Str → Option Value) (b x y : Int) (tb tx ty : Tok) (fl kd : Addr) (k : Nat) (news : News1) (hfl : (fl, listOf ([] : List Value).toArray k) ∈ news) :
    Does w mean mg mb 85 12 [.int b tb, .int x tx, .int y ty, .ref fl, .ref kd] news (PartMade news b) := by
  have hk : PySem.Challenge.rw_no0359_01.row.prog = PySem.Challenge.rw_no0359_01.row.prog := rfl
  unfold Does
  k_fill
  intro dp un gd cn cs a ccd cl outer A₀ base h₀ L m s Q E B F X N T hk hd hu hret
  walk1
  walk_at "m_steps"
  k_dflt walk_at "m_does"
  case kD => exact enc_does _ _ _ _ _ _ _ (by k_mem)
  case kd => walk_at "m_room"
  case ku => walk_at "m_units"
  rintro G9 hG9 r news9 h9 tk9 F9 N9 ⟨rfl, t7, rfl⟩
  refine hG9 _ _ ?_
  walk_at "m_steps"
  refine' hret _ _ _ _ (by k_asm) (by k_asm) ⟨_, _, _, _, _, _, _, _, _, _, _, _, _, _, _, _, _, _, _, _, _, _, _, _, _, rfl, rfl, ?z1, ?z2, ?z3, ?z4, ?z5, ?z6⟩
  case z1 => with_reducible assumption
  case z2 => exact lt_all2 (by with_reducible assumption) (by with_reducible assumption)
  case z3 => exact lt_tail2 (by with_reducible assumption)
  case z4 => with_reducible assumption
  case z5 => exact lt_head2 (by with_reducible assumption)
  case z6 => exact lt_head1 (by with_reducible assumption)
theorem kind_made (w : World) (mean : ExcName → Option Value) (mg mb : Str → Option Value) (x y : Str) (tx ty : Tok) (d : Addr) (news : News1) :
    Does w mean mg mb 167 6 [.str x tx, .str y ty, .ref d] news (fun r news' => ∃ a, r = .ref a ∧ Ext news news') := by
  have hk : PySem.Challenge.rw_no0359_01.row.prog = PySem.Challenge.rw_no0359_01.row.prog := rfl
  unfold Does
  k_fill
  intro dp un gd cn cs a ccd cl outer A₀ base h₀ L m s Q E B F X N T hk hd hu hret
  walk1
  walk_at "m_steps"
  exact hret _ _ _ _ (by k_asm) (by k_asm) ⟨_, rfl, by walk_at "m_ext"⟩

theorem item_tup {prog : Program} {w : World} {A : Around} {E : Value → Shared → Prop} {s : Shared} {h₀ : Heap} {L t : Addr} {news : News1} {items : List Value} {k : Nat} {value slice : Expr} {i : Int} {u : Tok} {Q : Value → Shared → Prop}
    (N : News h₀ L s.heap news) (hl : (t, ({ cls := .type "tuple", data := .seq items.toArray k } : Obj)) ∈ news) (h0 : 0 ≤ i) (h1 : i < (items.length : Int)) (hfit : (items.length : Int) < 2 ^ 63) (h : ∀ x, items[i.toNat]? = some x → Q x s)
    (hs : subscripted slice false (.ref t) (.int i u) = operate [.ref t, .int i u] (getItem (.ref t) (.int i u)) := by with_unfolding_all rfl) :
    wpAny (model prog w) A (subscriptTail value slice (.ref t) (.int i u)) Q E s := by
  have hlt : i.toNat < items.length := by omega
  refine item_tupleT (j := i.toNat) (x := items[i.toNat]) (News.isTup N hl) (by omega) (by omega) ?_ (List.getElem?_eq_getElem hlt) (h _ (List.getElem?_eq_getElem hlt)) hs
  unfold seqIndex?
  simp only [show ¬ i < 0 by omega, if_false]
  rw [if_pos (by simp [h0, h1])]
def budget : Nat → Int
  | 0 => 1
  | f + 1 => 1 + 3 * budget f
theorem budget_pos : ∀ f, 1 ≤ budget f
  | 0 => by decide
  | f + 1 => by have := budget_pos f; rw [budget]; omega
inductive Built (news : News1) (tape cl : Addr) (n : Nat) (at₀ cnt₀ : Int) (f : Nat) (r : Value) (news' : News1) : Prop where
  | mk : ∀ t tl at' cnt' t1 t2, (news' = (tape, listOf [.ref cl, .int at' t1, .int cnt' t2].toArray n) :: (tl ++ news)) → ((∀ q ∈ news, ∀ p ∈ tl, q.1 ≠ p.1)) → ((∀ p ∈ tl, p.1 ≠ tape)) → (PartAt tl r t) → (t.ok) → (t.height ≤ f) → (t.begin = cnt₀ + 1) → (at₀ ≤ at') → (at' ≤ at₀ + 2 * budget f) → Built news tape cl n at₀ cnt₀ f r news'
theorem built_node {h₀ h : Heap} {L : Addr} {all news tl0 : News1} {tape cl a dx kl : Addr} {n nk nd f : Nat} {at₀ cnt₀ at' cnt' b : Int} {t1 t2 tb : Tok} {vs : List Value} {u v2 v3 v4 v5 v6 : Value} {h1 h2 h3 h4 h5 h6 h7 h8 : Int} {k1 k2 k3 k4 k5 k6 k7 k8 : Tok} {t : T}
    (N : News h₀ L h all) (ht : (tape, listOf [.ref cl, .int at' t1, .int cnt' t2].toArray n) ∈ all) (hn : ∀ p ∈ news, p ∈ all) (h0 : ∀ p ∈ tl0, p ∈ all) (m1 : (a, instObj 85 dx) ∈ all)
    (m2 : (dx, dictOf [⟨h1, .str (Str.ofString "begin") k1, .int b tb⟩, ⟨h2, .str (Str.ofString "body") k2, v2⟩, ⟨h3, .str (Str.ofString "end") k3, v3⟩, ⟨h4, .str (Str.ofString "fields") k4, v4⟩,
      ⟨h5, .str (Str.ofString "kind") k5, v5⟩, ⟨h6, .str (Str.ofString "encoding") k6, v6⟩, ⟨h7, .str (Str.ofString "kids") k7, .ref kl⟩, ⟨h8, .str (Str.ofString "inner") k8, u⟩] nd) ∈ all)
    (m3 : (kl, listOf vs.toArray nk) ∈ all) (n1 : ∀ p ∈ news, p.1 ≠ a) (n2 : ∀ p ∈ news, p.1 ≠ dx) (n3 : ∀ p ∈ news, p.1 ≠ kl) (n0 : ∀ q ∈ news, ∀ p ∈ tl0, q.1 ≠ p.1)
    (e1 : ((a, instObj 85 dx) : Addr × Obj).1 ≠ tape) (e2 : ((dx, instObj 85 dx) : Addr × Obj).1 ≠ tape) (e3 : ((kl, instObj 85 dx) : Addr × Obj).1 ≠ tape) (e0 : ∀ p ∈ tl0, p.1 ≠ tape) (hP : ∀ tl, NodeAt tl (.ref a) b vs u → (∀ p ∈ tl0, p ∈ tl) → PartAt tl (.ref a) t) (hok : t.ok) (hht : t.height ≤ f) (hbeg : t.begin = cnt₀ + 1)
    (b1 : at₀ ≤ at') (b2 : at' ≤ at₀ + 2 * budget f) : ∃ news', News h₀ L h news' ∧ Built news tape cl n at₀ cnt₀ f (.ref a) news' := by
  refine ⟨_, ?_, t, (a, _) :: (dx, _) :: (kl, _) :: tl0, at', cnt', t1, t2, rfl, ?_, ?_, hP _ ⟨a, dx, kl, nk, nd, h1, h2, h3, h4, h5, h6, h7, h8, k1, k2, k3, k4, k5, k6, k7, k8, tb, v2, v3, v4, v5, v6, rfl, List.mem_cons_self, List.mem_cons_of_mem _ List.mem_cons_self, List.mem_cons_of_mem _ (List.mem_cons_of_mem _ List.mem_cons_self)⟩ ?_, hok, hht, hbeg, b1, b2⟩
  · refine news_sub N fun p hp => ?_
    rcases List.mem_cons.mp hp with rfl | hp
    · exact ht
    · rcases List.mem_append.mp hp with hp | hp
      · rcases List.mem_cons.mp hp with rfl | hp
        · exact m1
        · rcases List.mem_cons.mp hp with rfl | hp
          · exact m2
          · rcases List.mem_cons.mp hp with rfl | hp
            · exact m3
            · exact h0 p hp
      · exact hn p hp
  · intro q hq p hp
    rcases List.mem_cons.mp hp with rfl | hp
    · exact n1 q hq
    · rcases List.mem_cons.mp hp with rfl | hp
      · exact n2 q hq
      · rcases List.mem_cons.mp hp with rfl | hp
        · exact n3 q hq
        · exact n0 q hq p hp
  · intro p hp
    rcases List.mem_cons.mp hp with rfl | hp
    · exact e1
    · rcases List.mem_cons.mp hp with rfl | hp
      · exact e2
      · rcases List.mem_cons.mp hp with rfl | hp
        · exact e3
        · exact e0 p hp
  · exact fun p hp => List.mem_cons_of_mem _ (List.mem_cons_of_mem _ (List.mem_cons_of_mem _ hp))
theorem PartsAt.snoc {news : News1} {v : Value} {t : T} (h : PartAt news v t) : ∀ {vs : List Value} {ts : List T}, PartsAt news vs ts → PartsAt news (vs ++ [v]) (ts ++ [t])
  | [], [], _ => by simp only [List.nil_append, PartsAt]; exact ⟨h, trivial⟩
  | _ :: _, _ :: _, g => by
    rw [PartsAt] at g
    simp only [List.cons_append, PartsAt]
    exact ⟨g.1, PartsAt.snoc h g.2⟩
  | [], _ :: _, g => by simp [PartsAt] at g
  | _ :: _, [], g => by simp [PartsAt] at g
theorem oks_snoc {t : T} (h : t.ok) : ∀ {ts : List T}, oks ts → oks (ts ++ [t])
  | [], _ => by simp only [List.nil_append, oks]; exact ⟨h, trivial⟩
  | _ :: _, g => by
    rw [oks] at g
    simp only [List.cons_append, oks]
    exact ⟨g.1, oks_snoc h g.2⟩
theorem heights_snoc {t : T} {f : Nat} (h : t.height ≤ f) : ∀ {ts : List T}, heights ts ≤ f → heights (ts ++ [t]) ≤ f
  | [], _ => by simp only [List.nil_append, heights]; omega
  | _ :: _, g => by
    rw [heights] at g
    simp only [List.cons_append, heights]
    have := heights_snoc h (ts := _) (Nat.le_trans (Nat.le_max_right _ _) g)
    omega
inductive KidsAt (tape cl : Addr) (n f : Nat) (at' : Int) (base : News1) (i : Nat) (ys : List Value) (nx : News1) : Prop where
  | mk : ∀ ts tl at9 t9 cnt9 t19, (nx = (tape, listOf [.ref cl, .int at9 t9, .int cnt9 t19].toArray n) :: (tl ++ base)) → ((∀ q ∈ base, ∀ p ∈ tl, q.1 ≠ p.1)) → ((∀ p ∈ tl, p.1 ≠ tape)) → (PartsAt tl ys ts) → (oks ts) → (heights ts ≤ f) → (ts.length = i) → (at' + 2 ≤ at9) → (at9 ≤ at' + 2 + 2 * ((i : Int) * budget f)) → KidsAt tape cl n f at' base i ys nx
theorem kids_nil {tape cl : Addr} {n f : Nat} {at' at9 cnt : Int} {t u : Tok} {base : News1} (h : at9 = at' + 2) : KidsAt tape cl n f at' base 0 [] ((tape, listOf [.ref cl, .int at9 t, .int cnt u].toArray n) :: base) :=
  ⟨[], [], at9, t, cnt, u, rfl, (fun _ _ _ h => (nomatch h)), (fun _ h => (nomatch h)), (by simp only [PartsAt]), (by simp only [oks]), (by simp only [heights]; omega), rfl, by omega, by simp only [Int.natCast_zero, Int.zero_mul, Int.mul_zero]; omega⟩
theorem kids_snoc {tape cl : Addr} {n f i : Nat} {at' at9 at8 cnt8 : Int} {t8 u8 : Tok} {base tl tl2 : News1} {ts : List T} {ys : List Value} {t : T} {r : Value} (kx : ∀ q ∈ base, ∀ p ∈ tl, q.1 ≠ p.1) (kt : ∀ p ∈ tl, p.1 ≠ tape) (hpts : PartsAt tl ys ts) (hoks : oks ts) (hhts : heights ts ≤ f) (hlts : ts.length = i)
    (hat1 : at' + 2 ≤ at9) (hat2 : at9 ≤ at' + 2 + 2 * ((i : Int) * budget f)) (kx2 : ∀ q ∈ base, ∀ p ∈ tl2, q.1 ≠ p.1) (kt2 : ∀ p ∈ tl2, p.1 ≠ tape) (hp : PartAt tl2 r t) (hok : t.ok) (hht : t.height ≤ f) (h1 : at9 ≤ at8) (h2 : at8 ≤ at9 + 2 * budget f) :
    KidsAt tape cl n f at' base (i + 1) (ys ++ [r]) ((tape, listOf [.ref cl, .int at8 t8, .int cnt8 u8].toArray n) :: ((tl2 ++ tl) ++ base)) := by
  refine ⟨ts ++ [t], tl2 ++ tl, at8, t8, cnt8, u8, rfl, ?_, ?_, PartsAt.snoc (hp.mono fun p hp => List.mem_append_left _ hp) (hpts.mono fun p hp => List.mem_append_right _ hp), oks_snoc hok hoks, heights_snoc hht hhts, by rw [List.length_append, hlts]; rfl, by omega, ?_⟩
  · intro q hq p hp
    rcases List.mem_append.mp hp with hp | hp
    · exact kx2 q hq p hp
    · exact kx q hq p hp
  · intro p hp
    rcases List.mem_append.mp hp with hp | hp
    · exact kt2 p hp
    · exact kt p hp
  · rw [show ((i + 1 : Nat) : Int) * budget f = (i : Int) * budget f + budget f by rw [Int.natCast_add, Int.add_mul, Int.natCast_one, Int.one_mul]]
    omega
theorem off3_app {I C D tape : Addr} {o o' : Obj} {tl2 r : News1} {oI oC oD : Obj} (off : LCg.Off3 I C D ((tape, o) :: r)) (h2 : ∀ q ∈ ((I, oI) :: (C, oC) :: (D, oD) :: r : News1), ∀ p ∈ tl2, q.1 ≠ p.1) : LCg.Off3 I C D ((tape, o') :: (tl2 ++ r)) := by
  refine ⟨off.1, LCg.Off3.of fun p hp => ?_⟩
  rcases List.mem_append.mp hp with hp | hp
  · exact ⟨fun e => h2 _ List.mem_cons_self p hp e.symm, fun e => h2 _ (List.mem_cons_of_mem _ List.mem_cons_self) p hp e.symm, fun e => h2 _ (List.mem_cons_of_mem _ (List.mem_cons_of_mem _ List.mem_cons_self)) p hp e.symm⟩
  · exact off.2.mem p hp

local macro_rules | `(tactic| walk_at "m_stopP") => `(tactic| first
  | walk_at "m_stop"
  | (with_reducible show wpAny _ _ (eval (Expr.IfExp _ _ _ _) _) _ _ _)
  | (with_reducible show wpAny _ _ (exec (Stmt.Assign _ (Expr.IfExp _ _ _ _) _) _) _ _ _)
  | (with_reducible show wpAny _ _ (call (Value.ref 85) _) _ _ _)
  | (with_reducible show wpAny _ _ (call (Value.ref 167) _) _ _ _))
local macro_rules | `(tactic| walk_at "m_stepsP") => `(tactic| repeat' ((fail_if_success (walk_at "m_stopP")); (first | (k_unfold; (try dsimp only)) | (k_end; wrow_close) | walk1 | (dsimp only; walk1) | (leave1; walk_say "STEP leave1"; try dsimp only) | fail "no step")))
inductive Drawn (g : Heap) (L : Addr) (m : Str → Option Value) (s : Shared) (tape cl : Addr) (n : Nat) (c : Int) (base : News1) (P : Int → Int → Prop) (v : Value) (s' : Shared) : Prop where
  | mk : ∀ (x : Int) (t : Tok) (at2 : Int) (u1 u2 : Tok) (h : Heap) (k : Tok), (v = .int x t) → (s' = Shared.mk h s.gens s.drawn k s.os) → (P x at2) → (Fr g L h m) → (News g L h ((tape, listOf [.ref cl, .int at2 u1, .int c u2].toArray n) :: base)) → Drawn g L m s tape cl n c base P v s'
theorem drawn_join {prog : Program} {w : World} {A : Around} {tree : Sem Value} {Q E : Value → Shared → Prop} {s : Shared} {g : Heap} {L : Addr} {m : Str → Option Value} {tape cl : Addr} {n : Nat} {at1 c : Int} {u1 u2 : Tok} {base : News1} (P : Int → Int → Prop)
    (F : Fr g L s.heap m) (N : News g L s.heap ((tape, listOf [.ref cl, .int at1 u1, .int c u2].toArray n) :: base)) (h : wpAny (model prog w) A tree (Drawn g L m s tape cl n c base P) E s)
    (k : ∀ (x : Int) (t : Tok) (at2 : Int) (u1 u2 : Tok) (h' : Heap) (tk : Tok), P x at2 → Fr g L h' m → News g L h' ((tape, listOf [.ref cl, .int at2 u1, .int c u2].toArray n) :: base) → Q (.int x t) (Shared.mk h' s.gens s.drawn tk s.os)) : wpAny (model prog w) A tree Q E s :=
  wpAny_mono h (fun _ _ ⟨_, _, _, _, _, _, _, hv, hs, p, f, n⟩ => hv ▸ hs ▸ k _ _ _ _ _ _ _ p f n) (fun _ _ h => h)
theorem news_app {h₀ h : Heap} {L : Addr} {a b : News1} (N : News h₀ L h (a ++ b)) : News h₀ L h b := fun p hp => N p (List.mem_append_right _ hp)
theorem news_drop5 {h₀ h : Heap} {L : Addr} {y x a b c d e : Addr × Obj} {r : News1} (N : News h₀ L h (y :: x :: a :: b :: c :: d :: e :: r)) : News h₀ L h (x :: r) := fun p hp => N p (by
  rcases List.mem_cons.mp hp with e | hp
  · exact e ▸ List.mem_cons_of_mem _ List.mem_cons_self
  · iterate 7 (refine List.mem_cons_of_mem _ ?_)
    exact hp)
theorem part_one (w : World) (mean : ExcName → Option Value) (mg mb : Str → Option Value) (tape cl : Addr) (n kc : Nat) (cvs : List Value) (cells : List Int) (hi : IntsAre cvs cells) (hne : cells ≠ []) (hlen : cells.length ≤ 100) (f : Nat) (hf : f ≤ 4)
    (ih : ∀ g, f = g + 1 → ∀ (td t1 t2 : Tok) (at' cnt : Int) (news : News1), (∀ p ∈ news, p.1 ≠ tape) → (cl, listOf cvs.toArray kc) ∈ news → 0 ≤ at' → at' + 2 * budget g ≤ 1000 →
      Does w mean mg mb 183 (10 * g + 20) [.ref tape, .int (4 - (g : Int)) td] ((tape, listOf [.ref cl, .int at' t1, .int cnt t2].toArray n) :: news) (Built news tape cl n at' cnt g))
    (td t1 t2 : Tok) (at' cnt : Int) (news : News1) (hoff : ∀ p ∈ news, p.1 ≠ tape) (hcl : (cl, listOf cvs.toArray kc) ∈ news) (h0 : 0 ≤ at') (h1 : at' + 2 * budget f ≤ 1000) :
    Does w mean mg mb 183 (10 * f + 20) [.ref tape, .int (4 - (f : Int)) td] ((tape, listOf [.ref cl, .int at' t1, .int cnt t2].toArray n) :: news) (Built news tape cl n at' cnt f) := by
  have hk : PySem.Challenge.rw_no0359_01.row.prog = PySem.Challenge.rw_no0359_01.row.prog := rfl
  unfold Does
  k_fill
  intro dp un gd cn cs a ccd cl' outer A₀ base h₀ L m s Q E B F X N T hk hd hu hret
  have hbp := budget_pos f
  generalize hdep : (4 - (f : Int)) = dep
  refine wpAny_call ?_
  k_dflt walk_at "m_enterC"
  walk_at "m_stepsP"
  walk1
  rename News _ _ _ _ => N9
  refine' Front.useNamed (d := tape) N9 ?f1 ?_
  case f1 => walk_at "m_frontK"
  intro base hb N10
  clear N9
  k_dflt (refine drawn_join (fun x at2 => 0 ≤ x ∧ x < 4 ∧ at' ≤ at2 ∧ at2 ≤ at' + 1 ∧ (x ≠ 0 → dep < 4)) (by k_asm) N10 ?j1 ?j2)
  case j1 =>
    clear hret
    subst hb
    walk_at "m_steps"
    · k_dflt walk_at "m_does"
      case kD => exact draw_does w mean mg mb tape cl 4 _ _ _ at' (cnt + 1) n kc cvs cells _ (by k_all) (by k_mem) hi hne h0 (by omega) (by omega) hlen
      case kd => walk_at "m_room"
      case ku => walk_at "m_units"
      rintro G9 hG9 r news9 h9 tk9 F9 N9 ⟨t, v, t1', rfl, rfl, hv0, hv4⟩
      refine hG9 _ _ ?_
      walk_at "m_steps"
      refine ⟨_, _, at' + 1, _, _, _, _, rfl, rfl, ⟨hv0, by exact hv4, by omega, by omega, fun _ => ?_⟩, by k_asm, by k_asm⟩
      assumption
    all_goals exact ⟨_, _, at', _, _, _, _, rfl, rfl, ⟨by decide, by decide, by omega, by omega, fun h => absurd rfl h⟩, by k_asm, by k_asm⟩
  rintro x t at2 u1 u2 h9 tk9 ⟨hx0, hx4, hat1, hat2, hx⟩ F9 N9
  subst hb
  walk_at "m_stepsP"
  rename News _ _ _ _ => N9
  k_dflt (refine item_tup N9 (by k_mem) hx0 (by exact hx4) (by simp only [List.length_cons, List.length_nil]; decide) ?_)
  intro x9 hx9
  obtain ⟨D, sa, ua, sb, ub, rfl, hD⟩ := pick_tuple N9 (by k_mem) (by k_mem) (by k_mem) (by k_mem) hx9
  walk_at "m_stepsP"
  k_dflt walk_at "m_does"
  case kD => exact kind_made w mean mg mb _ _ _ _ _ _
  case kd => walk_at "m_room"
  case ku => walk_at "m_units"
  rintro G9 hG9 r news9 h10 tk10 F10 N10 ⟨kd, rfl, tl9, rfl, kx9⟩
  refine hG9 _ _ ?_
  have N11 := news_drop5 (news_app N10)
  clear N10 hD kx9
  walk_at "m_stepsP"
  k_dflt walk_at "m_does"
  case kD => exact part_made w mean mg mb _ _ _ _ _ _ _ _ _ _ (by k_mem)
  case kd => walk_at "m_room"
  case ku => walk_at "m_units"
  rintro G9 hG9 r news9 h11 tk11 F11 N12 ⟨ad, dx, kl, e1, e2, e3, e4, e5, e6, e7, e8, j1, j2, j3, j4, j5, j6, j7, j8, tb, v2, v3, v4, v5, v6, rfl, rfl, o1, o2, o3, o4, o5, o6⟩
  refine hG9 _ _ ?_
  clear N11
  walk_at "m_stepsP"
  · obtain ⟨g, hg⟩ : ∃ g, f = g + 1 := ⟨f - 1, by omega⟩
    have hb1 : budget f = 1 + 3 * budget g := by rw [hg]; rfl
    have hbg := budget_pos g
    have hdf : dep + 1 = 4 - (g : Int) := by omega
    replace ih := ih g hg
    walk1
    walk_at "m_steps"
    k_dflt (refine LCg.ListComp_U (F₀ := by k_asm) (by with_unfolding_all rfl) (by decide) (by rfl) (by decide) (by rfl) ?_)
    walk_at "m_steps"
    rename News _ _ _ _ => N9
    refine' Front.use (d := tape) N9 ?f1 ?_
    case f1 => walk_at "m_frontK"
    intro N10
    clear N9
    k_dflt walk_at "m_does"
    case kD => exact draw_does w mean mg mb tape cl 3 _ _ _ at2 (cnt + 1) n kc cvs cells _ (by k_all) (by k_mem) hi hne (by omega) (by omega) (by omega) hlen
    case kd => walk_at "m_room"
    case ku => walk_at "m_units"
    rintro G9 hG9 r news9 h9 tk9 F9 N9 ⟨t8, v2, t18, rfl, rfl, hw0, hw3⟩
    refine hG9 _ _ ?_
    walk_at "m_steps"
    rename News _ _ _ _ => N9
    refine' Front.useNamed (d := tape) N9 ?f1 ?_
    case f1 => walk_at "m_frontK"
    intro base hb N10
    clear N9
    have hw9 : ((1 + v2).toNat : Int) = 1 + v2 := by omega
    k_dflt (refine LCg.CompSrc.range (by rfl) (by k_asm) N10 (by assumption) (small_one (by omega) (by omega) (by omega) (by omega)) (rangeSize_nat _ _) (by simp only [sizeLine]; omega) ?_)
    intro g9
    refine comp_rest (fun i ys nx => KidsAt tape cl n g (at2 - 1) base i ys nx) (kids_nil (by omega)) ?_ ?_
    · rintro i v ys nx I oI C oC D m₂ h10 tk10 E' hi9 ⟨u9, rfl⟩ ⟨ts, tl, at9, t9, cnt9, t19, rfl, kx, kt, hpts, hoks, hhts, hlts, hat1, hat2⟩ hC hx F' N' off ne
      subst hb
      have hin : i ≤ 2 := by omega
      have hbi : (i : Int) * budget g ≤ 2 * budget g := Int.mul_le_mul_of_nonneg_right (by omega) (by omega)
      try k_fold
      walk_at "m_steps"
      rename News _ _ _ _ => N9
      refine' Front.use (d := tape) N9 ?f1 ?_
      case f1 => walk_at "m_frontK"
      intro N10
      clear N9
      rw [hdf]
      k_dflt walk_at "m_does"
      case kD => exact ih _ _ _ at9 cnt9 _ (by k_all) (by k_mem) (by omega) (by omega)
      case kd => walk_at "m_room"
      case ku => walk_at "m_units"
      rintro G9 hG9 r news9 h9 tk9 F9 N9 ⟨t, tl2, at8, cnt8, t18, t28, rfl, kx2, kt2, hpart, hok, hht, hbeg, hle1, hle2⟩
      refine hG9 _ _ ?_
      walk_at "m_steps"
      k_unfold
      have offn := off3_app (o' := listOf [.ref cl, .int at8 t18, .int cnt8 t28].toArray n) off kx2
      refine LCg.CompEnd.intro (by k_asm) (by k_asm) _ ?_ offn trivial ?_
      · intro p hp
        simp only [List.mem_cons, List.mem_append] at hp ⊢
        rcases hp with h | h | h | h | h | h <;> simp only [h, true_or, or_true]
      · rw [← List.append_assoc]
        exact kids_snoc kx kt hpts hoks hhts hlts hat1 hat2 (fun q hq p hp => kx2 q (by k_mem) p hp) kt2 hpart hok hht hle1 hle2
    · rintro ys nx ⟨ts, tl, at9, t9, cnt9, t19, rfl, kx, kt, hpts, hoks, hhts, hlts, hat1, hat2⟩
      unfold LCg.FinE
      intro D h10 tk10 F10 N10 off1
      subst hb
      walk_at "m_steps"
      · exfalso; omega
      rename News _ _ _ _ => N9
      have hin : ((1 + v2 - 0).toNat : Int) ≤ 3 := by omega
      have hbi : ((1 + v2 - 0).toNat : Int) * budget g ≤ 3 * budget g := Int.mul_le_mul_of_nonneg_right hin (by omega)
      obtain ⟨news9, N11, hb⟩ := built_node (news := news) (tl0 := tl) (vs := ys) (f := f) (at₀ := at') (cnt₀ := cnt) (t := .multi (cnt + 1) ts) N9 (by k_mem) (fun p hp => by k_mem) (fun p hp => by k_mem) (by k_mem) (by k_mem) (by k_mem)
        (by walk_at "m_ne") (by walk_at "m_ne") (by walk_at "m_ne") (fun q hq p hp => kx q (by k_mem) p hp) (by k_ne) (by k_ne) (by k_ne) kt
        (fun tl' hn hs => by rw [PartAt]; exact ⟨ys, hn, hpts.mono hs⟩) (by rw [T.ok]; refine ⟨?_, by omega, hoks⟩; intro e; rw [e] at hlts; simp only [List.length_nil] at hlts; omega) (by rw [T.height]; omega) rfl (by omega) (by omega)
      exact hret _ _ _ _ (by k_asm) N11 hb
  · obtain ⟨g, hg⟩ : ∃ g, f = g + 1 := ⟨f - 1, by omega⟩
    have hb1 : budget f = 1 + 3 * budget g := by rw [hg]; rfl
    have hdf : dep + 1 = 4 - (g : Int) := by omega
    rename News _ _ _ _ => N9
    refine' Front.use (d := tape) N9 ?f1 ?_
    case f1 => walk_at "m_front"
    intro N10
    clear N9
    rw [hdf]
    k_dflt walk_at "m_does"
    case kD => exact ih g hg _ _ _ at2 (cnt + 1) _ (by k_all) (by k_mem) (by omega) (by omega)
    case kd => walk_at "m_room"
    case ku => walk_at "m_units"
    rintro G9 hG9 r news9 h9 tk9 F9 N9 ⟨t, tl, at9, cnt9, t19, t29, rfl, kx, hoff9, hpart, hok, hht, hbeg, hle1, hle2⟩
    refine hG9 _ _ ?_
    walk_at "m_steps"
    rename News _ _ _ _ => N9
    obtain ⟨news9, N11, hb⟩ := built_node (news := news) (tl0 := tl) (f := f) (at₀ := at') (cnt₀ := cnt) (t := .letter (cnt + 1) t) N9 (by k_mem) (fun p hp => by k_mem) (fun p hp => by k_mem) (by k_mem) (by k_mem) (by k_mem)
      (by walk_at "m_ne") (by walk_at "m_ne") (by walk_at "m_ne") (fun q hq p hp => kx q (by k_mem) p hp) (by k_ne) (by k_ne) (by k_ne) hoff9
      (fun tl' hn hs => by rw [PartAt]; exact ⟨r, hn, hpart.mono hs⟩) (by rw [T.ok]; exact hok) (by rw [T.height]; omega) rfl (by omega) (by omega)
    exact hret _ _ _ _ (by k_asm) N11 hb
  · rename News _ _ _ _ => N9
    obtain ⟨news9, N11, hb⟩ := built_node (news := news) (tl0 := []) (f := f) (at₀ := at') (cnt₀ := cnt) (t := .leaf (cnt + 1)) N9 (by k_mem) (fun p hp => by k_mem) (fun p hp => nomatch hp) (by k_mem) (by k_mem) (by k_mem)
      (by walk_at "m_ne") (by walk_at "m_ne") (by walk_at "m_ne") (fun q hq p hp => nomatch hp) (by k_ne) (by k_ne) (by k_ne) (fun p hp => nomatch hp)
      (fun tl' hn hs => by rw [PartAt]; exact hn) (by rw [T.ok]; trivial) (by rw [T.height]; omega) rfl (by omega) (by omega)
    exact hret _ _ _ _ (by k_asm) N11 hb

theorem part_all (w : World) (mean : ExcName → Option Value) (mg mb : Str → Option Value) (tape cl : Addr) (n kc : Nat) (cvs : List Value) (cells : List Int) (hi : IntsAre cvs cells) (hne : cells ≠ []) (hlen : cells.length ≤ 100) (f : Nat) (hf : f ≤ 4)
    (td t1 t2 : Tok) (at' cnt : Int) (news : News1) (hoff : ∀ p ∈ news, p.1 ≠ tape) (hcl : (cl, listOf cvs.toArray kc) ∈ news) (h0 : 0 ≤ at') (h1 : at' + 2 * budget f ≤ 1000) :
    Does w mean mg mb 183 (10 * f + 20) [.ref tape, .int (4 - (f : Int)) td] ((tape, listOf [.ref cl, .int at' t1, .int cnt t2].toArray n) :: news) (Built news tape cl n at' cnt f) := by
  induction f generalizing td t1 t2 at' cnt news with
  | zero => exact part_one w mean mg mb tape cl n kc cvs cells hi hne hlen 0 hf (fun g h => nomatch h) td t1 t2 at' cnt news hoff hcl h0 h1
  | succ f ih =>
    refine part_one w mean mg mb tape cl n kc cvs cells hi hne hlen (f + 1) hf (fun g h => ?_) td t1 t2 at' cnt news hoff hcl h0 h1
    cases h
    exact ih (Nat.le_of_succ_le hf)
theorem part_does (w : World) (mean : ExcName → Option Value) (mg mb : Str → Option Value) (tape cl : Addr) (n kc : Nat) (cvs : List Value) (cells : List Int) (hi : IntsAre cvs cells) (hne : cells ≠ []) (hlen : cells.length ≤ 100)
    (td t1 t2 : Tok) (news : News1) (hoff : ∀ p ∈ news, p.1 ≠ tape) (hcl : (cl, listOf cvs.toArray kc) ∈ news) :
    Does w mean mg mb 183 60 [.ref tape, .int 0 td] ((tape, listOf [.ref cl, .int 0 t1, .int 0 t2].toArray n) :: news) (Built news tape cl n 0 0 4) :=
  part_all w mean mg mb tape cl n kc cvs cells hi hne hlen 4 (by decide) td t1 t2 0 0 news hoff hcl (by decide) (by decide)

/-! ## what is due -/
def pathD (p : List Int) : Dat := .tuple (p.map .int)
def pairD (x : List Int × Int) : Dat := .tuple [pathD x.1, .int x.2]
mutual
def due : T → List Int → List (List Int × Int)
  | .leaf _, _ => []
  | .letter _ t, p => dueW t p
  | .multi _ ts, p => dues ts p 1
def dueW : T → List Int → List (List Int × Int)
  | .leaf b, p => [(p ++ [1], b)]
  | .letter b t, p => (p ++ [1], b) :: dueW t (p ++ [1])
  | .multi _ ts, p => dues ts p 1
def dues : List T → List Int → Int → List (List Int × Int)
  | [], _, _ => []
  | t :: ts, p, i => (p ++ [i], t.begin) :: (due t (p ++ [i]) ++ dues ts p (i + 1))
end
def dueC (c : Bool) (t : T) (p : List Int) : List (List Int × Int) := if c then dueW t p else due t p
def room : Nat → Nat
  | 0 => 1
  | h + 1 => 3 * (1 + room h)
theorem room_mono {a b : Nat} (h : a ≤ b) : room a ≤ room b := by
  induction h with
  | refl => exact Nat.le_refl _
  | step _ ih => rw [room]; omega
mutual
theorem due_len : ∀ (t : T) (p : List Int), t.ok → (due t p).length ≤ room t.height
  | .leaf _, _, _ => by simp only [due, List.length_nil]; omega
  | .letter _ t, p, h => by
    rw [T.ok] at h
    have := dueW_len t p h
    simp only [due, T.height, room]; omega
  | .multi _ ts, p, h => by
    rw [T.ok] at h
    have := dues_len ts p 1 h.2.2
    have h3 := h.2.1
    have : ts.length * (1 + room (heights ts)) ≤ 3 * (1 + room (heights ts)) := Nat.mul_le_mul_right _ h3
    simp only [due, T.height, room]; omega
theorem dueW_len : ∀ (t : T) (p : List Int), t.ok → (dueW t p).length ≤ room t.height
  | .leaf _, _, _ => by simp only [dueW, List.length_cons, List.length_nil, T.height, room]; omega
  | .letter _ t, p, h => by
    rw [T.ok] at h
    have := dueW_len t (p ++ [1]) h
    simp only [dueW, T.height, room, List.length_cons]; omega
  | .multi _ ts, p, h => by
    rw [T.ok] at h
    have := dues_len ts p 1 h.2.2
    have h3 := h.2.1
    have : ts.length * (1 + room (heights ts)) ≤ 3 * (1 + room (heights ts)) := Nat.mul_le_mul_right _ h3
    simp only [dueW, T.height, room]; omega
theorem dues_len : ∀ (ts : List T) (p : List Int) (i : Int), oks ts → (dues ts p i).length ≤ ts.length * (1 + room (heights ts))
  | [], _, _, _ => by simp only [dues, List.length_nil, Nat.zero_mul]; omega
  | t :: ts, p, i, h => by
    rw [oks] at h
    have a := due_len t (p ++ [i]) h.1
    have b := dues_len ts p (i + 1) h.2
    have m1 : room t.height ≤ room (heights (t :: ts)) := room_mono (by rw [heights]; omega)
    have m2 : room (heights ts) ≤ room (heights (t :: ts)) := room_mono (by rw [heights]; omega)
    have m3 : ts.length * (1 + room (heights ts)) ≤ ts.length * (1 + room (heights (t :: ts))) := Nat.mul_le_mul_left _ (by omega)
    simp only [dues, List.length_cons, List.length_append, Nat.add_mul, Nat.one_mul] at *
    omega
end
theorem dues_app : ∀ (ts us : List T) (p : List Int) (i : Int), dues (ts ++ us) p i = dues ts p i ++ dues us p (i + ts.length)
  | [], us, p, i => by simp [dues]
  | t :: ts, us, p, i => by
    simp only [List.cons_append, dues, dues_app ts us p (i + 1), List.length_cons, List.append_assoc]
    rw [show i + 1 + (ts.length : Int) = i + ((ts.length + 1 : Nat) : Int) by omega]
theorem DatAll.length {news : News1} : ∀ {vs : List Value} {ds : List Dat}, DatAll news vs ds → vs.length = ds.length
  | _, _, .nil => rfl
  | _, _, .cons _ r => by rw [List.length_cons, List.length_cons, DatAll.length r]
theorem DatAll.append {news : News1} : ∀ {vs ws : List Value} {ds es : List Dat}, DatAll news vs ds → DatAll news ws es → DatAll news (vs ++ ws) (ds ++ es)
  | _, _, _, _, .nil, h => h
  | _, _, _, _, .cons a r, h => .cons a (DatAll.append r h)
theorem PartsAt.get {news : News1} : ∀ {vs : List Value} {ts : List T} (i : Nat), PartsAt news vs ts → i < ts.length → ∃ v t, vs[i]? = some v ∧ ts[i]? = some t ∧ PartAt news v t
  | v :: _, t :: _, 0, h, _ => by rw [PartsAt] at h; exact ⟨v, t, rfl, rfl, h.1⟩
  | _ :: vs, _ :: ts, i + 1, h, hi => by
    rw [PartsAt] at h
    obtain ⟨v, t, a, b, c⟩ := PartsAt.get i h.2 (by simpa using hi)
    exact ⟨v, t, by simpa using a, by simpa using b, c⟩
  | [], _ :: _, _, h, _ => by simp [PartsAt] at h
  | _, [], _, _, hi => by simp at hi
theorem PartsAt.length {news : News1} : ∀ {vs : List Value} {ts : List T}, PartsAt news vs ts → vs.length = ts.length
  | [], [], _ => rfl
  | _ :: vs, _ :: ts, h => by rw [PartsAt] at h; rw [List.length_cons, List.length_cons, PartsAt.length h.2]
  | [], _ :: _, h => by simp [PartsAt] at h
  | _ :: _, [], h => by simp [PartsAt] at h
theorem oks_get : ∀ {ts : List T} {i : Nat} {t : T}, oks ts → ts[i]? = some t → t.ok
  | _ :: _, 0, _, h, e => by rw [oks] at h; cases e; exact h.1
  | _ :: ts, i + 1, t, h, e => by rw [oks] at h; exact oks_get h.2 (by simpa using e)
  | [], _, _, _, e => by simp at e
theorem PartAt.node {news : News1} : ∀ {v : Value} {t : T}, PartAt news v t → ∃ vs u, NodeAt news v t.begin vs u
  | _, .leaf _, h => by rw [PartAt] at h; exact ⟨_, _, h⟩
  | _, .letter _ _, h => by rw [PartAt] at h; obtain ⟨u, h, _⟩ := h; exact ⟨_, _, h⟩
  | _, .multi _ _, h => by rw [PartAt] at h; obtain ⟨vs, h, _⟩ := h; exact ⟨_, _, h⟩
theorem PartAt.plain {news : News1} : ∀ {v : Value} {t : T}, PartAt news v t → t.ok → t.kids = [] → ∃ u, NodeAt news v t.begin [] u
  | _, .leaf _, h, _, _ => by rw [PartAt] at h; exact ⟨_, h⟩
  | _, .letter _ _, h, _, _ => by rw [PartAt] at h; obtain ⟨u, h, _⟩ := h; exact ⟨_, h⟩
  | _, .multi _ _, h, ok, e => by rw [T.ok] at ok; exact absurd e ok.1
theorem DatAll.ints {news news' : News1} : ∀ {vs : List Value} {p : List Int}, DatAll news vs (p.map .int) → DatAll news' vs (p.map .int)
  | _, [], .nil => .nil
  | _, _ :: _, .cons (.int i t) r => .cons (.int i t) (DatAll.ints r)
section
variable {prog : Program} {w : World} {A : Around} {E : Value → Shared → Prop} {s : Shared} {h₀ : Heap} {L : Addr} {m : Str → Option Value} {news : News1} {Q : Value → Shared → Prop}
theorem lists_add {a b : Addr} {xs ys : List Value} {ka kb : Nat} (F : Fr h₀ L s.heap m) (N : News h₀ L s.heap news) (ha : (a, listOf xs.toArray ka) ∈ news) (hb : (b, listOf ys.toArray kb) ∈ news) (hz : xs.length + ys.length ≤ 16384)
    (h : ∀ h' D, Fr h₀ L h' m → News h₀ L h' ((D, listOf (xs ++ ys).toArray 0) :: news) → (∀ p ∈ news, p.1 < D) → Q (.ref D) { s with heap := h' }) : wpAny (model prog w) A (binaryOp .Add (.ref a) (.ref b)) Q E s :=
  add_lists F N (N.isList ha) (N.isList hb) (fun h' F' N' => h h' _ F' N' fun p hp => Heap.lt_size (N p hp).1) (by rw [sizeLine_eq]; omega)
theorem path_add {a b : Addr} {p : List Int} {i : Int} {t : Tok} {kb : Nat} (F : Fr h₀ L s.heap m) (N : News h₀ L s.heap news) (ha : DatIn news (.ref a) (pathD p)) (hb : (b, tupOf [.int i t].toArray kb) ∈ news) (hz : p.length ≤ 1000)
    (h : ∀ h' D tl, Fr h₀ L h' m → News h₀ L h' (tl ++ news) → (∀ q ∈ news, ∀ p ∈ tl, q.1 ≠ p.1) → DatIn (tl ++ [(b, tupOf [.int i t].toArray kb)]) (.ref D) (pathD (p ++ [i])) → Q (.ref D) { s with heap := h' }) : wpAny (model prog w) A (binaryOp .Add (.ref a) (.ref b)) Q E s := by
  unfold pathD at ha
  rcases ha with _ | _ | _ | _ | _ | ⟨hm, hall⟩ | _
  have hl := DatAll.length hall
  rw [List.length_map] at hl
  refine add_tuples F N (News.isTup N hm) (News.isTup N hb) (fun e => ?_) (fun _ e => by simp at e) (fun _ _ h' F' N' => ?_) (by rw [sizeLine_eq, hl, List.length_singleton]; omega)
  · subst e
    rw [List.length_nil] at hl
    obtain rfl : p = [] := List.eq_nil_of_length_eq_zero hl.symm
    exact h s.heap b [] F N (fun _ _ _ x => nomatch x) (.tuple (List.mem_singleton.mpr rfl) (.cons (.int i t) .nil))
  · refine h h' _ [_] F' N' (fun q hq p hp => ?_) (.tuple List.mem_cons_self ?_)
    · rw [List.mem_singleton.mp hp]
      exact Nat.ne_of_lt (Heap.lt_size (N q hq).1)
    · rw [List.map_append]
      exact (DatAll.ints hall).append (.cons (.int i t) .nil)
end
def ExtOf (news news' tl : News1) : Prop := news' = tl ++ news ∧ ∀ q ∈ news, ∀ p ∈ tl, q.1 ≠ p.1
theorem ExtOf.refl {news : News1} : ExtOf news news [] := ⟨rfl, fun _ _ _ h => (nomatch h)⟩
theorem ExtOf.cons {news news' tl : News1} {a : Addr} {o : Obj} (x : ExtOf news news' tl) (h : ∀ p ∈ news, p.1 ≠ a) : ExtOf news ((a, o) :: news') ((a, o) :: tl) := by
  obtain ⟨rfl, k⟩ := x
  refine ⟨rfl, fun q hq p hp => ?_⟩
  rcases List.mem_cons.mp hp with rfl | hp
  · exact h q hq
  · exact k q hq p hp
theorem ExtOf.app {news news' t tl : News1} (x : ExtOf news news' tl) (k : ∀ q ∈ news', ∀ p ∈ t, q.1 ≠ p.1) : ExtOf news (t ++ news') (t ++ tl) := by
  obtain ⟨rfl, l⟩ := x
  refine ⟨(List.append_assoc ..).symm, fun q hq p hp => ?_⟩
  rcases List.mem_append.mp hp with hp | hp
  · exact k q (List.mem_append_right _ hq) p hp
  · exact l q hq p hp
theorem ExtOf.appS {news news' t tl W : News1} (x : ExtOf news news' tl) (k : ∀ q ∈ W, ∀ p ∈ t, q.1 ≠ p.1) (hs : ∀ q ∈ news, q ∈ W) : ExtOf news (t ++ news') (t ++ tl) := by
  obtain ⟨rfl, l⟩ := x
  refine ⟨(List.append_assoc ..).symm, fun q hq p hp => ?_⟩
  rcases List.mem_append.mp hp with hp | hp
  · exact k q (hs q hq) p hp
  · exact l q hq p hp
theorem ExtOf.trans {a b c t u : News1} (x : ExtOf a b t) (y : ExtOf b c u) : ExtOf a c (u ++ t) := by
  obtain ⟨rfl, l⟩ := y
  exact x.app l
theorem ExtOf.ext {a b t : News1} (x : ExtOf a b t) : Ext a b := ⟨t, x⟩

local macro_rules | `(tactic| walk_at "m_extOf") => `(tactic| first
  | exact ExtOf.refl
  | (refine' ExtOf.cons ?x9 ?h9; (case h9 => walk_at "m_ne"); (case x9 => walk_at "m_extOf"))
  | (refine' ExtOf.appS ?x9 ?h9 ?s9; (case h9 => with_reducible assumption); (case s9 => walk_at "m_sub"); (case x9 => walk_at "m_extOf"))
  | fail "m_extOf")

def DueAt (news : News1) (r : Value) (ds : List (List Int × Int)) (news' : News1) : Prop := ∃ tl, ExtOf news news' tl ∧ ∃ l vs k, r = .ref l ∧ (l, listOf vs.toArray k) ∈ tl ∧ DatAll tl vs (ds.map pairD)
def Num (w : World) (mean : ExcName → Option Value) (mg mb : Str → Option Value) (t : T) (c : Bool) (need : Nat) : Prop :=
  ∀ (v : Value) (pa : Addr) (p : List Int) (news : News1), PartAt news v t → DatIn news (.ref pa) (pathD p) → p.length + need ≤ 100 →
    Does w mean mg mb 190 need [v, .ref pa, .bool c] news (fun r news' => DueAt news r (dueC c t p) news')
theorem dueW_plain {t : T} {p : List Int} (ok : t.ok) (h : t.kids = []) : dueC true t p = (p ++ [1], t.begin) :: dueC false t (p ++ [1]) := by
  cases t with
  | leaf b => rfl
  | letter b t => rfl
  | multi b ts => rw [T.ok] at ok; exact absurd h ok.1
theorem dueC_len {c : Bool} {t : T} {p : List Int} (ok : t.ok) (ht : t.height ≤ 4) : (dueC c t p).length ≤ 201 := by
  have h : room t.height ≤ 201 := Nat.le_trans (room_mono ht) (by decide)
  cases c
  · exact Nat.le_trans (due_len t p ok) h
  · exact Nat.le_trans (dueW_len t p ok) h
theorem num_leaf (w : World) (mean : ExcName → Option Value) (mg mb : Str → Option Value) (b : Int) (need : Nat) (hn : 4 ≤ need) : Num w mean mg mb (.leaf b) false need := by
  intro v pa p news h hp hle
  have hk : PySem.Challenge.rw_no0359_01.row.prog = PySem.Challenge.rw_no0359_01.row.prog := rfl
  unfold Does
  k_fill
  rw [PartAt] at h
  intro dp un gd cn cs a ccd cl outer A₀ base h₀ L m s Q E B F X N T hk hd hu hret
  obtain ⟨a, dx, kl, nk, n, h1, h2, h3, h4, h5, h6, h7, h8, k1, k2, k3, k4, k5, k6, k7, k8, tb, v2, v3, v4, v5, v6, rfl, x, y, z⟩ := h
  refine wpAny_call ?_
  k_dflt walk_at "m_enter"
  walk_at "m_steps"
  refine' hret _ _ _ _ (by k_asm) (by k_asm) ⟨_, ?x, ?y⟩
  case x => walk_at "m_extOf"
  case y => exact ⟨_, [], _, rfl, List.mem_cons_self, .nil⟩
theorem num_letter (w : World) (mean : ExcName → Option Value) (mg mb : Str → Option Value) (b : Int) (t : T) (need : Nat) (ih : Num w mean mg mb t true need) : Num w mean mg mb (.letter b t) false (need + 2) := by
  intro v pa p news h hp hle
  have hk : PySem.Challenge.rw_no0359_01.row.prog = PySem.Challenge.rw_no0359_01.row.prog := rfl
  unfold Does
  k_fill
  rw [PartAt] at h
  intro dp un gd cn cs a ccd cl outer A₀ base h₀ L m s Q E B F X N T hk hd hu hret
  obtain ⟨u, hnode, hin⟩ := h
  obtain ⟨au, rfl⟩ := hin.ref
  obtain ⟨a, dx, kl, nk, n, h1, h2, h3, h4, h5, h6, h7, h8, k1, k2, k3, k4, k5, k6, k7, k8, tb, v2, v3, v4, v5, v6, rfl, x, y, z⟩ := hnode
  refine wpAny_call ?_
  k_dflt walk_at "m_enter"
  walk_at "m_steps"
  k_dflt walk_at "m_does"
  case kD => exact ih _ _ p _ (hin.mono fun p hp => by k_mem) (hp.mono fun p hp => by k_mem) (by omega)
  case kd => walk_at "m_room"
  case ku => walk_at "m_units"
  rintro G9 hG9 r news' h' tk' F' N' ⟨tl2, hext, l2, vs2, k2, rfl, hl2, hdat⟩
  refine hG9 _ _ ?_
  walk_at "m_steps"
  refine' hret _ _ _ _ (by k_asm) (by k_asm) ⟨_, ExtOf.trans ?x hext, ?y⟩
  case x => walk_at "m_extOf"
  case y => exact ⟨_, _, _, rfl, List.mem_append_left _ hl2, hdat.mono fun p hp => List.mem_append_left _ hp⟩
theorem num_plain (w : World) (mean : ExcName → Option Value) (mg mb : Str → Option Value) (t : T) (need : Nat) (ok : t.ok) (ht : t.height ≤ 4) (hkids : t.kids = []) (ih : Num w mean mg mb t false need) : Num w mean mg mb t true (need + 2) := by
  intro v pa p news h hp hle
  have hpart := h
  have hk : PySem.Challenge.rw_no0359_01.row.prog = PySem.Challenge.rw_no0359_01.row.prog := rfl
  unfold Does
  k_fill
  obtain ⟨u, hnode⟩ := h.plain ok hkids
  intro dp un gd cn cs a ccd cl outer A₀ base h₀ L m s Q E B F X N T hk hd hu hret
  obtain ⟨a, dx, kl, nk, n, h1, h2, h3, h4, h5, h6, h7, h8, k1, k2, k3, k4, k5, k6, k7, k8, tb, v2, v3, v4, v5, v6, rfl, x, y, z⟩ := hnode
  refine wpAny_call ?_
  k_dflt walk_at "m_enter"
  walk_at "m_steps"
  k_dflt (refine path_add (i := 1) (by k_asm) (by k_asm) (hp.mono fun p hp => by k_mem) (by k_mem) (by omega) ?_)
  intro h9 D tl F9 N9 kx hq
  walk_at "m_steps"
  k_dflt (refine path_add (i := 1) (by k_asm) (by k_asm) (hp.mono fun p hp => by k_mem) (by k_mem) (by omega) ?_)
  intro h9 D2 tl9 F9 N9 kx9 hq9
  walk_at "m_steps"
  k_dflt walk_at "m_does"
  case kD => exact ih _ _ (p ++ [1]) _ (hpart.mono fun p hp => by k_mem) (hq9.mono (by walk_at "m_sub")) (by rw [List.length_append, List.length_singleton]; omega)
  case kd => walk_at "m_room"
  case ku => walk_at "m_units"
  rintro G9 hG9 r news9 h9 tk9 F9 N9 ⟨tl2, ⟨rfl, kx2⟩, l2, vs2, k2, rfl, hl2, hdat⟩
  refine hG9 _ _ ?_
  walk_at "m_steps"
  have hlen := DatAll.length hdat
  rw [List.length_map] at hlen
  have hlen2 := dueC_len (c := false) (p := p ++ [1]) ok ht
  k_dflt (refine lists_add (xs := [_]) (by k_asm) (by k_asm) (by k_mem) (by k_mem) (by rw [List.length_singleton]; omega) ?_)
  intro h10 D10 F10 N10 hlt10
  walk_at "m_steps"
  refine' hret _ _ _ _ (by k_asm) (by k_asm) ⟨_, ?x, ?y⟩
  case x => walk_at "m_extOf"
  case y =>
    refine ⟨_, _, _, rfl, List.mem_cons_self, ?_⟩
    rw [dueW_plain ok hkids]
    refine .cons (.tuple (by k_mem) (.cons (hq.mono (by walk_at "m_sub")) (.cons (.int _ _) .nil))) (hdat.mono (by walk_at "m_sub"))

theorem named_map {h₀ h : Heap} {L : Addr} {m : Str → Option Value} {G : Prop} (F : Fr h₀ L h m) (k : ∀ M, M = m → Fr h₀ L h M → G) : G := k m rfl F
theorem set_init {M : Str → Option Value} {a b : Str} {v : Value} (h : M a = some v) : M = fun z => if z = b then M b else if z = a then some v else M z := by
  funext z
  by_cases h1 : z = b
  · rw [if_pos h1, h1]
  · rw [if_neg h1]
    by_cases h2 : z = a
    · rw [if_pos h2, h2, h]
    · rw [if_neg h2]
theorem set_next {M : Str → Option Value} {a b : Str} {x y k o : Option Value} (hab : a ≠ b) : (fun z => if z = a then x else if z = b then y else if z = b then k else if z = a then o else M z) = fun z => if z = b then y else if z = a then x else M z := by
  funext z
  by_cases h1 : z = a
  · subst h1
    simp only [if_pos, if_neg hab]
  · by_cases h2 : z = b
    · subst h2
      simp only [if_pos, if_neg h1]
    · simp only [if_neg h1, if_neg h2]
inductive NumAt (M : Str → Option Value) (base : News1) (ts : List T) (p : List Int) (i : Nat) (m : Str → Option Value) (nx : News1) : Prop where
  | mk : ∀ l vs k rest kv, (m = (fun z => if z = Str.ofString "k" then kv else if z = Str.ofString "found" then some (.ref l) else M z)) → (nx = (l, listOf vs.toArray k) :: rest) → ((∀ p ∈ rest, p.1 ≠ l)) → ∀ tl, (ExtOf base rest tl) → (DatAll tl vs ((dues (ts.take i) p 1).map pairD)) → NumAt M base ts p i m nx
theorem dues_take {ts : List T} {i : Nat} {t : T} {p : List Int} {j : Int} (h : ts[i]? = some t) (hj : j = 1 + (i : Int)) : dues (ts.take (i + 1)) p 1 = dues (ts.take i) p 1 ++ ((p ++ [j], t.begin) :: dueC false t (p ++ [j])) := by
  have hlt : i < ts.length := (List.getElem?_eq_some_iff.mp h).1
  rw [List.take_succ, h, Option.toList_some, dues_app, List.length_take, Nat.min_eq_left (Nat.le_of_lt hlt), hj]
  simp [dues, dueC]
theorem lists_add2 {prog : Program} {w : World} {A : Around} {E : Value → Shared → Prop} {s : Shared} {h₀ : Heap} {L : Addr} {m : Str → Option Value} {news : News1} {Q : Value → Shared → Prop} {a b : Addr} {xa ya : Array Value} (xs ys : List Value) {ka kb : Nat} (F : Fr h₀ L s.heap m) (N : News h₀ L s.heap news) (ha : (a, listOf xa ka) ∈ news) (hb : (b, listOf ya kb) ∈ news)
    (ex : xa = xs.toArray) (ey : ya = ys.toArray) (hz : xs.length + ys.length ≤ 16384)
    (h : ∀ h' D, Fr h₀ L h' m → News h₀ L h' ((D, listOf (xs ++ ys).toArray 0) :: news) → (∀ p ∈ news, p.1 < D) → Q (.ref D) { s with heap := h' }) : wpAny (model prog w) A (binaryOp .Add (.ref a) (.ref b)) Q E s := by
  subst ex ey
  exact lists_add F N ha hb hz h
theorem take_len {ts : List T} (p : List Int) (i : Nat) (ho : oks ts) (hl : ts.length ≤ 3) (hh : heights ts ≤ 3) : (dues (ts.take i) p 1).length ≤ 201 := by
  have key : ∀ (ts : List T) (i : Nat), oks ts → oks (ts.take i) ∧ heights (ts.take i) ≤ heights ts := by
    intro ts
    induction ts with
    | nil => intro i h; simp [h]
    | cons t ts ih =>
      intro i h
      cases i with
      | zero => simp [oks, heights]
      | succ i =>
        rw [oks] at h
        have := ih i h.2
        simp only [List.take_succ_cons, oks, heights]
        exact ⟨⟨h.1, this.1⟩, by omega⟩
  have k := key ts i ho
  have h1 := dues_len (ts.take i) p 1 k.1
  have h2 : room (heights (ts.take i)) ≤ room 3 := room_mono (by omega)
  have h3 : room 3 = 66 := by decide
  have h4 : (ts.take i).length ≤ 3 := by rw [List.length_take]; omega
  have h5 : (ts.take i).length * (1 + room (heights (ts.take i))) ≤ 3 * (1 + room (heights (ts.take i))) := Nat.mul_le_mul_right _ h4
  omega
theorem num_multi (w : World) (mean : ExcName → Option Value) (mg mb : Str → Option Value) (b : Int) (ts : List T) (c : Bool) (need : Nat) (hne : ts ≠ []) (hlen : ts.length ≤ 3) (oks' : oks ts) (hht : heights ts ≤ 3) (ih : ∀ t ∈ ts, Num w mean mg mb t false need) : Num w mean mg mb (.multi b ts) c (need + 4) := by
  intro v pa p news h hp hle
  have hk : PySem.Challenge.rw_no0359_01.row.prog = PySem.Challenge.rw_no0359_01.row.prog := rfl
  unfold Does
  k_fill
  rw [PartAt] at h
  intro dp un gd cn cs a ccd cl outer A₀ base h₀ L m s Q E B F X N T hk hd hu hret
  obtain ⟨vs, hnode, hparts⟩ := h
  have hvl : vs.length = ts.length := hparts.length
  have hnev : vs.isEmpty = false := hparts.ne hne
  obtain ⟨a, dx, kl, nk, n, h1, h2, h3, h4, h5, h6, h7, h8, k1, k2, k3, k4, k5, k6, k7, k8, tb, v2, v3, v4, v5, v6, rfl, x, y, z⟩ := hnode
  refine wpAny_call ?_
  k_dflt walk_at "m_enter"
  walk_at "m_steps"
  refine For_ruleF (by k_asm) ?_
  walk_at "m_steps"
  k_dflt (refine len_led (vs := vs) (by k_asm) (by k_mem) (by omega) ?_)
  walk_at "m_steps"
  rename News _ _ _ _ => N9
  rename Fr _ _ _ _ => F9
  refine named_map F9 ?_
  intro M hM F10
  refine' Front.useNamed N9 ?f1 ?_
  case f1 => walk_at "m_frontK"
  intro base9 hb N10
  k_dflt (refine loop_range (NumAt M base9 ts p) (by rfl) (by assumption) (small_one (by omega) (by omega) (by omega) (by omega)) (rangeSize_nat _ _) F10 N10 ?_ ?_ ?_)
  · exact ⟨_, [], _, _, _, set_init (by subst hM; exact if_pos rfl), rfl, by subst hb; k_all, _, ExtOf.refl, .nil⟩
  · rintro i m₁ nx I oI h9 tk9 t9 hi ⟨l9, vs9, k9, _, kv9, rfl, rfl, off9, tl9, ⟨rfl, kx9⟩, hdat⟩ offI F11 N11
    have hv9 : vs9.length ≤ 16384 := by
      have e := DatAll.length hdat
      have e2 := take_len p i oks' hlen hht
      rw [List.length_map] at e
      omega
    subst hb hM
    obtain ⟨vi, ti, hvi, hti, hpti⟩ := hparts.get i (by omega)
    have hpti' := hpti
    obtain ⟨vsi, ui, hnodei⟩ := hpti.node
    obtain ⟨ai, dxi, kli, nki, ni, h1i, h2i, h3i, h4i, h5i, h6i, h7i, h8i, k1i, k2i, k3i, k4i, k5i, k6i, k7i, k8i, tbi, v2i, v3i, v4i, v5i, v6i, rfl, xi, yi, zi⟩ := hnodei
    walk_at "m_steps"
    k_dflt (refine path_add (i := (0 + (i : Int) * 1 + 1)) (by k_asm) (by k_asm) (hp.mono fun p hp => by k_mem) (by k_mem) (by omega) ?_)
    intro h12 D tl12 F12 N12 kx12 hq12
    walk_at "m_steps"
    k_dflt (refine item_led (x := .ref ai) (by k_asm) (by k_mem) (by omega) (by omega) (by rw [show (0 + (i : Int) * 1).toNat = i by omega]; exact hvi) ?_)
    walk_at "m_steps"
    k_dflt (refine item_led (x := .ref ai) (by k_asm) (by k_mem) (by omega) (by omega) (by rw [show (0 + (i : Int) * 1).toNat = i by omega]; exact hvi) ?_)
    walk_at "m_steps"
    k_dflt (refine path_add (i := (0 + (i : Int) * 1 + 1)) (by k_asm) (by k_asm) (hp.mono fun p hp => by k_mem) (by k_mem) (by omega) ?_)
    intro h13 D3 tl13 F13 N13 kx13 hq13
    walk_at "m_steps"
    k_dflt walk_at "m_does"
    case kD => exact ih ti (List.mem_of_getElem? hti) _ _ (p ++ [0 + (i : Int) * 1 + 1]) _ (hpti'.mono fun p hp => by k_mem) (hq13.mono (by walk_at "m_sub")) (by rw [List.length_append, List.length_singleton]; omega)
    case kd => walk_at "m_room"
    case ku => walk_at "m_units"
    rintro G9 hG9 r news9 h14 tk14 F14 N14 ⟨tl2, ⟨rfl, kx2⟩, l2, vs2, k2, rfl, hl2, hdat2⟩
    refine hG9 _ _ ?_
    walk_at "m_steps"
    have hl2' := DatAll.length hdat2
    have hl2'' := dueC_len (c := false) (p := p ++ [0 + (i : Int) * 1 + 1]) (oks_get oks' hti) (Nat.le_trans (height_mem (List.mem_of_getElem? hti)) (by omega))
    rw [List.length_map] at hl2'
    have hv9' : vs9.length ≤ 201 := by
      have e := DatAll.length hdat
      have e2 := take_len p i oks' hlen hht
      rw [List.length_map] at e
      omega
    k_dflt (refine' lists_add2 (vs9 ++ [_]) vs2 ?F ?N ?ha ?hb ?ex rfl ?hz ?_)
    case F => k_asm
    case N => k_asm
    case ha => k_mem
    case hb => k_mem
    case ex => first | exact rfl | exact List.push_toArray .. | (rw [List.push_toArray])
    case hz => rw [List.length_append, List.length_singleton]; omega
    intro h15 D15 F15 N15 hlt15
    walk_at "m_steps"
    rename News _ _ _ _ => N16
    rename Fr _ _ _ _ => F16
    refine' LoopEnd.intro F16 N16 _ (Front.mem ?f) ?off ?J
    case f => walk_at "m_frontK"
    case off =>
      k_all
    case J =>
      refine' ⟨_, _, _, _, _, set_next (by decide), rfl, ?o1, _, ?e1, ?d1⟩
      case e1 => walk_at "m_extOf"
      case o1 => k_all
      case d1 =>
        rw [dues_take hti (j := 0 + (i : Int) * 1 + 1) (by omega), List.map_append, List.map_cons, List.append_assoc]
        simp only [pairD]
        refine DatAll.append (hdat.mono (by walk_at "m_sub")) (.cons (.tuple (by k_mem) (.cons (hq12.mono (by walk_at "m_sub")) (.cons (.int _ _) .nil))) (hdat2.mono (by walk_at "m_sub")))
  · rintro m9 nx h9 tk9 ⟨l9, vs9, k9, _, kv9, rfl, rfl, off9, tl9, ⟨rfl, kx9⟩, hdat⟩ F11 N11
    subst hb hM
    walk_at "m_steps"
    refine' hret _ _ _ _ (by k_asm) (by k_asm) ⟨_, ?x, ?y⟩
    case x => walk_at "m_extOf"
    case y =>
      refine ⟨_, _, _, rfl, List.mem_cons_self, ?_⟩
      rw [show dueC c (Mine.T.multi b ts) p = dues (ts.take (((vs.length : Nat) : Int) - 0).toNat) p 1 by
        rw [List.take_of_length_le (by omega)]; cases c <;> rfl]
      exact hdat.mono (by walk_at "m_sub")

theorem Does.mono {w : World} {mean : ExcName → Option Value} {mg mb : Str → Option Value} {f : Addr} {need need' : Nat} {vs : List Value} {news : News1} {Post : Value → News1 → Prop} (D : Does w mean mg mb f need vs news Post) (h : need ≤ need') :
    Does w mean mg mb f need' vs news Post := by
  intro dp un gd cn cs a ccd cl outer A₀ base h₀ L m s Q E B F X N T hk hd hu hret
  exact D dp un gd cn cs a ccd cl outer A₀ base h₀ L m s Q E B F X N T hk (by omega) (by omega) hret
theorem Num.mono {w : World} {mean : ExcName → Option Value} {mg mb : Str → Option Value} {t : T} {c : Bool} {need need' : Nat} (h : Num w mean mg mb t c need) (hn : need ≤ need') : Num w mean mg mb t c need' :=
  fun v pa p news hp hd hl => (h v pa p news hp hd (by omega)).mono hn
mutual
theorem num_all (w : World) (mean : ExcName → Option Value) (mg mb : Str → Option Value) : ∀ (t : T), t.ok → t.height ≤ 4 → Num w mean mg mb t false (8 * t.height + 4) ∧ Num w mean mg mb t true (8 * t.height + 6)
  | .leaf b, ok, ht => by
    have h := num_leaf w mean mg mb b (8 * (T.leaf b).height + 4) (by omega)
    exact ⟨h, num_plain w mean mg mb _ _ ok ht rfl h⟩
  | .letter b t, ok, ht => by
    have ht' : t.height ≤ 4 := by rw [T.height] at ht; omega
    have ok' : t.ok := by rw [T.ok] at ok; exact ok
    have ih := num_all w mean mg mb t ok' ht'
    have h : Num w mean mg mb (.letter b t) false (8 * (T.letter b t).height + 4) := (num_letter w mean mg mb b t _ ih.2).mono (by rw [T.height]; omega)
    exact ⟨h, num_plain w mean mg mb _ _ ok ht rfl h⟩
  | .multi b ts, ok, ht => by
    rw [T.ok] at ok
    rw [T.height] at ht ⊢
    have ih := nums_all w mean mg mb ts ok.2.2 (by omega)
    have h := fun c => num_multi w mean mg mb b ts c (8 * heights ts + 4) ok.1 ok.2.1 ok.2.2 (by omega) ih
    exact ⟨(h false).mono (by omega), (h true).mono (by omega)⟩
theorem nums_all (w : World) (mean : ExcName → Option Value) (mg mb : Str → Option Value) : ∀ (ts : List T), oks ts → heights ts ≤ 4 → ∀ t ∈ ts, Num w mean mg mb t false (8 * heights ts + 4)
  | [], _, _ => fun t h => nomatch h
  | u :: ts, ok, ht => by
    rw [oks] at ok
    rw [heights] at ht ⊢
    have h1 := num_all w mean mg mb u ok.1 (by omega)
    have h2 := nums_all w mean mg mb ts ok.2 (by omega)
    intro t h
    rcases List.mem_cons.mp h with e | h
    · rw [e]; exact h1.1.mono (by omega)
    · exact (h2 t h).mono (by omega)
end

/-! ## the plain law -/
theorem due_row : ∀ (t : T) (c : Bool) (p : List Int), dueC c t p = dues (row t c) p 1
  | .leaf b, false, p => by simp [dueC, due, row, dues]
  | .leaf b, true, p => by simp [dueC, dueW, row, dues, due, T.begin]
  | .letter b t, true, p => by simp [dueC, dueW, row, dues, due, T.begin]
  | .letter b t, false, p => by
    have := due_row t true p
    simpa [dueC, due, row] using this
  | .multi b ts, c, p => by cases c <;> simp [dueC, due, dueW, row]
def atPath : T → Bool → List Int → Option T
  | t, _, [] => some t
  | t, c, n :: q => if 1 ≤ n ∧ n ≤ ((row t c).length : Int) then (match (row t c)[(n - 1).toNat]? with | some u => atPath u false q | none => none) else none
theorem mem_dues {x : List Int × Int} : ∀ {ts : List T} {p : List Int} {j : Int}, x ∈ dues ts p j ↔ ∃ (i : Nat) (k : T), ts[i]? = some k ∧ (x = (p ++ [j + (i : Int)], k.begin) ∨ x ∈ due k (p ++ [j + (i : Int)]))
  | [], p, j => by simp [dues]
  | t :: ts, p, j => by
    rw [dues, List.mem_cons, List.mem_append, mem_dues (ts := ts)]
    constructor
    · rintro (h | h | ⟨i, k, hk, h⟩)
      · exact ⟨0, t, rfl, .inl (by rw [h]; simp)⟩
      · exact ⟨0, t, rfl, .inr (by simpa using h)⟩
      · refine ⟨i + 1, k, by simpa using hk, ?_⟩
        rw [show j + ((i + 1 : Nat) : Int) = j + 1 + (i : Int) by omega]
        exact h
    · rintro ⟨i, k, hk, h⟩
      cases i with
      | zero =>
        obtain rfl : t = k := by simpa using hk
        simp only [Int.natCast_zero, Int.add_zero] at h
        rcases h with h | h
        · exact .inl h
        · exact .inr (.inl h)
      | succ i =>
        refine .inr (.inr ⟨i, k, by simpa using hk, ?_⟩)
        rw [show j + ((i + 1 : Nat) : Int) = j + 1 + (i : Int) by omega] at h
        exact h
theorem due_lt : ∀ {ts : List T} {i : Nat} {k : T} {p : List Int} {j : Int}, ts[i]? = some k → (due k (p ++ [j + (i : Int)])).length + 1 ≤ (dues ts p j).length
  | [], i, k, p, j, h => by simp at h
  | t :: ts, 0, k, p, j, h => by
    obtain rfl : t = k := by simpa using h
    simp only [dues, List.length_cons, List.length_append, Int.natCast_zero, Int.add_zero]
    omega
  | t :: ts, i + 1, k, p, j, h => by
    have := due_lt (ts := ts) (i := i) (k := k) (p := p) (j := j + 1) (by simpa using h)
    rw [show j + ((i + 1 : Nat) : Int) = j + 1 + (i : Int) by omega]
    simp only [dues, List.length_cons, List.length_append]
    omega
theorem at_of_due : ∀ (n : Nat) (t : T) (c : Bool) (p : List Int) (x : List Int × Int), (dueC c t p).length ≤ n → x ∈ dueC c t p → ∃ q u, q ≠ [] ∧ x.1 = p ++ q ∧ atPath t c q = some u ∧ u.begin = x.2
  | 0, t, c, p, x, h, hx => by
    rw [List.eq_nil_of_length_eq_zero (Nat.le_zero.mp h)] at hx
    cases hx
  | n + 1, t, c, p, x, h, hx => by
    rw [due_row] at h hx
    obtain ⟨i, k, hk, hx⟩ := mem_dues.mp hx
    have hlt : i < (row t c).length := (List.getElem?_eq_some_iff.mp hk).1
    have step : ∀ q, atPath t c ((1 + (i : Int)) :: q) = atPath k false q := by
      intro q
      rw [atPath, if_pos (by omega), show (1 + (i : Int) - 1).toNat = i by omega, hk]
    rcases hx with rfl | hx
    · exact ⟨[1 + (i : Int)], k, by simp, rfl, by rw [step]; rfl, rfl⟩
    · have hl := due_lt (p := p) (j := 1) hk
      obtain ⟨q, u, hq, he, ha, hb⟩ := at_of_due n k false (p ++ [1 + (i : Int)]) x (by simp only [dueC]; rw [if_neg (by decide)]; omega) (by simp only [dueC]; rw [if_neg (by decide)]; exact hx)
      exact ⟨(1 + (i : Int)) :: q, u, by simp, by rw [he, List.append_assoc]; rfl, by rw [step]; exact ha, hb⟩
theorem due_of_at : ∀ (q : List Int) (t : T) (c : Bool) (p : List Int) (u : T), q ≠ [] → atPath t c q = some u → (p ++ q, u.begin) ∈ dueC c t p
  | [], _, _, _, _, h, _ => absurd rfl h
  | n :: q, t, c, p, u, _, h => by
    rw [atPath] at h
    split at h
    · rename_i hn
      split at h
      · rename_i k hk
        rw [due_row, mem_dues]
        refine ⟨(n - 1).toNat, k, hk, ?_⟩
        rw [show (1 : Int) + ((n - 1).toNat : Int) = n by omega]
        cases q with
        | nil =>
          rw [atPath] at h
          cases h
          exact .inl rfl
        | cons n' q =>
          refine .inr ?_
          have := due_of_at (n' :: q) k false (p ++ [n]) u (by simp) h
          rw [List.append_assoc] at this
          simpa [dueC] using this
      · cases h
    · cases h
mutual
def lvs : T → List Int
  | .leaf b => [b]
  | .letter _ t => lvs t
  | .multi _ ts => lvss ts
def lvss : List T → List Int
  | [] => []
  | t :: ts => lvs t ++ lvss ts
end
theorem lvss_app : ∀ (ts us : List T), lvss (ts ++ us) = lvss ts ++ lvss us
  | [], us => by simp [lvss]
  | t :: ts, us => by simp only [List.cons_append, lvss, lvss_app ts us, List.append_assoc]
mutual
def T.size : T → Nat
  | .leaf _ => 1
  | .letter _ t => t.size + 1
  | .multi _ ts => sizes ts + 1
def sizes : List T → Nat
  | [] => 0
  | t :: ts => t.size + sizes ts
end
def szroom : Nat → Nat
  | 0 => 1
  | h + 1 => 1 + 3 * szroom h
theorem szroom_mono {a b : Nat} (h : a ≤ b) : szroom a ≤ szroom b := by
  induction h with
  | refl => exact Nat.le_refl _
  | step _ ih => rw [szroom]; omega
mutual
theorem size_le : ∀ (t : T), t.ok → t.size ≤ szroom t.height
  | .leaf _, _ => by simp only [T.size, T.height, szroom]; omega
  | .letter _ t, h => by
    rw [T.ok] at h
    have := size_le t h
    simp only [T.size, T.height, szroom]; omega
  | .multi _ ts, h => by
    rw [T.ok] at h
    have := sizes_le ts h.2.2
    have h3 := h.2.1
    have : ts.length * szroom (heights ts) ≤ 3 * szroom (heights ts) := Nat.mul_le_mul_right _ h3
    simp only [T.size, T.height, szroom]; omega
theorem sizes_le : ∀ (ts : List T), oks ts → sizes ts ≤ ts.length * szroom (heights ts)
  | [], _ => by simp only [sizes, List.length_nil, Nat.zero_mul]; omega
  | t :: ts, h => by
    rw [oks] at h
    have a := size_le t h.1
    have b := sizes_le ts h.2
    have m1 : szroom t.height ≤ szroom (heights (t :: ts)) := szroom_mono (by rw [heights]; omega)
    have m2 : szroom (heights ts) ≤ szroom (heights (t :: ts)) := szroom_mono (by rw [heights]; omega)
    have m3 : ts.length * szroom (heights ts) ≤ ts.length * szroom (heights (t :: ts)) := Nat.mul_le_mul_left _ m2
    simp only [sizes, List.length_cons, Nat.add_mul, Nat.one_mul] at *
    omega
end
mutual
theorem lvs_len : ∀ (t : T), (lvs t).length ≤ t.size
  | .leaf _ => by simp [lvs, T.size]
  | .letter _ t => by have := lvs_len t; simp only [lvs, T.size]; omega
  | .multi _ ts => by have := lvss_len ts; simp only [lvs, T.size]; omega
theorem lvss_len : ∀ (ts : List T), (lvss ts).length ≤ sizes ts
  | [] => by simp [lvss, sizes]
  | t :: ts => by
    have := lvs_len t
    have := lvss_len ts
    simp only [lvss, sizes, List.length_append]; omega
end
theorem size_121 {t : T} (ok : t.ok) (ht : t.height ≤ 4) : t.size ≤ 121 := Nat.le_trans (size_le t ok) (Nat.le_trans (szroom_mono ht) (by decide))

/-! ## a comprehension of two clauses, the element a name -/
abbrev comp2 (elt t0 i0 t1 i1 : Expr) (scope : Scope) (pos : Pos) : Expr := .ListComp elt [⟨t0, i0, [], 0⟩, ⟨t1, i1, [], 0⟩] scope pos
theorem compTurn2_in (elt t0 i0 t1 i1 : Expr) (scope : Scope) (pos : Pos) (it acc : Value) (env : Env) :
    compTurn (comp2 elt t0 i0 t1 i1 scope pos) 1 it acc env = (standAt i1.pos >>= fun _ => pyNext it >>= fun r => match r with
      | none => pure (.done .next)
      | some v => letOwnedTupleGo t1 it v >>= fun _ => assign t1 env v >>= fun _ =>
        (eval elt env >>= fun x => call (.builtin "list.append") [acc, x] >>= fun _ => pure ()) >>= fun _ =>
          again (.compLoop (comp2 elt t0 i0 t1 i1 scope pos) 1 it acc env)) := by rfl
theorem compTurn2_out (elt t0 i0 t1 i1 : Expr) (scope : Scope) (pos : Pos) (it acc : Value) (env : Env) :
    compTurn (comp2 elt t0 i0 t1 i1 scope pos) 0 it acc env = (standAt i0.pos >>= fun _ => pyNext it >>= fun r => match r with
      | none => pure (.done .next)
      | some v => letOwnedTupleGo t0 it v >>= fun _ => assign t0 env v >>= fun _ =>
        (eval i1 env >>= fun x => standAt i1.pos >>= fun _ => foldedSetIterable i1 env x >>= fun x => holding [x] (pyIter x) >>= fun it2 =>
          runOwn (.compStart (comp2 elt t0 i0 t1 i1 scope pos) 1 it2 acc env) env >>= fun _ =>
          again (.compLoop (comp2 elt t0 i0 t1 i1 scope pos) 0 it acc env))) := by rfl
section
variable {prog : Program} {w : World} {A : Around} {E : Value → Shared → Prop} {R : Result → Shared → Prop} {s : Shared}
theorem codeAny_comp2_in {elt t0 i0 t1 i1 : Expr} {scope : Scope} {pos : Pos} {it acc : Value} {env : Env} (I : Nat → Shared → Prop)
    (turn : ∀ n s, I n s → wpAny (model prog w) A (pyNext it) (fun r s₁ => match r with
      | none => R (.ok .next) s₁
      | some v => wpAny (model prog w) A (assign t1 env v) (fun _ s₂ => wpAny (model prog w) A (eval elt env) (fun x s₃ =>
          wpAny (model prog w) A (call (.builtin "list.append") [acc, x]) (fun _ s₄ => ∃ m, m < n ∧ I m s₄) (notedBy (model prog w) A env fun e s' => R (.error e) s') s₃)
          (notedBy (model prog w) A env fun e s' => R (.error e) s') s₂) (notedBy (model prog w) A env fun e s' => R (.error e) s') s₁) (notedBy (model prog w) A env fun e s' => R (.error e) s') s)
    (n : Nat) (h : I n s) (ht : ∀ v, letOwnedTupleGo t1 it v = pure () := by intro _; rfl) :
    codeAny (model prog w) A (.compLoop (comp2 elt t0 i0 t1 i1 scope pos) 1 it acc env) R s := by
  refine codeAny_loop rfl I (fun n s hI => ?_) n h
  show wpAny _ A ((compTurn (comp2 elt t0 i0 t1 i1 scope pos) 1 it acc env).onRaise (fun x => do noteFrame x env; theTreesLotGoes x)) _ _ s
  refine wpAny_noted ?_
  rw [compTurn2_in]
  refine wpAny_bind (wpAny_standAt (wpAny_bind (wpAny_mono (turn n s hI) (fun r s₁ h₁ => ?_) fun _ _ h' => h')))
  cases r with
  | none => exact wpAny_pure h₁
  | some v =>
    refine wpAny_bind (wpAny_of_eq (ht v) ?_)
    exact wpAny_bind (wpAny_mono h₁ (fun _ s₂ h₂ => wpAny_bind (wpAny_bind (wpAny_mono h₂ (fun x s₃ h₃ => wpAny_bind (wpAny_mono h₃
      (fun _ s₄ h₄ => wpAny_pure (wpAny_pure ⟨rfl, h₄⟩)) fun _ _ h' => h')) fun _ _ h' => h'))) fun _ _ h' => h')
theorem codeAny_comp2_start1 {elt t0 i0 t1 i1 : Expr} {scope : Scope} {pos : Pos} {it acc : Value} {env : Env}
    (h0 : codeAny (model prog w) A (.compLoop (comp2 elt t0 i0 t1 i1 scope pos) 1 it acc env) R s)
    (h : wpAny (model prog w) A (pyIter it) (fun it' s' => codeAny (model prog w) A (.compLoop (comp2 elt t0 i0 t1 i1 scope pos) 1 it' acc env) R s')
      (notedBy (model prog w) A env fun x s' => R (.error x) s') s) :
    codeAny (model prog w) A (.compStart (comp2 elt t0 i0 t1 i1 scope pos) 1 it acc env) R s := by
  refine codeAny_of_tree ?_
  show wpAny _ _ ((compStart (comp2 elt t0 i0 t1 i1 scope pos) 1 it acc env).onRaise (fun x => do noteFrame x env; standAt theWindowsPlace)) _ _ s
  refine wpAny_notedAt ?_
  unfold compStart
  show wpAny _ _ (ask >>= _) _ _ s
  refine wpAny_bind (wpAny_askSetting (wpAny_ite ?_))
  split
  · first
      | exact wpAny_bind (wpAny_pure (wpAny_pure (And.intro rfl h0)))
      | exact wpAny_pure (And.intro rfl h0)
  · first
      | exact wpAny_bind (wpAny_rule (wpAny_bind (wpAny_standAt (wpAny_bind (wpAny_mono h (fun it' s' h' => wpAny_pure (And.intro rfl h')) fun _ _ x => x)))))
      | (refine wpAny_bind (wpAny_rule ?_); show wpAny _ _ (standAt i1.pos >>= _) _ _ s; exact wpAny_bind (wpAny_standAt (wpAny_bind (wpAny_mono h (fun it' s' h' => wpAny_pure (And.intro rfl h')) fun _ _ x => x))))
theorem codeAny_comp2_out {elt t0 i0 t1 i1 : Expr} {scope : Scope} {pos : Pos} {it acc : Value} {env : Env} (I : Nat → Shared → Prop)
    (turn : ∀ n s, I n s → wpAny (model prog w) A (pyNext it) (fun r s₁ => match r with
      | none => R (.ok .next) s₁
      | some v => ∀ E', wpAny (model prog w) A (assign t0 env v) (fun _ s₂ => wpAny (model prog w) A (eval i1 env) (fun x s₃ => wpAny (model prog w) A (pyIter x) (fun it2 s₄ =>
          codeAny (model prog w) A (.compStart (comp2 elt t0 i0 t1 i1 scope pos) 1 it2 acc env) (fun r s₅ => r = .ok .next ∧ ∃ m, m < n ∧ I m s₅) s₄) E' s₃) E' s₂) E' s₁) (notedBy (model prog w) A env fun e s' => R (.error e) s') s)
    (n : Nat) (h : I n s) (ht : ∀ v, letOwnedTupleGo t0 it v = pure () := by intro _; rfl) (hf : ∀ x, foldedSetIterable i1 env x = pure x := by intro _; rfl) :
    codeAny (model prog w) A (.compLoop (comp2 elt t0 i0 t1 i1 scope pos) 0 it acc env) R s := by
  refine codeAny_loop rfl I (fun n s hI => ?_) n h
  show wpAny _ A ((compTurn (comp2 elt t0 i0 t1 i1 scope pos) 0 it acc env).onRaise (fun x => do noteFrame x env; theTreesLotGoes x)) _ _ s
  refine wpAny_noted ?_
  rw [compTurn2_out]
  refine wpAny_bind (wpAny_standAt (wpAny_bind (wpAny_mono (turn n s hI) (fun r s₁ h₁ => ?_) fun _ _ h' => h')))
  cases r with
  | none => exact wpAny_pure h₁
  | some v =>
    refine wpAny_bind (wpAny_of_eq (ht v) ?_)
    refine wpAny_bind (wpAny_mono (h₁ _) (fun _ s₂ h₂ => wpAny_bind (wpAny_mono h₂ (fun x s₃ h₃ => wpAny_bind (wpAny_standAt (wpAny_bind (wpAny_of_eq (hf x) (wpAny_bind (wpAny_holding (wpAny_mono h₃ (fun it2 s₄ h₄ => ?_) fun _ _ h' => h'))))))) fun _ _ h' => h')) fun _ _ h' => h')
    refine wpAny_bind (wpAny_runOwn (codeAny_mono h₄ fun r s₅ h₅ => ?_))
    obtain ⟨rfl, h₆⟩ := h₅
    exact wpAny_pure ⟨rfl, h₆⟩
end
section
variable {prog : Program} {w : World} {A : Around} {E : Value → Shared → Prop} {s : Shared} {h₀ : Heap} {L : Addr} {m : Str → Option Value} {env : Env}
/-- the inner loop: the items of a list of the ledger are put behind the list being made -/
theorem comp2_inner {i0 i1 : Expr} {x y : Str} {px py pz : Pos} {scope : Scope} {cl : List (Str × Addr)} {pos : Pos} {I C D l : Addr} {oI oC : Obj} {ys ws : List Value} {k2 : Nat} {nx : News1} {mc : Str → Option Value} (RR : Result → Shared → Prop)
    (hh : A.handled = none) (hkind : scope.kind = .function) (hy : scope.names.lookup y = some .local) (hyd : (y == ("__debug__" : Str)) = false)
    (hC : LCg.NsObj oC mc) (F : Fr h₀ L s.heap m) (N : News h₀ L s.heap ((I, oI) :: (C, oC) :: (D, LCg.lst ys) :: nx)) (off : LCg.Off3 I C D nx) (ne : (@Ne Nat I C) ∧ (@Ne Nat I D) ∧ (@Ne Nat C D)) (hl : (l, listOf ws.toArray k2) ∈ nx) (hsz : ys.length + ws.length ≤ 16384)
    (done : ∀ h tk oC' mc', LCg.NsObj oC' mc' → Fr h₀ L h m → News h₀ L h ((I, oI) :: (C, oC') :: (D, LCg.lst (ys ++ ws)) :: nx) → RR (.ok .next) { s with heap := h, toks := tk }) :
    wpAny (model prog w) A (pyIter (.ref l)) (fun it2 s₄ => codeAny (model prog w) A (.compStart (comp2 (.Name y py) (.Name x px) i0 (.Name y pz) i1 scope pos) 1 it2 (.ref D) (compEnvC scope cl C env)) RR s₄) E s := by
  have hls := N.isList (List.mem_cons_of_mem _ (List.mem_cons_of_mem _ (List.mem_cons_of_mem _ hl)))
  have hIlt : I < s.heap.objs.size := Heap.lt_size (N _ List.mem_cons_self).1
  have hCm := N _ (List.mem_cons_of_mem _ List.mem_cons_self)
  have hDm := N _ (List.mem_cons_of_mem _ (List.mem_cons_of_mem _ List.mem_cons_self))
  have hClt : C < s.heap.objs.size := Heap.lt_size hCm.1
  have hDlt : D < s.heap.objs.size := Heap.lt_size hDm.1
  have hlm := N _ (List.mem_cons_of_mem _ (List.mem_cons_of_mem _ (List.mem_cons_of_mem _ hl)))
  have hllt : l < s.heap.objs.size := Heap.lt_size hlm.1
  have hLlt : L < s.heap.objs.size := F.ns.lt
  have off3 := off.mem
  have hlC : l ≠ C := (off3 _ hl).2.1
  have hlD : l ≠ D := (off3 _ hl).2.2
  have hCL : C ≠ L := hCm.2.1
  have hDL : D ≠ L := hDm.2.1
  have hC₀ : h₀.get? C = none := hCm.2.2
  have hD₀ : h₀.get? D = none := hDm.2.2
  have hCD : C ≠ D := ne.2.2
  have hIC : I ≠ C := ne.1
  have hID : I ≠ D := ne.2.1
  refine wpAny_pyIter_list hls ?_
  obtain ⟨J2, hJ⟩ : ∃ J2, s.heap.objs.size = J2 := ⟨_, rfl⟩
  rw [hJ]
  have W := Walks.list (prog := prog) (w := w) hh J2 l (hJ ▸ Nat.ne_of_lt hllt) ws.toArray
  rw [List.size_toArray] at W
  have hJC : C ≠ J2 := hJ ▸ Nat.ne_of_lt hClt
  have hJD : D ≠ J2 := hJ ▸ Nat.ne_of_lt hDlt
  have hJI : I ≠ J2 := hJ ▸ Nat.ne_of_lt hIlt
  have hJL : L ≠ J2 := hJ ▸ Nat.ne_of_lt hLlt
  have hJ₀ : h₀.get? J2 = none := hJ ▸ next_is_new F
  have hJn : ∀ p ∈ nx, p.1 ≠ J2 := fun p hp => hJ ▸ Nat.ne_of_lt (Heap.lt_size (N p (List.mem_cons_of_mem _ (List.mem_cons_of_mem _ (List.mem_cons_of_mem _ hp)))).1)
  have loop : ∀ s₃ : Shared, (∃ h₁, s₃ = { s with heap := h₁ } ∧ Fr h₀ L h₁ m ∧ News h₀ L h₁ ((I, oI) :: (C, oC) :: (D, LCg.lst ys) :: nx) ∧ h₁.IsListIter J2 l 0 ∧ h₁.IsList l ws.toArray) →
      codeAny (model prog w) A (.compLoop (comp2 (.Name y py) (.Name x px) i0 (.Name y pz) i1 scope pos) 1 (.ref J2) (.ref D) (compEnvC scope cl C env)) RR s₃ := by
    rintro s₃ ⟨h₁, rfl, F₁, N₁, it₁, l₁⟩
    refine codeAny_comp2_in
      (fun k s' => ∃ h' tk i oC' mc', s' = { s with heap := h', toks := tk } ∧ i ≤ ws.length ∧ k = ws.length + 1 - i ∧ (h'.IsListIter J2 l i ∧ h'.IsList l ws.toArray) ∧ LCg.NsObj oC' mc' ∧ Fr h₀ L h' m ∧ News h₀ L h' ((I, oI) :: (C, oC') :: (D, LCg.lst (ys ++ ws.take i)) :: nx)) ?_ (ws.length + 1)
      ⟨h₁, _, 0, oC, mc, rfl, Nat.zero_le _, rfl, ⟨it₁, l₁⟩, hC, F₁, by rw [List.take_zero, List.append_nil]; exact N₁⟩
    rintro k s' ⟨h', tk, i, oC', mc', rfl, hi, rfl, hst', hC', F', N'⟩
    by_cases hlt : i < ws.length
    · refine W.item i _ _ _ hlt hst' fun v h₂ tk₂ hPv hst₂ hk₂ => ?_
      have F₂ : Fr h₀ L h₂ m := LCg.fr_but F' hk₂ hJL hJ₀
      have N₂ : News h₀ L h₂ ((I, oI) :: (C, oC') :: (D, LCg.lst (ys ++ ws.take i)) :: nx) := LCg.news_but N' hk₂ fun p hp => by
        rcases List.mem_cons.mp hp with rfl | hp
        · exact hJI
        · rcases List.mem_cons.mp hp with rfl | hp
          · exact hJC
          · rcases List.mem_cons.mp hp with rfl | hp
            · exact hJD
            · exact hJn p hp
      refine wpAny_assign_Name (wpAny_storeName_local (lookup_relabel_local hy) (hC'.ns (N₂ _ (List.mem_cons_of_mem _ List.mem_cons_self)).1) (fun h₃ hn₃ hs₃ => ?_) (by simp [compEnvC, relabel, hkind]))
      obtain ⟨oC₃, heC, hoC⟩ := LCg.ns_obj hn₃
      have hst₃ : h₃.IsListIter J2 l (i + 1) ∧ h₃.IsList l ws.toArray := W.frame (i + 1) _ _ hst₂ fun b hb o e => hs₃.extBut b o (fun q => by
        have q' : b = C := q
        rcases List.mem_cons.mp hb with e' | hb
        · exact hJC (q'.symm.trans e')
        · exact hlC ((List.mem_singleton.mp hb).symm.trans q')) e
      have F₃ : Fr h₀ L h₃ m := F₂.change hs₃ hCL hC₀
      have zI : h₃.get? I = some oI := hs₃.extBut _ _ hIC (N₂ _ List.mem_cons_self).1
      have zD : h₃.get? D = some (LCg.lst (ys ++ ws.take i)) := hs₃.extBut _ _ (Ne.symm hCD) (N₂ (D, LCg.lst (ys ++ ws.take i)) (List.mem_cons_of_mem _ (List.mem_cons_of_mem _ List.mem_cons_self))).1
      have zn : ∀ p ∈ nx, h₃.get? p.1 = some p.2 := fun p hp => hs₃.extBut _ _ (off3 p hp).2.1 (N₂ p (List.mem_cons_of_mem _ (List.mem_cons_of_mem _ (List.mem_cons_of_mem _ hp)))).1
      refine wpAny_Name (wpAny_loadName_local (v := v) (by simp [compEnvC, relabel, hkind]) (lookup_relabel_local hy) hn₃ (if_pos rfl) ?_) hyd
      refine append_at (hsz := by show (ys ++ ws.take i).toArray.size ≤ sizeLine; rw [List.size_toArray, List.length_append, List.length_take, sizeLine_eq]; omega) zD fun h₅ hs₅ hD₅ => ?_
      refine ⟨ws.length + 1 - (i + 1), by omega, h₅, _, i + 1, oC₃, _, rfl, hlt, rfl, W.frame (i + 1) _ _ hst₃ fun b hb o e => hs₅.extBut b o (fun q => by
        have q' : b = D := q
        rcases List.mem_cons.mp hb with e' | hb
        · exact hJD (q'.symm.trans e')
        · exact hlD ((List.mem_singleton.mp hb).symm.trans q')) e, hoC, F₃.change hs₅ hDL hD₀, ?_⟩
      have ht : ys ++ ws.take (i + 1) = (ys ++ ws.take i) ++ [v] := by
        have hv : ws[i]? = some v := by simpa using hPv
        rw [List.take_add_one, hv, Option.toList_some, List.append_assoc]
      intro p hp
      rcases List.mem_cons.mp hp with rfl | hp
      · exact ⟨hs₅.extBut _ _ hID zI, (N₂ (I, oI) List.mem_cons_self).2⟩
      · rcases List.mem_cons.mp hp with rfl | hp
        · exact ⟨hs₅.extBut _ _ hCD heC, hCL, hC₀⟩
        · rcases List.mem_cons.mp hp with rfl | hp
          · refine ⟨?_, hDL, hD₀⟩
            rw [ht]
            exact hD₅.trans (congrArg some (LCg.lst_snoc _ v))
          · exact ⟨hs₅.extBut _ _ (off3 p hp).2.2 (zn p hp), (N₂ p (List.mem_cons_of_mem _ (List.mem_cons_of_mem _ (List.mem_cons_of_mem _ hp)))).2⟩
    · obtain rfl : i = ws.length := Nat.le_antisymm hi (Nat.not_lt.mp hlt)
      refine W.done _ _ _ hst' fun h₂ tk₂ hk₂ => ?_
      refine done h₂ tk₂ oC' mc' hC' (LCg.fr_but F' hk₂ hJL hJ₀) ?_
      rw [List.take_length] at N'
      exact LCg.news_but N' hk₂ fun p hp => by
        rcases List.mem_cons.mp hp with rfl | hp
        · exact hJI
        · rcases List.mem_cons.mp hp with rfl | hp
          · exact hJC
          · rcases List.mem_cons.mp hp with rfl | hp
            · exact hJD
            · exact hJn p hp
  have l0 := loop { s with heap := s.heap.push { cls := .type "list_iterator", data := .fields #[.ref l, rawInt 0] } } ⟨_, rfl, F.push _, (fun p hp => ⟨Heap.get?_push_of_some _ (N p hp).1, (N p hp).2⟩), ⟨_, hJ ▸ Heap.get?_push_size _ rfl, rfl, rfl⟩, hls.at fun o e => Heap.get?_push_of_some _ e⟩
  exact codeAny_comp2_start1 l0 (W.self 0 _ _ _ ⟨⟨_, hJ ▸ Heap.get?_push_size _ rfl, rfl, rfl⟩, hls.at fun o e => Heap.get?_push_of_some _ e⟩ l0)
end
section
variable {prog : Program} {w : World} {A : Around} {E : Value → Shared → Prop} {s : Shared} {h₀ : Heap} {L : Addr} {m : Str → Option Value} {env : Env}
inductive Comp2Turn (h₀ : Heap) (L : Addr) (m : Str → Option Value) (s₁ : Shared) (I : Addr) (oI : Obj) (C : Addr) (oC : Obj) (D : Addr) (ys : List Value) (K : List Value → News1 → Prop) (xv : Value) (s₃ : Shared) : Prop where
  | mk : ∀ h' tk' nx' l ws k2, (s₃ = { s₁ with heap := h', toks := tk' }) → (xv = .ref l) → (Fr h₀ L h' m) → (News h₀ L h' ((I, oI) :: (C, oC) :: (D, LCg.lst ys) :: nx')) → (LCg.Off3 I C D nx') → ((l, listOf ws.toArray k2) ∈ nx') → (ys.length + ws.length ≤ 16384) → (K (ys ++ ws) nx') → Comp2Turn h₀ L m s₁ I oI C oC D ys K xv s₃
theorem Comp2Turn.intro {s₁ : Shared} {I C D : Addr} {oI oC : Obj} {ys : List Value} {K : List Value → News1 → Prop} {h' : Heap} {tk' : Nat} {all : News1} (nx' : News1) {l : Addr} {ws : List Value} {k2 : Nat} (F : Fr h₀ L h' m) (N : News h₀ L h' all)
    (sub : ∀ p ∈ (I, oI) :: (C, oC) :: (D, LCg.lst ys) :: nx', p ∈ all) (off : LCg.Off3 I C D nx') (hl : (l, listOf ws.toArray k2) ∈ nx') (hsz : ys.length + ws.length ≤ 16384) (k : K (ys ++ ws) nx') :
    Comp2Turn h₀ L m s₁ I oI C oC D ys K (.ref l) { s₁ with heap := h', toks := tk' } := ⟨h', tk', nx', l, ws, k2, rfl, rfl, F, fun p hp => N p (sub p hp), off, hl, hsz, k⟩
inductive Comp2At (prog : Program) (w : World) (A : Around) (h₀ : Heap) (L : Addr) (m : Str → Option Value) (env : Env) (i1 : Expr) (x : Str) (scope : Scope) (cl : List (Str × Addr)) (Q : Value → Shared → Prop) (xv : Value) (s₁ : Shared) : Prop where
  | mk : ∀ (ax : Addr) (its : List Value) (k : Nat) (news : News1) (J : Nat → List Value → News1 → Prop), (xv = .ref ax) → (A.handled = none) → (Fr h₀ L s₁.heap m) → (News h₀ L s₁.heap news) → ((ax, listOf its.toArray k) ∈ news) → (J 0 [] news) → ((∀ i ys nx, J i ys nx → (ax, listOf its.toArray k) ∈ nx)) → ((∀ i v ys nx I oI C oC D m₂ h tk (E' : Value → Shared → Prop), its[i]? = some v → J i ys nx → LCg.NsObj oC m₂ → m₂ x = some v → Fr h₀ L h m → News h₀ L h ((I, oI) :: (C, oC) :: (D, LCg.lst ys) :: nx) → LCg.Off3 I C D nx → ((@Ne Nat I C) ∧ (@Ne Nat I D) ∧ (@Ne Nat C D)) → wpAny (model prog w) A (eval i1 (compEnvC scope cl C env)) (Comp2Turn h₀ L m { s₁ with heap := h, toks := tk } I oI C oC D ys (J (i + 1))) E' { s₁ with heap := h, toks := tk })) → ((∀ D h tk nx ys, J its.length ys nx → Fr h₀ L h m → News h₀ L h ((D, LCg.lst ys) :: nx) → LCg.Off1 D nx → Q (.ref D) { s₁ with heap := h, toks := tk })) → Comp2At prog w A h₀ L m env i1 x scope cl Q xv s₁
theorem ListComp2_W {i0 i1 : Expr} {x y : Str} {px py pz : Pos} {scope : Scope} {cl : List (Str × Addr)} {pos : Pos} {Q : Value → Shared → Prop} (F₀ : Fr h₀ L s.heap m)
    (hclos : closureFor scope env = pure cl) (hcell : ∀ y ∈ scope.names, y.2 ≠ .cell) (hkind : scope.kind = .function)
    (hnames : ∀ y ∈ scope.names, y.2 = .local → scope.names.lookup y.1 = some .local) (hx : scope.names.lookup x = some .local) (hy : scope.names.lookup y = some .local) (hyd : (y == ("__debug__" : Str)) = false)
    (h : wpAny (model prog w) A (eval i0 env) (Comp2At prog w A h₀ L m env i1 x scope cl Q) E s)
    (hs : ∀ x, foldedSetIterable i0 env x = pure x := by intro _; rfl) (hf : ∀ C x, foldedSetIterable i1 (compEnvC scope cl C env) x = pure x := by intro _ _; rfl) :
    wpAny (model prog w) A (eval (comp2 (.Name y py) (.Name x px) i0 (.Name y pz) i1 scope pos) env) Q E s := by
  rw [eval_ListComp]
  refine wpAny_comprehension_free (use := none) rfl hs hclos hkind hnames (wpAny_mono h (fun xv s₁ h₁ => ?_) fun _ _ e => e)
  obtain ⟨ax, its, k, news, J, rfl, hh, F, N, hax, hJ0, hJax, turn, fin⟩ := h₁
  have hls := N.isList hax
  have halt : ax < s₁.heap.objs.size := Heap.lt_size (N.get hax)
  have hLlt : L < s₁.heap.objs.size := F.ns.lt
  refine wpAny_pyIter_list hls ?_
  refine wpAny_newObj_type (wpAny_newFunctionEnv hcell (by intro y hy; simp at hy) (fun h₁ hns₁ hsb₁ => ?_) hkind)
  dsimp only at hns₁ hsb₁ ⊢
  generalize hH1 : s₁.heap.push { cls := .type "list_iterator", data := .fields #[.ref ax, .int 0 0] } = H1 at hns₁ hsb₁ ⊢
  generalize hH2 : H1.push { cls := .type "list", dict := none, data := .seq ([] : List Value).toArray } = H2 at hns₁ hsb₁ ⊢
  have hs1 : H1.objs.size = s₁.heap.objs.size + 1 := by rw [← hH1, Heap.size_push]
  have hs2 : H2.objs.size = s₁.heap.objs.size + 2 := by rw [← hH2, Heap.size_push, hs1]
  have old1 : ∀ b o, s₁.heap.get? b = some o → H1.get? b = some o := fun b o e => hH1 ▸ Heap.get?_push_of_some _ e
  have old2 : ∀ b o, H1.get? b = some o → H2.get? b = some o := fun b o e => hH2 ▸ Heap.get?_push_of_some _ e
  have gI : H1.get? s₁.heap.objs.size = some { cls := .type "list_iterator", data := .fields #[.ref ax, .int 0 0] } := hH1 ▸ Heap.get?_push_size _ rfl
  have gD : H2.get? H1.objs.size = some (LCg.lst []) := hH2 ▸ Heap.get?_push_size _ rfl
  have fresh₀ : ∀ a, s₁.heap.objs.size ≤ a → h₀.get? a = none := fun a ha => by
    cases e : h₀.get? a with
    | none => rfl
    | some o' => exact absurd (Heap.lt_size (F.keep a o' e)) (Nat.not_lt.mpr ha)
  obtain ⟨I, hI⟩ : ∃ I, s₁.heap.objs.size = I := ⟨_, rfl⟩
  obtain ⟨D, hD⟩ : ∃ D, H1.objs.size = D := ⟨_, rfl⟩
  obtain ⟨C, hC⟩ : ∃ C, H2.objs.size = C := ⟨_, rfl⟩
  rw [hI] at hs1 hs2 gI halt hLlt fresh₀ ⊢
  rw [hD] at hs1 gD ⊢
  rw [hC] at hs2 hns₁ hsb₁ ⊢
  have hnlt : ∀ p ∈ news, @LT.lt Nat _ p.1 I := fun p hp => hI ▸ Heap.lt_size (N p hp).1
  have hID : @Ne Nat I D := by omega
  have hIC : @Ne Nat I C := by omega
  have hCD : @Ne Nat C D := by omega
  have hIL : @Ne Nat L I := Nat.ne_of_lt hLlt
  have hDL : @Ne Nat D L := by have : @LT.lt Nat _ L I := hLlt; omega
  have hCL : @Ne Nat C L := by have : @LT.lt Nat _ L I := hLlt; omega
  have hI₀ : h₀.get? I = none := fresh₀ I (Nat.le_refl I)
  have hD₀ : h₀.get? D = none := fresh₀ D (show @LE.le Nat _ I D by omega)
  have hC₀ : h₀.get? C = none := fresh₀ C (show @LE.le Nat _ I C by omega)
  have off₀ : LCg.Off3 I C D news := LCg.Off3.of fun p hp => by
    have := hnlt p hp
    exact ⟨Nat.ne_of_lt this, Nat.ne_of_lt (by omega), Nat.ne_of_lt (by omega)⟩
  have gI' : h₁.get? I = some { cls := .type "list_iterator", data := .fields #[.ref ax, .int 0 0] } := hsb₁.extBut _ _ hIC (Heap.get?_push_of_some _ (old2 _ _ gI))
  have gD' : h₁.get? D = some (LCg.lst []) := hsb₁.extBut _ _ (Ne.symm hCD) (Heap.get?_push_of_some _ gD)
  have old : ∀ b o, s₁.heap.get? b = some o → h₁.get? b = some o := fun b o e => hsb₁.extBut b o (fun q => by
    have q' : b = C := q
    have : @LT.lt Nat _ b I := hI ▸ Heap.lt_size e
    rw [q'] at this
    exact absurd this (by omega)) (Heap.get?_push_of_some _ (old2 _ _ (old1 _ _ e)))
  have hls₁ : h₁.IsList ax its.toArray := hls.at fun o e => old _ o e
  have F₁ : Fr h₀ L h₁ m := F.keeps old
  have hit₁ : h₁.IsListIter I ax 0 := ⟨_, gI', rfl, rfl⟩
  have W := Walks.list (prog := prog) (w := w) hh I ax (Nat.ne_of_lt halt) its.toArray
  rw [List.size_toArray] at W
  have loop : ∀ s₃ : Shared, s₃ = { s₁ with heap := h₁, toks := s₁.toks + ([] : List (Str × Value)).length } →
      codeAny (model prog w) A (.compLoop (comp2 (.Name y py) (.Name x px) i0 (.Name y pz) i1 scope pos) 0 (.ref I) (.ref D) (compEnvC scope cl C env))
        (compPost (model prog w) A E none Q (.ref D) C) s₃ := by
    rintro s₃ rfl
    refine codeAny_comp2_out
      (fun k s' => ∃ h' tk i oI oC mc ys nx, s' = { s₁ with heap := h', toks := tk } ∧ i ≤ its.length ∧ k = its.length + 1 - i ∧ (h'.IsListIter I ax i ∧ h'.IsList ax its.toArray) ∧ LCg.NsObj oC mc ∧ Fr h₀ L h' m ∧ News h₀ L h' ((I, oI) :: (C, oC) :: (D, LCg.lst ys) :: nx) ∧ LCg.Off3 I C D nx ∧ J i ys nx) ?_ (its.length + 1) ?_ (hf := hf C)
    · rintro k' s' ⟨h', tk, i, oI, oC, mc, ys, nx, rfl, hi, rfl, hst', hC', F', N', off', hJ'⟩
      have off3 := off'.mem
      have haI : ax ≠ I := (off3 _ (hJax _ _ _ hJ')).1
      have haC : ax ≠ C := (off3 _ (hJax _ _ _ hJ')).2.1
      by_cases hlt : i < its.length
      · refine W.item i _ _ _ hlt hst' fun v h₂ tk₂ hPv hst₂ hk₂ E' => ?_
        have hv : its[i]? = some v := by simpa using hPv
        have F₂ : Fr h₀ L h₂ m := LCg.fr_but F' hk₂ hIL hI₀
        have zC : h₂.get? C = some oC := hk₂ _ _ (by simpa using Ne.symm hIC) (N' (C, oC) (List.mem_cons_of_mem _ List.mem_cons_self)).1
        have zD : h₂.get? D = some (LCg.lst ys) := hk₂ _ _ (by simpa using Ne.symm hID) (N' (D, LCg.lst ys) (List.mem_cons_of_mem _ (List.mem_cons_of_mem _ List.mem_cons_self))).1
        have zn : ∀ p ∈ nx, h₂.get? p.1 = some p.2 := fun p hp => hk₂ _ _ (by simpa using (off3 p hp).1) (N' p (List.mem_cons_of_mem _ (List.mem_cons_of_mem _ (List.mem_cons_of_mem _ hp)))).1
        refine wpAny_assign_Name (wpAny_storeName_local (lookup_relabel_local hx) (hC'.ns zC) (fun h₃ hn₃ hs₃ => ?_) (by simp [compEnvC, relabel, hkind]))
        obtain ⟨oC₃, heC, hoC⟩ := LCg.ns_obj hn₃
        have hst₃ : h₃.IsListIter I ax (i + 1) ∧ h₃.IsList ax its.toArray := W.frame (i + 1) _ _ hst₂ fun b hb o e => hs₃.extBut b o (fun q => by
          have q' : b = C := q
          rcases List.mem_cons.mp hb with e' | hb
          · exact hIC (e'.symm.trans q')
          · exact haC ((List.mem_singleton.mp hb).symm.trans q')) e
        obtain ⟨oI₃, heI, hcI, hdI⟩ := hst₃.1
        have F₃ : Fr h₀ L h₃ m := F₂.change hs₃ hCL hC₀
        have N₃ : News h₀ L h₃ ((I, oI₃) :: (C, oC₃) :: (D, LCg.lst ys) :: nx) := fun p hp => by
          rcases List.mem_cons.mp hp with rfl | hp
          · exact ⟨heI, Ne.symm hIL, hI₀⟩
          · rcases List.mem_cons.mp hp with rfl | hp
            · exact ⟨heC, hCL, hC₀⟩
            · rcases List.mem_cons.mp hp with rfl | hp
              · exact ⟨hs₃.extBut _ _ (Ne.symm hCD) zD, hDL, hD₀⟩
              · exact ⟨hs₃.extBut _ _ (off3 p hp).2.1 (zn p hp), (N' p (List.mem_cons_of_mem _ (List.mem_cons_of_mem _ (List.mem_cons_of_mem _ hp)))).2⟩
        refine wpAny_mono (turn i v ys nx I oI₃ C oC₃ D _ h₃ _ E' hv hJ' hoC (if_pos rfl) F₃ N₃ off' ⟨hIC, hID, hCD⟩) (fun xv s₄ h₄ => ?_) fun _ _ e => e
        obtain ⟨h₅, tk₅, nx₅, l, ws, k2, rfl, rfl, F₅, N₅, off₅, hl₅, hsz₅, hJ₅⟩ := h₄
        refine comp2_inner (fun r s₅ => r = .ok .next ∧ ∃ M, M < its.length + 1 - i ∧ ∃ h' tk i oI oC mc ys nx, s₅ = { s₁ with heap := h', toks := tk } ∧ i ≤ its.length ∧ M = its.length + 1 - i ∧ (h'.IsListIter I ax i ∧ h'.IsList ax its.toArray) ∧ LCg.NsObj oC mc ∧ Fr h₀ L h' m ∧ News h₀ L h' ((I, oI) :: (C, oC) :: (D, LCg.lst ys) :: nx) ∧ LCg.Off3 I C D nx ∧ J i ys nx) hh hkind hy hyd hoC F₅ N₅ off₅ ⟨hIC, hID, hCD⟩ hl₅ hsz₅ fun h₆ tk₆ oC₆ mc₆ hC₆ F₆ N₆ => ?_
        refine ⟨rfl, its.length + 1 - (i + 1), by omega, h₆, tk₆, i + 1, oI₃, oC₆, mc₆, ys ++ ws, nx₅, rfl, hlt, rfl, ⟨⟨oI₃, (N₆ (I, oI₃) List.mem_cons_self).1, hcI, hdI⟩, ?_⟩, hC₆, F₆, N₆, off₅, hJ₅⟩
        exact N₆.isList (List.mem_cons_of_mem _ (List.mem_cons_of_mem _ (List.mem_cons_of_mem _ (hJax _ _ _ hJ₅))))
      · obtain rfl : i = its.length := Nat.le_antisymm hi (Nat.not_lt.mp hlt)
        refine W.done _ _ _ hst' fun h₂ tk₂ hk₂ => ?_
        have F₂ : Fr h₀ L h₂ m := LCg.fr_but F' hk₂ hIL hI₀
        have zC : h₂.get? C = some oC := hk₂ _ _ (by simpa using Ne.symm hIC) (N' (C, oC) (List.mem_cons_of_mem _ List.mem_cons_self)).1
        have zD : h₂.get? D = some (LCg.lst ys) := hk₂ _ _ (by simpa using Ne.symm hID) (N' (D, LCg.lst ys) (List.mem_cons_of_mem _ (List.mem_cons_of_mem _ List.mem_cons_self))).1
        have zn : ∀ p ∈ nx, h₂.get? p.1 = some p.2 := fun p hp => hk₂ _ _ (by simpa using (off3 p hp).1) (N' p (List.mem_cons_of_mem _ (List.mem_cons_of_mem _ (List.mem_cons_of_mem _ hp)))).1
        refine ⟨mc, hC'.ns zC, fun h'' hs'' => fin D h'' tk₂ nx ys hJ' (F₂.change hs'' hCL hC₀) (fun p hp => ?_) off'.one⟩
        rcases List.mem_cons.mp hp with rfl | hp
        · exact ⟨hs''.extBut _ _ (Ne.symm hCD) zD, hDL, hD₀⟩
        · exact ⟨hs''.extBut _ _ (off3 p hp).2.1 (zn p hp), (N' p (List.mem_cons_of_mem _ (List.mem_cons_of_mem _ (List.mem_cons_of_mem _ hp)))).2⟩
    · obtain ⟨oC, heC, hoC⟩ := LCg.ns_obj hns₁
      refine ⟨h₁, _, 0, { cls := .type "list_iterator", data := .fields #[.ref ax, .int 0 0] }, oC, _, [], news, rfl, Nat.zero_le _, rfl, ⟨hit₁, hls₁⟩, hoC, F₁, fun p hp => ?_, off₀, hJ0⟩
      rcases List.mem_cons.mp hp with rfl | hp
      · exact ⟨gI', Ne.symm hIL, hI₀⟩
      · rcases List.mem_cons.mp hp with rfl | hp
        · exact ⟨heC, hCL, hC₀⟩
        · rcases List.mem_cons.mp hp with rfl | hp
          · exact ⟨gD', hDL, hD₀⟩
          · exact ⟨old _ _ (N p hp).1, (N p hp).2⟩
  exact codeAny_compStart_list (loop _ rfl) (W.self 0 _ _ _ ⟨hit₁, hls₁⟩ (loop _ rfl))
end

/-! ## _law_leaves -/
theorem eq_nil {prog : Program} {w : World} {A : Around} {E : Value → Shared → Prop} {s : Shared} {h₀ : Heap} {L a b : Addr} {news : News1} {xs : List Value} {ka kb : Nat} {Q : Value → Shared → Prop}
    (N : News h₀ L s.heap news) (ha : (a, listOf xs.toArray ka) ∈ news) (hb : (b, listOf ([] : List Value).toArray kb) ∈ news) (hu : A.units < cLine) (h : Q (.bool xs.isEmpty) s) :
    wpAny (model prog w) A (compareOp .Eq (.ref a) (.ref b)) Q E s := by
  have la := N.isList ha
  have lb := N.isList hb
  cases xs with
  | nil => exact (SeqAt.RcAt.lists (e := fun _ => true) la lb rfl hu (fun j h1 _ => absurd h1 (by simp))) prog w E Q (by simpa using h)
  | cons x xs => exact (SeqAt.RcAt.lists_lengths la lb (by simp) hu) prog w E Q (by simpa using h)
local macro_rules | `(tactic| walk_at "compareOp Eq ref ref") => `(tactic| (k_here; (with_reducible show wpAny _ _ (compareOp CmpOp.Eq (Value.ref _) (Value.ref _)) _ _ _); k_dflt (refine' eq_nil ?N ?a ?b ?u ?_; (case N => k_asm); (case a => k_mem); (case b => k_mem); (case u => walk_at "m_units"); k_whole)))
def LvAt (news : News1) (r : Value) (ds : List Int) (news' : News1) : Prop := ∃ tl, ExtOf news news' tl ∧ ∃ l vs k, r = .ref l ∧ (l, listOf vs.toArray k) ∈ tl ∧ IntsAre vs ds
def Lv (w : World) (mean : ExcName → Option Value) (mg mb : Str → Option Value) (t : T) (need : Nat) : Prop :=
  ∀ (v : Value) (news : News1), PartAt news v t → Does w mean mg mb 195 need [v] news (fun r news' => LvAt news r (lvs t) news')
theorem lv_leaf (w : World) (mean : ExcName → Option Value) (mg mb : Str → Option Value) (b : Int) (need : Nat) (hn : 2 ≤ need) : Lv w mean mg mb (.leaf b) need := by
  intro v news h
  have hk : PySem.Challenge.rw_no0359_01.row.prog = PySem.Challenge.rw_no0359_01.row.prog := rfl
  unfold Does
  k_fill
  rw [PartAt] at h
  intro dp un gd cn cs a ccd cl outer A₀ base h₀ L m s Q E B F X N T hk hd hu hret
  obtain ⟨a, dx, kl, nk, n, h1, h2, h3, h4, h5, h6, h7, h8, k1, k2, k3, k4, k5, k6, k7, k8, tb, v2, v3, v4, v5, v6, rfl, x, y, z⟩ := h
  refine wpAny_call ?_
  k_dflt walk_at "m_enter"
  walk_at "m_steps"
  refine' hret _ _ _ _ (by k_asm) (by k_asm) ⟨_, ?x, ?y⟩
  case x => walk_at "m_extOf"
  case y => exact ⟨_, [_], _, rfl, List.mem_cons_self, .cons _ _ .nil⟩
theorem IntsAre.append {vs ws : List Value} {a b : List Int} (h : IntsAre vs a) (k : IntsAre ws b) : IntsAre (vs ++ ws) (a ++ b) := by
  induction h with
  | nil => exact k
  | cons n t _ ih => exact .cons n t ih
theorem off3_ext {I C D : Addr} {tl2 r : News1} {oI oC oD : Obj} (off : LCg.Off3 I C D r) (h2 : ∀ q ∈ ((I, oI) :: (C, oC) :: (D, oD) :: r : News1), ∀ p ∈ tl2, q.1 ≠ p.1) : LCg.Off3 I C D (tl2 ++ r) := by
  refine LCg.Off3.of fun p hp => ?_
  rcases List.mem_append.mp hp with hp | hp
  · exact ⟨fun e => h2 _ List.mem_cons_self p hp e.symm, fun e => h2 _ (List.mem_cons_of_mem _ List.mem_cons_self) p hp e.symm, fun e => h2 _ (List.mem_cons_of_mem _ (List.mem_cons_of_mem _ List.mem_cons_self)) p hp e.symm⟩
  · exact off.mem p hp
inductive LvJ (base : News1) (ts : List T) (i : Nat) (ys : List Value) (nx : News1) : Prop where
  | mk : ∀ tl, (ExtOf base nx tl) → (IntsAre ys (lvss (ts.take i))) → LvJ base ts i ys nx
theorem lvss_take {ts : List T} {i : Nat} {t : T} (h : ts[i]? = some t) : lvss (ts.take (i + 1)) = lvss (ts.take i) ++ lvs t := by
  rw [List.take_add_one, h, Option.toList_some, lvss_app]
  simp [lvss]
theorem sizes_take (ts : List T) : ∀ i, sizes (ts.take i) ≤ sizes ts := by
  induction ts with
  | nil => intro i; simp
  | cons t ts ih =>
    intro i
    cases i with
    | zero => simp [sizes]
    | succ i => simp only [List.take_succ_cons, sizes]; have := ih i; omega
theorem size_mem {t : T} : ∀ {ts : List T}, t ∈ ts → t.size ≤ sizes ts
  | _ :: _, .head _ => by rw [sizes]; omega
  | _ :: _, .tail _ h => by have := size_mem h; rw [sizes]; omega
theorem sizes_120 {ts : List T} (ho : oks ts) (hl : ts.length ≤ 3) (hh : heights ts ≤ 3) : sizes ts ≤ 120 := by
  have h1 := sizes_le ts ho
  have h2 : szroom (heights ts) ≤ szroom 3 := szroom_mono hh
  have h3 : szroom 3 = 40 := by decide
  have h5 : ts.length * szroom (heights ts) ≤ 3 * szroom (heights ts) := Nat.mul_le_mul_right _ hl
  omega
theorem Comp2At.intro {prog : Program} {w : World} {A : Around} {h₀ : Heap} {L : Addr} {m : Str → Option Value} {env : Env} {i1 : Expr} {x : Str} {scope : Scope} {cl : List (Str × Addr)} {Q : Value → Shared → Prop} {s₁ : Shared} {ax : Addr} (its : List Value) {k : Nat} (news : News1) (J : Nat → List Value → News1 → Prop)
    (hh : A.handled = none) (F : Fr h₀ L s₁.heap m) (N : News h₀ L s₁.heap news) (hax : (ax, listOf its.toArray k) ∈ news) (hj : J 0 [] news) (hjx : ∀ i ys nx, J i ys nx → (ax, listOf its.toArray k) ∈ nx)
    (turn : ∀ i v ys nx I oI C oC D m₂ h tk (E' : Value → Shared → Prop), its[i]? = some v → J i ys nx → LCg.NsObj oC m₂ → m₂ x = some v → Fr h₀ L h m → News h₀ L h ((I, oI) :: (C, oC) :: (D, LCg.lst ys) :: nx) → LCg.Off3 I C D nx → ((@Ne Nat I C) ∧ (@Ne Nat I D) ∧ (@Ne Nat C D)) →
      wpAny (model prog w) A (eval i1 (compEnvC scope cl C env)) (Comp2Turn h₀ L m { s₁ with heap := h, toks := tk } I oI C oC D ys (J (i + 1))) E' { s₁ with heap := h, toks := tk })
    (fin : ∀ D h tk nx ys, J its.length ys nx → Fr h₀ L h m → News h₀ L h ((D, LCg.lst ys) :: nx) → LCg.Off1 D nx → Q (.ref D) { s₁ with heap := h, toks := tk }) :
    Comp2At prog w A h₀ L m env i1 x scope cl Q (.ref ax) s₁ := ⟨ax, its, k, news, J, rfl, hh, F, N, hax, hj, hjx, turn, fin⟩
theorem lv_multi (w : World) (mean : ExcName → Option Value) (mg mb : Str → Option Value) (b : Int) (ts : List T) (need : Nat) (hne : ts ≠ []) (hlen : ts.length ≤ 3) (oks' : oks ts) (hht : heights ts ≤ 3) (ih : ∀ t ∈ ts, Lv w mean mg mb t need) : Lv w mean mg mb (.multi b ts) (need + 4) := by
  intro v news h
  have hk : PySem.Challenge.rw_no0359_01.row.prog = PySem.Challenge.rw_no0359_01.row.prog := rfl
  unfold Does
  k_fill
  rw [PartAt] at h
  intro dp un gd cn cs a ccd cl outer A₀ base h₀ L m s Q E B F X N T hk hd hu hret
  obtain ⟨vs, hnode, hparts⟩ := h
  have hvl : vs.length = ts.length := hparts.length
  have hnev : vs.isEmpty = false := hparts.ne hne
  obtain ⟨a, dx, kl, nk, n, h1, h2, h3, h4, h5, h6, h7, h8, k1, k2, k3, k4, k5, k6, k7, k8, tb, v2, v3, v4, v5, v6, rfl, x, y, z⟩ := hnode
  refine wpAny_call ?_
  k_dflt walk_at "m_enter"
  walk_at "m_steps"
  refine ListComp2_W (by k_asm) (by rfl) (by decide) (by rfl) (by decide) (by rfl) (by rfl) (by rfl) ?_
  walk_at "m_steps"
  k_dflt (refine lists_add2 vs [] (by k_asm) (by k_asm) (by k_mem) (by k_mem) rfl rfl (by rw [List.length_nil]; omega) ?_)
  rw [List.append_nil]
  intro h8 D8 F8 N8 hlt8
  k_dflt (refine Comp2At.intro vs _ (LvJ _ ts) (by rfl) F8 N8 List.mem_cons_self ⟨_, ExtOf.refl, .nil⟩ ?_ ?_ ?_)
  · rintro i ys nx ⟨tl, ⟨rfl, _⟩, _⟩
    exact List.mem_append_right _ List.mem_cons_self
  · rintro i v9 ys nx I oI C oC D m₂ h9 tk9 E' hi9 ⟨tl, ⟨rfl, kx⟩, hys⟩ hC hx F9 N9 off ne
    obtain ⟨v8, ti, hvi, hti, hpti⟩ := hparts.get i (by have := (List.getElem?_eq_some_iff.mp hi9).1; omega)
    obtain rfl : v8 = v9 := Option.some.inj (hvi.symm.trans hi9)
    obtain ⟨ai, rfl⟩ := hpti.ref
    try k_fold
    walk_at "m_steps"
    k_dflt walk_at "m_does"
    case kD => exact ih ti (List.mem_of_getElem? hti) _ _ (hpti.mono fun p hp => by k_mem)
    case kd => walk_at "m_room"
    case ku => walk_at "m_units"
    rintro G9 hG9 r news9 h10 tk10 F10 N10 ⟨tl2, ⟨rfl, kx2⟩, l2, ws, k2, rfl, hl2, hws⟩
    refine hG9 _ _ ?_
    walk_at "m_steps"
    have hy1 : ys.length ≤ 120 := by
      rw [hys.length]
      exact Nat.le_trans (lvss_len _) (Nat.le_trans (sizes_take ts i) (sizes_120 oks' hlen hht))
    have hw1 : ws.length ≤ 120 := by
      rw [hws.length]
      exact Nat.le_trans (lvs_len _) (Nat.le_trans (size_mem (List.mem_of_getElem? hti)) (sizes_120 oks' hlen hht))
    refine Comp2Turn.intro _ (by k_asm) (by k_asm) ?_ (off3_ext off kx2) (List.mem_append_left _ hl2) (by omega) ?_
    · intro p hp
      simp only [List.mem_cons, List.mem_append] at hp ⊢
      rcases hp with h | h | h | h | h | h <;> simp only [h, true_or, or_true]
    · refine ⟨tl2 ++ tl, ⟨(List.append_assoc ..).symm, ?_⟩, ?_⟩
      · intro q hq p hp
        rcases List.mem_append.mp hp with hp | hp
        · exact kx2 q (by k_mem) p hp
        · exact kx q hq p hp
      · rw [lvss_take hti]
        exact IntsAre.append hys hws
  · rintro D h9 tk9 nx ys ⟨tl, ⟨rfl, kx⟩, hys⟩ F9 N9 off1
    walk_at "m_steps"
    refine' hret _ _ _ _ (by k_asm) (by k_asm) ⟨_, ?x, ?y⟩
    case x => walk_at "m_extOf"
    case y =>
      refine ⟨_, _, _, rfl, List.mem_cons_self, ?_⟩
      rw [List.take_of_length_le (by omega)] at hys
      exact hys
theorem lv_letter (w : World) (mean : ExcName → Option Value) (mg mb : Str → Option Value) (b : Int) (t : T) (need : Nat) (ok : t.ok) (ht : t.height ≤ 3) (ih : Lv w mean mg mb t need) : Lv w mean mg mb (.letter b t) (need + 4) := by
  intro v news h
  have hk : PySem.Challenge.rw_no0359_01.row.prog = PySem.Challenge.rw_no0359_01.row.prog := rfl
  unfold Does
  k_fill
  rw [PartAt] at h
  intro dp un gd cn cs a ccd cl outer A₀ base h₀ L m s Q E B F X N T hk hd hu hret
  obtain ⟨u, hnode, hin⟩ := h
  obtain ⟨au, rfl⟩ := hin.ref
  have hparts : PartsAt news [Value.ref au] [t] := by simp only [PartsAt]; exact ⟨hin, trivial⟩
  have ih' : ∀ t' ∈ [t], Lv w mean mg mb t' need := fun t' h => by rw [List.mem_singleton.mp h]; exact ih
  have hlen : [t].length ≤ 3 := by simp
  have oks' : oks [t] := by simp only [oks]; exact ⟨ok, trivial⟩
  have hht : heights [t] ≤ 3 := by simp only [heights]; omega
  have hvl : [Value.ref au].length = [t].length := rfl
  obtain ⟨a, dx, kl, nk, n, h1, h2, h3, h4, h5, h6, h7, h8, k1, k2, k3, k4, k5, k6, k7, k8, tb, v2, v3, v4, v5, v6, rfl, x, y, z⟩ := hnode
  refine wpAny_call ?_
  k_dflt walk_at "m_enter"
  walk_at "m_steps"
  refine ListComp2_W (by k_asm) (by rfl) (by decide) (by rfl) (by decide) (by rfl) (by rfl) (by rfl) ?_
  walk_at "m_steps"
  k_dflt (refine lists_add2 [] [Value.ref au] (by k_asm) (by k_asm) (by k_mem) (by k_mem) rfl rfl (by rw [List.length_nil, List.length_singleton]; omega) ?_)
  rw [List.nil_append]
  intro h8 D8 F8 N8 hlt8
  k_dflt (refine Comp2At.intro [Value.ref au] _ (LvJ _ [t]) (by rfl) F8 N8 List.mem_cons_self ⟨_, ExtOf.refl, .nil⟩ ?_ ?_ ?_)
  · rintro i ys nx ⟨tl, ⟨rfl, _⟩, _⟩
    exact List.mem_append_right _ List.mem_cons_self
  · rintro i v9 ys nx I oI C oC D m₂ h9 tk9 E' hi9 ⟨tl, ⟨rfl, kx⟩, hys⟩ hC hx F9 N9 off ne
    obtain ⟨v8, ti, hvi, hti, hpti⟩ := hparts.get i (by have := (List.getElem?_eq_some_iff.mp hi9).1; omega)
    obtain rfl : v8 = v9 := Option.some.inj (hvi.symm.trans hi9)
    obtain ⟨ai, rfl⟩ := hpti.ref
    try k_fold
    walk_at "m_steps"
    k_dflt walk_at "m_does"
    case kD => exact ih' ti (List.mem_of_getElem? hti) _ _ (hpti.mono fun p hp => by k_mem)
    case kd => walk_at "m_room"
    case ku => walk_at "m_units"
    rintro G9 hG9 r news9 h10 tk10 F10 N10 ⟨tl2, ⟨rfl, kx2⟩, l2, ws, k2, rfl, hl2, hws⟩
    refine hG9 _ _ ?_
    walk_at "m_steps"
    have hy1 : ys.length ≤ 120 := by
      rw [hys.length]
      exact Nat.le_trans (lvss_len _) (Nat.le_trans (sizes_take _ i) (sizes_120 oks' hlen hht))
    have hw1 : ws.length ≤ 120 := by
      rw [hws.length]
      exact Nat.le_trans (lvs_len _) (Nat.le_trans (size_mem (List.mem_of_getElem? hti)) (sizes_120 oks' hlen hht))
    refine Comp2Turn.intro _ (by k_asm) (by k_asm) ?_ (off3_ext off kx2) (List.mem_append_left _ hl2) (by omega) ?_
    · intro p hp
      simp only [List.mem_cons, List.mem_append] at hp ⊢
      rcases hp with h | h | h | h | h | h <;> simp only [h, true_or, or_true]
    · refine ⟨tl2 ++ tl, ⟨(List.append_assoc ..).symm, ?_⟩, ?_⟩
      · intro q hq p hp
        rcases List.mem_append.mp hp with hp | hp
        · exact kx2 q (by k_mem) p hp
        · exact kx q hq p hp
      · rw [lvss_take hti]
        exact IntsAre.append hys hws
  · rintro D h9 tk9 nx ys ⟨tl, ⟨rfl, kx⟩, hys⟩ F9 N9 off1
    walk_at "m_steps"
    refine' hret _ _ _ _ (by k_asm) (by k_asm) ⟨_, ?x, ?y⟩
    case x => walk_at "m_extOf"
    case y =>
      refine ⟨_, _, _, rfl, List.mem_cons_self, ?_⟩
      rw [List.take_of_length_le (by simp)] at hys
      simpa [lvs, lvss] using hys
theorem Lv.mono {w : World} {mean : ExcName → Option Value} {mg mb : Str → Option Value} {t : T} {need need' : Nat} (h : Lv w mean mg mb t need) (hn : need ≤ need') : Lv w mean mg mb t need' :=
  fun v news hp => (h v news hp).mono hn
mutual
theorem lv_all (w : World) (mean : ExcName → Option Value) (mg mb : Str → Option Value) : ∀ (t : T), t.ok → t.height ≤ 4 → Lv w mean mg mb t (4 * t.height + 2)
  | .leaf b, _, _ => lv_leaf w mean mg mb b _ (by omega)
  | .letter b t, ok, ht => by
    have ht' : t.height ≤ 3 := by rw [T.height] at ht; omega
    have ok' : t.ok := by rw [T.ok] at ok; exact ok
    exact (lv_letter w mean mg mb b t _ ok' ht' (lv_all w mean mg mb t ok' (by omega))).mono (by rw [T.height]; omega)
  | .multi b ts, ok, ht => by
    rw [T.ok] at ok
    rw [T.height] at ht ⊢
    exact (lv_multi w mean mg mb b ts _ ok.1 ok.2.1 ok.2.2 (by omega) (lvs_all w mean mg mb ts ok.2.2 (by omega))).mono (by omega)
theorem lvs_all (w : World) (mean : ExcName → Option Value) (mg mb : Str → Option Value) : ∀ (ts : List T), oks ts → heights ts ≤ 4 → ∀ t ∈ ts, Lv w mean mg mb t (4 * heights ts + 2)
  | [], _, _ => fun t h => nomatch h
  | u :: ts, ok, ht => by
    rw [oks] at ok
    rw [heights] at ht ⊢
    have h1 := lv_all w mean mg mb u ok.1 (by omega)
    have h2 := lvs_all w mean mg mb ts ok.2 (by omega)
    intro t h
    rcases List.mem_cons.mp h with e | h
    · rw [e]; exact h1.mono (by omega)
    · exact (h2 t h).mono (by omega)
end

/-! ## list.extend of a reversed list -/
section
variable {prog : Program} {w : World} {A : Around} {E : Value → Shared → Prop} {s : Shared}
theorem slot_lri_hint : Slot "list_reverseiterator" "__length_hint__" "list_reverseiterator.__length_hint__" :=
  .of (owner := "list_reverseiterator") (n := "__length_hint__") (by rw [typeLookup_type, builtinLookup_eq_fast]; kernel_rfl) (by decide +kernel) (by decide +kernel) (by decide +kernel)
    (by first | exact .inl (by decide +kernel) | exact .inr (by decide +kernel)) (by rw [isSubtype_type]; kernel_rfl)
theorem lri_no_len : typeLookup (.type "list_reverseiterator") "__len__" = pure none := by rw [typeLookup_type, builtinLookup_eq_fast]; kernel_rfl
theorem hint_rev {it l : Addr} {i : Int} {Q : Bool → Shared → Prop} (hit : s.heap.IsRevIter it l i) (h : Q false s) : wpAny (model prog w) A (Builtin.List.listLengthHint (.ref it)) Q E s := by
  unfold Builtin.List.listLengthHint
  refine wpAny_bind (wpAny_specialOf hit.typeIs lri_no_len ?_)
  show wpAny _ _ (specialOf (Value.ref it) (Str.ofString "__length_hint__") >>= _) _ _ _
  refine wpAny_bind (wpAny_specialOf hit.typeIs slot_lri_hint.lookup ?_)
  generalize hid : ("list_reverseiterator.__length_hint__" : String) = id0
  wp_delta
  rw [show splitId id0 = some ("list_reverseiterator", "__length_hint__") from by subst hid; decide +kernel]
  subst hid
  refine wpAny_bind (wpAny_isInstance (T := "list_reverseiterator") (b := true) hit.typeIs (by rw [isSubtype_type]; kernel_rfl) ?_)
  refine wpAny_ite_split (fun hab => absurd hab (by decide)) (fun _ => ?_)
  refine wpAny_ite_split (fun _ => ?_) (fun hab => absurd (by decide +kernel) hab)
  refine wpAny_ite_split (fun hab => absurd hab (by decide +kernel)) (fun _ => wpAny_pure h)

theorem rev_take_succ {vs : List Value} {i : Nat} {v : Value} (h : vs.toArray[vs.toArray.size - 1 - i]? = some v) (hi : i < vs.length) : vs.reverse.take (i + 1) = vs.reverse.take i ++ [v] := by
  have e : vs.reverse[i]? = some v := by
    rw [List.getElem?_reverse hi]
    simpa using h
  rw [List.take_add_one, e, Option.toList_some]
theorem ext_rev_loop (hh : A.handled = none) {S I l : Addr} {ys vs : List Value} {R : Result → Shared → Prop} (hSI : S ≠ I) (hSl : S ≠ l) (hlI : l ≠ I) (hz : ys.length + vs.length ≤ 16384) (res : Value) :
    ∀ (k i : Nat) (s : Shared) (c : Nat), vs.length - i = k → i ≤ vs.length → s.heap.IsRevIter I l ((vs.toArray.size : Int) - 1 - (i : Int)) → s.heap.IsList l vs.toArray → s.heap.get? S = some (W.listOf (ys ++ vs.reverse.take i).toArray c) →
    (∀ h' tk c', (∀ b o, b ≠ S → b ≠ I → s.heap.get? b = some o → h'.get? b = some o) → h'.get? S = some (W.listOf (ys ++ vs.reverse).toArray c') → R (.ok (.ret res)) { s with heap := h', toks := tk }) →
    codeAny (model prog w) A (.builtin "list.extend.loop" ⟨[.ref S, .ref I, res], []⟩) R s := by
  have W := Walks.listRev (prog := prog) (w := w) (A := A.in1) hh I l hlI vs.toArray
  intro k
  induction k with
  | zero =>
    intro i s c hk hi hit hl hS hR
    obtain rfl : i = vs.length := by omega
    refine codeAny_builtin F.entry_extend_loop ?_
    rw [Around.under_plainId F.plain_extend_loop _]
    show wpAny _ A.in1 (pyNext (.ref I) >>= _) _ _ s
    refine wpAny_bind (W.done s _ _ ⟨Nat.le_refl _, by simpa using hit, hl⟩ fun h' tk hk' => ?_)
    refine wpAny_pure (hR h' tk c (fun b o h1 h2 e => hk' b o (by simpa using h2) e) ?_)
    have e := hk' S _ (by simpa using hSI) hS
    rw [List.take_of_length_le (by simp)] at e
    exact e
  | succ k ih =>
    intro i s c hk hi hit hl hS hR
    have hlt : i < vs.length := by omega
    refine codeAny_builtin F.entry_extend_loop ?_
    rw [Around.under_plainId F.plain_extend_loop _]
    show wpAny _ A.in1 (pyNext (.ref I) >>= _) _ _ s
    refine wpAny_bind (W.item i s _ _ (by simpa using hlt) ⟨by simpa using hi, hit, hl⟩ fun v h₁ tk₁ hP hst' hk' => ?_)
    have hS' := hk' S _ (by simpa using hSI) hS
    show wpAny _ A.in1 (updateSeq S (·.push v) >>= _) _ _ _
    refine wpAny_bind ?_
    refine wpAny_updateSeq hS' rfl (wpAny_pure ⟨plainId_quiet F.plain_extend_loop _, ih (i + 1) _ (c + 1) (by omega) hlt ?_ ?_ ?_ fun h'' tk'' c'' hk'' hS'' => ?_⟩) ?_ ?_
    · exact hst'.2.1.at fun o e => (Heap.get?_update_other _ _ hSI).trans e
    · exact hst'.2.2.at fun o e => (Heap.get?_update_other _ _ hSl).trans e
    · refine (Heap.get?_update_self _ hS' rfl).trans ?_
      rw [mapSeq_push, rev_take_succ hP hlt, ← List.append_assoc, List.push_toArray]
    · refine hR h'' tk'' c'' (fun b o h1 h2 e => hk'' b o h1 h2 ((Heap.get?_update_other _ _ (Ne.symm h1)).trans (hk' b o (by simpa using h2) e))) hS''
    · rw [List.size_toArray, List.length_append, List.length_take, List.length_reverse, sizeLine_eq]; omega
    · rw [Array.size_push, List.size_toArray, List.length_append, List.length_take, List.length_reverse, sizeLine_eq]; omega
theorem extend_rev {h₀ : Heap} {L : Addr} {m : Str → Option Value} {S I l : Addr} {ys vs : List Value} {n k : Nat} {rest : News1} {Q : Value → Shared → Prop} (hh : A.handled = none) (F : Fr h₀ L s.heap m) (N : News h₀ L s.heap ((S, listOf ys.toArray n) :: rest))
    (hI : (I, revObj l ((vs.length : Int) - 1)) ∈ rest) (hl : (l, listOf vs.toArray k) ∈ rest) (hS : ∀ p ∈ rest, p.1 ≠ S) (hlI : l ≠ I) (hz : ys.length + vs.length ≤ 16384) (rest' : News1) (hr : ∀ p ∈ rest', p ∈ rest) (hi : ∀ p ∈ rest', p.1 ≠ I)
    (h : ∀ h' tk c', Fr h₀ L h' m → News h₀ L h' ((S, listOf (ys ++ vs.reverse).toArray c') :: rest') → Q .none { s with heap := h', toks := tk }) :
    wpAny (model prog w) A (call (.builtin "list.extend") [.ref S, .ref I]) Q E s := by
  have mS := N _ List.mem_cons_self
  have mI := N _ (List.mem_cons_of_mem _ hI)
  have ml := N _ (List.mem_cons_of_mem _ hl)
  have hSI : S ≠ I := fun e => hS _ hI e.symm
  have hSl : S ≠ l := fun e => hS _ hl e.symm
  have hit : s.heap.IsRevIter I l ((vs.length : Int) - 1) := ⟨_, mI.1, rfl, rfl⟩
  have hls : s.heap.IsList l vs.toArray := N.isList (List.mem_cons_of_mem _ hl)
  refine wpAny_call (codeAny_call_builtin PySem.F.slot_list_extend.plain PySem.F.entry_list_extend (PySem.F.slot_list_extend.check _ _ _ _ _ _ _ _ ⟨_, mS.1, rfl⟩ (PySem.F.args_list_extend_2 _ _) ?_))
  refine wpAny_bind (m := selfAndOne "list.extend" ⟨[.ref S, .ref I], []⟩) (wpAny_of_eq (a := (Value.ref S, Value.ref I)) rfl ?_)
  show wpAny _ _ (Builtin.List.listExtendWith (.ref S) (.ref I) .none) _ _ s
  unfold Builtin.List.listExtendWith
  refine wpAny_bind (wpAny_typeOf (T := "list_reverseiterator") hit.typeIs ?_)
  have h1 : Builtin.List.listSameRef (.ref S) (.ref I) = false := by simp [Builtin.List.listSameRef, hSI]
  have h2 : (Value.type "list_reverseiterator" == Value.type "list") = false := by decide
  have h3 : (Value.type "list_reverseiterator" == Value.type "tuple") = false := by decide
  simp only [h1, h2, h3, Bool.or_false, Bool.false_eq_true, if_false]
  refine wpAny_bind (wpAny_pyIter_revIter hit ?_)
  refine wpAny_bind (wpAny_holding (hint_rev hit ?_))
  refine wpAny_ite_split (fun hab => absurd hab (by decide +kernel)) (fun _ => wpAny_pure ⟨plainId_quiet PySem.F.plain_extend_loop _, ?_⟩)
  refine ext_rev_loop hh hSI hSl hlI hz .none vs.length 0 s n rfl (Nat.zero_le _) (by simpa using hit) hls (by rw [List.take_zero, List.append_nil]; exact mS.1) fun h' tk c' hk' hS' => ?_
  have keep : ∀ b o, h₀.get? b = some o → h'.get? b = some o := fun b o e => hk' b o (fun q => by rw [q, mS.2.2] at e; cases e) (fun q => by rw [q, mI.2.2] at e; cases e) (F.keep b o e)
  refine h h' tk c' ⟨F.ns.at' fun o e => hk' _ o (Ne.symm mS.2.1) (Ne.symm mI.2.1) e, keep, F.above⟩ (fun p hp => ?_)
  rcases List.mem_cons.mp hp with rfl | hp
  · exact ⟨hS', mS.2⟩
  · exact ⟨hk' _ _ (hS p (hr p hp)) (hi p hp) (N p (List.mem_cons_of_mem _ (hr p hp))).1, (N p (List.mem_cons_of_mem _ (hr p hp))).2⟩
end

/-! ## leaves -/
section
variable {prog : Program} {w : World} {A : Around} {E : Value → Shared → Prop} {s : Shared} {h₀ : Heap} {L : Addr} {m : Str → Option Value}
theorem kl_last_snoc (p : List Value) (y : Value) : W.kl_last (p ++ [y]) = some (p, y) := W.kpa_last y p
theorem pop_led {D : Addr} {p : List Value} {y : Value} {n : Nat} {rest : News1} {Q : Value → Shared → Prop} (F : Fr h₀ L s.heap m) (N : News h₀ L s.heap ((D, listOf (p ++ [y]).toArray n) :: rest)) (off : ∀ q ∈ rest, q.1 ≠ D) (hz : p.length ≤ 16384)
    (h : ∀ h', Fr h₀ L h' m → News h₀ L h' ((D, listOf p.toArray (n + 1)) :: rest) → Q y { s with heap := h' }) : wpAny (model prog w) A (call (.builtin "list.pop") [.ref D]) Q E s := by
  refine kl_pop (p := p) (y := y) F N (by simpa using kl_last_snoc p y) (.head off) ?_ h
  rw [List.length_append, List.length_singleton, sizeLine_eq]; omega
theorem append_led {D : Addr} {ys : List Value} {x : Value} {n : Nat} {rest : News1} {Q : Value → Shared → Prop} (F : Fr h₀ L s.heap m) (N : News h₀ L s.heap ((D, listOf ys.toArray n) :: rest)) (off : ∀ q ∈ rest, q.1 ≠ D) (hz : ys.length ≤ 16384)
    (h : ∀ h', Fr h₀ L h' m → News h₀ L h' ((D, listOf (ys ++ [x]).toArray (n + 1)) :: rest) → Q .none { s with heap := h' }) : wpAny (model prog w) A (call (.builtin "list.append") [.ref D, x]) Q E s := by
  refine append_head F N off (fun h' F' N' => h h' F' ?_) ?_
  · rw [List.push_toArray] at N'; exact N'
  · rw [List.size_toArray, sizeLine_eq]; omega
end
theorem PartsAt.last {news : News1} : ∀ {vs : List Value} {ts : List T}, PartsAt news vs ts → (vs = [] ∧ ts = []) ∨ ∃ p y tp ty, vs = p ++ [y] ∧ ts = tp ++ [ty] ∧ PartsAt news p tp ∧ PartAt news y ty
  | [], [], _ => .inl ⟨rfl, rfl⟩
  | v :: vs, t :: ts, h => by
    rw [PartsAt] at h
    refine .inr ?_
    rcases PartsAt.last h.2 with ⟨rfl, rfl⟩ | ⟨p, y, tp, ty, rfl, rfl, h1, h2⟩
    · exact ⟨[], v, [], t, rfl, rfl, by rw [PartsAt]; trivial, h.1⟩
    · exact ⟨v :: p, y, t :: tp, ty, rfl, rfl, by rw [PartsAt]; exact ⟨h.1, h1⟩, h2⟩
  | [], _ :: _, h => by simp [PartsAt] at h
  | _ :: _, [], h => by simp [PartsAt] at h
theorem PartsAt.append {news : News1} : ∀ {vs ws : List Value} {ts us : List T}, PartsAt news vs ts → PartsAt news ws us → PartsAt news (vs ++ ws) (ts ++ us)
  | [], _, [], _, _, k => k
  | v :: vs, ws, t :: ts, us, h, k => by
    rw [PartsAt] at h
    simp only [List.cons_append, PartsAt]
    exact ⟨h.1, PartsAt.append h.2 k⟩
  | [], _, _ :: _, _, h, _ => by simp [PartsAt] at h
  | _ :: _, _, [], _, h, _ => by simp [PartsAt] at h
theorem PartsAt.reverse {news : News1} : ∀ {vs : List Value} {ts : List T}, PartsAt news vs ts → PartsAt news vs.reverse ts.reverse
  | [], [], h => h
  | v :: vs, t :: ts, h => by
    rw [PartsAt] at h
    rw [List.reverse_cons, List.reverse_cons]
    exact PartsAt.snoc h.1 (PartsAt.reverse h.2)
  | [], _ :: _, h => by simp [PartsAt] at h
  | _ :: _, [], h => by simp [PartsAt] at h
theorem oks_app : ∀ {ts us : List T}, oks (ts ++ us) ↔ oks ts ∧ oks us
  | [], us => by simp [oks]
  | t :: ts, us => by simp only [List.cons_append, oks, oks_app (ts := ts), and_assoc]
theorem oks_rev : ∀ {ts : List T}, oks ts → oks ts.reverse
  | [], h => h
  | t :: ts, h => by
    rw [oks] at h
    rw [List.reverse_cons]
    exact oks_snoc h.1 (oks_rev h.2)
theorem sizes_app : ∀ (ts us : List T), sizes (ts ++ us) = sizes ts + sizes us
  | [], us => by simp [sizes]
  | t :: ts, us => by simp only [List.cons_append, sizes, sizes_app ts us]; omega
theorem sizes_rev : ∀ (ts : List T), sizes ts.reverse = sizes ts
  | [] => rfl
  | t :: ts => by simp only [List.reverse_cons, sizes_app, sizes_rev ts, sizes]; omega
theorem size_pos : ∀ (t : T), 1 ≤ t.size
  | .leaf _ => by rw [T.size]; exact Nat.le_refl _
  | .letter _ t => by rw [T.size]; omega
  | .multi _ ts => by rw [T.size]; omega
theorem sizes_len : ∀ (ts : List T), ts.length ≤ sizes ts
  | [] => by simp [sizes]
  | t :: ts => by have := sizes_len ts; have := size_pos t; simp only [List.length_cons, sizes]; omega
theorem set_init3 {M : Str → Option Value} {a b c : Str} {v u : Value} (h : M a = some v) (k : M b = some u) : M = fun z => if z = c then M c else if z = a then some v else if z = b then some u else M z := by
  funext z
  by_cases h1 : z = c
  · rw [if_pos h1, h1]
  · rw [if_neg h1]
    by_cases h2 : z = a
    · rw [if_pos h2, h2, h]
    · rw [if_neg h2]
      by_cases h3 : z = b
      · rw [if_pos h3, h3, k]
      · rw [if_neg h3]
theorem set_same {R : Str → Option Value} {a : Str} {x y : Option Value} : (fun z => if z = a then x else if z = a then y else R z) = fun z => if z = a then x else R z := by
  funext z
  by_cases h1 : z = a
  · rw [if_pos h1, if_pos h1]
  · rw [if_neg h1, if_neg h1, if_neg h1]
theorem while_next {h₀ : Heap} {L : Addr} {s : Shared} {J : Nat → (Str → Option Value) → News1 → Prop} {Q : Flow → Shared → Prop} {n n' : Nat} {h' : Heap} {tk : Nat} {m₂ : Str → Option Value} {all : News1} (F : Fr h₀ L h' m₂) (N : News h₀ L h' all) (nx : News1) (sub : ∀ p ∈ nx, p ∈ all) (hn : n' < n) (hJ : J n' m₂ nx) :
    WhileStep2 h₀ L s J Q n .next { s with heap := h', toks := tk } := ⟨h', tk, m₂, nx, n', rfl, F, fun p hp => N p (sub p hp), hn, hJ⟩
def WlAt (news : News1) (r : Value) (t : T) (news' : News1) : Prop := ∃ tl, ExtOf news news' tl ∧ ∃ l vs ts k, r = .ref l ∧ (l, listOf vs.toArray k) ∈ tl ∧ PartsAt news vs ts ∧ ts.map T.begin = lvs t
inductive WlJ (M : Str → Option Value) (base : News1) (t : T) (n : Nat) (m : Str → Option Value) (nx : News1) : Prop where
  | mk : ∀ lf vf kf ll vl kl hv tf tl, (m = (fun z => if z = Str.ofString "here" then hv else if z = Str.ofString "line" then some (.ref ll) else if z = Str.ofString "found" then some (.ref lf) else M z)) → (nx = (ll, listOf vl.toArray kl) :: (lf, listOf vf.toArray kf) :: base) → ((∀ p ∈ (lf, listOf vf.toArray kf) :: base, p.1 ≠ ll)) → ((∀ p ∈ base, p.1 ≠ lf)) → (PartsAt base vf tf) → (PartsAt base vl tl) → (oks tl) → (tf.map T.begin ++ lvss tl.reverse = lvs t) → (sizes tl = n) → (n ≤ 121) → WlJ M base t n m nx
theorem leaves_does (w : World) (mean : ExcName → Option Value) (mg mb : Str → Option Value) (t : T) (v : Value) (news : News1) (hp : PartAt news v t) (ok : t.ok) (ht : t.height ≤ 4) : Does w mean mg mb 122 4 [v] news (WlAt news · t) := by
  have hk : PySem.Challenge.rw_no0359_01.row.prog = PySem.Challenge.rw_no0359_01.row.prog := rfl
  unfold Does
  k_fill
  intro dp un gd cn cs a ccd cl outer A₀ base h₀ L m s Q E B F X N T hk hd hu hret
  obtain ⟨va, rfl⟩ := hp.ref
  refine wpAny_call ?_
  k_dflt walk_at "m_enter"
  walk_at "m_steps"
  rename News _ _ _ _ => N9
  rename Fr _ _ _ _ => F9
  refine named_map F9 ?_
  intro M hM F10
  have hsz := size_121 ok ht
  refine While_inv2 (WlJ M news t) F10 N9 ⟨_, [], _, _, [_], _, _, [], [t], set_init3 (by subst hM; rfl) (by subst hM; rfl), rfl, ?_, ?_, by simp only [PartsAt], by simp only [PartsAt]; exact ⟨hp, trivial⟩, by simp only [oks]; exact ⟨ok, trivial⟩, by simp [lvss], by simp only [sizes]; exact Nat.add_zero _, hsz⟩ ?_
  · k_all
  · k_all
  rintro n9 m₁ nx h9 tk9 F11 N11 ⟨lf, vf, kf, ll, vl, kl, hv, tf, tl, rfl, rfl, offl, offf, hvf, hvl, hoks, heq, hsz2, hle⟩
  subst hM
  rcases hvl.last with ⟨rfl, rfl⟩ | ⟨p, y, tp, ty, rfl, rfl, hpp, hpy⟩
  · walk_at "m_steps"
    refine' hret _ _ _ _ (by k_asm) (by k_asm) ⟨_, ?x, ?y⟩
    case x => walk_at "m_extOf"
    case y => exact ⟨_, _, tf, _, rfl, by k_mem, hvf, by simpa [lvss] using heq⟩
  · have hne : (p ++ [y]).isEmpty = false := by simp
    obtain ⟨ay, rfl⟩ := hpy.ref
    rw [sizes_app] at hsz2
    have ho := oks_app.mp hoks
    have hok : ty.ok := by have := ho.2; rw [oks] at this; exact this.1
    have hs1 : sizes [ty] = ty.size := by simp only [sizes]; exact Nat.add_zero _
    rw [List.reverse_append, List.reverse_singleton, List.singleton_append, lvss] at heq
    have hlp : p.length ≤ 121 := by
      rw [hpp.length]
      have := sizes_len tp
      omega
    have hlf : vf.length ≤ 121 := by
      have e := congrArg List.length heq
      rw [List.length_append, List.length_map] at e
      have := lvs_len t
      rw [hvf.length]
      omega
    walk_at "m_steps"
    rename News _ _ _ _ => N9
    refine' Front.use (d := ll) N9 ?f1 ?_
    case f1 => walk_at "m_frontK"
    intro N10
    clear N9
    k_dflt (refine pop_led (by k_asm) N10 (by k_all) (by omega) ?_)
    clear N10
    intro h10 F10 N10
    cases ty with
    | leaf b =>
      have hpy' := hpy
      rw [PartAt] at hpy'
      obtain ⟨a, dx, kl, nk, n, h1, h2, h3, h4, h5, h6, h7, h8, k1, k2, k3, k4, k5, k6, k7, k8, tb, v2, v3, v4, v5, v6, e, x, y, z⟩ := hpy'
      obtain rfl : ay = a := by cases e; rfl
      walk_at "m_steps"
      rename News _ _ _ _ => N9
      simp only [List.push_toArray] at N9
      simp only [Mine.T.size] at hs1
      refine' while_next (by k_asm) N9 _ ?z1 ?z2 ⟨lf, vf ++ [.ref ay], _, ll, p, _, _, tf ++ [Mine.T.leaf b], tp, set_same, rfl, ?z3, ?z4, PartsAt.snoc hpy hvf, hpp, ho.1, ?z5, rfl, ?z6⟩
      case z1 => walk_at "m_sub"
      case z2 => omega
      case z3 => k_all
      case z4 => assumption
      case z5 => rw [List.map_append, List.append_assoc]; exact heq
      case z6 => omega
    | letter b t' =>
      have hpy' := hpy
      rw [PartAt] at hpy'
      rw [T.ok] at hok
      obtain ⟨u, hnode, hin⟩ := hpy'
      obtain ⟨au, rfl⟩ := hin.ref
      obtain ⟨a, dx, kl, nk, n, h1, h2, h3, h4, h5, h6, h7, h8, k1, k2, k3, k4, k5, k6, k7, k8, tb, v2, v3, v4, v5, v6, e, x, y, z⟩ := hnode
      obtain rfl : ay = a := by cases e; rfl
      walk_at "m_steps"
      rename News _ _ _ _ => N9
      simp only [List.push_toArray] at N9
      simp only [Mine.T.size] at hs1
      refine' while_next (by k_asm) N9 _ ?z1 ?z2 ⟨lf, vf, _, ll, p ++ [.ref au], _, _, tf, tp ++ [t'], set_same, rfl, ?z3, ?z4, hvf, PartsAt.snoc hin hpp, ?z7, ?z5, sizes_app _ _, ?z6⟩
      case z1 => walk_at "m_sub"
      case z2 => simp only [sizes]; omega
      case z3 => assumption
      case z4 => assumption
      case z7 => exact oks_snoc hok ho.1
      case z5 => rw [List.reverse_append, List.reverse_singleton, List.singleton_append, lvss]; exact heq
      case z6 => simp only [sizes]; omega
    | multi b ts =>
      have hpy' := hpy
      rw [PartAt] at hpy'
      rw [T.ok] at hok
      obtain ⟨vs, hnode, hin⟩ := hpy'
      have hnev : vs.isEmpty = false := hin.ne hok.1
      obtain ⟨a, dx, kk, nk, n, h1, h2, h3, h4, h5, h6, h7, h8, k1, k2, k3, k4, k5, k6, k7, k8, tb, v2, v3, v4, v5, v6, e, x, y, z⟩ := hnode
      obtain rfl : ay = a := by cases e; rfl
      walk_at "m_steps"
      k_dflt (refine krv_reversed (vs := vs) (by k_asm) (by k_asm) (News.isList (by k_asm) (by k_mem)) ?_)
      intro D9 h11 F12 N12 hlt12
      walk_at "m_steps"
      rename News _ _ _ _ => N9
      refine' Front.use (d := ll) N9 ?f1 ?_
      case f1 => walk_at "m_frontK"
      intro N10
      clear N9
      have hvl2 : vs.length ≤ 3 := by rw [hin.length]; exact hok.2.1
      have hkI : kk ≠ D9 := by
        have q := hlt12 (kk, listOf vs.toArray nk) (by k_mem)
        exact Nat.ne_of_lt q
      k_dflt (refine extend_rev (l := kk) (vs := vs) (by rfl) (by k_asm) N10 (by k_mem) (by k_mem) (by k_all) hkI (by omega) ((lf, listOf vf.toArray kf) :: news) (by walk_at "m_sub") (by k_all) ?_)
      intro h13 tk13 c13 F13 N13
      walk_at "m_steps"
      rename News _ _ _ _ => N9
      simp only [Mine.T.size] at hs1
      refine' while_next (by k_asm) N9 _ ?z1 ?z2 ⟨lf, vf, _, ll, p ++ vs.reverse, _, _, tf, tp ++ ts.reverse, set_same, rfl, ?z3, ?z4, hvf, hpp.append hin.reverse, ?z7, ?z5, sizes_app _ _, ?z6⟩
      case z1 => walk_at "m_sub"
      case z2 => rw [sizes_rev]; omega
      case z3 => assumption
      case z4 => assumption
      case z7 => exact oks_app.mpr ⟨ho.1, oks_rev hok.2.2⟩
      case z5 => rw [List.reverse_append, List.reverse_reverse, lvss_app]; exact heq
      case z6 => rw [sizes_rev]; omega

theorem RowAt.mono {news news' : News1} {r : Value} {ts : List T} (h : RowAt news r ts) (hs : ∀ p ∈ news, p ∈ news') : RowAt news' r ts := by
  obtain ⟨l, vs, n, e, hm, hp⟩ := h
  exact ⟨l, vs, n, e, hs _ hm, hp.mono hs⟩
theorem nk2 (w : World) (mean : ExcName → Option Value) (mg mb : Str → Option Value) : ∀ (t : T) (v : Value) (news sub : News1) (c : Bool), PartAt sub v t → (∀ p ∈ sub, p ∈ news) → t.ok →
    Does w mean mg mb 101 (t.height + 2) [v, .bool c] news (fun r news' => ∃ tl, ExtOf news news' tl ∧ RowAt (tl ++ sub) r (row t c))
  | .leaf b, v, news, sub, c, h, hs, _ => by
    have hpart := h
    have hk : PySem.Challenge.rw_no0359_01.row.prog = PySem.Challenge.rw_no0359_01.row.prog := rfl
    unfold Does
    k_fill
    rw [PartAt] at h
    rw [T.height]
    intro dp un gd cn cs a ccd cl outer A₀ base h₀ L m s Q E B F X N T hk hd hu hret
    obtain ⟨a, dx, kl, nk, n, h1, h2, h3, h4, h5, h6, h7, h8, k1, k2, k3, k4, k5, k6, k7, k8, tb, v2, v3, v4, v5, v6, rfl, x, y, z⟩ := h
    have x' := hs _ x
    have y' := hs _ y
    have z' := hs _ z
    refine wpAny_call ?_
    k_dflt walk_at "m_enter"
    walk_at "m_steps"
    · refine' hret _ _ _ _ (by k_asm) (by k_asm) ⟨_, ?x, ?y⟩
      case x => walk_at "m_extOf"
      case y =>
        refine ⟨_, [_], _, rfl, by k_mem, ?_⟩
        simp_all only [row, if_true, PartsAt, and_true]
        exact hpart.mono (fun p hp => by k_mem)
    · refine' hret _ _ _ _ (by k_asm) (by k_asm) ⟨_, ?x2, ?y2⟩
      case x2 => walk_at "m_extOf"
      case y2 =>
        refine ⟨_, [], _, rfl, by k_mem, ?_⟩
        simp_all only [row, Bool.not_eq_true, Bool.false_eq_true, if_false, PartsAt]
  | .letter b t, v, news, sub, c, h, hs, ok => by
    have hpart := h
    have hk : PySem.Challenge.rw_no0359_01.row.prog = PySem.Challenge.rw_no0359_01.row.prog := rfl
    have ih := fun u news' => nk2 w mean mg mb t u news' sub true
    unfold Does
    k_fill
    rw [PartAt] at h
    rw [T.height]
    rw [T.ok] at ok
    intro dp un gd cn cs a ccd cl outer A₀ base h₀ L m s Q E B F X N T hk hd hu hret
    obtain ⟨u, hnode, hin⟩ := h
    obtain ⟨au, rfl⟩ := hin.ref
    obtain ⟨a, dx, kl, nk, n, h1, h2, h3, h4, h5, h6, h7, h8, k1, k2, k3, k4, k5, k6, k7, k8, tb, v2, v3, v4, v5, v6, rfl, x, y, z⟩ := hnode
    have x' := hs _ x
    have y' := hs _ y
    have z' := hs _ z
    refine wpAny_call ?_
    k_dflt walk_at "m_enter"
    walk_at "m_steps"
    · refine' hret _ _ _ _ (by k_asm) (by k_asm) ⟨_, ?x3, ?y3⟩
      case x3 => walk_at "m_extOf"
      case y3 =>
        refine ⟨_, [_], _, rfl, by k_mem, ?_⟩
        simp_all only [row, if_true, PartsAt, and_true]
        exact hpart.mono (fun p hp => by k_mem)
    · k_dflt walk_at "m_does"
      case kD => exact ih _ _ hin (fun p hp => by have := hs p hp; k_mem) ok
      case kd => walk_at "m_room"
      case ku => walk_at "m_units"
      rintro G9 hG9 r news' h' tk' F' N' ⟨tl2, hext, hrow⟩
      refine hG9 _ _ ?_
      walk_at "m_steps"
      refine' hret _ _ _ _ (by k_asm) (by k_asm) ⟨_, ExtOf.trans ?x4 hext, ?y4⟩
      case x4 => walk_at "m_extOf"
      case y4 =>
        simp_all only [row, Bool.not_eq_true, Bool.false_eq_true, if_false]
        exact hrow.mono (fun p hp => by
          rcases List.mem_append.mp hp with hp | hp
          · k_mem
          · k_mem)
  | .multi b ts, v, news, sub, c, h, hs, ok => by
    have hpart := h
    have hk : PySem.Challenge.rw_no0359_01.row.prog = PySem.Challenge.rw_no0359_01.row.prog := rfl
    unfold Does
    k_fill
    rw [PartAt] at h
    rw [T.height]
    rw [T.ok] at ok
    intro dp un gd cn cs a ccd cl outer A₀ base h₀ L m s Q E B F X N T hk hd hu hret
    obtain ⟨vs, hnode, hin⟩ := h
    have hne : vs.isEmpty = false := hin.ne ok.1
    obtain ⟨a, dx, kl, nk, n, h1, h2, h3, h4, h5, h6, h7, h8, k1, k2, k3, k4, k5, k6, k7, k8, tb, v2, v3, v4, v5, v6, rfl, x, y, z⟩ := hnode
    have x' := hs _ x
    have y' := hs _ y
    have z' := hs _ z
    refine wpAny_call ?_
    k_dflt walk_at "m_enter"
    walk_at "m_steps"
    refine' hret _ _ _ _ (by k_asm) (by k_asm) ⟨_, ?x5, ?y5⟩
    case x5 => walk_at "m_extOf"
    case y5 => exact ⟨_, vs, _, rfl, by k_mem, hin.mono fun p hp => by k_mem⟩

/-! ## numbered: the stack -/
theorem row_ok : ∀ (t : T) (c : Bool), t.ok → oks (row t c) ∧ heights (row t c) ≤ t.height ∧ (row t c).length ≤ 3
  | .leaf b, c, h => by cases c <;> simp [row, oks, heights, T.ok, T.height]
  | .letter b t, true, h => by simp only [row, if_true, oks, heights, List.length_singleton]; exact ⟨⟨h, trivial⟩, by omega, by omega⟩
  | .letter b t, false, h => by
    rw [T.ok] at h
    have := row_ok t true h
    simp only [row, Bool.false_eq_true, if_false, T.height]
    exact ⟨this.1, by omega, this.2.2⟩
  | .multi b ts, c, h => by
    rw [T.ok] at h
    simp only [row, T.height]
    exact ⟨h.2.2, by omega, h.2.1⟩
inductive All2 {δ : Type} (R : Value → δ → Prop) : List Value → List δ → Prop
  | nil : All2 R [] []
  | cons {v : Value} {d : δ} {vs : List Value} {ds : List δ} : R v d → All2 R vs ds → All2 R (v :: vs) (d :: ds)
theorem All2.mono {δ : Type} {R S : Value → δ → Prop} (hs : ∀ v d, R v d → S v d) {vs : List Value} {ds : List δ} (h : All2 R vs ds) : All2 S vs ds := by
  induction h with
  | nil => exact .nil
  | cons a _ ih => exact .cons (hs _ _ a) ih
theorem All2.length {δ : Type} {R : Value → δ → Prop} {vs : List Value} {ds : List δ} (h : All2 R vs ds) : vs.length = ds.length := by
  induction h with
  | nil => rfl
  | cons a _ ih => rw [List.length_cons, List.length_cons, ih]
theorem All2.append {δ : Type} {R : Value → δ → Prop} {vs ws : List Value} {ds es : List δ} (h : All2 R vs ds) (k : All2 R ws es) : All2 R (vs ++ ws) (ds ++ es) := by
  induction h with
  | nil => exact k
  | cons a _ ih => exact .cons a ih
theorem All2.snoc {δ : Type} {R : Value → δ → Prop} {vs : List Value} {ds : List δ} {v : Value} {d : δ} (h : All2 R vs ds) (k : R v d) : All2 R (vs ++ [v]) (ds ++ [d]) := h.append (.cons k .nil)
theorem All2.last {δ : Type} {R : Value → δ → Prop} {vs : List Value} {ds : List δ} (h : All2 R vs ds) : (vs = [] ∧ ds = []) ∨ ∃ p y q e, vs = p ++ [y] ∧ ds = q ++ [e] ∧ All2 R p q ∧ R y e := by
  induction h with
  | nil => exact .inl ⟨rfl, rfl⟩
  | cons a r ih =>
    rename_i v d vs ds
    refine .inr ?_
    rcases ih with ⟨rfl, rfl⟩ | ⟨p, y, q, e, rfl, rfl, h1, h2⟩
    · exact ⟨[], v, [], d, rfl, rfl, .nil, a⟩
    · exact ⟨v :: p, y, d :: q, e, rfl, rfl, .cons a h1, h2⟩
theorem All2.get {δ : Type} {R : Value → δ → Prop} {vs : List Value} {ds : List δ} (h : All2 R vs ds) : ∀ {i : Nat} {v : Value}, vs[i]? = some v → ∃ d, ds[i]? = some d ∧ R v d := by
  induction h with
  | nil => intro i v e; simp at e
  | cons a r ih =>
    intro i v e
    cases i with
    | zero => cases e; exact ⟨_, rfl, a⟩
    | succ i => simpa using ih (i := i) (by simpa using e)
abbrev Ent := List Int × T × Bool
def Ent.rest (e : Ent) : List (List Int × Int) := dueC e.2.2 e.2.1 e.1
def Ent.con (e : Ent) : List (List Int × Int) := (if e.1 = [] then [] else [(e.1, e.2.1.begin)]) ++ e.rest
def Ent.good (e : Ent) : Prop := e.2.1.ok ∧ e.2.1.height ≤ 4 ∧ e.1.length + e.rest.length ≤ 201
def meas : List Ent → Nat
  | [] => 0
  | e :: es => 1 + e.rest.length + meas es
theorem meas_app : ∀ (a b : List Ent), meas (a ++ b) = meas a + meas b
  | [], b => by simp [meas]
  | e :: a, b => by simp only [List.cons_append, meas, meas_app a b]; omega
theorem meas_len : ∀ (a : List Ent), a.length ≤ meas a
  | [] => by simp [meas]
  | e :: a => by have := meas_len a; simp only [List.length_cons, meas]; omega
theorem meas_rev : ∀ (a : List Ent), meas a.reverse = meas a
  | [] => rfl
  | e :: a => by simp only [List.reverse_cons, meas_app, meas_rev a, meas]; omega
def ents : List T → List Int → Int → List Ent
  | [], _, _ => []
  | t :: ts, p, j => (p ++ [j], t, false) :: ents ts p (j + 1)
theorem ents_len : ∀ (ts : List T) (p : List Int) (j : Int), (ents ts p j).length = ts.length
  | [], _, _ => rfl
  | t :: ts, p, j => by rw [ents, List.length_cons, List.length_cons, ents_len]
theorem ents_get : ∀ {ts : List T} {i : Nat} {t : T} {p : List Int} {j : Int}, ts[i]? = some t → (ents ts p j)[i]? = some (p ++ [j + (i : Int)], t, false)
  | [], _, _, _, _, h => by simp at h
  | t :: ts, 0, u, p, j, h => by
    obtain rfl : t = u := by simpa using h
    simp [ents]
  | t :: ts, i + 1, u, p, j, h => by
    have := ents_get (ts := ts) (i := i) (t := u) (p := p) (j := j + 1) (by simpa using h)
    rw [ents, List.getElem?_cons_succ, this, show j + 1 + (i : Int) = j + ((i + 1 : Nat) : Int) by omega]
theorem ents_con : ∀ (ts : List T) (p : List Int) (j : Int), (ents ts p j).flatMap Ent.con = dues ts p j
  | [], _, _ => rfl
  | t :: ts, p, j => by
    rw [ents, List.flatMap_cons, ents_con ts p (j + 1), dues]
    simp [Ent.con, Ent.rest, dueC]
theorem ents_meas : ∀ (ts : List T) (p : List Int) (j : Int), meas (ents ts p j) = (dues ts p j).length
  | [], _, _ => rfl
  | t :: ts, p, j => by
    rw [ents, meas, ents_meas ts p (j + 1), dues]
    simp [Ent.rest, dueC]
    omega
theorem ents_good {t : T} {c : Bool} {p : List Int} (h : Ent.good (p, t, c)) : ∀ e ∈ ents (row t c) p 1, e.good := by
  obtain ⟨ok, ht, hl⟩ := h
  simp only [Ent.rest] at ok ht hl
  rw [due_row] at hl
  have ro := row_ok t c ok
  intro e he
  obtain ⟨i, hi, he⟩ := List.mem_iff_getElem.mp he
  rw [ents_len] at hi
  have e2 := ents_get (p := p) (j := 1) (List.getElem?_eq_getElem hi)
  rw [List.getElem?_eq_getElem (by rw [ents_len]; exact hi), Option.some.injEq] at e2
  rw [e2] at he
  subst he
  have hm : (row t c)[i] ∈ row t c := List.getElem_mem hi
  have hlt := due_lt (p := p) (j := 1) (List.getElem?_eq_getElem hi)
  refine ⟨oks_get ro.1 (List.getElem?_eq_getElem hi), Nat.le_trans (height_mem hm) (Nat.le_trans ro.2.1 ht), ?_⟩
  simp only [Ent.rest, dueC, Bool.false_eq_true, if_false, List.length_append, List.length_singleton]
  omega
theorem rev_get {α : Type} {l : List α} {i : Nat} {x : α} (hi : i < l.length) (h : l[l.length - 1 - i]? = some x) : l.reverse.take (i + 1) = l.reverse.take i ++ [x] := by
  rw [List.take_add_one, List.getElem?_reverse hi, h, Option.toList_some]
inductive EntAt (news : News1) (v : Value) (e : Ent) : Prop where
  | mk : ∀ a pa h n, (v = .ref a) → ((a, tupOf [.ref pa, .ref h, .bool e.2.2].toArray n) ∈ news) → (DatIn news (.ref pa) (pathD e.1)) → (PartAt news (.ref h) e.2.1) → EntAt news v e
inductive FndAt (news : News1) (v : Value) (x : List Int × T) : Prop where
  | mk : ∀ a pa h n, (v = .ref a) → ((a, tupOf [.ref pa, .ref h].toArray n) ∈ news) → (DatIn news (.ref pa) (pathD x.1)) → (PartAt news (.ref h) x.2) → FndAt news v x
theorem EntAt.mono {news news' : News1} (hs : ∀ p ∈ news, p ∈ news') {v : Value} {e : Ent} (h : EntAt news v e) : EntAt news' v e := by
  obtain ⟨a, pa, h, n, e, h1, h2, h3⟩ := h
  exact ⟨a, pa, h, n, e, hs _ h1, h2.mono hs, h3.mono hs⟩
theorem FndAt.mono {news news' : News1} (hs : ∀ p ∈ news, p ∈ news') {v : Value} {e : List Int × T} (h : FndAt news v e) : FndAt news' v e := by
  obtain ⟨a, pa, h, n, e, h1, h2, h3⟩ := h
  exact ⟨a, pa, h, n, e, hs _ h1, h2.mono hs, h3.mono hs⟩
theorem ne_nilT {prog : Program} {w : World} {A : Around} {E : Value → Shared → Prop} {s : Shared} {h₀ : Heap} {L a b : Addr} {news : News1} {xs : List Value} {ka kb : Nat} {Q : Value → Shared → Prop}
    (N : News h₀ L s.heap news) (ha : (a, tupOf xs.toArray ka) ∈ news) (hb : (b, tupOf ([] : List Value).toArray kb) ∈ news) (hu : A.units < cLine) (h : Q (.bool (!xs.isEmpty)) s) :
    wpAny (model prog w) A (compareOp .NotEq (.ref a) (.ref b)) Q E s := by
  have := (SeqAt.RcNeAt.tuples (e := fun _ => true) (N.isTup ha) (N.isTup hb) hu (fun j _ h2 => absurd h2 (by simp))) prog w E Q
  refine this ?_
  cases xs <;> simpa using h

/-! ## numbered -/
local macro_rules | `(tactic| walk_at "compareOp NotEq ref ref") => `(tactic| (k_here; (with_reducible show wpAny _ _ (compareOp CmpOp.NotEq (Value.ref _) (Value.ref _)) _ _ _); k_dflt (refine' ne_nilT ?N ?a ?b ?u ?_; (case N => k_asm); (case a => k_mem); (case b => k_mem); (case u => walk_at "m_units"); k_whole)))
theorem map_init {M : Str → Option Value} {a b c d e f g : Str} {v u : Value} (h : M f = some v) (k : M g = some u) : M = fun z => if z = a then M a else if z = b then M b else if z = c then M c else if z = d then M d else if z = e then M e else if z = f then some v else if z = g then some u else M z := by
  funext z
  repeat' split
  all_goals first | rfl | (rename_i h; subst h; first | rfl | assumption)
theorem map_turn {R : Str → Option Value} {a b c d e : Str} {v1 v2 v3 v4 v5 w1 w2 w3 w4 w5 : Option Value} :
    (fun z => if z = a then v1 else if z = b then v2 else if z = c then v3 else if z = d then v4 else if z = e then v5 else if z = a then w1 else if z = b then w2 else if z = c then w3 else if z = d then w4 else if z = e then w5 else R z) =
      fun z => if z = a then v1 else if z = b then v2 else if z = c then v3 else if z = d then v4 else if z = e then v5 else R z := by
  funext z
  by_cases h1 : z = a
  · simp only [h1, if_true]
  · by_cases h2 : z = b
    · simp only [if_neg h1, if_pos h2]
    · by_cases h3 : z = c
      · simp only [if_neg h1, if_neg h2, if_pos h3]
      · by_cases h4 : z = d
        · simp only [if_neg h1, if_neg h2, if_neg h3, if_pos h4]
        · by_cases h5 : z = e
          · simp only [if_neg h1, if_neg h2, if_neg h3, if_neg h4, if_pos h5]
          · simp only [if_neg h1, if_neg h2, if_neg h3, if_neg h4, if_neg h5]
def WnAt (news : News1) (r : Value) (t : T) (news' : News1) : Prop := Ext news news' ∧ ∃ l vs k ps, r = .ref l ∧ (l, listOf vs.toArray k) ∈ news' ∧ All2 (FndAt news') vs ps ∧ ps.map (fun x => (x.1, x.2.begin)) = dueW t []
inductive WnJ (M : Str → Option Value) (base : News1) (t : T) (n : Nat) (m : Str → Option Value) (nx : News1) : Prop where
  | mk : ∀ lf vf kf ll vl kl rest tl a1 a2 a3 a4 a5 fs es, (m = (fun z => if z = Str.ofString "at" then a5 else if z = Str.ofString "row" then a4 else if z = Str.ofString "is_letter" then a3 else if z = Str.ofString "here" then a2 else if z = Str.ofString "path" then a1 else if z = Str.ofString "line" then some (.ref ll) else if z = Str.ofString "found" then some (.ref lf) else M z)) → (nx = (ll, listOf vl.toArray kl) :: (lf, listOf vf.toArray kf) :: rest) → ((∀ p ∈ (lf, listOf vf.toArray kf) :: rest, p.1 ≠ ll)) → ((∀ p ∈ rest, p.1 ≠ lf)) → (ExtOf base rest tl) → (All2 (FndAt rest) vf fs) → (All2 (EntAt rest) vl es) → ((∀ e ∈ es, e.good)) → (fs.map (fun x => (x.1, x.2.begin)) ++ es.reverse.flatMap Ent.con = dueW t []) → (meas es = n) → (n ≤ 202) → WnJ M base t n m nx
theorem pathD_tuple {news : News1} {a : Addr} {p : List Int} (h : DatIn news (.ref a) (pathD p)) : ∃ vs n, (a, tupOf vs.toArray n) ∈ news ∧ DatAll news vs (p.map .int) := by
  unfold pathD at h
  rcases h with _ | _ | _ | _ | _ | ⟨hm, hall⟩ | _
  exact ⟨_, _, hm, hall⟩
theorem at_init (M : Str → Option Value) (a : Str) : M = fun z => if z = a then M a else M z := by
  funext z
  split
  · rename_i h; rw [h]
  · rfl
theorem at_next {M : Str → Option Value} {a : Str} {x y : Option Value} : (fun z => if z = a then x else if z = a then y else M z) = fun z => if z = a then x else M z := set_same
inductive WnF (M : Str → Option Value) (ll : Addr) (lfe : Addr × Obj) (base : News1) (es0 es1 : List Ent) (i : Nat) (m : Str → Option Value) (nx : News1) : Prop where
  | mk : ∀ vl kl rest tl kv, (m = (fun z => if z = Str.ofString "at" then kv else M z)) → (nx = (ll, listOf vl.toArray kl) :: lfe :: rest) → ((∀ p ∈ lfe :: rest, p.1 ≠ ll)) → ((∀ p ∈ rest, p.1 ≠ lfe.1)) → (ExtOf base rest tl) → (All2 (EntAt rest) vl (es0 ++ es1.take i)) → WnF M ll lfe base es0 es1 i m nx
theorem numbered_does (w : World) (mean : ExcName → Option Value) (mg mb : Str → Option Value) (t : T) (v : Value) (news : News1) (hp : PartAt news v t) (ok : t.ok) (ht : t.height ≤ 4) : Does w mean mg mb 115 12 [v] news (WnAt news · t) := by
  have hk : PySem.Challenge.rw_no0359_01.row.prog = PySem.Challenge.rw_no0359_01.row.prog := rfl
  unfold Does
  k_fill
  intro dp un gd cn cs a ccd cl outer A₀ base h₀ L m s Q E B F X N T hk hd hu hret
  obtain ⟨va, rfl⟩ := hp.ref
  have hdl := dueC_len (c := true) (p := []) ok ht
  have hdw : dueW t [] = dueC true t [] := rfl
  refine wpAny_call ?_
  k_dflt walk_at "m_enter"
  walk_at "m_steps"
  rename News _ _ _ _ => N9
  rename Fr _ _ _ _ => F9
  refine named_map F9 ?_
  intro M hM F10
  refine' Front.use (o := listOf ([] : List Value).toArray 0) N9 ?f1 ?_
  case f1 => walk_at "m_frontK"
  intro N10
  have N11 := news_front N10
  clear N9 N10
  refine' While_inv2 (WnJ M news t) F10 N11 ⟨_, [], _, _, [_], _, _, ?w9, _, _, _, _, _, [], [([], t, true)], map_init (by subst hM; rfl) (by subst hM; rfl), rfl, ?w1, ?w2, ?w3, .nil, .cons ⟨_, _, _, _, rfl, ?w4, .tuple (vs := []) ?w5 .nil, ?w6⟩ .nil, ?w7, ?w8, rfl, ?wa⟩ ?_
  case w1 => k_all
  case w2 => k_all
  case w3 => walk_at "m_extOf"
  case w4 => k_mem
  case w5 => k_mem
  case w6 => exact hp.mono fun p hp => by k_mem
  case w7 =>
    intro e he
    rw [List.mem_singleton.mp he]
    refine ⟨ok, ht, ?_⟩
    simp only [Ent.rest, List.length_nil]
    omega
  case w8 => simp [Ent.con, Ent.rest, dueC]
  case wa =>
    simp only [meas, Ent.rest]
    omega
  rintro n9 m₁ nx h9 tk9 F11 N11 ⟨lf, vf, kf, ll, vl, kl, rest, tl, a1, a2, a3, a4, a5, fs, es, rfl, rfl, offl, offf, hext, hfs, hes, hgood, heq, hms, hle⟩
  clear hM
  rcases hes.last with ⟨rfl, rfl⟩ | ⟨p, y, q, e, rfl, rfl, hpq, hye⟩
  · walk_at "m_steps"
    refine' hret _ _ _ _ (by k_asm) (by k_asm) ⟨?x1, _, vf, _, fs, rfl, ?x2, hfs.mono fun v d h => h.mono fun p hp => ?x3, ?x4⟩
    case x1 => exact Ext.trans hext.ext (by walk_at "m_ext")
    case x2 => k_mem
    case x3 => k_mem
    case x4 => simpa using heq
  · have hne : (p ++ [y]).isEmpty = false := by simp
    obtain ⟨pe, te, ce⟩ := e
    obtain ⟨ae, pa, he, ne, rfl, hm1, hm2, hm3⟩ := hye
    have hg := hgood (pe, te, ce) (by simp)
    have hg2 := hg
    obtain ⟨oke, hte, hle2⟩ := hg2
    dsimp only at hm1 hm2 hm3 oke hte hle2
    have hlf : vf.length ≤ 201 := by
      have e := congrArg List.length heq
      rw [List.length_append, List.length_map, ← hfs.length, hdw] at e
      omega
    have hlp : p.length ≤ 202 := by
      rw [hpq.length]
      have := meas_len q
      rw [meas_app] at hms
      omega
    have hro := row_ok te ce oke
    have hpl : pe.length ≤ 201 := by omega
    obtain ⟨vsp, nsp, hmt, hall⟩ := pathD_tuple hm2
    have hvl := DatAll.length hall
    rw [List.length_map] at hvl
    rw [List.reverse_append, List.reverse_singleton, List.singleton_append, List.flatMap_cons] at heq
    rw [meas_app] at hms
    simp only [meas, Nat.add_zero, Ent.rest] at hms
    have hmE := ents_meas (row te ce) pe 1
    rw [← due_row] at hmE
    have hcE := ents_con (row te ce) pe 1
    rw [← due_row] at hcE
    have hgE := ents_good hg
    have hlE := ents_len (row te ce) pe 1
    walk_at "m_steps"
    rename News _ _ _ _ => N9
    refine' Front.use (d := ll) N9 ?f2 ?_
    case f2 => walk_at "m_frontK"
    intro N10
    clear N9
    k_dflt (refine pop_led (by k_asm) N10 (by k_all) (by omega) ?_)
    clear N10
    intro h10 F10 N10
    cases pe with
    | nil =>
      obtain rfl : vsp = [] := List.eq_nil_of_length_eq_zero (by simpa using hvl)
      have hem : ([] : List Value).isEmpty = true := rfl
      walk_at "m_steps"
      k_dflt walk_at "m_does"
      case kD => exact nk2 _ _ _ _ te (.ref he) _ rest ce hm3 (by walk_at "m_sub") oke
      case kd => walk_at "m_room"
      case ku => walk_at "m_units"
      rintro G9 hG9 r news9 h11 tk11 F11 N11 ⟨tl2, ⟨rfl, kx2⟩, l2, rvs, k2, rfl, hl2, hrow⟩
      refine hG9 _ _ ?_
      have hrl := hrow.length
      have hl3 : ∀ L9 : News1, (∀ p ∈ tl2, p ∈ L9) → (∀ p ∈ rest, p ∈ L9) → (l2, listOf rvs.toArray k2) ∈ L9 := fun L9 h1 h2 => (List.mem_append.mp hl2).elim (h1 _) (h2 _)
      walk_at "m_steps"
      refine For_ruleF (by k_asm) ?_
      walk_at "m_steps"
      k_dflt (refine len_led (vs := rvs) (by k_asm) (hl3 _ (fun p hp => by k_mem) (fun p hp => by k_mem)) (by omega) ?_)
      walk_at "m_steps"
      rename News _ _ _ _ => N9
      rename Fr _ _ _ _ => F9
      try simp only [List.push_toArray] at N9
      refine named_map F9 ?_
      intro M2 hM2 F10
      refine' Front.use (d := lf) N9 ?f3a ?_
      case f3a => walk_at "m_frontK"
      intro N12
      clear N9
      refine' Front.use (d := ll) N12 ?f4a ?_
      case f4a => walk_at "m_frontK"
      intro N9
      clear N12
      k_dflt (refine' loop_range (WnF M2 ll _ _ q (ents (row te ce) [] 1).reverse) (by rfl) (by assumption) (small_down (by omega) (by omega) (by omega) (by omega)) (rangeSize_downNat _ _) F10 N9 ?ja ?turna ?donea)
      case ja =>
        refine' ⟨p, _, _, [], _, at_init _ _, rfl, ?_, ?_, ExtOf.refl, ?_⟩
        · k_all
        · k_all
        · rw [List.take_zero, List.append_nil]
          exact hpq.mono fun v d h => h.mono fun p hp => by k_mem
      case turna =>
        rintro i m₁ nx I oI h13 tk13 t13 hi ⟨vl3, kl3, rest3, tl3, kv, rfl, rfl, offl3, offf3, hx3, hes3⟩ offI F13 N13
        subst hM2
        have hsub3 := hx3.ext.sub
        have hlv3 : vl3.length ≤ 210 := by
          rw [hes3.length, List.length_append, List.length_take, ← hpq.length]
          omega
        obtain ⟨vi, ti, hvi, hti, hpti⟩ := hrow.get ((row te ce).length - 1 - i) (by omega)
        obtain ⟨ai, rfl⟩ := hpti.ref
        have heqi : (rvs.length : Int) - 1 + (i : Int) * (-1) + 1 = 1 + (((row te ce).length - 1 - i : Nat) : Int) := by omega
        have heqj : ((rvs.length : Int) - 1 + (i : Int) * (-1)).toNat = (row te ce).length - 1 - i := by omega
        walk_at "m_steps"
        k_dflt (refine path_add (p := []) (i := ((rvs.length : Int) - 1 + (i : Int) * (-1) + 1)) (by k_asm) (by k_asm) (hm2.mono fun p hp => by have := hsub3 p (by k_mem); k_mem) (by k_mem) (by omega) ?_)
        intro h14 D14 tl14 F14 N14 kx14 hq14
        walk_at "m_steps"
        k_dflt (refine item_led (x := .ref ai) (by k_asm) (hl3 _ (fun p hp => by have := hsub3 p (by k_mem); k_mem) (fun p hp => by have := hsub3 p (by k_mem); k_mem)) (by omega) (by omega) (by rw [heqj]; exact hvi) ?_)
        walk_at "m_steps"
        rename News _ _ _ _ => N16
        rename Fr _ _ _ _ => F16
        simp only [List.push_toArray] at N16
        refine' Front.use (d := lf) N16 ?f5a ?_
        case f5a => walk_at "m_frontK"
        intro N17
        refine' Front.use (d := ll) N17 ?f6a ?_
        case f6a => walk_at "m_frontK"
        intro N18
        refine' Front.use (d := I) N18 ?f7a ?_
        case f7a => walk_at "m_frontK"
        intro N19
        clear N16 N17 N18
        refine' LoopEnd.intro F16 N19 _ (fun p hp => hp) ?oa ⟨vl3 ++ [_], _, _, _, _, set_same, rfl, ?aa, ?ba, ExtOf.trans hx3 ?ca, ?da⟩
        case oa => k_all
        case aa => k_all
        case ba => k_all
        case ca => walk_at "m_extOf"
        case da =>
          have hpth : pathD ([] ++ [(rvs.length : Int) - 1 + (i : Int) * (-1) + 1]) = pathD ([] ++ [1 + (((row te ce).length - 1 - i : Nat) : Int)]) := by rw [heqi]
          rw [hpth] at hq14
          rw [rev_get (x := ([] ++ [1 + (((row te ce).length - 1 - i : Nat) : Int)], ti, false)) (by rw [hlE]; omega) (by rw [hlE]; exact ents_get hti), ← List.append_assoc]
          refine' (hes3.mono fun v d h => h.mono fun p hp => ?e1a).snoc ⟨_, D14, ai, _, rfl, ?e2a, hq14.mono ?e3a, hpti.mono fun p hp => ?_⟩
          case e1a => k_mem
          case e2a => k_mem
          case e3a => walk_at "m_sub"
          rcases List.mem_append.mp hp with hp | hp
          · have := hsub3 p (by k_mem)
            k_mem
          · have := hsub3 p (by k_mem)
            k_mem
      case donea =>
        rintro m9 nx h15 tk15 ⟨vl3, kl3, rest3, tl3, kv, rfl, rfl, offl3, offf3, hx3, hes3⟩ F15 N15
        subst hM2
        have hsub3 := hx3.ext.sub
        walk_at "m_steps"
        rename News _ _ _ _ => N16
        rw [List.take_of_length_le (by rw [List.length_reverse, hlE]; omega)] at hes3
        refine' while_next (by k_asm) N16 _ (fun p hp => hp) ?z2a ⟨lf, _, _, ll, vl3, _, rest3, _, _, _, _, _, _, fs, q ++ (ents (row te ce) [] 1).reverse, map_turn, rfl, offl3, offf3, ExtOf.trans (ExtOf.trans hext ?zwa) hx3, ?zfa, hes3, ?zga, ?zea, rfl, ?zba⟩
        case zwa => walk_at "m_extOf"
        case z2a => rw [meas_app, meas_rev, hmE]; omega
        case zba => rw [meas_app, meas_rev, hmE]; omega
        case zga =>
          intro e he
          rcases List.mem_append.mp he with he | he
          · exact hgood e (List.mem_append_left _ he)
          · exact hgE e (List.mem_reverse.mp he)
        case zea =>
          rw [List.reverse_append, List.reverse_reverse, List.flatMap_append, hcE]
          simpa [Ent.con, Ent.rest] using heq
        case zfa => exact hfs.mono fun v d h => h.mono fun p hp => by have := hsub3 p (by k_mem); k_mem
    | cons ip pe' =>
      have hem : vsp.isEmpty = false := by cases vsp with | nil => simp at hvl | cons _ _ => rfl
      walk_at "m_steps"
      k_dflt walk_at "m_does"
      case kD => exact nk2 _ _ _ _ te (.ref he) _ rest ce hm3 (by walk_at "m_sub") oke
      case kd => walk_at "m_room"
      case ku => walk_at "m_units"
      rintro G9 hG9 r news9 h11 tk11 F11 N11 ⟨tl2, ⟨rfl, kx2⟩, l2, rvs, k2, rfl, hl2, hrow⟩
      refine hG9 _ _ ?_
      have hrl := hrow.length
      have hl3 : ∀ L9 : News1, (∀ p ∈ tl2, p ∈ L9) → (∀ p ∈ rest, p ∈ L9) → (l2, listOf rvs.toArray k2) ∈ L9 := fun L9 h1 h2 => (List.mem_append.mp hl2).elim (h1 _) (h2 _)
      walk_at "m_steps"
      refine For_ruleF (by k_asm) ?_
      walk_at "m_steps"
      k_dflt (refine len_led (vs := rvs) (by k_asm) (hl3 _ (fun p hp => by k_mem) (fun p hp => by k_mem)) (by omega) ?_)
      walk_at "m_steps"
      rename News _ _ _ _ => N9
      rename Fr _ _ _ _ => F9
      try simp only [List.push_toArray] at N9
      refine named_map F9 ?_
      intro M2 hM2 F10
      refine' Front.use (d := lf) N9 ?f3b ?_
      case f3b => walk_at "m_frontK"
      intro N12
      clear N9
      refine' Front.use (d := ll) N12 ?f4b ?_
      case f4b => walk_at "m_frontK"
      intro N9
      clear N12
      k_dflt (refine' loop_range (WnF M2 ll _ _ q (ents (row te ce) (ip :: pe') 1).reverse) (by rfl) (by assumption) (small_down (by omega) (by omega) (by omega) (by omega)) (rangeSize_downNat _ _) F10 N9 ?jb ?turnb ?doneb)
      case jb =>
        refine' ⟨p, _, _, [], _, at_init _ _, rfl, ?_, ?_, ExtOf.refl, ?_⟩
        · k_all
        · k_all
        · rw [List.take_zero, List.append_nil]
          exact hpq.mono fun v d h => h.mono fun p hp => by k_mem
      case turnb =>
        rintro i m₁ nx I oI h13 tk13 t13 hi ⟨vl3, kl3, rest3, tl3, kv, rfl, rfl, offl3, offf3, hx3, hes3⟩ offI F13 N13
        subst hM2
        have hsub3 := hx3.ext.sub
        have hlv3 : vl3.length ≤ 210 := by
          rw [hes3.length, List.length_append, List.length_take, ← hpq.length]
          omega
        obtain ⟨vi, ti, hvi, hti, hpti⟩ := hrow.get ((row te ce).length - 1 - i) (by omega)
        obtain ⟨ai, rfl⟩ := hpti.ref
        have heqi : (rvs.length : Int) - 1 + (i : Int) * (-1) + 1 = 1 + (((row te ce).length - 1 - i : Nat) : Int) := by omega
        have heqj : ((rvs.length : Int) - 1 + (i : Int) * (-1)).toNat = (row te ce).length - 1 - i := by omega
        walk_at "m_steps"
        k_dflt (refine path_add (p := (ip :: pe')) (i := ((rvs.length : Int) - 1 + (i : Int) * (-1) + 1)) (by k_asm) (by k_asm) (hm2.mono fun p hp => by have := hsub3 p (by k_mem); k_mem) (by k_mem) (by omega) ?_)
        intro h14 D14 tl14 F14 N14 kx14 hq14
        walk_at "m_steps"
        k_dflt (refine item_led (x := .ref ai) (by k_asm) (hl3 _ (fun p hp => by have := hsub3 p (by k_mem); k_mem) (fun p hp => by have := hsub3 p (by k_mem); k_mem)) (by omega) (by omega) (by rw [heqj]; exact hvi) ?_)
        walk_at "m_steps"
        rename News _ _ _ _ => N16
        rename Fr _ _ _ _ => F16
        simp only [List.push_toArray] at N16
        refine' Front.use (d := lf) N16 ?f5b ?_
        case f5b => walk_at "m_frontK"
        intro N17
        refine' Front.use (d := ll) N17 ?f6b ?_
        case f6b => walk_at "m_frontK"
        intro N18
        refine' Front.use (d := I) N18 ?f7b ?_
        case f7b => walk_at "m_frontK"
        intro N19
        clear N16 N17 N18
        refine' LoopEnd.intro F16 N19 _ (fun p hp => hp) ?ob ⟨vl3 ++ [_], _, _, _, _, set_same, rfl, ?ab, ?bb, ExtOf.trans hx3 ?cb, ?db⟩
        case ob => k_all
        case ab => k_all
        case bb => k_all
        case cb => walk_at "m_extOf"
        case db =>
          have hpth : pathD ((ip :: pe') ++ [(rvs.length : Int) - 1 + (i : Int) * (-1) + 1]) = pathD ((ip :: pe') ++ [1 + (((row te ce).length - 1 - i : Nat) : Int)]) := by rw [heqi]
          rw [hpth] at hq14
          rw [rev_get (x := ((ip :: pe') ++ [1 + (((row te ce).length - 1 - i : Nat) : Int)], ti, false)) (by rw [hlE]; omega) (by rw [hlE]; exact ents_get hti), ← List.append_assoc]
          refine' (hes3.mono fun v d h => h.mono fun p hp => ?e1b).snoc ⟨_, D14, ai, _, rfl, ?e2b, hq14.mono ?e3b, hpti.mono fun p hp => ?_⟩
          case e1b => k_mem
          case e2b => k_mem
          case e3b => walk_at "m_sub"
          rcases List.mem_append.mp hp with hp | hp
          · have := hsub3 p (by k_mem)
            k_mem
          · have := hsub3 p (by k_mem)
            k_mem
      case doneb =>
        rintro m9 nx h15 tk15 ⟨vl3, kl3, rest3, tl3, kv, rfl, rfl, offl3, offf3, hx3, hes3⟩ F15 N15
        subst hM2
        have hsub3 := hx3.ext.sub
        walk_at "m_steps"
        rename News _ _ _ _ => N16
        rw [List.take_of_length_le (by rw [List.length_reverse, hlE]; omega)] at hes3
        refine' while_next (by k_asm) N16 _ (fun p hp => hp) ?z2b ⟨lf, _, _, ll, vl3, _, rest3, _, _, _, _, _, _, (fs ++ [(ip :: pe', te)]), q ++ (ents (row te ce) (ip :: pe') 1).reverse, map_turn, rfl, offl3, offf3, ExtOf.trans (ExtOf.trans hext ?zwb) hx3, ?zfb, hes3, ?zgb, ?zeb, rfl, ?zbb⟩
        case zwb => walk_at "m_extOf"
        case z2b => rw [meas_app, meas_rev, hmE]; omega
        case zbb => rw [meas_app, meas_rev, hmE]; omega
        case zgb =>
          intro e he
          rcases List.mem_append.mp he with he | he
          · exact hgood e (List.mem_append_left _ he)
          · exact hgE e (List.mem_reverse.mp he)
        case zeb =>
          rw [List.reverse_append, List.reverse_reverse, List.flatMap_append, hcE]
          simpa [Ent.con, Ent.rest] using heq
        case zfb => exact (hfs.mono fun v d h => h.mono fun p hp => by have := hsub3 p (by k_mem); k_mem).snoc ⟨_, pa, he, _, rfl, hsub3 _ (by k_mem), hm2.mono (fun p hp => by have := hsub3 p (by k_mem); k_mem), hm3.mono (fun p hp => by have := hsub3 p (by k_mem); k_mem)⟩

/-! ## part_at -/
def PaAt (news : News1) (r : Value) (o : Option T) (news' : News1) : Prop := ∃ tl, ExtOf news news' tl ∧ match o with
  | none => r = .none
  | some u => ∃ a, r = .ref a ∧ PartAt news' r u
inductive PaJ (M : Str → Option Value) (base : News1) (t : T) (q : List Int) (i : Nat) (m : Str → Option Value) (nx : News1) : Prop where
  | mk : ∀ tl u hv a1 a2, (m = (fun z => if z = Str.ofString "is_letter" then some (.bool (i == 0)) else if z = Str.ofString "here" then some (.ref hv) else if z = Str.ofString "row" then a1 else if z = Str.ofString "number" then a2 else M z)) → (ExtOf base nx tl) → (PartAt nx (.ref hv) u) → (u.ok) → (u.height ≤ 4) → (atPath t true q = atPath u (i == 0) (q.drop i)) → PaJ M base t q i m nx
theorem map_init4 {M : Str → Option Value} {a b c d : Str} {v u : Value} (h : M a = some v) (k : M b = some u) : M = fun z => if z = a then some v else if z = b then some u else if z = c then M c else if z = d then M d else M z := by
  funext z
  repeat' split
  all_goals first | rfl | (rename_i h; subst h; first | rfl | assumption)
theorem map_turn4 {R : Str → Option Value} {a b c d : Str} {v1 v2 v3 v4 w1 w2 w3 w4 : Option Value} :
    (fun z => if z = a then v1 else if z = b then v2 else if z = c then v3 else if z = d then v4 else if z = a then w1 else if z = b then w2 else if z = c then w3 else if z = d then w4 else R z) =
      fun z => if z = a then v1 else if z = b then v2 else if z = c then v3 else if z = d then v4 else R z := by
  funext z
  by_cases h1 : z = a
  · simp only [h1, if_true]
  · by_cases h2 : z = b
    · simp only [if_neg h1, if_pos h2]
    · by_cases h3 : z = c
      · simp only [if_neg h1, if_neg h2, if_pos h3]
      · by_cases h4 : z = d
        · simp only [if_neg h1, if_neg h2, if_neg h3, if_pos h4]
        · simp only [if_neg h1, if_neg h2, if_neg h3, if_neg h4]
theorem DatAll.int_get {news : News1} : ∀ {vs : List Value} {p : List Int} {i : Nat} {v : Value}, DatAll news vs (p.map .int) → vs[i]? = some v → ∃ n t, v = .int n t ∧ p[i]? = some n
  | _, [], _, _, .nil, h => by simp at h
  | _, n :: _, 0, _, .cons (.int _ t) _, h => by cases h; exact ⟨n, t, rfl, rfl⟩
  | _, n :: p, i + 1, v, .cons (.int _ t) r, h => by
    obtain ⟨k, u, e, g⟩ := DatAll.int_get (i := i) (v := v) r (by simpa using h)
    exact ⟨k, u, e, by simpa using g⟩
theorem drop_cons {α : Type} {l : List α} {i : Nat} {x : α} (h : l[i]? = some x) : l.drop i = x :: l.drop (i + 1) := by
  obtain ⟨hi, e⟩ := List.getElem?_eq_some_iff.mp h
  rw [List.drop_eq_getElem_cons hi, e]
theorem part_at_does (w : World) (mean : ExcName → Option Value) (mg mb : Str → Option Value) (t : T) (v : Value) (pa : Addr) (q : List Int) (news : News1) (hp : PartAt news v t) (hq : DatIn news (.ref pa) (pathD q)) (ok : t.ok) (ht : t.height ≤ 4) :
    Does w mean mg mb 108 10 [v, .ref pa] news (fun r news' => PaAt news r (atPath t true q) news') := by
  have hk : PySem.Challenge.rw_no0359_01.row.prog = PySem.Challenge.rw_no0359_01.row.prog := rfl
  unfold Does
  k_fill
  intro dp un gd cn cs a ccd cl outer A₀ base h₀ L m s Q E B F X N T hk hd hu hret
  obtain ⟨va, rfl⟩ := hp.ref
  obtain ⟨vsp, nsp, hmt, hall⟩ := pathD_tuple hq
  have hvl := DatAll.length hall
  rw [List.length_map] at hvl
  refine wpAny_call ?_
  k_dflt walk_at "m_enter"
  walk_at "m_steps"
  refine For_ruleF (by k_asm) ?_
  walk_at "m_steps"
  rename News _ _ _ _ => N9
  rename Fr _ _ _ _ => F9
  refine named_map F9 ?_
  intro M hM F10
  k_dflt (refine' loop_tuple (items := vsp) (k := nsp) (PaJ M news t q) (by rfl) hmt ?j1 F10 N9 ?j2 ?turn ?done)
  case j1 =>
    rintro i m₁ nx ⟨tl, _, _, _, _, _, hx, _⟩
    exact hx.ext.sub _ hmt
  case j2 => exact ⟨[], t, va, _, _, map_init4 (by subst hM; rfl) (by subst hM; rfl), ExtOf.refl, hp, ok, ht, rfl⟩
  case turn =>
    rintro i v9 m₁ nx I oI h9 tk9 hi ⟨tl, u, hv, a1, a2, rfl, hx, hpu, oku, htu, hat⟩ offI F11 N11
    obtain ⟨n9, t9, rfl, hqi⟩ := DatAll.int_get hall hi
    rw [drop_cons hqi] at hat
    clear hM
    walk_at "m_steps"
    k_dflt walk_at "m_does"
    case kD => exact nk2 _ _ _ _ u (.ref hv) _ nx (i == 0) hpu (by walk_at "m_sub") oku
    case kd => walk_at "m_room"
    case ku => walk_at "m_units"
    rintro G9 hG9 r news9 h11 tk11 F11 N11 ⟨tl2, ⟨rfl, kx2⟩, l2, rvs, k2, rfl, hl2, hrow⟩
    refine hG9 _ _ ?_
    have hrl := hrow.length
    have hro := row_ok u (i == 0) oku
    have hl3 : ∀ L9 : News1, (∀ p ∈ tl2, p ∈ L9) → (∀ p ∈ nx, p ∈ L9) → (l2, listOf rvs.toArray k2) ∈ L9 := fun L9 h1 h2 => (List.mem_append.mp hl2).elim (h1 _) (h2 _)
    walk_at "m_steps"
    · rename_i hn1
      k_dflt (refine len_led (vs := rvs) (by k_asm) (hl3 _ (fun p hp => by k_mem) (fun p hp => by k_mem)) (by omega) ?_)
      walk_at "m_steps"
      · rename_i hn2
        obtain ⟨vi, ti, hvi, hti, hpti⟩ := hrow.get (n9 - 1).toNat (by omega)
        obtain ⟨ai, rfl⟩ := hpti.ref
        k_dflt (refine item_led (x := .ref ai) (by k_asm) (hl3 _ (fun p hp => by k_mem) (fun p hp => by k_mem)) (by omega) (by omega) hvi ?_)
        walk_at "m_steps"
        rename News _ _ _ _ => N16
        rename Fr _ _ _ _ => F16
        refine' Front.use (d := I) N16 ?f7 ?_
        case f7 => walk_at "m_frontK"
        intro N17
        refine' LoopEnd.intro F16 N17 _ (fun p hp => hp) ?o1 ⟨_, ti, ai, _, _, map_turn4, ExtOf.trans hx ?y3, hpti, oks_get hro.1 hti, ?y4, ?y5⟩
        case o1 => k_all
        case y3 => walk_at "m_extOf"
        case y4 => exact Nat.le_trans (height_mem (List.mem_of_getElem? hti)) (Nat.le_trans hro.2.1 htu)
        case y5 => rw [hat, atPath, if_pos (by omega), hti]; rfl
      · dsimp only [LoopPost]
        walk_at "m_steps"
        refine' hret _ _ _ _ (by k_asm) (by k_asm) ⟨_, ExtOf.trans hx ?y1a, ?y2a⟩
        case y1a => walk_at "m_extOf"
        case y2a => rw [hat, atPath, if_neg (by omega)]
    · rename_i hn1
      dsimp only [LoopPost]
      walk_at "m_steps"
      refine' hret _ _ _ _ (by k_asm) (by k_asm) ⟨_, ExtOf.trans hx ?y1b, ?y2b⟩
      case y1b => walk_at "m_extOf"
      case y2b => rw [hat, atPath, if_neg (by omega)]
  case done =>
    rintro m9 nx h9 tk9 ⟨tl, u, hv, a1, a2, rfl, hx, hpu, oku, htu, hat⟩ F11 N11
    clear hM
    walk_at "m_steps"
    refine' hret _ _ _ _ (by k_asm) (by k_asm) ⟨_, ?y1, ?y2⟩
    case y1 => exact hx
    case y2 =>
      rw [hat, List.drop_of_length_le (by omega), atPath]
      exact ⟨_, rfl, hpu⟩

/-! ## rules for the law -/
section
variable {prog : Program} {w : World} {A : Around} {E : Value → Shared → Prop} {s : Shared} {h₀ : Heap} {L : Addr} {m : Str → Option Value} {env : Env}
theorem comp_restP {elt : Expr} {x y : Str} {scope : Scope} {cl : List (Str × Addr)} {S : News1 → Prop} {P : Nat → Value → Prop} {Fin : List Value → News1 → Prop} {n : Nat} {news : News1} (J : Nat → List Value → News1 → Prop) (hj : J 0 [] news)
    (turn : ∀ i v ys nx, i < n → P i v → J i ys nx → ∃ (t : Addr) (v₁ v₂ : Value) (nt : Nat), v = .ref t ∧ (t, tupOf [v₁, v₂].toArray nt) ∈ nx ∧
      ∀ I oI C oC D m₂ h tk (E' : Value → Shared → Prop), LCg.NsObj oC m₂ → m₂ x = some v₁ → m₂ y = some v₂ → Fr h₀ L h m → News h₀ L h ((I, oI) :: (C, oC) :: (D, LCg.lst ys) :: nx) → LCg.Off3 I C D nx → ((@Ne Nat I C) ∧ (@Ne Nat I D) ∧ (@Ne Nat C D)) →
      wpAny (model prog w) A (eval elt (compEnvC scope cl C env)) (LCg.CompEnd h₀ L m { s with heap := h, toks := tk } I oI C oC D (LCg.lst ys) S (fun y nx' => J (i + 1) (ys ++ [y]) nx')) E' { s with heap := h, toks := tk })
    (fin : ∀ ys nx, J n ys nx → Fin ys nx) : LCp.CompRestP prog w A h₀ L m env elt x y scope cl s S P Fin n 0 [] news := by
  have key : ∀ k i ys nx, i + k = n → J i ys nx → LCp.CompRestP prog w A h₀ L m env elt x y scope cl s S P Fin k i ys nx := by
    intro k
    induction k with
    | zero =>
      intro i ys nx e hJ
      have : i = n := by omega
      subst this
      exact LCp.CompRestP.zero (fin _ _ hJ)
    | succ k ih =>
      intro i ys nx e hJ
      refine LCp.CompRestP.succ ?_
      intro v hP
      obtain ⟨t, v₁, v₂, nt, rfl, hm, hw⟩ := turn i v ys nx (by omega) hP hJ
      refine ⟨t, _, v₁, v₂, nt, rfl, hm, rfl, rfl, ?_⟩
      intro I oI C oC D m₂ h tk E' hC hx hy F N off ne
      refine wpAny_mono (hw I oI C oC D m₂ h tk E' hC hx hy F N off ne) (fun y s₂ q => ?_) fun _ _ e => e
      obtain ⟨h', tk', nx', e', F', N', off', hS, hJ'⟩ := q
      exact ⟨h', tk', nx', e', F', N', off', hS, ih (i + 1) _ _ (by omega) hJ'⟩
  exact key n 0 [] news (by omega) hj
end
section
variable {prog : Program} {w : World} {A : Around} {E : Value → Shared → Prop} {s : Shared} {h₀ : Heap} {L : Addr} {m : Str → Option Value} {news : News1}
theorem adjust_last (n : Nat) (hn : 1 ≤ n) : Builtin.Slice.sliceAdjust none (some (-1)) 1 (n : Int) = (0, (n : Int) - 1) := by
  unfold Builtin.Slice.sliceAdjust
  have h1 : ¬ ((1 : Int) < 0) := by omega
  have h2 : (-1 : Int) < 0 := by omega
  simp only [h1, h2, if_false, if_true]
  congr 1
  omega
theorem places_last (n : Nat) : Builtin.Slice.slicePlaces 0 ((n : Int) - 1) 1 = n - 1 := by
  unfold Builtin.Slice.slicePlaces
  have h1 : (1 : Int) > 0 := by omega
  simp only [h1, if_true, Int.ediv_one]
  split <;> omega
theorem sliced_last {sl : Addr} {n : Nat} {u : Tok} {Q : Int × Int × Nat → Shared → Prop} (hs : s.heap.IsSliceOf sl .none (.int (-1) u) .none) (hn : 1 ≤ n) (h : Q (0, 1, n - 1) s) :
    wpAny (model prog w) A (Builtin.Slice.sliceApplied (.ref sl) (pure (n : Int))) Q E s := by
  obtain ⟨os, hos, hcs, hds⟩ := id hs
  unfold Builtin.Slice.sliceApplied Builtin.Slice.sliceFields
  refine wpAny_bind (wpAny_bind (wpAny_field hos hds (x := .none) rfl (wpAny_bind (wpAny_field hos hds (x := .int (-1) u) rfl (wpAny_bind (wpAny_field hos hds (x := .none) rfl (wpAny_pure ?_)))))))
  refine wpAny_bind (slicePart_none ?_)
  show wpAny _ _ (if ((1 : Int) == 0) = true then _ else _) _ _ s
  rw [if_neg (by decide)]
  refine wpAny_bind (slicePart_none (wpAny_bind (slicePart_int (wpAny_bind (wpAny_pure ?_)))))
  show wpAny _ _ (match Builtin.Slice.sliceAdjust none (some (-1)) 1 (n : Int) with | (lo, hi) => pure (lo, (1 : Int), Builtin.Slice.slicePlaces lo hi 1)) _ _ s
  rw [adjust_last n hn]
  show wpAny _ _ (pure ((0 : Int), (1 : Int), Builtin.Slice.slicePlaces 0 ((n : Int) - 1) 1)) _ _ s
  rw [places_last n]
  exact wpAny_pure h
theorem pick_last (xs : List Value) : ((List.range (xs.length - 1)).filterMap fun (k : Nat) => xs.toArray[((0 : Int) + (k : Int) * 1).toNat]?).toArray = xs.dropLast.toArray := by
  have e : (fun (k : Nat) => xs.toArray[((0 : Int) + (k : Int) * 1).toNat]?) = fun k => xs.toArray[0 + k]? := by
    funext k
    rw [show ((0 : Int) + (k : Int) * 1).toNat = 0 + k by omega]
  rw [e]
  have := pick_run xs.toArray 0 (xs.length - 1)
  rw [List.filterMap_map] at this
  have e2 : ((fun x => xs.toArray[x]?) ∘ fun x => 0 + x) = fun k => xs.toArray[0 + k]? := rfl
  rw [e2] at this
  rw [this, List.drop_zero, List.dropLast_eq_take]
theorem getItem_last {t sl : Addr} {items : List Value} {u : Tok} {Q : Value → Shared → Prop} (ht : IsTup s.heap t items.toArray) (hs : s.heap.IsSliceOf sl .none (.int (-1) u) .none) (h1 : 1 ≤ items.length) (hsz : items.length ≤ 1000)
    (h : Q (.ref s.heap.objs.size) { s with heap := s.heap.push { cls := .type "tuple", data := .seq items.dropLast.toArray } }) : wpAny (model prog w) A (getItem (.ref t) (.ref sl)) Q E s := by
  have hdrop : sizeOk (.seq items.dropLast.toArray) := by
    show items.dropLast.toArray.size ≤ sizeLine
    rw [List.size_toArray, List.length_dropLast, sizeLine_eq]
    omega
  obtain ⟨os, hos, hcs, hds⟩ := id hs
  have hTs : s.TypeIs (.ref sl) "slice" := ⟨os, hos, hcs⟩
  have hn : items.toArray.size = items.length := List.size_toArray ..
  unfold getItem
  try with_reducible refine wpAny_holding ?_
  first | refine wpAny_bind (wpAny_pure ?_) | skip
  refine wpAny_bind (wpAny_sequenceKey ht.typeIs (by decide) ?_)
  refine wpAny_bind (wpAny_callSpecial?_slot (name := Str.ofString "__getitem__") ht.typeIs slot_tuple_getitem
    (wpAny_call_entry slot_tuple_getitem ht.typeIs entry_tuple_getitem ?_ (args_tuple_getitem _ _)))
  show wpAny _ _ (Builtin.Tuple.tupleItemsOf (.ref t) >>= _) _ _ s
  refine wpAny_bind (tupleItemsOf_ ht ?_)
  refine wpAny_bind (wpAny_typeOf hTs ?_)
  rw [if_pos (by decide)]
  refine wpAny_bind (sliced_last hs (by rw [hn]; exact h1) ?_)
  have hno : ¬ (((0 : Int) == 0 && (1 : Int) == 1 && (items.toArray.size - 1) == items.toArray.size) = true) := by
    have : (items.toArray.size - 1 == items.toArray.size) = false := by rw [beq_eq_false_iff_ne]; omega
    rw [this]; simp
  show wpAny _ _ (if ((0 : Int) == 0 && (1 : Int) == 1 && (items.toArray.size - 1) == items.toArray.size) = true then _ else _) _ _ s
  have hp := pick_last items
  rw [← hn] at hp
  rw [if_neg hno, hp]
  first
    | exact wpAny_bind (m := Builtin.Tuple.tupleExact _) (wpAny_newObj_type (wpAny_pure ⟨_, rfl, wpAny_pure h⟩) hdrop)
    | exact wpAny_bind (m := Builtin.Tuple.tupleExact _) (wpAny_newObj_type (wpAny_bind (wpAny_pure (wpAny_pure ⟨_, rfl, wpAny_pure h⟩))) hdrop)
    | exact wpAny_bind (wpAny_bind (m := Builtin.Tuple.tupleExact _) (wpAny_newObj_type (wpAny_pure (wpAny_pure ⟨_, rfl, wpAny_pure h⟩)) hdrop))
    | exact wpAny_bind (wpAny_bind (m := Builtin.Tuple.tupleExact _) (wpAny_newObj_type (wpAny_pure ⟨_, rfl, wpAny_pure h⟩) hdrop))
theorem DatAll.dropLast {news : News1} : ∀ {vs : List Value} {ds : List Dat}, DatAll news vs ds → DatAll news vs.dropLast ds.dropLast
  | _, _, .nil => .nil
  | _, _, .cons _ .nil => .nil
  | _, _, .cons a (.cons b r) => by
    rw [List.dropLast_cons_cons, List.dropLast_cons_cons]
    exact .cons a (DatAll.dropLast (.cons b r))
theorem cut_led {value slice : Expr} {t : Addr} {p : List Int} {u : Tok} {Q : Value → Shared → Prop} (F : Fr h₀ L s.heap m) (N : News h₀ L s.heap news) (ht : DatIn news (.ref t) (pathD p)) (h1 : p ≠ []) (hz : p.length ≤ 1000)
    (h : ∀ h' D o, Fr h₀ L h' m → News h₀ L h' ((D, o) :: news) → (∀ p ∈ news, p.1 < D) → DatIn [(D, o)] (.ref D) (pathD p.dropLast) → Q (.ref D) { s with heap := h' })
    (hs : subscripted slice false (.ref t) (.ref s.heap.objs.size) = operate [.ref s.heap.objs.size, .ref t] (getItem (.ref t) (.ref s.heap.objs.size)) := by with_unfolding_all rfl)
    (hg : ∀ r, letTemporaryGo value (.ref t) r = pure () := by intro _; with_unfolding_all rfl) :
    wpAny (model prog w) A (subscriptTail value slice (.ref t) (.ref s.heap.objs.size)) Q E { s with heap := s.heap.push { cls := .type "slice", data := .fields #[.none, .int (-1) u, .none] } } := by
  obtain ⟨vs, n, hm, hall⟩ := pathD_tuple ht
  have hl := DatAll.length hall
  rw [List.length_map] at hl
  have ht' : IsTup (s.heap.push { cls := .type "slice", data := .fields #[.none, .int (-1) u, .none] }) t vs.toArray := (News.isTup N hm).keeps fun _ _ e => Heap.get?_push_of_some _ e
  have hne : 1 ≤ vs.length := by
    cases p with
    | nil => exact absurd rfl h1
    | cons _ _ => rw [hl, List.length_cons]; omega
  refine subscriptTail_ops (s := { s with heap := s.heap.push { cls := .type "slice", data := .fields #[.none, .int (-1) u, .none] } }) ht'.typeIs slot_tuple_getitem.lookup
    (getItem_last ht' (Heap.IsSliceOf.new ..) hne (by omega) ?_) hs hg
  have N1 := News.push (F.push { cls := .type "slice", data := .fields #[.none, .int (-1) u, .none] }) (N.grown fun _ _ e => Heap.get?_push_of_some _ e) { cls := .type "tuple", data := .seq vs.dropLast.toArray }
  refine h _ _ _ ((F.push _).push _) N1 (fun p hp => ?_) ?_
  · show @LT.lt Nat _ p.1 (s.heap.push _).objs.size
    rw [Heap.size_push]
    exact Nat.lt_succ_of_lt (Heap.lt_size (N p hp).1)
  · refine .tuple (List.mem_singleton.mpr rfl) ?_
    rw [List.map_dropLast]
    exact DatAll.ints (p := p.dropLast) (by rw [List.map_dropLast]; exact DatAll.dropLast hall) |> fun x => by rw [List.map_dropLast] at x; exact x
theorem last_led {value slice : Expr} {t : Addr} {p : List Int} {u : Tok} {x : Int} {Q : Value → Shared → Prop} (N : News h₀ L s.heap news) (ht : DatIn news (.ref t) (pathD (p ++ [x]))) (hz : p.length ≤ 1000) (h : ∀ tk, Q (.int x tk) s)
    (hs : subscripted slice false (.ref t) (.int (-1) u) = operate [.ref t, .int (-1) u] (getItem (.ref t) (.int (-1) u)) := by with_unfolding_all rfl) (hg : ∀ r, letTemporaryGo value (.ref t) r = pure () := by intro _; with_unfolding_all rfl) :
    wpAny (model prog w) A (subscriptTail value slice (.ref t) (.int (-1) u)) Q E s := by
  obtain ⟨vs, n, hm, hall⟩ := pathD_tuple ht
  have hl := DatAll.length hall
  rw [List.length_map, List.length_append, List.length_singleton] at hl
  have hlt : p.length < vs.length := by omega
  obtain ⟨k, tk, e, hk⟩ := DatAll.int_get hall (List.getElem?_eq_getElem hlt)
  obtain rfl : x = k := by
    rw [List.getElem?_append_right (Nat.le_refl _), Nat.sub_self] at hk
    exact Option.some.inj hk
  refine item_tupleL (j := p.length) (x := .int x tk) (News.isTup N hm) (by decide) (by decide) ?_ (by rw [List.getElem?_eq_getElem hlt, e]) (h tk) hs hg
  unfold seqIndex?
  rw [hl]
  simp only [show (-1 : Int) < 0 by decide, if_true]
  rw [if_pos (by simp; omega)]
  congr 1
  omega
end
theorem PartAt.kidsN {news : News1} : ∀ {v : Value} {t : T}, PartAt news v t → ∃ vs u, NodeAt news v t.begin vs u ∧ vs.length = t.kids.length
  | _, .leaf _, h => by rw [PartAt] at h; exact ⟨_, _, h, rfl⟩
  | _, .letter _ _, h => by rw [PartAt] at h; obtain ⟨u, h, _⟩ := h; exact ⟨_, _, h, rfl⟩
  | _, .multi _ _, h => by rw [PartAt] at h; obtain ⟨vs, h, k⟩ := h; exact ⟨_, _, h, k.length⟩
theorem at_beyond (t : T) : atPath t true [(t.kids.length : Int) + 2] = none := by
  rw [atPath, if_neg]
  cases t with
  | leaf b => simp [row, T.kids]
  | letter b t => simp [row, T.kids]
  | multi b ts => simp only [row, T.kids]; omega
theorem path_ok (p : List Int) : kqdOk 8 (pathD p) = true := by
  simp only [pathD, kqdOk, List.all_map]
  exact List.all_eq_true.mpr fun x _ => rfl
theorem pair_ok (x : List Int × Int) : kqdOk 8 (pairD x) = true := by
  simp only [pairD, pathD, kqdOk, List.all_cons, List.all_nil, List.all_map, Bool.and_true]
  exact List.all_eq_true.mpr fun x _ => rfl
theorem ints_inj : ∀ {p q : List Int}, p.map Dat.int = q.map Dat.int → p = q
  | [], [], _ => rfl
  | a :: p, b :: q, h => by
    rw [List.map_cons, List.map_cons, List.cons.injEq, Dat.int.injEq] at h
    rw [h.1, ints_inj h.2]
  | [], _ :: _, h => by simp at h
  | _ :: _, [], h => by simp at h
theorem pathD_inj {p q : List Int} (h : pathD p = pathD q) : p = q := by
  simp only [pathD, Dat.tuple.injEq] at h
  exact ints_inj h
theorem pairs_get {news : News1} : ∀ {vs : List Value} {ds : List (List Int × Int)} {i : Nat} {v : Value}, DatAll news vs (ds.map pairD) → vs[i]? = some v → ∃ x a pa b n, ds[i]? = some x ∧ v = .ref a ∧ (a, tupOf [.ref pa, .int x.2 b].toArray n) ∈ news ∧ DatIn news (.ref pa) (pathD x.1)
  | _, [], _, _, .nil, h => by simp at h
  | _, x :: _, 0, _, .cons d _, h => by
    cases h
    unfold pairD at d
    rcases d with _ | _ | _ | _ | _ | ⟨hm, hall⟩ | _
    rcases hall with _ | ⟨d1, hall⟩
    rcases hall with _ | ⟨d2, hall⟩
    rcases hall with _ | _
    have d3 := d1
    unfold pathD at d3
    rcases d3 with _ | _ | _ | _ | _ | ⟨hm2, _⟩ | _
    rcases d2 with _ | _ | ⟨_, b⟩ | _ | _ | _ | _
    exact ⟨x, _, _, b, _, rfl, rfl, hm, d1⟩
  | _, x :: ds, i + 1, v, .cons _ r, h => by
    obtain ⟨y, a, pa, b, n, e, r⟩ := pairs_get (ds := ds) (i := i) (v := v) r (by simpa using h)
    exact ⟨y, a, pa, b, n, by simpa using e, r⟩
theorem due_plen : ∀ (n : Nat) (t : T) (c : Bool) (p : List Int) (x : List Int × Int), (dueC c t p).length ≤ n → x ∈ dueC c t p → x.1.length ≤ p.length + n
  | 0, t, c, p, x, h, hx => by
    rw [List.eq_nil_of_length_eq_zero (Nat.le_zero.mp h)] at hx
    cases hx
  | n + 1, t, c, p, x, h, hx => by
    rw [due_row] at h hx
    obtain ⟨i, k, hk, hx⟩ := mem_dues.mp hx
    rcases hx with rfl | hx
    · rw [List.length_append, List.length_singleton]; omega
    · have hl := due_lt (p := p) (j := 1) hk
      have := due_plen n k false (p ++ [1 + (i : Int)]) x (by simp only [dueC]; rw [if_neg (by decide)]; omega) (by simp only [dueC]; rw [if_neg (by decide)]; exact hx)
      rw [List.length_append, List.length_singleton] at this
      omega
theorem due_facts {t : T} {x : List Int × Int} (hl : (dueC true t []).length ≤ 201) (hx : x ∈ dueC true t []) : ∃ P l u, x = (P ++ [l], u.begin) ∧ P.length ≤ 201 ∧ atPath t true (P ++ [l]) = some u := by
  obtain ⟨q, u, hq, he, ha, hb⟩ := at_of_due 201 t true [] x hl hx
  have hp := due_plen 201 t true [] x hl hx
  rw [List.nil_append] at he
  refine ⟨q.dropLast, q.getLast hq, u, ?_, ?_, ?_⟩
  · rw [List.dropLast_concat_getLast, ← he, hb]
  · rw [List.length_dropLast, ← he]
    rw [List.length_nil] at hp
    omega
  · rw [List.dropLast_concat_getLast]; exact ha
theorem at_none {t : T} {o : List Int} (h : o ≠ []) (hm : pathD o ∉ (dueC true t []).map fun x => pathD x.1) : atPath t true o = none := by
  cases e : atPath t true o with
  | none => rfl
  | some u =>
    refine absurd (List.mem_map.mpr ⟨(o, u.begin), ?_, rfl⟩) hm
    exact due_of_at o t true [] u h e
theorem map_id3 (M : Str → Option Value) (a b c : Str) : M = fun z => if z = a then M a else if z = b then M b else if z = c then M c else M z := by
  funext z
  repeat' split
  all_goals first | rfl | (rename_i h; rw [h])
theorem map_turn3 {R : Str → Option Value} {a b c : Str} {v1 v2 v3 w1 w2 w3 : Option Value} :
    (fun z => if z = a then v1 else if z = b then v2 else if z = c then v3 else if z = a then w1 else if z = b then w2 else if z = c then w3 else R z) = fun z => if z = a then v1 else if z = b then v2 else if z = c then v3 else R z := by
  funext z
  by_cases h1 : z = a
  · simp only [h1, if_true]
  · by_cases h2 : z = b
    · simp only [if_neg h1, if_pos h2]
    · by_cases h3 : z = c
      · simp only [if_neg h1, if_neg h2, if_pos h3]
      · simp only [if_neg h1, if_neg h2, if_neg h3]
theorem pick_five {base : News1} {D1 D2 D3 D4 D5 : Addr} {o1 o2 o3 o4 o5 : List Int} {i : Nat} {v : Value} (h1 : DatIn base (.ref D1) (pathD o1)) (h2 : DatIn base (.ref D2) (pathD o2)) (h3 : DatIn base (.ref D3) (pathD o3)) (h4 : DatIn base (.ref D4) (pathD o4)) (h5 : DatIn base (.ref D5) (pathD o5))
    (e1 : o1 ≠ []) (e2 : o2 ≠ []) (e3 : o3 ≠ []) (e4 : o4 ≠ []) (e5 : o5 ≠ []) (hi : [Value.ref D1, .ref D2, .ref D3, .ref D4, .ref D5][i]? = some v) : ∃ D o, v = .ref D ∧ DatIn base (.ref D) (pathD o) ∧ o ≠ [] := by
  match i, hi with
  | 0, hi => cases hi; exact ⟨_, _, rfl, h1, e1⟩
  | 1, hi => cases hi; exact ⟨_, _, rfl, h2, e2⟩
  | 2, hi => cases hi; exact ⟨_, _, rfl, h3, e3⟩
  | 3, hi => cases hi; exact ⟨_, _, rfl, h4, e4⟩
  | 4, hi => cases hi; exact ⟨_, _, rfl, h5, e5⟩
  | k + 5, hi => simp at hi
theorem notIn_led {prog : Program} {w : World} {A : Around} {E : Value → Shared → Prop} {s : Shared} {h₀ : Heap} {L a : Addr} {news n₁ n₂ : News1} {xs : List Value} {k : Nat} {ds : List Dat} {x : Value} {d : Dat} {Q : Value → Shared → Prop} (N : News h₀ L s.heap news) (ma : (a, listOf xs.toArray k) ∈ news) (Da : DatAll n₁ xs ds) (sa : ∀ p ∈ n₁, p ∈ news)
    (Dx : DatIn n₂ x d) (sx : ∀ p ∈ n₂, p ∈ news) (ha : ∀ d ∈ ds, kqdOk 8 d = true) (hd : kqdOk 8 d = true) (hu : A.units + 64 < cLine) (h1 : d ∈ ds → Q (.bool false) s) (h2 : d ∉ ds → Q (.bool true) s) : wpAny (model prog w) A (compareOp .NotIn x (.ref a)) Q E s := by
  have e : ∀ (i : Decidable (d ∈ ds)), Q (.bool (!@decide _ i)) s := fun i => by
    cases i with
    | isTrue h => exact h1 h
    | isFalse h => exact h2 h
  exact kqd_notIn N ma rfl rfl Da sa Dx sx ha hd hu (e _)

/-! ## the law -/
inductive OrAt (h₀ : Heap) (L : Addr) (m : Str → Option Value) (s : Shared) (v : Value) (s' : Shared) : Prop where
  | mk : ∀ h' tk cl cvs kc cells, (v = .ref cl) → (s' = { s with heap := h', toks := tk }) → (Fr h₀ L h' m) → (News h₀ L h' [(cl, listOf cvs.toArray kc)]) → (IntsAre cvs cells) → (cells ≠ []) → (cells.length ≤ 100) → OrAt h₀ L m s v s'
theorem or_join {prog : Program} {w : World} {A : Around} {E : Value → Shared → Prop} {s : Shared} {h₀ : Heap} {L : Addr} {m : Str → Option Value} {e : Expr} {env : Env} {Q : Value → Shared → Prop} (F : Fr h₀ L s.heap m)
    (h1 : wpAny (model prog w) A (eval e env) (OrAt h₀ L m s) E s)
    (h2 : ∀ h' tk cl cvs kc cells, Fr h₀ L h' m → News h₀ L h' [(cl, listOf cvs.toArray kc)] → IntsAre cvs cells → cells ≠ [] → cells.length ≤ 100 → Q (.ref cl) { s with heap := h', toks := tk }) : wpAny (model prog w) A (eval e env) Q E s :=
  wpAny_mono h1 (fun v s' h => by
    obtain ⟨h', tk, cl, cvs, kc, cells, rfl, rfl, a, b, c, d, e⟩ := h
    exact h2 h' tk cl cvs kc cells a b c d e) fun _ _ e => e
local macro_rules | `(tactic| walk_at "m_stop") => `(tactic| first
  | (with_reducible show wpAny _ _ (eval (Expr.BoolOp BoolOp.Or _ _) _) _ _ _)
  | (with_reducible show OrAt _ _ _ _ _ _)
  | (with_reducible show wpAny _ _ (call (Value.builtin "len") [Value.ref _]) _ _ _)
  | (with_reducible show wpAny _ _ (binaryOp Operator.Add (Value.ref _) (Value.ref _)) _ _ _)
  | (with_reducible show wpAny _ _ (subscriptTail _ (Expr.Slice none (some (Expr.UnaryOp _ _ _)) none _) _ _) _ _ _)
  | (with_reducible show wpAny _ _ (subscriptTail _ (Expr.UnaryOp _ _ _) _ _) _ _ _)
  | (with_reducible show wpAny _ _ (compareOp CmpOp.NotEq (Value.ref _) (Value.ref _)) _ _ _)
  | (with_reducible show wpAny _ _ (compareOp CmpOp.NotIn (Value.ref _) (Value.ref _)) _ _ _)
  | (with_reducible show LCp.SrcLP _ _ _ _ _ _ _ _ _ _ _ _ _ _ _))
inductive LsJ (base : News1) (ts : List T) (i : Nat) (ys : List Value) (nx : News1) : Prop where
  | mk : ∀ tl, (ExtOf base nx tl) → (IntsAre ys ((ts.take i).map T.begin)) → LsJ base ts i ys nx
theorem ls_take {ts : List T} {i : Nat} {t : T} (h : ts[i]? = some t) : (ts.take (i + 1)).map T.begin = (ts.take i).map T.begin ++ [t.begin] := by
  rw [List.take_add_one, h, Option.toList_some, List.map_append]
  rfl
inductive PtJ (base : News1) (ds : List (List Int × Int)) (i : Nat) (ys : List Value) (nx : News1) : Prop where
  | mk : ∀ tl, (ExtOf base nx tl) → (DatAll nx ys ((ds.take i).map fun x => pathD x.1)) → PtJ base ds i ys nx
theorem pt_take {ds : List (List Int × Int)} {i : Nat} {d : List Int × Int} (h : ds[i]? = some d) : ((ds.take (i + 1)).map fun x => pathD x.1) = ((ds.take i).map fun x => pathD x.1) ++ [pathD d.1] := by
  rw [List.take_add_one, h, Option.toList_some, List.map_append]
  rfl
inductive OutJ (M : Str → Option Value) (base : News1) (i9 : Nat) (m : Str → Option Value) (nx : News1) : Prop where
  | mk : ∀ tl a1 a2 a3, (m = (fun z => if z = Str.ofString "other" then a3 else if z = Str.ofString "begin" then a2 else if z = Str.ofString "path" then a1 else M z)) → (ExtOf base nx tl) → OutJ M base i9 m nx
inductive InJ (M : Str → Option Value) (base : News1) (i9 : Nat) (m : Str → Option Value) (nx : News1) : Prop where
  | mk : ∀ tl a3, (m = (fun z => if z = Str.ofString "other" then a3 else M z)) → (ExtOf base nx tl) → InJ M base i9 m nx
inductive FoJ (base : News1) (ps : List (List Int × T)) (i : Nat) (ys : List Value) (nx : News1) : Prop where
  | mk : ∀ tl, (ExtOf base nx tl) → (DatAll nx ys (((ps.take i).map fun x => (x.1, x.2.begin)).map pairD)) → FoJ base ps i ys nx
theorem fo_take {ps : List (List Int × T)} {i : Nat} {d : List Int × T} (h : ps[i]? = some d) : ((ps.take (i + 1)).map fun x => (x.1, x.2.begin)).map pairD = ((ps.take i).map fun x => (x.1, x.2.begin)).map pairD ++ [pairD (d.1, d.2.begin)] := by
  rw [List.take_add_one, h, Option.toList_some, List.map_append, List.map_append]
  rfl
theorem law_post (ns : List Int) : (PySem.Challenge.rw_no0359_01.row.toRowW.claim).post [ofPy (PyData.list (ns.map PyData.int))] (.bool true) [ofPy (PyData.list (ns.map PyData.int))] = true := by wrow_post
theorem holds : PySem.Challenge.rw_no0359_01.Holds := Once.hd (by
  k_go0
  all_goals try k_fold
  walk_at "m_steps"
  k_dflt (refine or_join (by k_asm) ?_ ?_)
  · walk1
    walk_at "m_steps"
    · rename_i ha _ _ _
      refine ⟨_, _, _, _, _, _, rfl, rfl, by k_asm, news_sub (by k_asm) (by walk_at "m_sub"), by assumption, ?_, ?_⟩
      · intro e
        rename_i h
        rw [e] at h
        exact absurd h (by simp)
      · omega
    · walk1
      walk_at "m_steps"
      refine ⟨_, _, _, _, _, _, rfl, rfl, by k_asm, news_sub (by k_asm) (by walk_at "m_sub"), .cons _ _ .nil, by simp, by simp⟩
  intro h5 tk5 cl cvs kc cells F5 N5 hcells hne hlen
  walk_at "m_steps"
  rename News _ _ _ _ => N6
  k_dflt walk_at "m_does"
  case kD => exact part_does _ _ _ _ _ cl 0 kc cvs cells hcells hne hlen _ _ _ [(cl, listOf cvs.toArray kc)] (by k_all) (by k_mem)
  case kd => walk_at "m_room"
  case ku => walk_at "m_units"
  rintro G9 hG9 r news9 h9 tk9 F9 N9 ⟨t, tl, at9, cnt9, t1, t2, rfl, kx, kt, hp, ok, ht, hbeg, _, _⟩
  refine hG9 _ _ ?_
  obtain ⟨rv, rfl⟩ := hp.ref
  have hdl := dueC_len (c := true) (p := []) ok ht
  have hdw : dueW t [] = dueC true t [] := rfl
  clear N6 hcells hne hlen
  walk_at "m_steps"
  k_dflt walk_at "m_does"
  case kD => exact (num_all _ _ _ _ t ok ht).2 _ _ [] _ (hp.mono fun p hp => by k_mem) (.tuple (vs := []) (by k_mem) .nil) (by rw [List.length_nil]; omega)
  case kd => walk_at "m_room"
  case ku => walk_at "m_units"
  rintro G9 hG9 r news10 h10 tk10 F10 N10 ⟨tl2, ⟨rfl, kx2⟩, ld, vd, kd, rfl, hld, hdd⟩
  refine hG9 _ _ ?_
  walk_at "m_steps"
  rename Fr _ _ _ _ => Fa
  k_dflt (refine LCp.Assign_ListComp_P Fa rfl (by with_unfolding_all rfl) (by with_unfolding_all rfl) (by decide) (by rfl) (by decide) (by rfl) (by rfl) (by decide) (by rfl) (by rfl) ?_)
  walk_at "m_steps"
  k_dflt walk_at "m_does"
  case kD => exact numbered_does _ _ _ _ t _ _ (hp.mono fun p hp => by k_mem) ok ht
  case kd => walk_at "m_room"
  case ku => walk_at "m_units"
  rintro G9 hG9 r news11 h11 tk11 F11 N11 ⟨⟨tl3, rfl, kx3⟩, lf, vf, kf, ps, rfl, hlf, hps, hpe⟩
  refine hG9 _ _ ?_
  walk_at "m_steps"
  have hfl : vf.length ≤ 201 := by
    have e := congrArg List.length hpe
    rw [List.length_map, ← hps.length, hdw] at e
    omega
  rename News _ _ _ _ => N12
  rename Fr _ _ _ _ => F12
  k_dflt (refine LCp.SrcLP.ledger (its := vf.toArray) (by rfl) F12 N12 hlf (by rw [List.size_toArray, sizeLine_eq]; omega) ?_)
  intro g12
  have hsz12 : vf.toArray.size = vf.length := List.size_toArray ..
  rw [hsz12]
  refine comp_restP (FoJ _ ps) ⟨_, ExtOf.refl, .nil⟩ ?_ ?_
  · rintro i v ys nx hi hv ⟨tl4, hx4, hys⟩
    have hs4 := hx4.ext.sub
    obtain ⟨d, hd, hf⟩ := hps.get (i := i) (v := v) (by simpa using hv)
    obtain ⟨a, pa, hh, n, rfl, hm1, hm2, hm3⟩ := hf
    have hlf4 := hs4 _ hlf
    have hp4 := hm3.mono hs4
    have hm4 := hm2.mono hs4
    refine ⟨a, .ref pa, .ref hh, n, rfl, hs4 _ hm1, ?_⟩
    clear hlf hps N12 F12
    obtain ⟨vsn, un, an, dxn, kln, nkn, nn, h1, h2, h3, h4, h5, h6, h7, h8, k1, k2, k3, k4, k5, k6, k7, k8, tb, v2, v3, v4, v5, v6, en, xn, yn, zn⟩ := hp4.node
    obtain rfl : hh = an := by cases en; rfl
    intro I oI C oC D m₂ h13 tk13 E' hC hx hy F13 N13 off13 ne13
    try dsimp only
    try k_fold
    walk_at "m_steps"
    k_unfold
    refine' LCg.CompEnd.intro (by k_asm) (by k_asm) ((_, _) :: nx) ?sub ?off (.inr ⟨_, List.mem_cons_of_mem _ hlf4, rfl, kf, rfl⟩) ⟨_, ExtOf.trans hx4 ?ex, ?da⟩
    case sub => walk_at "m_sub"
    case off =>
      refine LCg.Off3.of fun p hp => ?_
      rcases List.mem_cons.mp hp with rfl | hp
      · exact ⟨by k_ne, by k_ne, by k_ne⟩
      · exact off13.mem p hp
    case ex => walk_at "m_extOf"
    case da =>
      rw [fo_take hd]
      exact DatAll.append (hys.mono fun p hp => List.mem_cons_of_mem _ hp) (.cons (.tuple List.mem_cons_self (.cons (hm4.mono fun p hp => List.mem_cons_of_mem _ hp) (.cons (.int _ _) .nil))) .nil)
  · rintro ys nx ⟨tl4, hx4, hys⟩ D h13 tk13 F13 N13 off13
    have hs4 := hx4.ext.sub
    rw [List.take_of_length_le (by rw [← hps.length]; exact Nat.le_refl _), hpe, hdw] at hys
    clear hlf hps hpe
    have hld4 := hs4 _ (List.mem_append_right _ (List.mem_append_left _ hld))
    have hdd4 := hdd.mono (fun p hp => hs4 p (List.mem_append_right _ (List.mem_append_left _ hp)))
    have hp4 := hp.mono (fun p hp => hs4 p (by k_mem))
    try dsimp only at F13 ⊢
    walk_at "m_steps"
    k_dflt (refine kqd_ne (ds := (dueC true t []).map pairD) (es := (dueC true t []).map pairD) (by k_asm) (List.mem_cons_self) rfl rfl hys (fun p hp => by k_mem) (List.mem_cons_of_mem _ hld4) rfl rfl hdd4 (fun p hp => by k_mem) ?_ ?_ (by walk_at "m_units") ?_)
    · intro d hd
      obtain ⟨x, _, rfl⟩ := List.mem_map.mp hd
      exact pair_ok x
    · intro d hd
      obtain ⟨x, _, rfl⟩ := List.mem_map.mp hd
      exact pair_ok x
    simp only [decide_true, Bool.not_true]
    walk_at "m_steps"
    k_dflt (refine LCg.ListComp_U (F₀ := by k_asm) (by with_unfolding_all rfl) (by decide) (by rfl) (by decide) (by rfl) ?_)
    walk_at "m_steps"
    k_dflt walk_at "m_does"
    case kD => exact leaves_does _ _ _ _ t _ _ (hp4.mono fun p hp => by k_mem) ok ht
    case kd => walk_at "m_room"
    case ku => walk_at "m_units"
    rintro G9 hG9 r news14 h14 tk14 F14 N14 ⟨tl5, ⟨rfl, kx5⟩, lw, vw, tw, kw, rfl, hlw, hpw, hew⟩
    refine hG9 _ _ ?_
    walk_at "m_steps"
    rename News _ _ _ _ => N15
    rename Fr _ _ _ _ => F15
    have hwl : vw.length ≤ 121 := by
      rw [hpw.length, ← List.length_map (f := Mine.T.begin), hew]
      exact Nat.le_trans (lvs_len t) (size_121 ok ht)
    k_dflt (refine LCg.CompSrc.ledger (its := vw.toArray) (k := kw) (by rfl) F15 N15 (List.mem_append_left _ hlw) (by rw [List.size_toArray, sizeLine_eq]; omega) ?_)
    intro g15
    have hsz15 : vw.toArray.size = vw.length := List.size_toArray ..
    rw [hsz15]
    refine comp_rest (LsJ _ tw) ⟨_, ExtOf.refl, .nil⟩ ?_ ?_
    · rintro i v ys5 nx5 I oI C oC D5 m₂ h16 tk16 E' hi hv ⟨tl6, hx6, hys6⟩ hC hx F16 N16 off16 ne16
      have hs6 := hx6.ext.sub
      obtain ⟨v6, t6, hv6, ht6, hp6⟩ := hpw.get i (by rw [← hpw.length]; exact hi)
      obtain rfl : v6 = v := Option.some.inj (hv6.symm.trans (by simpa using hv))
      have hp7 := hp6.mono (fun p hp => hs6 p (by k_mem))
      obtain ⟨vsn, un, an, dxn, kln, nkn, nn, h1, h2, h3, h4, h5, h6, h7, h8, k1, k2, k3, k4, k5, k6, k7, k8, tb, v2, v3, v4, v5, v6, rfl, xn, yn, zn⟩ := hp7.node
      try dsimp only
      try k_fold
      walk_at "m_steps"
      refine LCg.CompEnd.intro (by k_asm) (by k_asm) nx5 (fun p hp => hp) off16 (.inr ⟨_, hs6 _ (List.mem_append_left _ hlw), rfl, kw, rfl⟩) ⟨_, hx6, ?_⟩
      rw [ls_take ht6]
      exact IntsAre.append hys6 (.cons _ _ .nil)
    · rintro ys5 nx5 ⟨tl6, hx6, hys6⟩ D5 h16 tk16 F16 N16 off16
      have hs6 := hx6.ext.sub
      rw [List.take_of_length_le (by rw [← hpw.length]; exact Nat.le_refl _), hew] at hys6
      have hld5 := hs6 _ (List.mem_append_right _ (List.mem_cons_of_mem _ hld4))
      have hdd5 := hdd4.mono (fun p hp => hs6 p (List.mem_append_right _ (List.mem_cons_of_mem _ hp)))
      have hp5 := hp4.mono (fun p hp => hs6 p (List.mem_append_right _ (List.mem_cons_of_mem _ hp)))
      clear hlw hpw hew hwl hsz15
      try dsimp only at F16 ⊢
      walk_at "m_steps"
      k_dflt walk_at "m_does"
      case kD => exact lv_all _ _ _ _ t ok ht _ _ (hp5.mono fun p hp => by k_mem)
      case kd => walk_at "m_room"
      case ku => walk_at "m_units"
      rintro G9 hG9 r news17 h17 tk17 F17 N17 ⟨tl7, ⟨rfl, kx7⟩, lx, vx, kx', rfl, hlx, hix⟩
      refine hG9 _ _ ?_
      walk_at "m_steps"
      k_dflt (refine ke_ne_ints (xs := ys5) (ys := vx) (ns := lvs t) (ms := lvs t) (News.isList (by k_asm) (List.mem_append_right _ List.mem_cons_self)) (News.isList (by k_asm) (List.mem_append_left _ hlx)) hys6 hix (by walk_at "m_units") ?_)
      simp only [decide_true, Bool.not_true]
      walk_at "m_steps"
      rename Fr _ _ _ _ => Fb
      rename News _ _ _ _ => Nb
      have hld6 := List.mem_append_right tl7 (List.mem_cons_of_mem (D5, LCg.lst ys5) hld5)
      have hdd6 := hdd5.mono (fun p hp => List.mem_append_right tl7 (List.mem_cons_of_mem (D5, LCg.lst ys5) hp))
      have hp6 := hp5.mono (fun p hp => List.mem_append_right tl7 (List.mem_cons_of_mem (D5, LCg.lst ys5) hp))
      have hvd := DatAll.length hdd6
      rw [List.length_map] at hvd
      k_dflt (refine LCg.Assign_ListComp_U Fb rfl (by with_unfolding_all rfl) (by with_unfolding_all rfl) (by decide) (by rfl) (by decide) (by rfl) (by rfl) (by rfl) ?_)
      walk_at "m_steps"
      k_dflt (refine LCg.CompSrc.ledger (its := vd.toArray) (k := kd) (by rfl) (by k_asm) (by k_asm) hld6 (by rw [List.size_toArray, sizeLine_eq]; omega) ?_)
      intro g18
      have hsz18 : vd.toArray.size = vd.length := List.size_toArray ..
      rw [hsz18]
      refine comp_rest (PtJ _ (dueC true t [])) ⟨_, ExtOf.refl, .nil⟩ ?_ ?_
      · rintro i v ys7 nx7 I oI C oC D7 m₂ h19 tk19 E' hi hv ⟨tl8, hx8, hys8⟩ hC hx F19 N19 off19 ne19
        have hs8 := hx8.ext.sub
        obtain ⟨x9, a9, pa9, b9, n9, hd9, rfl, hm9, hq9⟩ := pairs_get (i := i) (v := v) hdd6 (by simpa using hv)
        have hm10 := hs8 _ hm9
        have hq10 := hq9.mono hs8
        have hld7 := hs8 _ hld6
        clear hdd6 hld6
        try dsimp only
        try k_fold
        walk_at "m_steps"
        refine LCg.CompEnd.intro (by k_asm) (by k_asm) nx7 (fun p hp => hp) off19 (.inr ⟨_, hld7, rfl, kd, rfl⟩) ⟨_, hx8, ?_⟩
        rw [pt_take hd9]
        exact DatAll.append hys8 (.cons hq10 .nil)
      · rintro ys7 nx7 ⟨tl8, hx8, hys8⟩ D7 h19 tk19 F19 N19 off19
        have hs8 := hx8.ext.sub
        rw [List.take_of_length_le (by omega)] at hys8
        have hZ1 := List.mem_cons_of_mem (D7, LCg.lst ys7) (hs8 _ hld6)
        have hZ2 := hdd6.mono (fun p hp => List.mem_cons_of_mem (D7, LCg.lst ys7) (hs8 p hp))
        have hZ3 := hp6.mono (fun p hp => List.mem_cons_of_mem (D7, LCg.lst ys7) (hs8 p hp))
        have hZ4 := hys8.mono (fun p hp => List.mem_cons_of_mem (D7, LCg.lst ys7) hp)
        have hZ5 : (D7, LCg.lst ys7) ∈ (D7, LCg.lst ys7) :: nx7 := List.mem_cons_self
        clear hp6 hdd6 hld6 hsz18
        try dsimp only at F19 ⊢
        revert N19 hZ1 hZ2 hZ3 hZ4 hZ5
        generalize (D7, LCg.lst ys7) :: nx7 = Z
        intro N19 hZ1 hZ2 hZ3 hZ4 hZ5
        walk_at "m_steps"
        refine For_ruleF (by k_asm) ?_
        walk_at "m_steps"
        rename News _ _ _ _ => Nc
        rename Fr _ _ _ _ => Fc
        refine named_map Fc ?_
        intro M hM Fd
        k_dflt (refine' loop_list (items := vd) (k := kd) (OutJ M Z) (by rfl) hZ1 ?j1 Fd Nc ?j2 ?turn ?done)
        case j1 =>
          rintro i m₁ nx ⟨tl, _, _, _, _, hx⟩
          exact hx.ext.sub _ hZ1
        case j2 => exact ⟨[], _, _, _, map_id3 M _ _ _, ExtOf.refl⟩
        case turn =>
          rintro i v m₁ nx I oI h21 tk21 hi ⟨tl9, a1, a2, a3, rfl, hx9⟩ offI F21 N21
          have hs9 := hx9.ext.sub
          obtain ⟨x, a9, pa9, b9, n9, hd9, rfl, hm9, hq9⟩ := pairs_get (i := i) (v := v) hZ2 hi
          obtain ⟨P, l, u, rfl, hPl, hau⟩ := due_facts hdl (List.mem_of_getElem? hd9)
          have hm10 := hs9 _ hm9
          have hq10 := hq9.mono hs9
          have hp10 := hZ3.mono hs9
          subst hM
          try dsimp only at hq10 hm10
          walk_at "m_steps"
          k_dflt walk_at "m_does"
          case kD => exact part_at_does _ _ _ _ t _ _ (P ++ [l]) _ (hp10.mono fun p hp => by k_mem) (hq10.mono fun p hp => by k_mem) ok ht
          case kd => walk_at "m_room"
          case ku => walk_at "m_units"
          rintro G9 hG9 r news22 h22 tk22 F22 N22 ⟨tl10, ⟨rfl, kx10⟩, hpa⟩
          refine hG9 _ _ ?_
          rw [hau] at hpa
          obtain ⟨au, rfl, hpu⟩ := hpa
          obtain ⟨vsn, un, an, dxn, kln, nkn, nn, h1, h2, h3, h4, h5, h6, h7, h8, k1, k2, k3, k4, k5, k6, k7, k8, tb, v2, v3, v4, v5, v6, en, xn, yn, zn⟩ := hpu.node
          obtain rfl : au = an := by cases en; rfl
          walk_at "m_steps"
          · exact absurd (rfl : u.begin = u.begin) (by with_reducible assumption)
          have hcut : pathD (P ++ [l]).dropLast = pathD P := by rw [List.dropLast_concat]
          have hq11 := hq10.mono (fun p hp => List.mem_append_right tl10 (List.mem_cons_of_mem (I, oI) hp))
          refine For_ruleF (by k_asm) ?_
          walk_at "m_steps"
          k_dflt (refine cut_led (p := P ++ [l]) (by k_asm) (by k_asm) (hq11.mono fun p hp => by k_mem) (by simp) (by rw [List.length_append, List.length_singleton]; omega) ?_)
          rw [hcut]
          intro h23 Dc1 oc1 F23 N23 hlt23 hc1
          try dsimp only
          walk_at "m_steps"
          k_dflt (refine path_add (p := P) (i := 0) (by k_asm) (by k_asm) (hc1.mono (by walk_at "m_sub")) (by k_mem) (by omega) ?_)
          intro h24 E1 te1 F24 N24 kx24 he1
          try dsimp only
          walk_at "m_steps"
          k_dflt (refine cut_led (p := P ++ [l]) (by k_asm) (by k_asm) (hq11.mono fun p hp => by k_mem) (by simp) (by rw [List.length_append, List.length_singleton]; omega) ?_)
          rw [hcut]
          intro h25 Dc2 oc2 F25 N25 hlt25 hc2
          try dsimp only
          walk_at "m_steps"
          k_dflt (refine last_led (p := P) (x := l) (by k_asm) (hq11.mono fun p hp => by k_mem) (by omega) ?_)
          intro tk25
          try dsimp only
          walk_at "m_steps"
          k_dflt (refine path_add (p := P) (i := l + 1) (by k_asm) (by k_asm) (hc2.mono (by walk_at "m_sub")) (by k_mem) (by omega) ?_)
          intro h26 E2 te2 F26 N26 kx26 he2
          try dsimp only
          walk_at "m_steps"
          k_dflt (refine path_add (p := P ++ [l]) (i := 1) (by k_asm) (by k_asm) (hq11.mono fun p hp => by k_mem) (by k_mem) (by rw [List.length_append, List.length_singleton]; omega) ?_)
          intro h27 E3 te3 F27 N27 kx27 he3
          try dsimp only
          walk_at "m_steps"
          k_dflt (refine path_add (p := P ++ [l]) (i := 2) (by k_asm) (by k_asm) (hq11.mono fun p hp => by k_mem) (by k_mem) (by rw [List.length_append, List.length_singleton]; omega) ?_)
          intro h28 E4 te4 F28 N28 kx28 he4
          try dsimp only
          walk_at "m_steps"
          k_dflt (refine path_add (p := P ++ [l]) (i := -1) (by k_asm) (by k_asm) (hq11.mono fun p hp => by k_mem) (by k_mem) (by rw [List.length_append, List.length_singleton]; omega) ?_)
          intro h29 E5 te5 F29 N29 kx29 he5
          try dsimp only
          walk_at "m_steps"
          rename News _ _ _ _ => Ne
          rename Fr _ _ _ _ => Fe
          refine named_map Fe ?_
          intro M2 hM2 Ff
          refine' Front.useNamed (d := I) Ne ?f8 ?_
          case f8 => walk_at "m_frontK"
          intro Y hY Nf
          have g1 : DatIn Y (.ref E1) (pathD (P ++ [0])) := by rw [hY]; exact he1.mono (by walk_at "m_sub")
          have g2 : DatIn Y (.ref E2) (pathD (P ++ [l + 1])) := by rw [hY]; exact he2.mono (by walk_at "m_sub")
          have g3 : DatIn Y (.ref E3) (pathD (P ++ [l] ++ [1])) := by rw [hY]; exact he3.mono (by walk_at "m_sub")
          have g4 : DatIn Y (.ref E4) (pathD (P ++ [l] ++ [2])) := by rw [hY]; exact he4.mono (by walk_at "m_sub")
          have g5 : DatIn Y (.ref E5) (pathD (P ++ [l] ++ [-1])) := by rw [hY]; exact he5.mono (by walk_at "m_sub")
          have hextY : ∃ tlY, ExtOf nx Y tlY := by
            rw [hY]
            refine' ⟨_, ?xx⟩
            case xx => walk_at "m_extOf"
          have hoffY : ∀ p ∈ Y, p.1 ≠ I := by rw [hY]; k_all
          have hsubY : ∀ p ∈ nx, p ∈ Y := by
            obtain ⟨tlY, hh⟩ := hextY
            exact hh.ext.sub
          have hY3 := hp10.mono hsubY
          have hY4 := (hZ4.mono hs9).mono hsubY
          have hY5 := hsubY _ (hs9 _ hZ5)
          k_dflt (refine' loop_tuple (items := [.ref E1, .ref E2, .ref E3, .ref E4, .ref E5]) (k := 0) (InJ M2 ((I, oI) :: Y)) (by rfl) ?l1 ?l2 Ff Nf ?l3 ?l4 ?l5)
          case l1 => rw [hY]; k_mem
          case l2 =>
            rintro j m₁ nx2 ⟨tl11, a4, _, hx11⟩
            refine hx11.ext.sub _ ?_
            rw [hY]
            k_mem
          case l3 => exact ⟨[], _, at_init _ _, ExtOf.refl⟩
          all_goals clear he1 he2 he3 he4 he5 hc1 hc2 hq11 Ne Fe
          case l4 =>
            rintro j v m₁ nx2 I2 oI2 h31 tk31 hj ⟨tl11, a4, rfl, hx11⟩ offI2 F31 N31
            obtain ⟨Do, o, rfl, ho, hone⟩ := pick_five g1 g2 g3 g4 g5 (by simp) (by simp) (by simp) (by simp) (by simp) hj
            have hs11 : ∀ p ∈ Y, p ∈ nx2 := fun p hp => hx11.ext.sub p (List.mem_cons_of_mem _ hp)
            have go := ho.mono hs11
            have gp := hY3.mono hs11
            have gq := hY4.mono hs11
            have gd := hs11 _ hY5
            clear g1 g2 g3 g4 g5 hj
            subst hM2
            walk_at "m_steps"
            k_dflt (refine notIn_led (ds := (dueC true t []).map fun x => pathD x.1) (d := pathD o) (by k_asm) (List.mem_cons_of_mem _ gd) gq (fun p hp => List.mem_cons_of_mem _ hp) go (fun p hp => List.mem_cons_of_mem _ hp) ?_ (path_ok o) (by walk_at "m_units") ?_ ?_)
            · intro d hd
              obtain ⟨x, _, rfl⟩ := List.mem_map.mp hd
              exact path_ok _
            · intro hmem
              walk_at "m_steps"
              rename News _ _ _ _ => Ng
              rename Fr _ _ _ _ => Fg
              exact LoopEnd.intro Fg Ng nx2 (fun p hp => hp) offI2 ⟨_, _, set_same, hx11⟩
            · intro hmem
              walk_at "m_steps"
              k_dflt walk_at "m_does"
              case kD => exact part_at_does _ _ _ _ t _ _ o _ (gp.mono fun p hp => by k_mem) (go.mono fun p hp => by k_mem) ok ht
              case kd => walk_at "m_room"
              case ku => walk_at "m_units"
              rintro G9 hG9 r news33 h33 tk33 F33 N33 ⟨tl12, ⟨rfl, kx12⟩, hpa⟩
              refine hG9 _ _ ?_
              rw [at_none hone hmem] at hpa
              obtain rfl : r = .none := hpa
              walk_at "m_steps"
              rename News _ _ _ _ => Ng
              rename Fr _ _ _ _ => Fg
              refine' Front.use (d := I2) Ng ?f9 ?_
              case f9 => walk_at "m_frontK"
              intro Nh
              refine' LoopEnd.intro Fg Nh _ (fun p hp => hp) ?o1 ⟨_, _, set_same, ExtOf.trans hx11 ?o2⟩
              case o1 => k_all
              case o2 => walk_at "m_extOf"
          case l5 =>
            rintro m9 nx2 h32 tk32 ⟨tl11, a4, rfl, ⟨rfl, k11⟩⟩ F32 N32
            subst hM2
            walk_at "m_steps"
            rename News _ _ _ _ => Ng
            rename Fr _ _ _ _ => Fg
            obtain ⟨tlY, hh⟩ := hextY
            refine' Front.use (d := I) Ng ?f10 ?_
            case f10 => walk_at "m_frontK"
            intro Nh
            refine' LoopEnd.intro Fg Nh _ (fun p hp => hp) ?o3 ⟨_, _, _, _, map_turn3, ExtOf.trans (ExtOf.trans hx9 hh) ?o4⟩
            case o3 => k_all
            case o4 => walk_at "m_extOf"
        case done =>
          rintro m9 nx h34 tk34 ⟨tl9, a1, a2, a3, rfl, hx9⟩ F34 N34
          have hs9 := hx9.ext.sub
          have hp10 := hZ3.mono hs9
          obtain ⟨vsn, un, hnode, hkl⟩ := hp10.kidsN
          have hbeg1 : t.begin = 1 := hbeg
          rw [hbeg1] at hnode
          obtain ⟨an, dxn, kln, nkn, nn, h1, h2, h3, h4, h5, h6, h7, h8, k1, k2, k3, k4, k5, k6, k7, k8, tb, v2, v3, v4, v5, v6, en, xn, yn, zn⟩ := hnode
          obtain rfl : rv = an := by cases en; rfl
          have hk3 : vsn.length ≤ 3 := by
            rw [hkl]
            cases t with
            | leaf _ => exact Nat.zero_le _
            | letter _ _ => exact Nat.zero_le _
            | multi _ ts => rw [Mine.T.ok] at ok; exact ok.2.1
          subst hM
          walk_at "m_steps"
          k_dflt walk_at "m_does"
          case kD => exact part_at_does _ _ _ _ t _ _ [] _ (hp10.mono fun p hp => by k_mem) (.tuple (vs := []) (by k_mem) .nil) ok ht
          case kd => walk_at "m_room"
          case ku => walk_at "m_units"
          rintro G9 hG9 r news35 h35 tk35 F35 N35 ⟨tl12, ⟨rfl, kx12⟩, hpa⟩
          refine hG9 _ _ ?_
          rw [atPath] at hpa
          obtain ⟨au, rfl, hpu⟩ := hpa
          obtain ⟨vsm, um, hnode2⟩ := hpu.node
          rw [hbeg1] at hnode2
          obtain ⟨am, dxm, klm, nkm, nm, g1, g2, g3, g4, g5, g6, g7, g8, t11, t12, t13, t14, t15, t16, t17, t18, tm, u2, u3, u4, u5, u6, em, xm, ym, zm⟩ := hnode2
          obtain rfl : au = am := by cases em; rfl
          walk_at "m_steps"
          k_dflt (refine len_led (vs := vsn) (by k_asm) (by k_mem) (by omega) ?_)
          walk_at "m_steps"
          have hbn : atPath t true [(vsn.length : Int) + 2] = none := by rw [hkl]; exact at_beyond t
          k_dflt walk_at "m_does"
          case kD => exact part_at_does _ _ _ _ t _ _ [(vsn.length : Int) + 2] _ (hp10.mono fun p hp => by k_mem) (.tuple (vs := [.int _ _]) (by k_mem) (.cons (.int _ _) .nil)) ok ht
          case kd => walk_at "m_room"
          case ku => walk_at "m_units"
          rintro G9 hG9 r news36 h36 tk36 F36 N36 ⟨tl13, ⟨rfl, kx13⟩, hpa⟩
          refine hG9 _ _ ?_
          rw [hbn] at hpa
          obtain rfl : r = .none := hpa
          repeat' ((fail_if_success k_end); (first | (k_unfold; (try dsimp only)) | walk1 | (dsimp only; walk1) | leave1))
          rename Fr _ _ _ _ => Fz
          refine goodW_bool Fz (by with_reducible assumption) (raisesW_false ?_) (law_post _)
          wrow_none_raised)

end Mine
theorem PySem.Challenge.cw_no0359_01_holds : PySem.Challenge.rw_no0359_01.Holds :=
  Mine.holds
