import PyProof.Rows.All
import Wide.All
import OpenK.AllK
import Wide.FinOn
import PySem.Challenge.RW_pf0264_01
set_option Elab.async false
section
open PySem PySem.W PyProof.Rows
namespace Mine

theorem fmod_ok (a : Int) {w : Int} (hw : 0 < w) : 0 ≤ a.fmod w ∧ a.fmod w < w := by
  rw [Int.fmod_eq_emod_of_nonneg _ (Int.le_of_lt hw)]
  exact ⟨Int.emod_nonneg _ (by omega), Int.emod_lt_of_pos _ hw⟩

theorem fdiv_bounds (a : Int) {b : Int} (hb : 0 < b) : b * a.fdiv b ≤ a ∧ a < b * a.fdiv b + b := by
  rw [Int.fdiv_eq_ediv_of_nonneg _ (Int.le_of_lt hb)]
  have h1 := Int.mul_ediv_add_emod a b
  have h2 := Int.emod_nonneg a (show b ≠ 0 by omega)
  have h3 := Int.emod_lt_of_pos a hb
  constructor <;> omega

def Cbrt (n r : Int) : Prop := 0 ≤ r ∧ r ≤ 3300000 ∧ r * r * r ≤ n ∧ n < (r + 1) * (r + 1) * (r + 1)

theorem cube_mono {a b : Int} (ha : 0 ≤ a) (hab : a ≤ b) : a * a * a ≤ b * b * b := by
  have h1 : a * a ≤ b * b := Int.mul_le_mul hab hab ha (by omega)
  exact Int.mul_le_mul h1 hab ha (Int.mul_nonneg (by omega) (by omega))

/-- a number whose cube is small is small -/
theorem cube_small {h n : Int} (hn : n ≤ 35000000000000000000) (hc : h * h * h ≤ n) : h ≤ 3300000 := by
  rcases Int.lt_or_le 3300000 h with hx | hx
  · have := cube_mono (a := 3300001) (b := h) (by omega) (by omega)
    omega
  · exact hx

theorem fdiv_le {x D k : Int} (hD : 0 < D) (h : x < (k + 1) * D) : x.fdiv D ≤ k := by
  rw [Int.fdiv_eq_ediv_of_nonneg _ (Int.le_of_lt hD)]
  exact Int.lt_add_one_iff.mp (Int.ediv_lt_of_lt_mul hD h)
theorem fdiv_nn {a b : Int} (ha : 0 ≤ a) (hb : 0 < b) : 0 ≤ a.fdiv b := by
  rw [Int.fdiv_eq_ediv_of_nonneg _ (Int.le_of_lt hb)]
  exact Int.ediv_nonneg ha (Int.le_of_lt hb)
/-- what the time back to the top says of the window at that moment -/
theorem grown_le {T m N : Int} (hN : N = (T * 5 * 1000000 * 1000000 * 1000000).fdiv (2 * 1200)) (hm : Cbrt N m) :
    (2 * 1200 * (0 - m) * (0 - m) * (0 - m)).fdiv (5 * 1000000 * 1000000 * 1000000) ≤ - T := by
  obtain ⟨m0, m1, _, hlt⟩ := hm
  have hb := (fdiv_bounds (T * 5 * 1000000 * 1000000 * 1000000) (b := 2 * 1200) (by decide)).2
  rw [← hN] at hb
  refine fdiv_le (by decide) ?_
  have e1 : 2 * 1200 * (0 - m) * (0 - m) * (0 - m) = - (2400 * (m * m * m)) := by
    simp only [Int.zero_sub, Int.mul_neg, Int.neg_mul, Int.neg_neg, Int.mul_assoc]
    omega
  have e2 : (m + 1) * (m + 1) * (m + 1) = m * m * m + 3 * (m * m) + 3 * m + 1 := by
    simp only [Int.mul_add, Int.add_mul, Int.mul_one, Int.one_mul]
    omega
  have e3 : m * m ≤ 3300000 * 3300000 := Int.mul_le_mul m1 m1 m0 (by decide)
  rw [e1]
  rw [e2] at hlt
  clear hN m0 e1 e2
  generalize m * m * m = c at *
  generalize m * m = q at *
  omega
end Mine
end
section
open PySem PySem.W PyProof.Rows PySem.Calls
namespace Mine
structure InTake : Prop where
  mark :: (one : True)
theorem inTake : InTake := ⟨trivial⟩

theorem off_nil {adr : List Addr} : OwnOff [] adr := fun _ hp => nomatch hp
theorem trim7 {h₀ h : Heap} {L : Addr} {p1 p2 p3 p4 p5 p6 p7 : Addr × Obj} (N : News h₀ L h [p1, p2, p3, p4, p5, p6, p7]) : News h₀ L h [p2, p3, p4, p6] :=
  List.forall_mem_cons.mpr ⟨N _ (.tail _ (.head _)), List.forall_mem_cons.mpr ⟨N _ (.tail _ (.tail _ (.head _))), List.forall_mem_cons.mpr ⟨N _ (.tail _ (.tail _ (.tail _ (.head _)))), List.forall_mem_cons.mpr ⟨N _ (.tail _ (.tail _ (.tail _ (.tail _ (.tail _ (.head _)))))), List.forall_mem_nil _⟩⟩⟩⟩

theorem trim6 {h₀ h : Heap} {L : Addr} {p1 p2 p3 p4 p5 p6 : Addr × Obj} (N : News h₀ L h [p1, p2, p3, p4, p5, p6]) : News h₀ L h [p3, p4, p5, p6] :=
  fun p hp => N p (List.Mem.tail _ (List.Mem.tail _ hp))
theorem ints_pos {ws : List Value} {ns : List Int} (h : IntsAre ws ns) (hp : 0 < (ns.length : Int)) : ∃ i t q ms, ws = Value.int i t :: q ∧ IntsAre q ms ∧ ns.length = ms.length + 1 := by
  cases h with
  | nil => simp at hp
  | cons n t h => exact ⟨n, t, _, _, rfl, h, rfl⟩

section
variable {prog : Program} {w : World} {A : Around} {E : Value → Shared → Prop} {s : Shared} {h₀ : Heap} {L : Addr} {m : Str → Option Value}

inductive TakeP (h₀ : Heap) (L : Addr) (m : Str → Option Value) (x d l D : Addr) (ox od : Obj) (b : Value) (cnt wide : Int) (rest : List (Addr × Obj)) (s : Shared) : Value → Shared → Prop
  | mk (i : Int) (t tc : Tok) (ws : List Value) (ns : List Int) (k n : Nat) (h : Heap) (tk : Nat) (h0 : 0 ≤ i) (h1 : i < wide) (F : Fr h₀ L h m)
    (N : News h₀ L h ((x, ox) :: (d, od) :: (l, listOf #[.ref D, .int (cnt + 1) tc, b] n) :: (D, listOf ws.toArray k) :: rest)) (hI : IntsAre ws ns) (hl : ns.length ≤ 30) : TakeP h₀ L m x d l D ox od b cnt wide rest s (.int i t) { s with heap := h, toks := tk }

/-- a draw from the box, whatever stands beside it in the ledger -/
def TakeAll (prog : Program) (w : World) (A : Around) (h₀ : Heap) (L f bx x d l D : Addr) (g : Array GenState) (dr : Drawn) (o : OsState) : Prop :=
  ∀ (E : Value → Shared → Prop) (wide cnt S : Int) (tw tc tS : Tok) (m : Str → Option Value) (ox od : Obj) (n k : Nat) (ws : List Value) (ns : List Int) (rest : List (Addr × Obj)) (h9 : Heap) (tk : Nat), 0 < wide → 0 ≤ cnt → cnt ≤ 22 → OwnOff rest [x, d, l, D] → IntsAre ws ns → ns.length ≤ 30 →
    Fr h₀ L h9 m → News h₀ L h9 ((x, ox) :: (d, od) :: (l, listOf #[.ref D, .int cnt tc, .int S tS] n) :: (D, listOf ws.toArray k) :: rest) → wpAny (model prog w) A (call (.ref f) [.ref bx, .int wide tw] []) (TakeP h₀ L m x d l D ox od (.int S tS) cnt wide rest (Shared.mk h9 g dr tk o)) E (Shared.mk h9 g dr tk o)
theorem take_use {g : Array GenState} {dr : Drawn} {o : OsState} {f bx : Addr} {tw : Tok} {Q : Value → Shared → Prop} {x d l D : Addr} {ox od : Obj} {cnt wide S : Int} {tc tS n k} {ws : List Value} {ns : List Int} {rest : List (Addr × Obj)} {h9 : Heap} {tk : Nat} (T : TakeAll prog w A h₀ L f bx x d l D g dr o)
    (F : Fr h₀ L h9 m) (N : News h₀ L h9 ((x, ox) :: (d, od) :: (l, listOf #[.ref D, .int cnt tc, .int S tS] n) :: (D, listOf ws.toArray k) :: rest)) (hI : IntsAre ws ns) (hl : ns.length ≤ 30) (hw : 0 < wide) (hc : 0 ≤ cnt ∧ cnt ≤ 22) (ho : OwnOff rest [x, d, l, D])
    (h2 : ∀ (i : Int) (t tc : Tok) (ws : List Value) (ns : List Int) (k n : Nat) (h : Heap) (tk : Nat), 0 ≤ i → i < wide → IntsAre ws ns → ns.length ≤ 30 → Fr h₀ L h m →
      News h₀ L h ((x, ox) :: (d, od) :: (l, listOf #[.ref D, .int (cnt + 1) tc, .int S tS] n) :: (D, listOf ws.toArray k) :: rest) → Q (.int i t) (Shared.mk h g dr tk o)) :
    wpAny (model prog w) A (call (.ref f) [.ref bx, .int wide tw] []) Q E (Shared.mk h9 g dr tk o) := by
  refine wpAny_mono (T E wide cnt S tw tc tS m ox od n k ws ns rest h9 tk hw hc.1 hc.2 ho hI hl F N) (fun v s₂ hq => ?_) fun _ _ h => h
  obtain ⟨i, t, tc, ws, ns, k, n, h, tk, a1, a2, F, N, hI, hl⟩ := hq
  exact h2 i t tc ws ns k n h tk a1 a2 hI hl F N
theorem take_cut {g : Array GenState} {dr : Drawn} {o : OsState} {f bx : Addr} {tw : Tok} {Q : Value → Shared → Prop} {x d l D : Addr} {ox od : Obj} {cnt wide S : Int} {tc tS n k} {ws : List Value} {ns : List Int} {rest : List (Addr × Obj)} {h9 : Heap} {tk : Nat}
    (F : Fr h₀ L h9 m) (N : News h₀ L h9 ((x, ox) :: (d, od) :: (l, listOf #[.ref D, .int cnt tc, .int S tS] n) :: (D, listOf ws.toArray k) :: rest)) (hI : IntsAre ws ns) (hl : ns.length ≤ 30) (hw : 0 < wide) (hc : 0 ≤ cnt ∧ cnt ≤ 22) (ho : OwnOff rest [x, d, l, D])
    (h1 : ∀ (E : Value → Shared → Prop) (wide cnt S : Int) (tw tc tS : Tok) (m : Str → Option Value) (ox od : Obj) (n k : Nat) (ws : List Value) (ns : List Int) (rest : List (Addr × Obj)) (h9 : Heap) (tk : Nat), InTake → 0 < wide → 0 ≤ cnt → cnt ≤ 22 → OwnOff rest [x, d, l, D] → IntsAre ws ns → ns.length ≤ 30 →
      Fr h₀ L h9 m → News h₀ L h9 ((x, ox) :: (d, od) :: (l, listOf #[.ref D, .int cnt tc, .int S tS] n) :: (D, listOf ws.toArray k) :: rest) → wpAny (model prog w) A (call (.ref f) [.ref bx, .int wide tw] []) (TakeP h₀ L m x d l D ox od (.int S tS) cnt wide rest (Shared.mk h9 g dr tk o)) E (Shared.mk h9 g dr tk o))
    (h2 : TakeAll prog w A h₀ L f bx x d l D g dr o → ∀ (i : Int) (t tc : Tok) (ws : List Value) (ns : List Int) (k n : Nat) (h : Heap) (tk : Nat), 0 ≤ i → i < wide → IntsAre ws ns → ns.length ≤ 30 → Fr h₀ L h m →
      News h₀ L h ((x, ox) :: (d, od) :: (l, listOf #[.ref D, .int (cnt + 1) tc, .int S tS] n) :: (D, listOf ws.toArray k) :: rest) → Q (.int i t) (Shared.mk h g dr tk o)) :
    wpAny (model prog w) A (call (.ref f) [.ref bx, .int wide tw] []) Q E (Shared.mk h9 g dr tk o) :=
  have T : TakeAll prog w A h₀ L f bx x d l D g dr o := fun E wide cnt S tw tc tS m ox od n k ws ns rest h9 tk hw hc hc' ho hI hl F N => h1 E wide cnt S tw tc tS m ox od n k ws ns rest h9 tk inTake hw hc hc' ho hI hl F N
  take_use T F N hI hl hw hc ho (h2 T)

theorem take_end {x d l D : Addr} {ox od : Obj} {b : Value} {cnt wide : Int} {rest news' : List (Addr × Obj)} {s s' : Shared} {v : Value} {i : Int} {t tc : Tok} {ws : List Value} {ns : List Int} {k n : Nat} {h : Heap} {tk : Nat}
    (hv : v = .int i t) (h0 : 0 ≤ i ∧ i < wide) (hs : s' = { s with heap := h, toks := tk }) (F : Fr h₀ L h m) (N : News h₀ L h news')
    (hn : ∀ p ∈ ((x, ox) :: (d, od) :: (l, listOf #[.ref D, .int (cnt + 1) tc, b] n) :: (D, listOf ws.toArray k) :: rest), p ∈ news') (hI : IntsAre ws ns) (hl : ns.length ≤ 30) :
    TakeP h₀ L m x d l D ox od b cnt wide rest s v s' := by
  subst hv
  subst hs
  exact .mk i t tc ws ns k n h tk h0.1 h0.2 F (fun p hp => N p (hn p hp)) hI hl

theorem upd_at {D : Addr} {o o' : Obj} {post : List (Addr × Obj)} (b : ∀ p ∈ post, p.1 ≠ D) : ∀ {pre : List (Addr × Obj)}, (∀ p ∈ pre, p.1 ≠ D) → Upd D o o' (pre ++ (D, o) :: post) (pre ++ (D, o') :: post)
  | [], _ => Upd.head b
  | p :: _, a => Upd.tail (a p (.head _)) (upd_at b fun q hq => a q (.tail _ hq))

theorem pop0 {D : Addr} {ws : List Value} {ns : List Int} {k : Nat} {u : Tok} {news : List (Addr × Obj)} {g : Obj → List (Addr × Obj)} {Q : Value → Shared → Prop} (F : Fr h₀ L s.heap m) (N : News h₀ L s.heap news)
    (U : UpdF D (listOf ws.toArray k) news g) (hI : IntsAre ws ns) (hp : 0 < (ns.length : Int)) (hl : ns.length ≤ 30)
    (h : ∀ (i : Int) (t : Tok) (q : List Value) (ms : List Int) h', IntsAre q ms → ms.length ≤ 30 → Fr h₀ L h' m → News h₀ L h' (g (listOf q.toArray (k + 1))) → Q (.int i t) { s with heap := h' }) :
    wpAny (model prog w) A (call (.builtin "list.pop") [.ref D, .int 0 u]) Q E s := by
  obtain ⟨i, t, q, ms, rfl, hq, hlen⟩ := ints_pos hI hp
  have hql : q.length = ms.length := hq.length
  obtain ⟨pre, post, e1, e2, a, b⟩ := U.split
  subst e1
  refine kl_popAt (its := (Value.int i t :: q).toArray) (n := k) (k := 0) (p := []) (q := q) (y := .int i t) (news' := g (listOf q.toArray (k + 1))) F N (by decide) ?_ rfl ?_ ?_ (fun h' F' N' => h i t q ms h' hq (by omega) F' N')
  · simp [seqIndex?]
  · rw [e2]
    exact upd_at b a
  · simp [sizeLine_eq]; omega
theorem item_news {value slice : PySem.Expr} {l : Addr} {vs : List Value} {n : Nat} {k : Int} {u : Tok} {v : Value} {news : List (Addr × Obj)} {Q : Value → Shared → Prop} (N : News h₀ L s.heap news) (hm : (l, listOf vs.toArray n) ∈ news)
    (h0 : 0 ≤ k) (hhi : k < 2 ^ 63) (hx : vs[k.toNat]? = some v) (h : Q v s) (hs : subscripted slice false (.ref l) (.int k u) = operate [.ref l, .int k u] (getItem (.ref l) (.int k u))) :
    wpAny (model prog w) A (subscriptTail value slice (.ref l) (.int k u)) Q E s :=
  have hl : s.heap.IsList l vs.toArray := ⟨_, (N _ hm).1, rfl, n, rfl⟩
  tail_any hl.typeIs slot_list_getitem.lookup (wpAny_getItem_list hl h0 hhi (by simpa using hx) h) hs
/-- the dict of an object lies apart from all else that the ledger tells -/
def Off (x d : Addr) (rest : List (Addr × Obj)) : Prop := x ≠ d ∧ ∀ p ∈ rest, p.1 ≠ d
theorem off_mk {x d : Addr} {rest : List (Addr × Obj)} (h1 : x ≠ d) (h2 : ∀ p ∈ rest, p.1 ≠ d) : Off x d rest := ⟨h1, h2⟩
structure InGso : Prop where
  mark :: (one : True)
theorem let_gso {α : Type} {c : Sem α} {Q : α → Shared → Prop} {s₀ : Shared} {h : Heap} {tk : Nat} (k : InGso → let g := s₀.gens; let dr := s₀.drawn; let o := s₀.os; wpAny (model prog w) A c Q E (Shared.mk h g dr tk o)) :
    wpAny (model prog w) A c Q E (Shared.mk h s₀.gens s₀.drawn tk s₀.os) := k ⟨trivial⟩
section
variable {K : Frag} {x d C : Addr} {es es' : List DictEntry} {n n' : Nat} {name : Str} {v : Value} {rest : List (Addr × Obj)} {Q : Unit → Shared → Prop}
theorem set_cub (F : Fr h₀ L s.heap m) (X₀ : K.In h₀) (N : News h₀ L s.heap ((x, instObj C d) :: (d, dictOf es n) :: rest)) (O : Off x d rest)
    (hs : findIn K (.ref C) "__setattr__" = some (some (.builtin "object.__setattr__"))) (hp : plainOver K C = true) (ht : takerIn K C name = some none) (hh : hasDictIn K C = true) (hl : (getL name es).isSome = true)
    (e : (putL name (PyData.keyHash w.params name) (.str name (s.toks + 1)) v es, putN name es n) = (es', n')) (hz : es'.length ≤ 1000)
    (h : let od := es'; ∀ h' tk, Fr h₀ L h' m → News h₀ L h' ((x, instObj C d) :: (d, dictOf od n') :: rest) → Q () { s with heap := h', toks := tk }) :
    wpAny (model prog w) A (setAttr (.ref x) name v) Q E s :=
  set_dict F X₀ N (InstAt.of_news N (.head _) (.tail _ (.head _))) rfl hs hp ht hh hl e (Upd.tail O.1 (Upd.head O.2)) hz fun h' F' N' => h h' (s.toks + 2) F' N'
theorem set_cub1 (F : Fr h₀ L s.heap m) (X₀ : K.In h₀) (N : News h₀ L s.heap ((x, instObj C d) :: (d, dictOf es n) :: rest)) (O : Off x d rest)
    (hs : findIn K (.ref C) "__setattr__" = some (some (.builtin "object.__setattr__"))) (hp : plainOver K C = true) (ht : takerIn K C name = some none) (hh : hasDictIn K C = true) (hl : (getL name es).isSome = true)
    (e : (putL name (PyData.keyHash w.params name) (.str name (s.toks + 1)) v es, putN name es n) = (es', n')) (hz : es'.length ≤ 1000)
    (h : Off x d rest → let od := es'; ∀ h' tk, Fr h₀ L h' m → News h₀ L h' ((x, instObj C d) :: (d, dictOf od n') :: rest) → Q () { s with heap := h', toks := tk }) :
    wpAny (model prog w) A (setAttr (.ref x) name v) Q E s := set_cub F X₀ N O hs hp ht hh hl e hz (h O)
end
section
variable {K : Frag} {x d C a : Addr} {es : List DictEntry} {n : Nat} {name nm cn : Str} {v ccd : Value} {attr : Option Value} {rest : List (Addr × Obj)} {Q : Value → Shared → Prop} {cs : Scope} {cl : List (Str × Addr)} {p1 p2 : Pos}
theorem attr_cub (F : Fr h₀ L s.heap m) (X₀ : K.In h₀) (N : News h₀ L s.heap ((x, instObj C d) :: (d, dictOf es n) :: rest)) (hv : m nm = some (.ref x)) (hg : plainGet K C name = true) (hh : hasDictIn K C = true)
    (ha : findIn K (.ref C) name = some attr) (hn : noGet K attr = true) (hl : getL name es = some (some v)) (hw : handedIn v = true) (h : Q v { s with toks := s.toks + 1 })
    (hk : cs.kind = .function := by rfl) (hx : (envX cn cs L a ccd cl).kindOf nm = some .local := by rfl) (hd : (nm == ("__debug__" : Str)) = false := by decide) :
    wpAny (model prog w) A (eval (.Attribute (.Name nm p1) name p2) (envX cn cs L a ccd cl)) Q E s :=
  Attribute_Name_ (nameX_L F hv (get_own F X₀ (InstAt.of_news N (.head _) (.tail _ (.head _))) hg hh ha hn hl hw h) hk hx hd)
end
end
end Mine
end
section
open PySem PySem.W PyProof.Rows PySem.Calls
namespace Mine

/-- how far the cube lies from the top, m microseconds ahead of the meeting -/
def Gr (m : Int) : Int := (2 * 1200 * (0 - m) * (0 - m) * (0 - m)).fdiv (5 * 1000000 * 1000000 * 1000000)
def CtOk (top win m : Int) : Prop := 0 ≤ m ∧ m ≤ 3300000 ∧ (top ≤ win → Gr m = 0) ∧ (win < top → top + Gr m ≤ win)

theorem ct_zero {top win : Int} (h : top ≤ win) : CtOk top win 0 := ⟨by decide, by decide, fun _ => by decide, fun x => absurd x (by omega)⟩
theorem ct_top {top win m W0 : Int} (h : CtOk top win m) (e : win = W0) : (if win > top then win else top) + Gr m ≤ W0 := by
  subst e
  obtain ⟨_, _, h1, h2⟩ := h
  split
  · rename_i g
    rw [h1 (Int.le_of_lt g), Int.add_zero]
    exact Int.le_refl _
  · rename_i g
    rcases Int.lt_or_eq_of_le (Int.not_lt.mp g) with x | x
    · exact h2 x
    · rw [h1 (Int.le_of_eq x.symm), Int.add_zero, x]
      exact Int.le_refl _
theorem ct_root {top win m : Int} (h : win < top) (hm : Cbrt (((top - win) * 5 * 1000000 * 1000000 * 1000000).fdiv (2 * 1200)) m) : CtOk top win m :=
  ⟨hm.1, hm.2.1, fun x => absurd x (by omega), fun _ => by have q : Gr m ≤ -(top - win) := grown_le rfl hm; omega⟩
theorem cbrt_of {n low high : Int} (hn : n ≤ 35000000000000000000) (h0 : 0 ≤ low) (h1 : low < high) (h2 : high - low ≤ 1) (hl : low * low * low ≤ n) (hh : n < high * high * high) : Cbrt n low := by
  have e : high = low + 1 := by
    clear hn h0 hl hh
    omega
  subst e
  exact ⟨h0, cube_small hn hl, hl, hh⟩
theorem room_n {top win : Int} (h1 : 0 ≤ top - win) (h2 : top - win ≤ 16800) : 0 ≤ ((top - win) * 5 * 1000000 * 1000000 * 1000000).fdiv (2 * 1200) ∧ ((top - win) * 5 * 1000000 * 1000000 * 1000000).fdiv (2 * 1200) ≤ 35000000000000000000 :=
  ⟨fdiv_nn (by omega) (by decide), fdiv_le (by decide) (by omega)⟩

theorem off1 {z a : Str} (h : ([a] : List Str).contains z = false) : z ≠ a := by
  simpa only [List.contains_cons, List.contains_nil, Bool.or_false, beq_eq_false_iff_ne, ne_eq] using h
theorem off2 {z a b : Str} (h : ([a, b] : List Str).contains z = false) : z ≠ a ∧ z ≠ b := by
  simpa only [List.contains_cons, List.contains_nil, Bool.or_false, Bool.or_eq_false_iff, beq_eq_false_iff_ne, ne_eq] using h
structure InRoot : Prop where
  mark :: (one : True)
structure InTime : Prop where
  mark :: (one : True)
structure InWin : Prop where
  mark :: (one : True)

section
variable {prog : Program} {w : World} {A : Around} {E : Value → Shared → Prop} {s : Shared} {h₀ : Heap} {L : Addr} {m : Str → Option Value} {news : List (Addr × Obj)}

/-- a call that hands back an int of which φ holds, and changes nothing that was made -/
def PureP (h₀ : Heap) (L : Addr) (m : Str → Option Value) (news : List (Addr × Obj)) (φ : Int → Prop) (s : Shared) (v : Value) (s' : Shared) : Prop :=
  ∃ (i : Int) (t : Tok) (h : Heap) (tk : Nat), v = .int i t ∧ φ i ∧ s' = { s with heap := h, toks := tk } ∧ Fr h₀ L h m ∧ News h₀ L h news
theorem pure_end {φ : Int → Prop} {s s' : Shared} {v : Value} {i : Int} {t : Tok} {h : Heap} {tk : Nat} {news' : List (Addr × Obj)} (hv : v = .int i t) (hs : s' = { s with heap := h, toks := tk }) (F : Fr h₀ L h m) (N : News h₀ L h news')
    (hn : ∀ p ∈ news, p ∈ news') (hφ : φ i) : PureP h₀ L m news φ s v s' := ⟨i, t, h, tk, hv, hφ, hs, F, fun p hp => N p (hn p hp)⟩
theorem pure_cut0 {c : Sem Value} {Q : Value → Shared → Prop} (φ : Int → Prop) (h1 : wpAny (model prog w) A c (PureP h₀ L m news φ s) E s)
    (h2 : ∀ (i : Int) (t : Tok) (h : Heap) (tk : Nat), φ i → Fr h₀ L h m → News h₀ L h news → Q (.int i t) { s with heap := h, toks := tk }) : wpAny (model prog w) A c Q E s := by
  refine wpAny_mono h1 (fun v s₂ hq => ?_) fun _ _ h => h
  obtain ⟨i, t, h, tk, rfl, hφ, rfl, F, N⟩ := hq
  exact h2 i t h tk hφ F N
theorem pure_cut {c : Sem Value} {Q : Value → Shared → Prop} {h9 : Heap} (φ : Int → Prop) (F : Fr h₀ L h9 m) (N : News h₀ L h9 news) (h1 : ∀ (m : Str → Option Value) (news : List (Addr × Obj)), Fr h₀ L h9 m → News h₀ L h9 news → wpAny (model prog w) A c (PureP h₀ L m news φ s) E s)
    (h2 : ∀ (i : Int) (t : Tok) (h : Heap) (tk : Nat), φ i → Fr h₀ L h m → News h₀ L h news → Q (.int i t) { s with heap := h, toks := tk }) : wpAny (model prog w) A c Q E s := pure_cut0 φ (h1 m news F N) h2

theorem root_cut {f : Addr} {n : Int} {tn : Tok} {Q : Value → Shared → Prop} {h9 : Heap} (F : Fr h₀ L h9 m) (N : News h₀ L h9 news) (hn : 0 ≤ n ∧ n ≤ 35000000000000000000)
    (h1 : ∀ (m : Str → Option Value) (news : List (Addr × Obj)) (n : Int) (tn : Tok), InRoot → 0 ≤ n → n ≤ 35000000000000000000 → Fr h₀ L h9 m → News h₀ L h9 news → wpAny (model prog w) A (call (.ref f) [.int n tn] []) (PureP h₀ L m news (Cbrt n) s) E s)
    (h2 : ∀ (i : Int) (t : Tok) (h : Heap) (tk : Nat), Cbrt n i → Fr h₀ L h m → News h₀ L h news → Q (.int i t) { s with heap := h, toks := tk }) : wpAny (model prog w) A (call (.ref f) [.int n tn] []) Q E s :=
  pure_cut (Cbrt n) F N (fun m news => h1 m news n tn ⟨trivial⟩ hn.1 hn.2) h2
theorem time_cut {f : Addr} {top win : Int} {t1 t2 t3 : Tok} {Q : Value → Shared → Prop} {h9 : Heap} (F : Fr h₀ L h9 m) (N : News h₀ L h9 news) (ht : top ≤ 16800) (hw : 0 ≤ win)
    (h1 : ∀ (m : Str → Option Value) (news : List (Addr × Obj)) (top win : Int) (t1 t2 t3 : Tok), InTime → top ≤ 16800 → 0 ≤ win → Fr h₀ L h9 m → News h₀ L h9 news → wpAny (model prog w) A (call (.ref f) [.int top t1, .int win t2, .int 1200 t3] []) (PureP h₀ L m news (CtOk top win) s) E s)
    (h2 : ∀ (i : Int) (t : Tok) (h : Heap) (tk : Nat), 0 ≤ i → i ≤ 3300000 → CtOk top win i → Fr h₀ L h m → News h₀ L h news → Q (.int i t) { s with heap := h, toks := tk }) :
    wpAny (model prog w) A (call (.ref f) [.int top t1, .int win t2, .int 1200 t3] []) Q E s := pure_cut _ F N (fun m news => h1 m news top win t1 t2 t3 ⟨trivial⟩ ht hw) (fun i t h tk c => h2 i t h tk c.1 c.2.1 c)
/-- the cubic's window at the meeting, whatever the ledger holds -/
def WinAll (prog : Program) (w : World) (A : Around) (h₀ : Heap) (L f : Addr) (g : Array GenState) (dr : Drawn) (o : OsState) : Prop :=
  ∀ (E : Value → Shared → Prop) (e mt tw : Int) (t1 t2 t3 t4 : Tok) (m : Str → Option Value) (news : List (Addr × Obj)) (h9 : Heap) (tk : Nat), e = 0 → 0 ≤ mt → mt ≤ 3300000 → Fr h₀ L h9 m → News h₀ L h9 news →
    wpAny (model prog w) A (call (.ref f) [.int e t1, .int mt t2, .int tw t3, .int 1200 t4] []) (PureP h₀ L m news (fun r => r = tw + Gr mt) (Shared.mk h9 g dr tk o)) E (Shared.mk h9 g dr tk o)
theorem win_use {f : Addr} {g : Array GenState} {dr : Drawn} {o : OsState} {e mt tw : Int} {t1 t2 t3 t4 : Tok} {Q : Value → Shared → Prop} {h9 : Heap} {tk : Nat} (T : WinAll prog w A h₀ L f g dr o) (F : Fr h₀ L h9 m) (N : News h₀ L h9 news) (he : e = 0) (hm : 0 ≤ mt ∧ mt ≤ 3300000)
    (h2 : ∀ (i : Int) (t : Tok) (h : Heap) (tk : Nat), i = tw + Gr mt → Fr h₀ L h m → News h₀ L h news → Q (.int i t) (Shared.mk h g dr tk o)) :
    wpAny (model prog w) A (call (.ref f) [.int e t1, .int mt t2, .int tw t3, .int 1200 t4] []) Q E (Shared.mk h9 g dr tk o) := pure_cut0 _ (T E e mt tw t1 t2 t3 t4 m news h9 tk he hm.1 hm.2 F N) h2
theorem win_cut {f : Addr} {g : Array GenState} {dr : Drawn} {o : OsState} {e mt tw : Int} {t1 t2 t3 t4 : Tok} {Q : Value → Shared → Prop} {h9 : Heap} {tk : Nat} (F : Fr h₀ L h9 m) (N : News h₀ L h9 news) (he : e = 0) (hm : 0 ≤ mt ∧ mt ≤ 3300000)
    (h1 : ∀ (E : Value → Shared → Prop) (e mt tw : Int) (t1 t2 t3 t4 : Tok) (m : Str → Option Value) (news : List (Addr × Obj)) (h9 : Heap) (tk : Nat), InWin → e = 0 → 0 ≤ mt → mt ≤ 3300000 → Fr h₀ L h9 m → News h₀ L h9 news →
      wpAny (model prog w) A (call (.ref f) [.int e t1, .int mt t2, .int tw t3, .int 1200 t4] []) (PureP h₀ L m news (fun r => r = tw + Gr mt) (Shared.mk h9 g dr tk o)) E (Shared.mk h9 g dr tk o))
    (h2 : WinAll prog w A h₀ L f g dr o → ∀ (i : Int) (t : Tok) (h : Heap) (tk : Nat), i = tw + Gr mt → Fr h₀ L h m → News h₀ L h news → Q (.int i t) (Shared.mk h g dr tk o)) :
    wpAny (model prog w) A (call (.ref f) [.int e t1, .int mt t2, .int tw t3, .int 1200 t4] []) Q E (Shared.mk h9 g dr tk o) :=
  have T : WinAll prog w A h₀ L f g dr o := fun E e mt tw t1 t2 t3 t4 m news h9 tk => h1 E e mt tw t1 t2 t3 t4 m news h9 tk ⟨trivial⟩
  win_use T F N he hm (h2 T)
theorem win_val {e mt tw : Int} (he : e = 0) : tw + (2 * 1200 * (e - mt) * (e - mt) * (e - mt)).fdiv (5 * 1000000 * 1000000 * 1000000) = tw + Gr mt := by subst he; rfl
end

section
variable {prog : Program} {w : World} {A : Around} {E : Value → Shared → Prop} {Q : Flow → Shared → Prop} {s : Shared} {env : Env} {h₀ : Heap} {L : Addr} {news : List (Addr × Obj)} {m₀ : Str → Option Value}

/-- a turn of a while over the ints of one or two names of the frame is over -/
inductive WhEnd (h₀ : Heap) (L : Addr) (x y : Str) (stored : List Str) (m₀ : Str → Option Value) (news : List (Addr × Obj)) (P : Int → Int → Prop) (μ : Int → Int → Nat) (a b : Int) (s : Shared) : Shared → Prop
  | mk (a' b' : Int) (ta tb : Tok) (h' : Heap) (tk : Nat) (m' : Str → Option Value) (F : Fr h₀ L h' m') (N : News h₀ L h' news) (hx : m' x = some (.int a' ta)) (hy : m' y = some (.int b' tb))
    (hm : ∀ z, z ≠ x → z ≠ y → stored.contains z = false → m' z = m₀ z) (hP : P a' b') (hμ : μ a' b' < μ a b) : WhEnd h₀ L x y stored m₀ news P μ a b s { s with heap := h', toks := tk }
def WhPost (h₀ : Heap) (L : Addr) (x y : Str) (stored : List Str) (m₀ : Str → Option Value) (news : List (Addr × Obj)) (P : Int → Int → Prop) (μ : Int → Int → Nat) (a b : Int) (s : Shared) (Q : Flow → Shared → Prop) (f : Flow) (s₂ : Shared) : Prop :=
  match f with
  | .ret v => Q (.ret v) s₂
  | .brk => Q .next s₂
  | _ => WhEnd h₀ L x y stored m₀ news P μ a b s s₂
theorem wh_end {x y : Str} {stored : List Str} {P : Int → Int → Prop} {μ : Int → Int → Nat} {a b : Int} {s₂ : Shared} {a' b' : Int} {ta tb : Tok} {h' : Heap} {tk : Nat} {m' : Str → Option Value} {news' : List (Addr × Obj)}
    (hs : s₂ = { s with heap := h', toks := tk }) (F : Fr h₀ L h' m') (N : News h₀ L h' news') (hn : ∀ p ∈ news, p ∈ news') (hx : m' x = some (.int a' ta)) (hy : m' y = some (.int b' tb))
    (hm : ∀ z, z ≠ x → z ≠ y → stored.contains z = false → m' z = m₀ z) (hP : P a' b' ∧ μ a' b' < μ a b) : WhEnd h₀ L x y stored m₀ news P μ a b s s₂ := by
  subst hs
  exact .mk a' b' ta tb h' tk m' F (fun p hp => N p (hn p hp)) hx hy hm hP.1 hP.2

theorem wh_two {test : Expr} {body : List Stmt} {pos : Pos} {x y : Str} (stored : List Str) (P : Int → Int → Prop) (μ : Int → Int → Nat) {a₀ b₀ : Int} {ta₀ tb₀ : Tok}
    (F : Fr h₀ L s.heap m₀) (N : News h₀ L s.heap news) (hx : m₀ x = some (.int a₀ ta₀)) (hy : m₀ y = some (.int b₀ tb₀)) (hp : P a₀ b₀)
    (turn : ∀ (a b : Int) (ta tb : Tok) (u : Str → Option Value) (h : Heap) (tk : Nat), P a b → Fr h₀ L h (fun z => if z = x then some (.int a ta) else if z = y then some (.int b tb) else if stored.contains z then u z else m₀ z) → News h₀ L h news →
      wpAny (model prog w) A (isTrue test env (eval test env)) (fun q s₂ =>
        if q = true then wpAny (model prog w) A (execs body env) (WhPost h₀ L x y stored m₀ news P μ a b s Q) E s₂ else Q .next s₂) E { s with heap := h, toks := tk })
    (hE : PassesOwn (model prog w) A env E) :
    wpAny (model prog w) A (exec (.While test body [] pos) env) Q E s := by
  refine ksw_while (σ := Int × Tok × Int × Tok) (fun _ => news) (fun c => [(x, .int c.1 c.2.1), (y, .int c.2.2.1 c.2.2.2)]) (fun _ => True) stored (fun c => P c.1 c.2.2.1) (fun c => μ c.1 c.2.2.1) (a₀, ta₀, b₀, tb₀) F N trivial
    (List.forall_mem_cons.mpr ⟨hx, List.forall_mem_cons.mpr ⟨hy, List.forall_mem_nil _⟩⟩) hp ?_ hE
  rintro ⟨a, ta, b, tb⟩ u h tk _ hP F₁ N₁
  refine wpAny_mono (turn a b ta tb u h tk hP F₁ N₁) (fun q s₂ p => ?_) fun _ _ e => e
  cases q with
  | false => simpa using p
  | true =>
    simp only [if_true] at p ⊢
    refine wpAny_mono p (fun f s₃ q => ?_) fun _ _ e => e
    have fin : WhEnd h₀ L x y stored m₀ news P μ a b s s₃ → KswEnd h₀ L s (fun (_ : Int × Tok × Int × Tok) => news) (fun c => [(x, .int c.1 c.2.1), (y, .int c.2.2.1 c.2.2.2)]) (fun _ => True) stored m₀ (fun c => P c.1 c.2.2.1) (fun c => μ c.1 c.2.2.1) (a, ta, b, tb) s₃ := by
      rintro ⟨a', b', ta', tb', h', tk', m', F', N', e1, e2, e3, hP', hμ⟩
      exact ksw_end (a', ta', b', tb') F' N' (fun _ hp => hp) trivial (List.forall_mem_cons.mpr ⟨e1, List.forall_mem_cons.mpr ⟨e2, List.forall_mem_nil _⟩⟩)
        (fun z hz hs => e3 z (hz _ (.head _)) (hz _ (.tail _ (.head _))) hs) hP' hμ
    cases f with
    | ret v => exact q
    | brk => exact q
    | next => exact fin q
    | cont => exact fin q
end
end Mine
end
section
open PySem PySem.W PyProof.Rows PySem.Calls
namespace Mine
theorem gen1 {P : Params} {h₀ h : Heap} {L x d l D : Addr} {ox : Obj} {p5 : Addr × Obj} {W0 cnt S : Int} {n : Nat} {tc tS s0 sW sF sC sT sP sM sR sX a0 a1 a2 a3 a4 a5 a6 a7 a8 a9 a10 a11 a12 : Tok}
    (N : News h₀ L h [(x, ox), (d, dictOf [⟨PyData.keyHash P (Str.ofString "datagram"), .str (Str.ofString "datagram") a0, .int 1200 s0⟩, ⟨PyData.keyHash P (Str.ofString "window"), .str (Str.ofString "window") a1, .int W0 sW⟩, ⟨PyData.keyHash P (Str.ofString "threshold"), .str (Str.ofString "threshold") a2, .none⟩, ⟨PyData.keyHash P (Str.ofString "recovery_at"), .str (Str.ofString "recovery_at") a3, .none⟩, ⟨PyData.keyHash P (Str.ofString "in_flight"), .str (Str.ofString "in_flight") a4, .int 0 sF⟩, ⟨PyData.keyHash P (Str.ofString "credit"), .str (Str.ofString "credit") a5, .int 0 sC⟩, ⟨PyData.keyHash P (Str.ofString "top_window"), .str (Str.ofString "top_window") a6, .int 0 sT⟩, ⟨PyData.keyHash P (Str.ofString "prior_window"), .str (Str.ofString "prior_window") a7, .int 0 sP⟩, ⟨PyData.keyHash P (Str.ofString "begun_at"), .str (Str.ofString "begun_at") a8, .none⟩, ⟨PyData.keyHash P (Str.ofString "idle_since"), .str (Str.ofString "idle_since") a9, .none⟩, ⟨PyData.keyHash P (Str.ofString "meets_after"), .str (Str.ofString "meets_after") a10, .int 0 sM⟩, ⟨PyData.keyHash P (Str.ofString "friendly"), .str (Str.ofString "friendly") a11, .int 0 sR⟩, ⟨PyData.keyHash P (Str.ofString "friendly_credit"), .str (Str.ofString "friendly_credit") a12, .int 0 sX⟩] 13), (l, listOf #[.ref D, .int cnt tc, .int S tS] n), p5]) (hW : W0 = 12000) {G : Prop}
    (k : ∀ (K : Nat → Tok) (S : Int) (tS t0 tW tF tC tT tP tM tR tX : Tok), let es : List DictEntry := [⟨PyData.keyHash P (Str.ofString "datagram"), .str (Str.ofString "datagram") (K 0), (.int 1200 t0)⟩, ⟨PyData.keyHash P (Str.ofString "window"), .str (Str.ofString "window") (K 1), (.int 12000 tW)⟩, ⟨PyData.keyHash P (Str.ofString "threshold"), .str (Str.ofString "threshold") (K 2), .none⟩, ⟨PyData.keyHash P (Str.ofString "recovery_at"), .str (Str.ofString "recovery_at") (K 3), .none⟩, ⟨PyData.keyHash P (Str.ofString "in_flight"), .str (Str.ofString "in_flight") (K 4), (.int 0 tF)⟩, ⟨PyData.keyHash P (Str.ofString "credit"), .str (Str.ofString "credit") (K 5), (.int 0 tC)⟩, ⟨PyData.keyHash P (Str.ofString "top_window"), .str (Str.ofString "top_window") (K 6), (.int 0 tT)⟩, ⟨PyData.keyHash P (Str.ofString "prior_window"), .str (Str.ofString "prior_window") (K 7), (.int 0 tP)⟩, ⟨PyData.keyHash P (Str.ofString "begun_at"), .str (Str.ofString "begun_at") (K 8), .none⟩, ⟨PyData.keyHash P (Str.ofString "idle_since"), .str (Str.ofString "idle_since") (K 9), .none⟩, ⟨PyData.keyHash P (Str.ofString "meets_after"), .str (Str.ofString "meets_after") (K 10), (.int 0 tM)⟩, ⟨PyData.keyHash P (Str.ofString "friendly"), .str (Str.ofString "friendly") (K 11), (.int 0 tR)⟩, ⟨PyData.keyHash P (Str.ofString "friendly_credit"), .str (Str.ofString "friendly_credit") (K 12), (.int 0 tX)⟩]; News h₀ L h [(x, ox), (d, dictOf es 13), (l, listOf #[.ref D, .int cnt tc, .int S tS] n), p5] → G) : G := by
  subst hW
  exact k (fun i => match i with | 0 => a0 | 1 => a1 | 2 => a2 | 3 => a3 | 4 => a4 | 5 => a5 | 6 => a6 | 7 => a7 | 8 => a8 | 9 => a9 | 10 => a10 | 11 => a11 | 12 => a12 | _ => 0) S tS s0 sW sF sC sT sP sM sR sX N

section
variable {prog : Program} {w : World} {A : Around} {E : Value → Shared → Prop} {Q : Flow → Shared → Prop} {s : Shared} {env : Env} {h₀ : Heap} {L : Addr} {P : Params} {K : Nat → Tok} {xv : Str} {body : List Stmt}

/-- a turn of a for is over: the ledger and the frame's names by a state c, of which J holds -/
inductive EndF {σ : Type} (h₀ : Heap) (L : Addr) (m₀ : Str → Option Value) (xv : Str) (Led : σ → List (Addr × Obj)) (ps : σ → List (Str × Value)) (stored : List Str) (J : σ → Prop) (own : List (Addr × Obj)) (s₁ : Shared) : Shared → Prop
  | mk (c : σ) (h' : Heap) (tk : Nat) (m' : Str → Option Value) (F : Fr h₀ L h' m') (N : News h₀ L h' (Led c ++ own)) (e1 : ∀ p ∈ ps c, m' p.1 = some p.2) (e2 : ∀ z, z ≠ xv → (∀ p ∈ ps c, z ≠ p.1) → stored.contains z = false → m' z = m₀ z) (hJ : J c) :
    EndF h₀ L m₀ xv Led ps stored J own s₁ { s₁ with heap := h', toks := tk }
def PostF {σ : Type} (h₀ : Heap) (L : Addr) (m₀ : Str → Option Value) (xv : Str) (Led : σ → List (Addr × Obj)) (ps : σ → List (Str × Value)) (stored : List Str) (J : σ → Prop) (own : List (Addr × Obj)) (s₁ : Shared) (Q : Flow → Shared → Prop) (f : Flow) (s₂ : Shared) : Prop :=
  match f with
  | .ret v => Q (.ret v) s₂
  | .brk => Q .next s₂
  | _ => EndF h₀ L m₀ xv Led ps stored J own s₁ s₂
theorem endF {σ : Type} {m₀ m' : Str → Option Value} {Led : σ → List (Addr × Obj)} {ps : σ → List (Str × Value)} {stored : List Str} {J : σ → Prop} {own news' : List (Addr × Obj)} {s₁ s₂ : Shared} {h' : Heap} {tk : Nat} (c : σ)
    (hs : s₂ = { s₁ with heap := h', toks := tk }) (F' : Fr h₀ L h' m') (N' : News h₀ L h' news') (hn : ∀ p ∈ Led c ++ own, p ∈ news') (hk : ∀ p ∈ ps c, m' p.1 = some p.2) (hm : ∀ z, z ≠ xv → (∀ p ∈ ps c, z ≠ p.1) → stored.contains z = false → m' z = m₀ z) (hJ : J c) :
    EndF h₀ L m₀ xv Led ps stored J own s₁ s₂ := by
  subst hs
  exact .mk c h' tk m' F' (fun p hp => N' p (hn p hp)) hk hm hJ

theorem loopF {σ : Type} {r : Addr} {b₀ : Int} {t₀ u₀ w₀ : Tok} {m₀ : Str → Option Value} (Led : σ → List (Addr × Obj)) (ps : σ → List (Str × Value)) (stored : List Str) (J : Nat → σ → Prop) (c₀ : σ) (adr : List Addr)
    (hL : env.locals = L) (hh : A.handled = none) (hr : IsRange s.heap r 0 b₀ 1 t₀ u₀ w₀) (hb0 : 0 ≤ b₀) (hb : b₀ < 2 ^ 62) (F : Fr h₀ L s.heap m₀) (N : News h₀ L s.heap (Led c₀)) (hk : ∀ p ∈ ps c₀, m₀ p.1 = some p.2) (hj : J 0 c₀) (hadr : ∀ c, (Led c).map (·.1) = adr)
    (turn : ∀ (c : σ) (n : Nat) (k : Int) (t : Tok) (u : Str → Option Value) (h : Heap) (tk : Nat) (own : List (Addr × Obj)), KstMark → (n : Int) < b₀ → J n c → OwnOff own adr →
      Fr h₀ L h (fun y => if y = xv then some (.int k t) else kstB (fun z => if stored.contains z then u z else m₀ z) (ps c) y) → News h₀ L h (Led c ++ own) →
      wpAny (model prog w) A (execs body env) (PostF h₀ L m₀ xv Led ps stored (J (n + 1)) own { s with heap := h, toks := tk } Q) E { s with heap := h, toks := tk })
    (done : ∀ (c : σ) (n : Nat) (u : Str → Option Value) (h : Heap) (tk : Nat), (n : Int) = b₀ → J n c → Fr h₀ L h (fun y => if y = xv then u y else kstB (fun z => if stored.contains z then u z else m₀ z) (ps c) y) → News h₀ L h (Led c) →
      Q .next { s with heap := h, toks := tk }) :
    wpAny (model prog w) A (pyIter (.ref r)) (fun it s₂ => LoopAtV prog w A h₀ env xv body Q E it s₂) E s := by
  subst hL
  refine kst_range Led ps (fun _ => True) stored (fun pre c => J pre.length c) c₀
    hh hr (small_one (by omega) (by omega) (by omega) (by omega)) (rangeSize_nat _ _) F N trivial hk hj ?_ ?_
  · rintro c pre k t u h tk own _ hlt hoff _ hJ F₁ N₁
    rw [hadr] at hoff
    refine wpAny_mono (turn c pre.length k t u h tk own kstMark (by omega) hJ hoff F₁ N₁) (fun f s₂ p => ?_) fun _ _ e => e
    cases f with
    | ret v => exact p
    | brk => exact p
    | next =>
      obtain ⟨c', h', tk', m', F₂, N₂, e1, e2, hJ'⟩ := p
      exact InvEndN.intro F₂ N₂ ⟨c', rfl, trivial, e1, e2, by show J (pre ++ [k]).length _; rw [List.length_append]; exact hJ'⟩ ((hadr c').trans (hadr c₀).symm) (fun p hp => List.mem_append.mpr (.inl hp)) (fun p hp => List.mem_append.mpr (.inr hp))
    | cont =>
      obtain ⟨c', h', tk', m', F₂, N₂, e1, e2, hJ'⟩ := p
      exact InvEndN.intro F₂ N₂ ⟨c', rfl, trivial, e1, e2, by show J (pre ++ [k]).length _; rw [List.length_append]; exact hJ'⟩ ((hadr c').trans (hadr c₀).symm) (fun p hp => List.mem_append.mpr (.inl hp)) (fun p hp => List.mem_append.mpr (.inr hp))
  · rintro c u h tk _ hJ F₁ N₁
    rw [rangeKs_length] at hJ
    exact done c _ u h tk (by omega) hJ F₁ N₁

set_option genInjectivity false
set_option genSizeOf false
structure St1 where
  (W : Int) (tW : Tok) (F : Int) (tF : Tok)
noncomputable def Led1 (x d l D : Addr) (ox ol oD : Obj) (P : Params) (K : Nat → Tok) (v0 v5 v6 v7 v8 v9 v10 v11 v12 : Value) (c : St1) : List (Addr × Obj) := [(x, ox), (d, dictOf [⟨PyData.keyHash P (Str.ofString "datagram"), .str (Str.ofString "datagram") (K 0), v0⟩, ⟨PyData.keyHash P (Str.ofString "window"), .str (Str.ofString "window") (K 1), (.int c.W c.tW)⟩, ⟨PyData.keyHash P (Str.ofString "threshold"), .str (Str.ofString "threshold") (K 2), .none⟩, ⟨PyData.keyHash P (Str.ofString "recovery_at"), .str (Str.ofString "recovery_at") (K 3), .none⟩, ⟨PyData.keyHash P (Str.ofString "in_flight"), .str (Str.ofString "in_flight") (K 4), (.int c.F c.tF)⟩, ⟨PyData.keyHash P (Str.ofString "credit"), .str (Str.ofString "credit") (K 5), v5⟩, ⟨PyData.keyHash P (Str.ofString "top_window"), .str (Str.ofString "top_window") (K 6), v6⟩, ⟨PyData.keyHash P (Str.ofString "prior_window"), .str (Str.ofString "prior_window") (K 7), v7⟩, ⟨PyData.keyHash P (Str.ofString "begun_at"), .str (Str.ofString "begun_at") (K 8), v8⟩, ⟨PyData.keyHash P (Str.ofString "idle_since"), .str (Str.ofString "idle_since") (K 9), v9⟩, ⟨PyData.keyHash P (Str.ofString "meets_after"), .str (Str.ofString "meets_after") (K 10), v10⟩, ⟨PyData.keyHash P (Str.ofString "friendly"), .str (Str.ofString "friendly") (K 11), v11⟩, ⟨PyData.keyHash P (Str.ofString "friendly_credit"), .str (Str.ofString "friendly_credit") (K 12), v12⟩] 13), (l, ol), (D, oD)]
def J1 (n : Nat) (c : St1) : Prop := c.W = 12000 + 1200 * (n : Int) ∧ c.F = 0
theorem j1_end {n : Nat} {W F : Int} {tW tF : Tok} (h1 : W = 12000 + 1200 * ((n + 1 : Nat) : Int)) (h2 : F = 0) : J1 (n + 1) ⟨W, tW, F, tF⟩ := ⟨h1, h2⟩
theorem loop1 {x d r : Addr} {ox : Obj} {l D : Addr} {ol oD : Obj} {v0 v5 v6 v7 v8 v9 v10 v11 v12 : Value} {tW tF : Tok} {b₀ : Int} {t₀ u₀ w₀ : Tok} {m₀ : Str → Option Value}
    (hL : env.locals = L) (hh : A.handled = none) (hr : IsRange s.heap r 0 b₀ 1 t₀ u₀ w₀) (hb0 : 0 ≤ b₀) (hb : b₀ < 5) (F : Fr h₀ L s.heap m₀)
    (N : News h₀ L s.heap [(x, ox), (d, dictOf [⟨PyData.keyHash P (Str.ofString "datagram"), .str (Str.ofString "datagram") (K 0), v0⟩, ⟨PyData.keyHash P (Str.ofString "window"), .str (Str.ofString "window") (K 1), (.int 12000 tW)⟩, ⟨PyData.keyHash P (Str.ofString "threshold"), .str (Str.ofString "threshold") (K 2), .none⟩, ⟨PyData.keyHash P (Str.ofString "recovery_at"), .str (Str.ofString "recovery_at") (K 3), .none⟩, ⟨PyData.keyHash P (Str.ofString "in_flight"), .str (Str.ofString "in_flight") (K 4), (.int 0 tF)⟩, ⟨PyData.keyHash P (Str.ofString "credit"), .str (Str.ofString "credit") (K 5), v5⟩, ⟨PyData.keyHash P (Str.ofString "top_window"), .str (Str.ofString "top_window") (K 6), v6⟩, ⟨PyData.keyHash P (Str.ofString "prior_window"), .str (Str.ofString "prior_window") (K 7), v7⟩, ⟨PyData.keyHash P (Str.ofString "begun_at"), .str (Str.ofString "begun_at") (K 8), v8⟩, ⟨PyData.keyHash P (Str.ofString "idle_since"), .str (Str.ofString "idle_since") (K 9), v9⟩, ⟨PyData.keyHash P (Str.ofString "meets_after"), .str (Str.ofString "meets_after") (K 10), v10⟩, ⟨PyData.keyHash P (Str.ofString "friendly"), .str (Str.ofString "friendly") (K 11), v11⟩, ⟨PyData.keyHash P (Str.ofString "friendly_credit"), .str (Str.ofString "friendly_credit") (K 12), v12⟩] 13), (l, ol), (D, oD)])
    (turn : ∀ (ol oD : Obj) (v0 v5 v6 v7 v8 v9 v10 v11 v12 : Value) (n : Nat) (W : Int) (tW tF : Tok) (k : Int) (t : Tok) (h : Heap) (tk : Nat) (own : List (Addr × Obj)), KstMark → W = 12000 + 1200 * (n : Int) → (n : Int) < 5 → OwnOff own [x, d, l, D] →
      Fr h₀ L h (fun y => if y = xv then some (.int k t) else m₀ y) → let es : List DictEntry := [⟨PyData.keyHash P (Str.ofString "datagram"), .str (Str.ofString "datagram") (K 0), v0⟩, ⟨PyData.keyHash P (Str.ofString "window"), .str (Str.ofString "window") (K 1), (.int W tW)⟩, ⟨PyData.keyHash P (Str.ofString "threshold"), .str (Str.ofString "threshold") (K 2), .none⟩, ⟨PyData.keyHash P (Str.ofString "recovery_at"), .str (Str.ofString "recovery_at") (K 3), .none⟩, ⟨PyData.keyHash P (Str.ofString "in_flight"), .str (Str.ofString "in_flight") (K 4), (.int 0 tF)⟩, ⟨PyData.keyHash P (Str.ofString "credit"), .str (Str.ofString "credit") (K 5), v5⟩, ⟨PyData.keyHash P (Str.ofString "top_window"), .str (Str.ofString "top_window") (K 6), v6⟩, ⟨PyData.keyHash P (Str.ofString "prior_window"), .str (Str.ofString "prior_window") (K 7), v7⟩, ⟨PyData.keyHash P (Str.ofString "begun_at"), .str (Str.ofString "begun_at") (K 8), v8⟩, ⟨PyData.keyHash P (Str.ofString "idle_since"), .str (Str.ofString "idle_since") (K 9), v9⟩, ⟨PyData.keyHash P (Str.ofString "meets_after"), .str (Str.ofString "meets_after") (K 10), v10⟩, ⟨PyData.keyHash P (Str.ofString "friendly"), .str (Str.ofString "friendly") (K 11), v11⟩, ⟨PyData.keyHash P (Str.ofString "friendly_credit"), .str (Str.ofString "friendly_credit") (K 12), v12⟩]; News h₀ L h ((x, ox) :: (d, dictOf es 13) :: (l, ol) :: (D, oD) :: own) →
      wpAny (model prog w) A (execs body env) (PostF h₀ L m₀ xv (Led1 x d l D ox ol oD P K v0 v5 v6 v7 v8 v9 v10 v11 v12) (fun _ => []) [] (J1 (n + 1)) own { s with heap := h, toks := tk } Q) E { s with heap := h, toks := tk })
    (done : ∀ (W : Int) (tW tF : Tok) (u : Str → Option Value) (h : Heap) (tk : Nat), 12000 ≤ W → W ≤ 16800 → Fr h₀ L h (fun y => if y = xv then u y else m₀ y) → let es : List DictEntry := [⟨PyData.keyHash P (Str.ofString "datagram"), .str (Str.ofString "datagram") (K 0), v0⟩, ⟨PyData.keyHash P (Str.ofString "window"), .str (Str.ofString "window") (K 1), (.int W tW)⟩, ⟨PyData.keyHash P (Str.ofString "threshold"), .str (Str.ofString "threshold") (K 2), .none⟩, ⟨PyData.keyHash P (Str.ofString "recovery_at"), .str (Str.ofString "recovery_at") (K 3), .none⟩, ⟨PyData.keyHash P (Str.ofString "in_flight"), .str (Str.ofString "in_flight") (K 4), (.int 0 tF)⟩, ⟨PyData.keyHash P (Str.ofString "credit"), .str (Str.ofString "credit") (K 5), v5⟩, ⟨PyData.keyHash P (Str.ofString "top_window"), .str (Str.ofString "top_window") (K 6), v6⟩, ⟨PyData.keyHash P (Str.ofString "prior_window"), .str (Str.ofString "prior_window") (K 7), v7⟩, ⟨PyData.keyHash P (Str.ofString "begun_at"), .str (Str.ofString "begun_at") (K 8), v8⟩, ⟨PyData.keyHash P (Str.ofString "idle_since"), .str (Str.ofString "idle_since") (K 9), v9⟩, ⟨PyData.keyHash P (Str.ofString "meets_after"), .str (Str.ofString "meets_after") (K 10), v10⟩, ⟨PyData.keyHash P (Str.ofString "friendly"), .str (Str.ofString "friendly") (K 11), v11⟩, ⟨PyData.keyHash P (Str.ofString "friendly_credit"), .str (Str.ofString "friendly_credit") (K 12), v12⟩]; News h₀ L h [(x, ox), (d, dictOf es 13), (l, ol), (D, oD)] →
      Q .next { s with heap := h, toks := tk }) :
    wpAny (model prog w) A (pyIter (.ref r)) (fun it s₂ => LoopAtV prog w A h₀ env xv body Q E it s₂) E s := by
  refine loopF (σ := St1) (Led1 x d l D ox ol oD P K v0 v5 v6 v7 v8 v9 v10 v11 v12) (fun _ => []) [] J1 ⟨12000, tW, 0, tF⟩ [x, d, l, D] hL hh hr hb0 (by omega) F N (List.forall_mem_nil _) ⟨by simp, rfl⟩ (fun _ => rfl) ?_ ?_
  · rintro ⟨W, tW, F, tF⟩ n k t u h tk own M hn ⟨hW, hF⟩ hoff F₁ N₁
    dsimp only [kstB] at hW hF F₁ N₁
    subst hF
    exact turn ol oD v0 v5 v6 v7 v8 v9 v10 v11 v12 n W tW tF k t h tk own M hW (by omega) hoff (by simpa using F₁) N₁
  · rintro ⟨W, tW, F, tF⟩ n u h tk hn ⟨hW, hF⟩ F₁ N₁
    dsimp only [kstB] at hW hF F₁ N₁
    subst hF
    exact done W tW tF u h tk (by omega) (by omega) (by simpa using F₁) N₁

structure InRec : Prop where
  mark :: (one : True)
structure InTop : Prop where
  mark :: (one : True)
def RecOk (now : Int) (RA : Value) : Prop := RA = .none ∨ ∃ t, RA = .int now t
/-- a call that hands back a bool, and changes nothing that was made -/
def BoolP (h₀ : Heap) (L : Addr) (m : Str → Option Value) (news : List (Addr × Obj)) (b : Bool) (s : Shared) (v : Value) (s' : Shared) : Prop :=
  ∃ (h : Heap) (tk : Nat), v = .bool b ∧ s' = { s with heap := h, toks := tk } ∧ Fr h₀ L h m ∧ News h₀ L h news
theorem bool_end {m : Str → Option Value} {news news' : List (Addr × Obj)} {b : Bool} {s' : Shared} {v : Value} {h : Heap} {tk : Nat} (hv : v = .bool b) (hs : s' = { s with heap := h, toks := tk }) (F : Fr h₀ L h m) (N : News h₀ L h news')
    (hn : ∀ p ∈ news, p ∈ news') : BoolP h₀ L m news b s v s' := ⟨h, tk, hv, hs, F, fun p hp => N p (hn p hp)⟩
theorem rec_gen {f x : Addr} {m : Str → Option Value} {led : Value → List (Addr × Obj)} {RA : Value} {now sent : Int} {ts : Tok} {h9 : Heap} {Q : Value → Shared → Prop} (hra : RecOk now RA) (F9 : Fr h₀ L h9 m) (N : News h₀ L h9 (led RA)) (hs : now < sent)
    (h0 : InRec → Fr h₀ L h9 m → News h₀ L h9 (led .none) → wpAny (model prog w) A (call (.ref f) [.ref x, .int sent ts] []) (BoolP h₀ L m (led .none) false s) E s)
    (h1 : ∀ t, InRec → now < sent → Fr h₀ L h9 m → News h₀ L h9 (led (.int now t)) → wpAny (model prog w) A (call (.ref f) [.ref x, .int sent ts] []) (BoolP h₀ L m (led (.int now t)) false s) E s)
    (h2 : ∀ (h : Heap) (tk : Nat), Fr h₀ L h m → News h₀ L h (led RA) → Q (.bool false) { s with heap := h, toks := tk }) :
    wpAny (model prog w) A (call (.ref f) [.ref x, .int sent ts] []) Q E s := by
  rcases hra with e | ⟨t, e⟩
  · subst e
    refine wpAny_mono (h0 ⟨trivial⟩ F9 N) (fun v s₂ hq => ?_) fun _ _ h => h
    obtain ⟨h, tk, rfl, rfl, F', N'⟩ := hq
    exact h2 h tk F' N'
  · subst e
    refine wpAny_mono (h1 t ⟨trivial⟩ hs F9 N) (fun v s₂ hq => ?_) fun _ _ h => h
    obtain ⟨h, tk, rfl, rfl, F', N'⟩ := hq
    exact h2 h tk F' N'
theorem rec_cut {f x d : Addr} {m : Str → Option Value} {ox : Obj} {v0 v1 v2 v4 v5 v6 v7 v8 v9 v10 v11 v12 RA : Value} {now sent : Int} {ts : Tok} {h9 : Heap} {rest : List (Addr × Obj)} {Q : Value → Shared → Prop} (hra : RecOk now RA) (F9 : Fr h₀ L h9 m)
    (N : News h₀ L h9 ((x, ox) :: (d, dictOf [⟨PyData.keyHash P (Str.ofString "datagram"), .str (Str.ofString "datagram") (K 0), v0⟩, ⟨PyData.keyHash P (Str.ofString "window"), .str (Str.ofString "window") (K 1), v1⟩, ⟨PyData.keyHash P (Str.ofString "threshold"), .str (Str.ofString "threshold") (K 2), v2⟩, ⟨PyData.keyHash P (Str.ofString "recovery_at"), .str (Str.ofString "recovery_at") (K 3), (RA)⟩, ⟨PyData.keyHash P (Str.ofString "in_flight"), .str (Str.ofString "in_flight") (K 4), v4⟩, ⟨PyData.keyHash P (Str.ofString "credit"), .str (Str.ofString "credit") (K 5), v5⟩, ⟨PyData.keyHash P (Str.ofString "top_window"), .str (Str.ofString "top_window") (K 6), v6⟩, ⟨PyData.keyHash P (Str.ofString "prior_window"), .str (Str.ofString "prior_window") (K 7), v7⟩, ⟨PyData.keyHash P (Str.ofString "begun_at"), .str (Str.ofString "begun_at") (K 8), v8⟩, ⟨PyData.keyHash P (Str.ofString "idle_since"), .str (Str.ofString "idle_since") (K 9), v9⟩, ⟨PyData.keyHash P (Str.ofString "meets_after"), .str (Str.ofString "meets_after") (K 10), v10⟩, ⟨PyData.keyHash P (Str.ofString "friendly"), .str (Str.ofString "friendly") (K 11), v11⟩, ⟨PyData.keyHash P (Str.ofString "friendly_credit"), .str (Str.ofString "friendly_credit") (K 12), v12⟩] 13) :: rest)) (hs : now < sent)
    (h0 : InRec → Fr h₀ L h9 m → let es : List DictEntry := [⟨PyData.keyHash P (Str.ofString "datagram"), .str (Str.ofString "datagram") (K 0), v0⟩, ⟨PyData.keyHash P (Str.ofString "window"), .str (Str.ofString "window") (K 1), v1⟩, ⟨PyData.keyHash P (Str.ofString "threshold"), .str (Str.ofString "threshold") (K 2), v2⟩, ⟨PyData.keyHash P (Str.ofString "recovery_at"), .str (Str.ofString "recovery_at") (K 3), (.none)⟩, ⟨PyData.keyHash P (Str.ofString "in_flight"), .str (Str.ofString "in_flight") (K 4), v4⟩, ⟨PyData.keyHash P (Str.ofString "credit"), .str (Str.ofString "credit") (K 5), v5⟩, ⟨PyData.keyHash P (Str.ofString "top_window"), .str (Str.ofString "top_window") (K 6), v6⟩, ⟨PyData.keyHash P (Str.ofString "prior_window"), .str (Str.ofString "prior_window") (K 7), v7⟩, ⟨PyData.keyHash P (Str.ofString "begun_at"), .str (Str.ofString "begun_at") (K 8), v8⟩, ⟨PyData.keyHash P (Str.ofString "idle_since"), .str (Str.ofString "idle_since") (K 9), v9⟩, ⟨PyData.keyHash P (Str.ofString "meets_after"), .str (Str.ofString "meets_after") (K 10), v10⟩, ⟨PyData.keyHash P (Str.ofString "friendly"), .str (Str.ofString "friendly") (K 11), v11⟩, ⟨PyData.keyHash P (Str.ofString "friendly_credit"), .str (Str.ofString "friendly_credit") (K 12), v12⟩]; News h₀ L h9 ((x, ox) :: (d, dictOf es 13) :: rest) → wpAny (model prog w) A (call (.ref f) [.ref x, .int sent ts] []) (BoolP h₀ L m ((x, ox) :: (d, dictOf [⟨PyData.keyHash P (Str.ofString "datagram"), .str (Str.ofString "datagram") (K 0), v0⟩, ⟨PyData.keyHash P (Str.ofString "window"), .str (Str.ofString "window") (K 1), v1⟩, ⟨PyData.keyHash P (Str.ofString "threshold"), .str (Str.ofString "threshold") (K 2), v2⟩, ⟨PyData.keyHash P (Str.ofString "recovery_at"), .str (Str.ofString "recovery_at") (K 3), (.none)⟩, ⟨PyData.keyHash P (Str.ofString "in_flight"), .str (Str.ofString "in_flight") (K 4), v4⟩, ⟨PyData.keyHash P (Str.ofString "credit"), .str (Str.ofString "credit") (K 5), v5⟩, ⟨PyData.keyHash P (Str.ofString "top_window"), .str (Str.ofString "top_window") (K 6), v6⟩, ⟨PyData.keyHash P (Str.ofString "prior_window"), .str (Str.ofString "prior_window") (K 7), v7⟩, ⟨PyData.keyHash P (Str.ofString "begun_at"), .str (Str.ofString "begun_at") (K 8), v8⟩, ⟨PyData.keyHash P (Str.ofString "idle_since"), .str (Str.ofString "idle_since") (K 9), v9⟩, ⟨PyData.keyHash P (Str.ofString "meets_after"), .str (Str.ofString "meets_after") (K 10), v10⟩, ⟨PyData.keyHash P (Str.ofString "friendly"), .str (Str.ofString "friendly") (K 11), v11⟩, ⟨PyData.keyHash P (Str.ofString "friendly_credit"), .str (Str.ofString "friendly_credit") (K 12), v12⟩] 13) :: rest) false s) E s)
    (h1 : ∀ t, InRec → now < sent → Fr h₀ L h9 m → let es : List DictEntry := [⟨PyData.keyHash P (Str.ofString "datagram"), .str (Str.ofString "datagram") (K 0), v0⟩, ⟨PyData.keyHash P (Str.ofString "window"), .str (Str.ofString "window") (K 1), v1⟩, ⟨PyData.keyHash P (Str.ofString "threshold"), .str (Str.ofString "threshold") (K 2), v2⟩, ⟨PyData.keyHash P (Str.ofString "recovery_at"), .str (Str.ofString "recovery_at") (K 3), (.int now t)⟩, ⟨PyData.keyHash P (Str.ofString "in_flight"), .str (Str.ofString "in_flight") (K 4), v4⟩, ⟨PyData.keyHash P (Str.ofString "credit"), .str (Str.ofString "credit") (K 5), v5⟩, ⟨PyData.keyHash P (Str.ofString "top_window"), .str (Str.ofString "top_window") (K 6), v6⟩, ⟨PyData.keyHash P (Str.ofString "prior_window"), .str (Str.ofString "prior_window") (K 7), v7⟩, ⟨PyData.keyHash P (Str.ofString "begun_at"), .str (Str.ofString "begun_at") (K 8), v8⟩, ⟨PyData.keyHash P (Str.ofString "idle_since"), .str (Str.ofString "idle_since") (K 9), v9⟩, ⟨PyData.keyHash P (Str.ofString "meets_after"), .str (Str.ofString "meets_after") (K 10), v10⟩, ⟨PyData.keyHash P (Str.ofString "friendly"), .str (Str.ofString "friendly") (K 11), v11⟩, ⟨PyData.keyHash P (Str.ofString "friendly_credit"), .str (Str.ofString "friendly_credit") (K 12), v12⟩]; News h₀ L h9 ((x, ox) :: (d, dictOf es 13) :: rest) → wpAny (model prog w) A (call (.ref f) [.ref x, .int sent ts] []) (BoolP h₀ L m ((x, ox) :: (d, dictOf [⟨PyData.keyHash P (Str.ofString "datagram"), .str (Str.ofString "datagram") (K 0), v0⟩, ⟨PyData.keyHash P (Str.ofString "window"), .str (Str.ofString "window") (K 1), v1⟩, ⟨PyData.keyHash P (Str.ofString "threshold"), .str (Str.ofString "threshold") (K 2), v2⟩, ⟨PyData.keyHash P (Str.ofString "recovery_at"), .str (Str.ofString "recovery_at") (K 3), (.int now t)⟩, ⟨PyData.keyHash P (Str.ofString "in_flight"), .str (Str.ofString "in_flight") (K 4), v4⟩, ⟨PyData.keyHash P (Str.ofString "credit"), .str (Str.ofString "credit") (K 5), v5⟩, ⟨PyData.keyHash P (Str.ofString "top_window"), .str (Str.ofString "top_window") (K 6), v6⟩, ⟨PyData.keyHash P (Str.ofString "prior_window"), .str (Str.ofString "prior_window") (K 7), v7⟩, ⟨PyData.keyHash P (Str.ofString "begun_at"), .str (Str.ofString "begun_at") (K 8), v8⟩, ⟨PyData.keyHash P (Str.ofString "idle_since"), .str (Str.ofString "idle_since") (K 9), v9⟩, ⟨PyData.keyHash P (Str.ofString "meets_after"), .str (Str.ofString "meets_after") (K 10), v10⟩, ⟨PyData.keyHash P (Str.ofString "friendly"), .str (Str.ofString "friendly") (K 11), v11⟩, ⟨PyData.keyHash P (Str.ofString "friendly_credit"), .str (Str.ofString "friendly_credit") (K 12), v12⟩] 13) :: rest) false s) E s)
    (h2 : ∀ (h : Heap) (tk : Nat), Fr h₀ L h m → let es : List DictEntry := [⟨PyData.keyHash P (Str.ofString "datagram"), .str (Str.ofString "datagram") (K 0), v0⟩, ⟨PyData.keyHash P (Str.ofString "window"), .str (Str.ofString "window") (K 1), v1⟩, ⟨PyData.keyHash P (Str.ofString "threshold"), .str (Str.ofString "threshold") (K 2), v2⟩, ⟨PyData.keyHash P (Str.ofString "recovery_at"), .str (Str.ofString "recovery_at") (K 3), (RA)⟩, ⟨PyData.keyHash P (Str.ofString "in_flight"), .str (Str.ofString "in_flight") (K 4), v4⟩, ⟨PyData.keyHash P (Str.ofString "credit"), .str (Str.ofString "credit") (K 5), v5⟩, ⟨PyData.keyHash P (Str.ofString "top_window"), .str (Str.ofString "top_window") (K 6), v6⟩, ⟨PyData.keyHash P (Str.ofString "prior_window"), .str (Str.ofString "prior_window") (K 7), v7⟩, ⟨PyData.keyHash P (Str.ofString "begun_at"), .str (Str.ofString "begun_at") (K 8), v8⟩, ⟨PyData.keyHash P (Str.ofString "idle_since"), .str (Str.ofString "idle_since") (K 9), v9⟩, ⟨PyData.keyHash P (Str.ofString "meets_after"), .str (Str.ofString "meets_after") (K 10), v10⟩, ⟨PyData.keyHash P (Str.ofString "friendly"), .str (Str.ofString "friendly") (K 11), v11⟩, ⟨PyData.keyHash P (Str.ofString "friendly_credit"), .str (Str.ofString "friendly_credit") (K 12), v12⟩]; News h₀ L h ((x, ox) :: (d, dictOf es 13) :: rest) → Q (.bool false) { s with heap := h, toks := tk }) :
    wpAny (model prog w) A (call (.ref f) [.ref x, .int sent ts] []) Q E s :=
  rec_gen (led := fun RA => (x, ox) :: (d, dictOf [⟨PyData.keyHash P (Str.ofString "datagram"), .str (Str.ofString "datagram") (K 0), v0⟩, ⟨PyData.keyHash P (Str.ofString "window"), .str (Str.ofString "window") (K 1), v1⟩, ⟨PyData.keyHash P (Str.ofString "threshold"), .str (Str.ofString "threshold") (K 2), v2⟩, ⟨PyData.keyHash P (Str.ofString "recovery_at"), .str (Str.ofString "recovery_at") (K 3), (RA)⟩, ⟨PyData.keyHash P (Str.ofString "in_flight"), .str (Str.ofString "in_flight") (K 4), v4⟩, ⟨PyData.keyHash P (Str.ofString "credit"), .str (Str.ofString "credit") (K 5), v5⟩, ⟨PyData.keyHash P (Str.ofString "top_window"), .str (Str.ofString "top_window") (K 6), v6⟩, ⟨PyData.keyHash P (Str.ofString "prior_window"), .str (Str.ofString "prior_window") (K 7), v7⟩, ⟨PyData.keyHash P (Str.ofString "begun_at"), .str (Str.ofString "begun_at") (K 8), v8⟩, ⟨PyData.keyHash P (Str.ofString "idle_since"), .str (Str.ofString "idle_since") (K 9), v9⟩, ⟨PyData.keyHash P (Str.ofString "meets_after"), .str (Str.ofString "meets_after") (K 10), v10⟩, ⟨PyData.keyHash P (Str.ofString "friendly"), .str (Str.ofString "friendly") (K 11), v11⟩, ⟨PyData.keyHash P (Str.ofString "friendly_credit"), .str (Str.ofString "friendly_credit") (K 12), v12⟩] 13) :: rest) hra F9 N hs h0 h1 h2
/-- behind the choice of the top -/
inductive TopP (h₀ : Heap) (L : Addr) (m : Str → Option Value) (P : Params) (K : Nat → Tok) (x d : Addr) (ox : Obj) (v0 v1 v2 v3 v4 v5 v7 v8 v9 v10 v11 v12 : Value) (rest : List (Addr × Obj)) (s : Shared) : Flow → Shared → Prop
  | mk (T : Int) (tT : Tok) (h : Heap) (tk : Nat) (h1 : 0 ≤ T) (h2 : T ≤ 16800) (F : Fr h₀ L h m) (N : News h₀ L h ((x, ox) :: (d, dictOf [⟨PyData.keyHash P (Str.ofString "datagram"), .str (Str.ofString "datagram") (K 0), v0⟩, ⟨PyData.keyHash P (Str.ofString "window"), .str (Str.ofString "window") (K 1), v1⟩, ⟨PyData.keyHash P (Str.ofString "threshold"), .str (Str.ofString "threshold") (K 2), v2⟩, ⟨PyData.keyHash P (Str.ofString "recovery_at"), .str (Str.ofString "recovery_at") (K 3), v3⟩, ⟨PyData.keyHash P (Str.ofString "in_flight"), .str (Str.ofString "in_flight") (K 4), v4⟩, ⟨PyData.keyHash P (Str.ofString "credit"), .str (Str.ofString "credit") (K 5), v5⟩, ⟨PyData.keyHash P (Str.ofString "top_window"), .str (Str.ofString "top_window") (K 6), (.int T tT)⟩, ⟨PyData.keyHash P (Str.ofString "prior_window"), .str (Str.ofString "prior_window") (K 7), v7⟩, ⟨PyData.keyHash P (Str.ofString "begun_at"), .str (Str.ofString "begun_at") (K 8), v8⟩, ⟨PyData.keyHash P (Str.ofString "idle_since"), .str (Str.ofString "idle_since") (K 9), v9⟩, ⟨PyData.keyHash P (Str.ofString "meets_after"), .str (Str.ofString "meets_after") (K 10), v10⟩, ⟨PyData.keyHash P (Str.ofString "friendly"), .str (Str.ofString "friendly") (K 11), v11⟩, ⟨PyData.keyHash P (Str.ofString "friendly_credit"), .str (Str.ofString "friendly_credit") (K 12), v12⟩] 13) :: rest)) : TopP h₀ L m P K x d ox v0 v1 v2 v3 v4 v5 v7 v8 v9 v10 v11 v12 rest s .next { s with heap := h, toks := tk }
theorem top_end {x d : Addr} {m : Str → Option Value} {ox : Obj} {v0 v1 v2 v3 v4 v5 v7 v8 v9 v10 v11 v12 : Value} {rest news' : List (Addr × Obj)} {f : Flow} {s' : Shared} {T : Int} {tT : Tok} {h : Heap} {tk : Nat} (hf : f = .next) (hs : s' = { s with heap := h, toks := tk }) (F : Fr h₀ L h m)
    (N : News h₀ L h news') (hn : ∀ p ∈ ((x, ox) :: (d, dictOf [⟨PyData.keyHash P (Str.ofString "datagram"), .str (Str.ofString "datagram") (K 0), v0⟩, ⟨PyData.keyHash P (Str.ofString "window"), .str (Str.ofString "window") (K 1), v1⟩, ⟨PyData.keyHash P (Str.ofString "threshold"), .str (Str.ofString "threshold") (K 2), v2⟩, ⟨PyData.keyHash P (Str.ofString "recovery_at"), .str (Str.ofString "recovery_at") (K 3), v3⟩, ⟨PyData.keyHash P (Str.ofString "in_flight"), .str (Str.ofString "in_flight") (K 4), v4⟩, ⟨PyData.keyHash P (Str.ofString "credit"), .str (Str.ofString "credit") (K 5), v5⟩, ⟨PyData.keyHash P (Str.ofString "top_window"), .str (Str.ofString "top_window") (K 6), (.int T tT)⟩, ⟨PyData.keyHash P (Str.ofString "prior_window"), .str (Str.ofString "prior_window") (K 7), v7⟩, ⟨PyData.keyHash P (Str.ofString "begun_at"), .str (Str.ofString "begun_at") (K 8), v8⟩, ⟨PyData.keyHash P (Str.ofString "idle_since"), .str (Str.ofString "idle_since") (K 9), v9⟩, ⟨PyData.keyHash P (Str.ofString "meets_after"), .str (Str.ofString "meets_after") (K 10), v10⟩, ⟨PyData.keyHash P (Str.ofString "friendly"), .str (Str.ofString "friendly") (K 11), v11⟩, ⟨PyData.keyHash P (Str.ofString "friendly_credit"), .str (Str.ofString "friendly_credit") (K 12), v12⟩] 13) :: rest), p ∈ news') (h1 : 0 ≤ T) (h2 : T ≤ 16800) : TopP h₀ L m P K x d ox v0 v1 v2 v3 v4 v5 v7 v8 v9 v10 v11 v12 rest s f s' := by
  subst hf
  subst hs
  exact .mk T tT h tk h1 h2 F (fun p hp => N p (hn p hp))
theorem top_cut {e1 e2 : Expr} {a1 a2 : Str} {q1 q2 q3 : Pos} {body orelse : List Stmt} {pos : Pos} {x d : Addr} {m : Str → Option Value} {ox : Obj} {v0 v1 v2 v3 v4 v5 v6 v7 v8 v9 v10 v11 v12 : Value} {rest : List (Addr × Obj)} {h9 : Heap} (F9 : Fr h₀ L h9 m) (N9 : News h₀ L h9 ((x, ox) :: (d, dictOf [⟨PyData.keyHash P (Str.ofString "datagram"), .str (Str.ofString "datagram") (K 0), v0⟩, ⟨PyData.keyHash P (Str.ofString "window"), .str (Str.ofString "window") (K 1), v1⟩, ⟨PyData.keyHash P (Str.ofString "threshold"), .str (Str.ofString "threshold") (K 2), v2⟩, ⟨PyData.keyHash P (Str.ofString "recovery_at"), .str (Str.ofString "recovery_at") (K 3), v3⟩, ⟨PyData.keyHash P (Str.ofString "in_flight"), .str (Str.ofString "in_flight") (K 4), v4⟩, ⟨PyData.keyHash P (Str.ofString "credit"), .str (Str.ofString "credit") (K 5), v5⟩, ⟨PyData.keyHash P (Str.ofString "top_window"), .str (Str.ofString "top_window") (K 6), v6⟩, ⟨PyData.keyHash P (Str.ofString "prior_window"), .str (Str.ofString "prior_window") (K 7), v7⟩, ⟨PyData.keyHash P (Str.ofString "begun_at"), .str (Str.ofString "begun_at") (K 8), v8⟩, ⟨PyData.keyHash P (Str.ofString "idle_since"), .str (Str.ofString "idle_since") (K 9), v9⟩, ⟨PyData.keyHash P (Str.ofString "meets_after"), .str (Str.ofString "meets_after") (K 10), v10⟩, ⟨PyData.keyHash P (Str.ofString "friendly"), .str (Str.ofString "friendly") (K 11), v11⟩, ⟨PyData.keyHash P (Str.ofString "friendly_credit"), .str (Str.ofString "friendly_credit") (K 12), v12⟩] 13) :: rest))
    (h1 : InTop → Fr h₀ L h9 m → let es : List DictEntry := [⟨PyData.keyHash P (Str.ofString "datagram"), .str (Str.ofString "datagram") (K 0), v0⟩, ⟨PyData.keyHash P (Str.ofString "window"), .str (Str.ofString "window") (K 1), v1⟩, ⟨PyData.keyHash P (Str.ofString "threshold"), .str (Str.ofString "threshold") (K 2), v2⟩, ⟨PyData.keyHash P (Str.ofString "recovery_at"), .str (Str.ofString "recovery_at") (K 3), v3⟩, ⟨PyData.keyHash P (Str.ofString "in_flight"), .str (Str.ofString "in_flight") (K 4), v4⟩, ⟨PyData.keyHash P (Str.ofString "credit"), .str (Str.ofString "credit") (K 5), v5⟩, ⟨PyData.keyHash P (Str.ofString "top_window"), .str (Str.ofString "top_window") (K 6), v6⟩, ⟨PyData.keyHash P (Str.ofString "prior_window"), .str (Str.ofString "prior_window") (K 7), v7⟩, ⟨PyData.keyHash P (Str.ofString "begun_at"), .str (Str.ofString "begun_at") (K 8), v8⟩, ⟨PyData.keyHash P (Str.ofString "idle_since"), .str (Str.ofString "idle_since") (K 9), v9⟩, ⟨PyData.keyHash P (Str.ofString "meets_after"), .str (Str.ofString "meets_after") (K 10), v10⟩, ⟨PyData.keyHash P (Str.ofString "friendly"), .str (Str.ofString "friendly") (K 11), v11⟩, ⟨PyData.keyHash P (Str.ofString "friendly_credit"), .str (Str.ofString "friendly_credit") (K 12), v12⟩]; News h₀ L h9 ((x, ox) :: (d, dictOf es 13) :: rest) → wpAny (model prog w) A (exec (.If (.Compare (.Attribute e1 a1 q1) [.Lt] [.Attribute e2 a2 q2] q3) body orelse pos) env) (TopP h₀ L m P K x d ox v0 v1 v2 v3 v4 v5 v7 v8 v9 v10 v11 v12 rest s) E s)
    (h2 : ∀ (T : Int) (tT : Tok) (h : Heap) (tk : Nat), 0 ≤ T → T ≤ 16800 → Fr h₀ L h m → let es : List DictEntry := [⟨PyData.keyHash P (Str.ofString "datagram"), .str (Str.ofString "datagram") (K 0), v0⟩, ⟨PyData.keyHash P (Str.ofString "window"), .str (Str.ofString "window") (K 1), v1⟩, ⟨PyData.keyHash P (Str.ofString "threshold"), .str (Str.ofString "threshold") (K 2), v2⟩, ⟨PyData.keyHash P (Str.ofString "recovery_at"), .str (Str.ofString "recovery_at") (K 3), v3⟩, ⟨PyData.keyHash P (Str.ofString "in_flight"), .str (Str.ofString "in_flight") (K 4), v4⟩, ⟨PyData.keyHash P (Str.ofString "credit"), .str (Str.ofString "credit") (K 5), v5⟩, ⟨PyData.keyHash P (Str.ofString "top_window"), .str (Str.ofString "top_window") (K 6), (.int T tT)⟩, ⟨PyData.keyHash P (Str.ofString "prior_window"), .str (Str.ofString "prior_window") (K 7), v7⟩, ⟨PyData.keyHash P (Str.ofString "begun_at"), .str (Str.ofString "begun_at") (K 8), v8⟩, ⟨PyData.keyHash P (Str.ofString "idle_since"), .str (Str.ofString "idle_since") (K 9), v9⟩, ⟨PyData.keyHash P (Str.ofString "meets_after"), .str (Str.ofString "meets_after") (K 10), v10⟩, ⟨PyData.keyHash P (Str.ofString "friendly"), .str (Str.ofString "friendly") (K 11), v11⟩, ⟨PyData.keyHash P (Str.ofString "friendly_credit"), .str (Str.ofString "friendly_credit") (K 12), v12⟩]; News h₀ L h ((x, ox) :: (d, dictOf es 13) :: rest) → Q .next { s with heap := h, toks := tk }) :
    wpAny (model prog w) A (exec (.If (.Compare (.Attribute e1 a1 q1) [.Lt] [.Attribute e2 a2 q2] q3) body orelse pos) env) Q E s := by
  refine wpAny_mono (h1 ⟨trivial⟩ F9 N9) (fun v s₂ hq => ?_) fun _ _ h => h
  obtain ⟨T, tT, h, tk, g1, g2, F', N'⟩ := hq
  exact h2 T tT h tk g1 g2 F' N'

structure St2 where
  (W : Int) (tW : Tok) (TH RA : Value) (C : Int) (tC : Tok) (T : Int) (tT : Tok) (Pw : Int) (tP : Tok) (now : Int) (tn : Tok)
noncomputable def Led2 (x d l D : Addr) (ox ol oD : Obj) (P : Params) (K : Nat → Tok) (v0 v4 v10 v11 v12 : Value) (c : St2) : List (Addr × Obj) := [(x, ox), (d, dictOf [⟨PyData.keyHash P (Str.ofString "datagram"), .str (Str.ofString "datagram") (K 0), v0⟩, ⟨PyData.keyHash P (Str.ofString "window"), .str (Str.ofString "window") (K 1), (.int c.W c.tW)⟩, ⟨PyData.keyHash P (Str.ofString "threshold"), .str (Str.ofString "threshold") (K 2), c.TH⟩, ⟨PyData.keyHash P (Str.ofString "recovery_at"), .str (Str.ofString "recovery_at") (K 3), c.RA⟩, ⟨PyData.keyHash P (Str.ofString "in_flight"), .str (Str.ofString "in_flight") (K 4), v4⟩, ⟨PyData.keyHash P (Str.ofString "credit"), .str (Str.ofString "credit") (K 5), (.int c.C c.tC)⟩, ⟨PyData.keyHash P (Str.ofString "top_window"), .str (Str.ofString "top_window") (K 6), (.int c.T c.tT)⟩, ⟨PyData.keyHash P (Str.ofString "prior_window"), .str (Str.ofString "prior_window") (K 7), (.int c.Pw c.tP)⟩, ⟨PyData.keyHash P (Str.ofString "begun_at"), .str (Str.ofString "begun_at") (K 8), .none⟩, ⟨PyData.keyHash P (Str.ofString "idle_since"), .str (Str.ofString "idle_since") (K 9), .none⟩, ⟨PyData.keyHash P (Str.ofString "meets_after"), .str (Str.ofString "meets_after") (K 10), v10⟩, ⟨PyData.keyHash P (Str.ofString "friendly"), .str (Str.ofString "friendly") (K 11), v11⟩, ⟨PyData.keyHash P (Str.ofString "friendly_credit"), .str (Str.ofString "friendly_credit") (K 12), v12⟩] 13), (l, ol), (D, oD)]
def J2 (n : Nat) (c : St2) : Prop := 2400 ≤ c.W ∧ c.W ≤ 16800 ∧ 0 ≤ c.T ∧ c.T ≤ 16800 ∧ c.C = 0 ∧ c.now = 10 + 10 * (n : Int) ∧ RecOk c.now c.RA ∧ (n = 0 ∨ (0 < n ∧ ∃ t t', c.TH = .int c.W t ∧ c.RA = .int c.now t'))
theorem j2_end {n : Nat} {W : Int} {tW t t' tC tT tP tn : Tok} {C T Pw now : Int} (h1 : 2400 ≤ W) (h2 : W ≤ 16800) (h3 : 0 ≤ T) (h4 : T ≤ 16800) (h5 : C = 0) (h6 : now = 10 + 10 * ((n + 1 : Nat) : Int)) :
    J2 (n + 1) ⟨W, tW, .int W t, .int now t', C, tC, T, tT, Pw, tP, now, tn⟩ := ⟨h1, h2, h3, h4, h5, h6, .inr ⟨t', rfl⟩, .inr ⟨Nat.succ_pos n, t, t', rfl, rfl⟩⟩
theorem loop2 {x d r : Addr} {ox : Obj} {l D : Addr} {ol oD : Obj} {v0 v4 v10 v11 v12 TH0 : Value} {W0 : Int} {tW tC tT tP tn : Tok} {b₀ : Int} {t₀ u₀ w₀ : Tok} {m₀ : Str → Option Value}
    (hL : env.locals = L) (hh : A.handled = none) (hr : IsRange s.heap r 0 b₀ 1 t₀ u₀ w₀) (hb0 : 1 ≤ b₀) (hb : b₀ < 7) (hW1 : 2400 ≤ W0) (hW2 : W0 ≤ 16800) (F : Fr h₀ L s.heap m₀)
    (N : News h₀ L s.heap [(x, ox), (d, dictOf [⟨PyData.keyHash P (Str.ofString "datagram"), .str (Str.ofString "datagram") (K 0), v0⟩, ⟨PyData.keyHash P (Str.ofString "window"), .str (Str.ofString "window") (K 1), (.int W0 tW)⟩, ⟨PyData.keyHash P (Str.ofString "threshold"), .str (Str.ofString "threshold") (K 2), TH0⟩, ⟨PyData.keyHash P (Str.ofString "recovery_at"), .str (Str.ofString "recovery_at") (K 3), .none⟩, ⟨PyData.keyHash P (Str.ofString "in_flight"), .str (Str.ofString "in_flight") (K 4), v4⟩, ⟨PyData.keyHash P (Str.ofString "credit"), .str (Str.ofString "credit") (K 5), (.int 0 tC)⟩, ⟨PyData.keyHash P (Str.ofString "top_window"), .str (Str.ofString "top_window") (K 6), (.int 0 tT)⟩, ⟨PyData.keyHash P (Str.ofString "prior_window"), .str (Str.ofString "prior_window") (K 7), (.int 0 tP)⟩, ⟨PyData.keyHash P (Str.ofString "begun_at"), .str (Str.ofString "begun_at") (K 8), .none⟩, ⟨PyData.keyHash P (Str.ofString "idle_since"), .str (Str.ofString "idle_since") (K 9), .none⟩, ⟨PyData.keyHash P (Str.ofString "meets_after"), .str (Str.ofString "meets_after") (K 10), v10⟩, ⟨PyData.keyHash P (Str.ofString "friendly"), .str (Str.ofString "friendly") (K 11), v11⟩, ⟨PyData.keyHash P (Str.ofString "friendly_credit"), .str (Str.ofString "friendly_credit") (K 12), v12⟩] 13), (l, ol), (D, oD)])
    (hnow : m₀ (Str.ofString "now") = some (.int 10 tn))
    (turn : ∀ (ol oD : Obj) (v4 v10 v11 v12 : Value) (n : Nat) (W : Int) (tW : Tok) (TH RA : Value) (tC : Tok) (T : Int) (tT : Tok) (Pw : Int) (tP : Tok) (now : Int) (tn : Tok) (k : Int) (t : Tok) (u : Str → Option Value) (h : Heap) (tk : Nat) (own : List (Addr × Obj)), KstMark → 2400 ≤ W → W ≤ 16800 → 0 ≤ T → T ≤ 16800 → now = 10 + 10 * (n : Int) → (n : Int) < 7 → 0 ≤ (W * 7).fdiv 10 → (W * 7).fdiv 10 ≤ W → 0 ≤ (W * (10 + 7)).fdiv (2 * 10) → (W * (10 + 7)).fdiv (2 * 10) ≤ W → RecOk now RA → OwnOff own [x, d, l, D] →
      Fr h₀ L h (fun y => if y = xv then some (.int k t) else if y = Str.ofString "now" then some (.int now tn) else if ([Str.ofString "ahead"] : List Str).contains y then u y else m₀ y) →
      let es : List DictEntry := [⟨PyData.keyHash P (Str.ofString "datagram"), .str (Str.ofString "datagram") (K 0), v0⟩, ⟨PyData.keyHash P (Str.ofString "window"), .str (Str.ofString "window") (K 1), (.int W tW)⟩, ⟨PyData.keyHash P (Str.ofString "threshold"), .str (Str.ofString "threshold") (K 2), TH⟩, ⟨PyData.keyHash P (Str.ofString "recovery_at"), .str (Str.ofString "recovery_at") (K 3), RA⟩, ⟨PyData.keyHash P (Str.ofString "in_flight"), .str (Str.ofString "in_flight") (K 4), v4⟩, ⟨PyData.keyHash P (Str.ofString "credit"), .str (Str.ofString "credit") (K 5), (.int 0 tC)⟩, ⟨PyData.keyHash P (Str.ofString "top_window"), .str (Str.ofString "top_window") (K 6), (.int T tT)⟩, ⟨PyData.keyHash P (Str.ofString "prior_window"), .str (Str.ofString "prior_window") (K 7), (.int Pw tP)⟩, ⟨PyData.keyHash P (Str.ofString "begun_at"), .str (Str.ofString "begun_at") (K 8), .none⟩, ⟨PyData.keyHash P (Str.ofString "idle_since"), .str (Str.ofString "idle_since") (K 9), .none⟩, ⟨PyData.keyHash P (Str.ofString "meets_after"), .str (Str.ofString "meets_after") (K 10), v10⟩, ⟨PyData.keyHash P (Str.ofString "friendly"), .str (Str.ofString "friendly") (K 11), v11⟩, ⟨PyData.keyHash P (Str.ofString "friendly_credit"), .str (Str.ofString "friendly_credit") (K 12), v12⟩]; News h₀ L h ((x, ox) :: (d, dictOf es 13) :: (l, ol) :: (D, oD) :: own) →
      wpAny (model prog w) A (execs body env) (PostF h₀ L m₀ xv (Led2 x d l D ox ol oD P K v0 v4 v10 v11 v12) (fun c => [(Str.ofString "now", .int c.now c.tn)]) [Str.ofString "ahead"] (J2 (n + 1)) own { s with heap := h, toks := tk } Q) E { s with heap := h, toks := tk })
    (done : ∀ (W : Int) (tW tTH tRA tC : Tok) (T : Int) (tT : Tok) (Pw : Int) (tP : Tok) (now : Int) (tn : Tok) (u : Str → Option Value) (h : Heap) (tk : Nat), 2400 ≤ W → W ≤ 16800 → 0 ≤ T → T ≤ 16800 → 20 ≤ now → now ≤ 70 →
      Fr h₀ L h (fun y => if y = xv then u y else if y = Str.ofString "now" then some (.int now tn) else if ([Str.ofString "ahead"] : List Str).contains y then u y else m₀ y) →
      let es : List DictEntry := [⟨PyData.keyHash P (Str.ofString "datagram"), .str (Str.ofString "datagram") (K 0), v0⟩, ⟨PyData.keyHash P (Str.ofString "window"), .str (Str.ofString "window") (K 1), (.int W tW)⟩, ⟨PyData.keyHash P (Str.ofString "threshold"), .str (Str.ofString "threshold") (K 2), (.int W tTH)⟩, ⟨PyData.keyHash P (Str.ofString "recovery_at"), .str (Str.ofString "recovery_at") (K 3), (.int now tRA)⟩, ⟨PyData.keyHash P (Str.ofString "in_flight"), .str (Str.ofString "in_flight") (K 4), v4⟩, ⟨PyData.keyHash P (Str.ofString "credit"), .str (Str.ofString "credit") (K 5), (.int 0 tC)⟩, ⟨PyData.keyHash P (Str.ofString "top_window"), .str (Str.ofString "top_window") (K 6), (.int T tT)⟩, ⟨PyData.keyHash P (Str.ofString "prior_window"), .str (Str.ofString "prior_window") (K 7), (.int Pw tP)⟩, ⟨PyData.keyHash P (Str.ofString "begun_at"), .str (Str.ofString "begun_at") (K 8), .none⟩, ⟨PyData.keyHash P (Str.ofString "idle_since"), .str (Str.ofString "idle_since") (K 9), .none⟩, ⟨PyData.keyHash P (Str.ofString "meets_after"), .str (Str.ofString "meets_after") (K 10), v10⟩, ⟨PyData.keyHash P (Str.ofString "friendly"), .str (Str.ofString "friendly") (K 11), v11⟩, ⟨PyData.keyHash P (Str.ofString "friendly_credit"), .str (Str.ofString "friendly_credit") (K 12), v12⟩]; News h₀ L h [(x, ox), (d, dictOf es 13), (l, ol), (D, oD)] →
      Q .next { s with heap := h, toks := tk }) :
    wpAny (model prog w) A (pyIter (.ref r)) (fun it s₂ => LoopAtV prog w A h₀ env xv body Q E it s₂) E s := by
  refine loopF (σ := St2) (Led2 x d l D ox ol oD P K v0 v4 v10 v11 v12) (fun c => [(Str.ofString "now", .int c.now c.tn)]) [Str.ofString "ahead"] J2 ⟨W0, tW, TH0, .none, 0, tC, 0, tT, 0, tP, 10, tn⟩ [x, d, l, D] hL hh hr (by omega) (by omega) F N
    (List.forall_mem_cons.mpr ⟨hnow, List.forall_mem_nil _⟩) ⟨hW1, hW2, Int.le_refl 0, show (0 : Int) ≤ 16800 by decide, rfl, rfl, .inl rfl, .inl rfl⟩ (fun _ => rfl) ?_ ?_
  · rintro ⟨W, tW, TH, RA, C, tC, T, tT, Pw, tP, now, tn⟩ n k t u h tk own M hn ⟨h1, h2, h3, h4, h5, h6, hr, _⟩ hoff F₁ N₁
    dsimp only [kstB] at h1 h2 h3 h4 h5 h6 hr F₁ N₁
    subst h5
    exact turn ol oD v4 v10 v11 v12 n W tW TH RA tC T tT Pw tP now tn k t u h tk own M h1 h2 h3 h4 h6 (by omega) (fdiv_nn (by omega) (by decide)) (fdiv_le (by decide) (by omega)) (fdiv_nn (by omega) (by decide)) (fdiv_le (by decide) (by omega)) hr hoff F₁ N₁
  · rintro ⟨W, tW, TH, RA, C, tC, T, tT, Pw, tP, now, tn⟩ n u h tk hn ⟨h1, h2, h3, h4, h5, h6, _, hv⟩ F₁ N₁
    dsimp only [kstB] at h1 h2 h3 h4 h5 h6 hv F₁ N₁
    subst h5
    rcases hv with h0 | ⟨h0, t1, t2, e1, e2⟩
    · omega
    · subst e1
      subst e2
      exact done W tW t1 t2 tC T tT Pw tP now tn u h tk h1 h2 h3 h4 (by omega) (by omega) F₁ N₁

end
end Mine
end
section
open PySem PySem.W PyProof.Rows PySem.Calls
namespace Mine
section
variable {prog : Program} {w : World} {A : Around} {E : Value → Shared → Prop} {Q : Flow → Shared → Prop} {s : Shared} {env : Env} {h₀ : Heap} {L : Addr} {P : Params} {K : Nat → Tok} {xv : Str} {body : List Stmt}

set_option genInjectivity false
set_option genSizeOf false
structure St3 where
  (W : Int) (tW : Tok) (F : Int) (tF : Tok) (C : Int) (tC : Tok) (T : Int) (tT : Tok) (BG : Value) (M : Int) (tM : Tok) (FR : Int) (tR : Tok) (FC : Int) (tX : Tok) (cnt : Int) (tc : Tok) (ws : List Value) (kk nn : Nat) (B : Int) (tb : Tok) (LF : Int) (tl : Tok)
noncomputable def Led3 (x d l D : Addr) (ox : Obj) (P : Params) (K : Nat → Tok) (v0 bv : Value) (W0 now Pw : Int) (tTH tRA tP : Tok) (c : St3) : List (Addr × Obj) := ((x, ox) :: (d, dictOf [⟨PyData.keyHash P (Str.ofString "datagram"), .str (Str.ofString "datagram") (K 0), v0⟩, ⟨PyData.keyHash P (Str.ofString "window"), .str (Str.ofString "window") (K 1), (.int c.W c.tW)⟩, ⟨PyData.keyHash P (Str.ofString "threshold"), .str (Str.ofString "threshold") (K 2), (.int W0 tTH)⟩, ⟨PyData.keyHash P (Str.ofString "recovery_at"), .str (Str.ofString "recovery_at") (K 3), (.int now tRA)⟩, ⟨PyData.keyHash P (Str.ofString "in_flight"), .str (Str.ofString "in_flight") (K 4), (.int c.F c.tF)⟩, ⟨PyData.keyHash P (Str.ofString "credit"), .str (Str.ofString "credit") (K 5), (.int c.C c.tC)⟩, ⟨PyData.keyHash P (Str.ofString "top_window"), .str (Str.ofString "top_window") (K 6), (.int c.T c.tT)⟩, ⟨PyData.keyHash P (Str.ofString "prior_window"), .str (Str.ofString "prior_window") (K 7), (.int Pw tP)⟩, ⟨PyData.keyHash P (Str.ofString "begun_at"), .str (Str.ofString "begun_at") (K 8), c.BG⟩, ⟨PyData.keyHash P (Str.ofString "idle_since"), .str (Str.ofString "idle_since") (K 9), .none⟩, ⟨PyData.keyHash P (Str.ofString "meets_after"), .str (Str.ofString "meets_after") (K 10), (.int c.M c.tM)⟩, ⟨PyData.keyHash P (Str.ofString "friendly"), .str (Str.ofString "friendly") (K 11), (.int c.FR c.tR)⟩, ⟨PyData.keyHash P (Str.ofString "friendly_credit"), .str (Str.ofString "friendly_credit") (K 12), (.int c.FC c.tX)⟩] 13) :: (l, listOf #[.ref D, .int c.cnt c.tc, bv] c.nn) :: (D, listOf (c.ws).toArray c.kk) :: [])
/-- the growth is yet to begin, or it goes on -/
def BegOk (W0 T0 nw lf b : Int) (BG : Value) (T M FR FC : Int) : Prop := (BG = .none ∧ lf = 0 ∧ b = W0 ∧ T = T0) ∨ ((∃ t, BG = .int nw t) ∧ FR = b ∧ FC = lf ∧ 0 ≤ M ∧ M ≤ 3300000 ∧ 0 ≤ T ∧ T ≤ 16800 ∧ T + Gr M ≤ W0)
def J3 (W0 T0 now : Int) (n : Nat) (c : St3) : Prop := c.F = 0 ∧ c.C = 0 ∧ 0 ≤ c.cnt ∧ c.cnt ≤ 10 + (n : Int) ∧ (∃ ns, IntsAre c.ws ns ∧ ns.length ≤ 30) ∧ c.B = c.W ∧ 0 ≤ c.LF ∧ c.LF < 17 * c.W ∧ W0 ≤ c.W ∧ c.W ≤ W0 + 601 * (n : Int) ∧ BegOk W0 T0 (now + 9) c.LF c.W c.BG c.T c.M c.FR c.FC
theorem j3_end {W0 T0 now : Int} {n : Nat} {W F C T M FR FC cnt B LF : Int} {tW tF tC tT tB tM tR tX tc tb tl : Tok} {ws : List Value} {ns : List Int} {kk nn : Nat} (h1 : F = 0) (h2 : C = 0) (h3 : 0 ≤ cnt) (h4 : cnt ≤ 10 + ((n + 1 : Nat) : Int)) (h5 : IntsAre ws ns) (h6 : ns.length ≤ 30)
    (h7 : B = W) (h8 : 0 ≤ LF) (h9 : LF < 17 * W) (h10 : W0 ≤ W) (h11 : W ≤ W0 + 601 * ((n + 1 : Nat) : Int)) (h12 : FR = W) (h13 : FC = LF) (h14 : 0 ≤ M) (h15 : M ≤ 3300000) (h16 : 0 ≤ T) (h17 : T ≤ 16800) (h18 : T + Gr M ≤ W0) :
    J3 W0 T0 now (n + 1) ⟨W, tW, F, tF, C, tC, T, tT, .int (now + 9) tB, M, tM, FR, tR, FC, tX, cnt, tc, ws, kk, nn, B, tb, LF, tl⟩ :=
  ⟨h1, h2, h3, h4, ⟨ns, h5, h6⟩, h7, h8, h9, h10, h11, .inr ⟨⟨tB, rfl⟩, h12, h13, h14, h15, h16, h17, h18⟩⟩

theorem loop3 {x d r l D : Addr} {ox : Obj} {v0 bv : Value} {W0 T0 M0 FR0 FC0 Pw now cnt0 : Int} {tW0 tTH tRA tF0 tC0 tT0 tP tM0 tR0 tX0 tc0 tb0 tl0 tnow : Tok} {ws0 : List Value} {ns0 : List Int} {kk0 nn0 : Nat} {t₀ u₀ w₀ : Tok} {m₀ : Str → Option Value}
    (hL : env.locals = L) (hh : A.handled = none) (hr : IsRange s.heap r 0 12 1 t₀ u₀ w₀) (hW1 : 2400 ≤ W0) (hW2 : W0 ≤ 16800) (hc0 : 0 ≤ cnt0) (hc1 : cnt0 ≤ 10) (hI : IntsAre ws0 ns0) (hl : ns0.length ≤ 30) (F : Fr h₀ L s.heap m₀)
    (N : News h₀ L s.heap ((x, ox) :: (d, dictOf [⟨PyData.keyHash P (Str.ofString "datagram"), .str (Str.ofString "datagram") (K 0), v0⟩, ⟨PyData.keyHash P (Str.ofString "window"), .str (Str.ofString "window") (K 1), (.int W0 tW0)⟩, ⟨PyData.keyHash P (Str.ofString "threshold"), .str (Str.ofString "threshold") (K 2), (.int W0 tTH)⟩, ⟨PyData.keyHash P (Str.ofString "recovery_at"), .str (Str.ofString "recovery_at") (K 3), (.int now tRA)⟩, ⟨PyData.keyHash P (Str.ofString "in_flight"), .str (Str.ofString "in_flight") (K 4), (.int 0 tF0)⟩, ⟨PyData.keyHash P (Str.ofString "credit"), .str (Str.ofString "credit") (K 5), (.int 0 tC0)⟩, ⟨PyData.keyHash P (Str.ofString "top_window"), .str (Str.ofString "top_window") (K 6), (.int T0 tT0)⟩, ⟨PyData.keyHash P (Str.ofString "prior_window"), .str (Str.ofString "prior_window") (K 7), (.int Pw tP)⟩, ⟨PyData.keyHash P (Str.ofString "begun_at"), .str (Str.ofString "begun_at") (K 8), .none⟩, ⟨PyData.keyHash P (Str.ofString "idle_since"), .str (Str.ofString "idle_since") (K 9), .none⟩, ⟨PyData.keyHash P (Str.ofString "meets_after"), .str (Str.ofString "meets_after") (K 10), (.int M0 tM0)⟩, ⟨PyData.keyHash P (Str.ofString "friendly"), .str (Str.ofString "friendly") (K 11), (.int FR0 tR0)⟩, ⟨PyData.keyHash P (Str.ofString "friendly_credit"), .str (Str.ofString "friendly_credit") (K 12), (.int FC0 tX0)⟩] 13) :: (l, listOf #[.ref D, .int cnt0 tc0, bv] nn0) :: (D, listOf (ws0).toArray kk0) :: []))
    (_hnow : m₀ (Str.ofString "now") = some (.int now tnow)) (hbes : m₀ (Str.ofString "beside") = some (.int W0 tb0)) (hlef : m₀ (Str.ofString "left") = some (.int 0 tl0))
    (turn : ∀ (n : Nat) (b : Int) (tW tF tC : Tok) (T : Int) (tT : Tok) (BG : Value) (M : Int) (tM : Tok) (FR : Int) (tR : Tok) (FC : Int) (tX : Tok) (lf : Int) (cnt : Int) (tc : Tok) (ws : List Value) (ns : List Int) (kk nn : Nat) (tb tl : Tok) (k : Int) (t : Tok) (u : Str → Option Value) (h : Heap) (tk : Nat) (own : List (Addr × Obj)), KstMark →
      (n : Int) < 12 → 0 ≤ cnt → cnt ≤ 10 + (n : Int) → IntsAre ws ns → ns.length ≤ 30 → 0 ≤ lf → lf < 17 * b → W0 ≤ b → b ≤ W0 + 601 * (n : Int) → BegOk W0 T0 (now + 9) lf b BG T M FR FC → OwnOff own [x, d, l, D] →
      Fr h₀ L h (fun y => if y = xv then some (.int k t) else if y = Str.ofString "beside" then some (.int b tb) else if y = Str.ofString "left" then some (.int lf tl) else if ([Str.ofString "size", Str.ofString "ahead"] : List Str).contains y then u y else m₀ y) → let es : List DictEntry := [⟨PyData.keyHash P (Str.ofString "datagram"), .str (Str.ofString "datagram") (K 0), v0⟩, ⟨PyData.keyHash P (Str.ofString "window"), .str (Str.ofString "window") (K 1), (.int b tW)⟩, ⟨PyData.keyHash P (Str.ofString "threshold"), .str (Str.ofString "threshold") (K 2), (.int W0 tTH)⟩, ⟨PyData.keyHash P (Str.ofString "recovery_at"), .str (Str.ofString "recovery_at") (K 3), (.int now tRA)⟩, ⟨PyData.keyHash P (Str.ofString "in_flight"), .str (Str.ofString "in_flight") (K 4), (.int 0 tF)⟩, ⟨PyData.keyHash P (Str.ofString "credit"), .str (Str.ofString "credit") (K 5), (.int 0 tC)⟩, ⟨PyData.keyHash P (Str.ofString "top_window"), .str (Str.ofString "top_window") (K 6), (.int T tT)⟩, ⟨PyData.keyHash P (Str.ofString "prior_window"), .str (Str.ofString "prior_window") (K 7), (.int Pw tP)⟩, ⟨PyData.keyHash P (Str.ofString "begun_at"), .str (Str.ofString "begun_at") (K 8), BG⟩, ⟨PyData.keyHash P (Str.ofString "idle_since"), .str (Str.ofString "idle_since") (K 9), .none⟩, ⟨PyData.keyHash P (Str.ofString "meets_after"), .str (Str.ofString "meets_after") (K 10), (.int M tM)⟩, ⟨PyData.keyHash P (Str.ofString "friendly"), .str (Str.ofString "friendly") (K 11), (.int FR tR)⟩, ⟨PyData.keyHash P (Str.ofString "friendly_credit"), .str (Str.ofString "friendly_credit") (K 12), (.int FC tX)⟩]; News h₀ L h ((x, ox) :: (d, dictOf es 13) :: (l, listOf #[.ref D, .int cnt tc, bv] nn) :: (D, listOf (ws).toArray kk) :: own) →
      wpAny (model prog w) A (execs body env) (PostF h₀ L m₀ xv (Led3 x d l D ox P K v0 bv W0 now Pw tTH tRA tP) (fun c : St3 => [(Str.ofString "beside", .int c.B c.tb), (Str.ofString "left", .int c.LF c.tl)]) [Str.ofString "size", Str.ofString "ahead"] (J3 W0 T0 now (n + 1)) own { s with heap := h, toks := tk } Q) E { s with heap := h, toks := tk })
    (done : ∀ (W : Int) (tW tF : Tok) (C : Int) (tC : Tok) (T : Int) (tT : Tok) (BG : Value) (M : Int) (tM : Tok) (FR : Int) (tR : Tok) (FC : Int) (tX : Tok) (cnt : Int) (tc : Tok) (ws : List Value) (kk nn : Nat) (B : Int) (tb : Tok) (LF : Int) (tl : Tok) (u : Str → Option Value) (h : Heap) (tk : Nat),
      Fr h₀ L h (fun y => if y = xv then u y else if y = Str.ofString "beside" then some (.int B tb) else if y = Str.ofString "left" then some (.int LF tl) else if ([Str.ofString "size", Str.ofString "ahead"] : List Str).contains y then u y else m₀ y) → let es : List DictEntry := [⟨PyData.keyHash P (Str.ofString "datagram"), .str (Str.ofString "datagram") (K 0), v0⟩, ⟨PyData.keyHash P (Str.ofString "window"), .str (Str.ofString "window") (K 1), (.int W tW)⟩, ⟨PyData.keyHash P (Str.ofString "threshold"), .str (Str.ofString "threshold") (K 2), (.int W0 tTH)⟩, ⟨PyData.keyHash P (Str.ofString "recovery_at"), .str (Str.ofString "recovery_at") (K 3), (.int now tRA)⟩, ⟨PyData.keyHash P (Str.ofString "in_flight"), .str (Str.ofString "in_flight") (K 4), (.int 0 tF)⟩, ⟨PyData.keyHash P (Str.ofString "credit"), .str (Str.ofString "credit") (K 5), (.int C tC)⟩, ⟨PyData.keyHash P (Str.ofString "top_window"), .str (Str.ofString "top_window") (K 6), (.int T tT)⟩, ⟨PyData.keyHash P (Str.ofString "prior_window"), .str (Str.ofString "prior_window") (K 7), (.int Pw tP)⟩, ⟨PyData.keyHash P (Str.ofString "begun_at"), .str (Str.ofString "begun_at") (K 8), BG⟩, ⟨PyData.keyHash P (Str.ofString "idle_since"), .str (Str.ofString "idle_since") (K 9), .none⟩, ⟨PyData.keyHash P (Str.ofString "meets_after"), .str (Str.ofString "meets_after") (K 10), (.int M tM)⟩, ⟨PyData.keyHash P (Str.ofString "friendly"), .str (Str.ofString "friendly") (K 11), (.int FR tR)⟩, ⟨PyData.keyHash P (Str.ofString "friendly_credit"), .str (Str.ofString "friendly_credit") (K 12), (.int FC tX)⟩]; News h₀ L h ((x, ox) :: (d, dictOf es 13) :: (l, listOf #[.ref D, .int cnt tc, bv] nn) :: (D, listOf (ws).toArray kk) :: []) → Q .next { s with heap := h, toks := tk }) :
    wpAny (model prog w) A (pyIter (.ref r)) (fun it s₂ => LoopAtV prog w A h₀ env xv body Q E it s₂) E s := by
  refine loopF (σ := St3) (Led3 x d l D ox P K v0 bv W0 now Pw tTH tRA tP) (fun c : St3 => [(Str.ofString "beside", .int c.B c.tb), (Str.ofString "left", .int c.LF c.tl)]) [Str.ofString "size", Str.ofString "ahead"] (J3 W0 T0 now) ⟨W0, tW0, 0, tF0, 0, tC0, T0, tT0, .none, M0, tM0, FR0, tR0, FC0, tX0, cnt0, tc0, ws0, kk0, nn0, W0, tb0, 0, tl0⟩ [x, d, l, D] hL hh hr (by decide) (by decide) F N
    (List.forall_mem_cons.mpr ⟨hbes, List.forall_mem_cons.mpr ⟨hlef, List.forall_mem_nil _⟩⟩) ⟨rfl, rfl, hc0, show cnt0 ≤ 10 + ((0 : Nat) : Int) by omega, ⟨ns0, hI, hl⟩, rfl, Int.le_refl 0, show (0 : Int) < 17 * W0 by omega, Int.le_refl _, show W0 ≤ W0 + 601 * ((0 : Nat) : Int) by omega, .inl ⟨rfl, rfl, rfl, rfl⟩⟩ (fun _ => rfl) ?_ ?_
  · rintro ⟨W, tW, F, tF, C, tC, T, tT, BG, M, tM, FR, tR, FC, tX, cnt, tc, ws, kk, nn, B, tb, LF, tl⟩ n k t u h tk own MM hn ⟨h1, h2, h3, h4, ⟨ns, h5, h6⟩, h7, h8, h9, h10, h11, hv⟩ hoff F₁ N₁
    dsimp only [kstB] at h1 h2 h3 h4 h5 h6 h7 h8 h9 h10 h11 hv F₁ N₁
    subst h1
    subst h2
    subst h7
    exact turn n _ tW tF tC T tT BG M tM FR tR FC tX _ cnt tc ws ns kk nn tb tl k t u h tk own MM (by omega) h3 h4 h5 h6 h8 h9 h10 h11 hv hoff F₁ N₁
  · rintro ⟨W, tW, F, tF, C, tC, T, tT, BG, M, tM, FR, tR, FC, tX, cnt, tc, ws, kk, nn, B, tb, LF, tl⟩ n u h tk hn ⟨h1, h2, h3, h4, ⟨ns, h5, h6⟩, h7, h8, h9, h10, h11, hv⟩ F₁ N₁
    dsimp only [kstB] at h1 F₁ N₁
    subst h1
    exact done W tW tF C tC T tT BG M tM FR tR FC tX cnt tc ws kk nn B tb LF tl u h tk F₁ N₁

end
structure InAck (Pw b size : Int) : Prop where
  mark :: (one : True)
structure InShare : Prop where
  mark :: (one : True)
/-- the share of a datagram that an acknowledged window gives: 17 or 9 seventeenths -/
def ShOk (Pw b sh : Int) : Prop := (sh = 17 ∧ Pw ≤ b) ∨ (sh = 9 ∧ b < Pw)
theorem sh17 {Pw b : Int} (h : Pw ≤ b) : ShOk Pw b 17 := .inl ⟨rfl, h⟩
theorem sh9 {Pw b : Int} (h : b < Pw) : ShOk Pw b 9 := .inr ⟨rfl, h⟩
theorem sh_one {Pw b i sh : Int} (h : ShOk Pw b i) (k : ShOk Pw b sh) : i = sh :=
  h.elim (fun x => k.elim (fun y => x.1.trans y.1.symm) (fun y => absurd y.2 (Int.not_lt.mpr x.2))) (fun x => k.elim (fun y => absurd x.2 (Int.not_lt.mpr y.2)) (fun y => x.1.trans y.1.symm))
theorem sh_room {Pw b sh size : Int} (h : ShOk Pw b sh) (hs : 0 ≤ size) : 0 ≤ sh * 1200 * size ∧ sh * 1200 * size ≤ 17 * 1200 * size := by
  rcases h with ⟨e, _⟩ | ⟨e, _⟩ <;> subst e <;> omega
section
variable {prog : Program} {w : World} {A : Around} {E : Value → Shared → Prop} {s : Shared} {h₀ : Heap} {L : Addr} {m : Str → Option Value} {P : Params} {K : Nat → Tok}
theorem more_le {b lf sh size : Int} (hb : 2400 ≤ b) (hl : lf < 17 * b) (hs : 0 ≤ size) (hs2 : size ≤ 1200) (hsh : sh * 1200 * size ≤ 17 * 1200 * size) :
    (lf + sh * 1200 * size).fdiv (17 * b) ≤ 600 ∧ 0 ≤ lf + sh * 1200 * size - (lf + sh * 1200 * size).fdiv (17 * b) * 17 * b ∧ lf + sh * 1200 * size - (lf + sh * 1200 * size).fdiv (17 * b) * 17 * b < 17 * b := by
  have hd := fdiv_bounds (lf + sh * 1200 * size) (b := 17 * b) (by omega)
  have e : ∀ q : Int, q * 17 * b = 17 * b * q := fun q => by rw [Int.mul_comm (q * 17) b, Int.mul_comm q 17, ← Int.mul_assoc, Int.mul_comm b 17]
  rw [e]
  refine ⟨?_, by omega, by omega⟩
  rcases Int.lt_or_le 600 ((lf + sh * 1200 * size).fdiv (17 * b)) with hx | hx
  · exfalso
    have h1 : 17 * b * 601 ≤ 17 * b * (lf + sh * 1200 * size).fdiv (17 * b) := Int.mul_le_mul_of_nonneg_left (by omega) (by omega)
    omega
  · exact hx
/-- what an acknowledgement of size octets makes of a window b and of lf seventeenths in hand -/
def AckOk (b lf size sh W0 W F C T M FR FC : Int) : Prop :=
  F = 0 ∧ C = 0 ∧ W = b + (lf + sh * 1200 * size).fdiv (17 * b) ∧ FR = b + (lf + sh * 1200 * size).fdiv (17 * b) ∧ FC = lf + sh * 1200 * size - (lf + sh * 1200 * size).fdiv (17 * b) * 17 * b ∧ 0 ≤ M ∧ M ≤ 3300000 ∧ 0 ≤ T ∧ T ≤ 16800 ∧ T + Gr M ≤ W0
noncomputable def LedA (x d : Addr) (ox : Obj) (P : Params) (K : Nat → Tok) (v0 : Value) (W0 now Pw nw : Int) (tTH tRA tP : Tok) (p4 p5 : Addr × Obj) (rest : List (Addr × Obj)) (W F C T M FR FC : Int) (tW tF tC tT tB tM tR tX : Tok) : List (Addr × Obj) := ((x, ox) :: (d, dictOf [⟨PyData.keyHash P (Str.ofString "datagram"), .str (Str.ofString "datagram") (K 0), v0⟩, ⟨PyData.keyHash P (Str.ofString "window"), .str (Str.ofString "window") (K 1), (.int W tW)⟩, ⟨PyData.keyHash P (Str.ofString "threshold"), .str (Str.ofString "threshold") (K 2), (.int W0 tTH)⟩, ⟨PyData.keyHash P (Str.ofString "recovery_at"), .str (Str.ofString "recovery_at") (K 3), (.int now tRA)⟩, ⟨PyData.keyHash P (Str.ofString "in_flight"), .str (Str.ofString "in_flight") (K 4), (.int F tF)⟩, ⟨PyData.keyHash P (Str.ofString "credit"), .str (Str.ofString "credit") (K 5), (.int C tC)⟩, ⟨PyData.keyHash P (Str.ofString "top_window"), .str (Str.ofString "top_window") (K 6), (.int T tT)⟩, ⟨PyData.keyHash P (Str.ofString "prior_window"), .str (Str.ofString "prior_window") (K 7), (.int Pw tP)⟩, ⟨PyData.keyHash P (Str.ofString "begun_at"), .str (Str.ofString "begun_at") (K 8), (.int nw tB)⟩, ⟨PyData.keyHash P (Str.ofString "idle_since"), .str (Str.ofString "idle_since") (K 9), .none⟩, ⟨PyData.keyHash P (Str.ofString "meets_after"), .str (Str.ofString "meets_after") (K 10), (.int M tM)⟩, ⟨PyData.keyHash P (Str.ofString "friendly"), .str (Str.ofString "friendly") (K 11), (.int FR tR)⟩, ⟨PyData.keyHash P (Str.ofString "friendly_credit"), .str (Str.ofString "friendly_credit") (K 12), (.int FC tX)⟩] 13) :: p4 :: p5 :: rest)
inductive AckP (h₀ : Heap) (L : Addr) (m : Str → Option Value) (P : Params) (K : Nat → Tok) (x d : Addr) (ox : Obj) (v0 : Value) (W0 now Pw nw b lf size : Int) (tTH tRA tP : Tok) (p4 p5 : Addr × Obj) (rest : List (Addr × Obj)) (s : Shared) : Value → Shared → Prop
  | mk (sh W F C T M FR FC : Int) (tW tF tC tT tB tM tR tX : Tok) (h : Heap) (tk : Nat) (F' : Fr h₀ L h m) (N : News h₀ L h (LedA x d ox P K v0 W0 now Pw nw tTH tRA tP p4 p5 rest W F C T M FR FC tW tF tC tT tB tM tR tX)) (hsh : ShOk Pw b sh) (hok : AckOk b lf size sh W0 W F C T M FR FC) :
    AckP h₀ L m P K x d ox v0 W0 now Pw nw b lf size tTH tRA tP p4 p5 rest s .none { s with heap := h, toks := tk }
theorem ack_okA {b lf size sh W0 W F C T M FR FC : Int} (hb : 0 < b) (hX : 0 ≤ lf + sh * 1200 * size) (hF : F = 0) (hC : C = 0) (hFR : FR = b + (lf + sh * 1200 * size).fdiv (17 * b)) (hFC : FC = lf + sh * 1200 * size - (lf + sh * 1200 * size).fdiv (17 * b) * 17 * b)
    (hW : 0 ≤ (lf + sh * 1200 * size).fdiv (17 * b) → W = b + (lf + sh * 1200 * size).fdiv (17 * b)) (hM : 0 ≤ M ∧ M ≤ 3300000) (hT : 0 ≤ T ∧ T ≤ 16800) (hG : T + Gr M ≤ W0) : AckOk b lf size sh W0 W F C T M FR FC :=
  ⟨hF, hC, hW (fdiv_nn hX (by omega)), hFR, hFC, hM.1, hM.2, hT.1, hT.2, hG⟩
theorem ack_okB {b lf size sh W0 W F C T M FR FC g : Int} (hb : 0 < b) (hX : 0 ≤ lf + sh * 1200 * size) (hF : F = 0) (hC : C = 0 + (g - b) * size - (0 + (g - b) * size).fdiv b * b) (hFR : FR = b + (lf + sh * 1200 * size).fdiv (17 * b)) (hFC : FC = lf + sh * 1200 * size - (lf + sh * 1200 * size).fdiv (17 * b) * 17 * b)
    (hW : W = b + (0 + (g - b) * size).fdiv b) (hg : 0 ≤ (lf + sh * 1200 * size).fdiv (17 * b) → 0 ≤ b.fdiv 2 → g = b ∧ (lf + sh * 1200 * size).fdiv (17 * b) = 0) (hM : 0 ≤ M ∧ M ≤ 3300000) (hT : 0 ≤ T ∧ T ≤ 16800) (hG : T + Gr M ≤ W0) : AckOk b lf size sh W0 W F C T M FR FC := by
  obtain ⟨e1, e2⟩ := hg (fdiv_nn hX (by omega)) (fdiv_nn (by omega) (by decide))
  subst e1
  have z : (0 + (g - g) * size).fdiv g = 0 := by rw [Int.sub_self, Int.zero_mul, Int.add_zero, Int.zero_fdiv]
  rw [z] at hC hW
  rw [Int.sub_self, Int.zero_mul] at hC
  exact ⟨hF, by rw [hC, Int.zero_mul]; rfl, by rw [hW, e2], hFR, hFC, hM.1, hM.2, hT.1, hT.2, hG⟩
theorem okg {cw b q e : Int} (h1 : ¬ cw < b + q) (h2 : cw ≤ b) (h4 : 0 ≤ q) (h3 : 0 ≤ e) : (if b + e < (if b > cw then b else cw) then b + e else (if b > cw then b else cw)) = b ∧ q = 0 := by
  have x : (if b > cw then b else cw) = b := by
    split
    · rfl
    · rename_i h
      exact Int.le_antisymm h2 (Int.not_lt.mp h)
  rw [x, if_neg (Int.not_lt.mpr (Int.le_add_of_nonneg_right h3))]
  have y : b + q ≤ b := Int.le_trans (Int.not_lt.mp h1) h2
  clear x h1 h2 h3
  exact ⟨rfl, by omega⟩
theorem ack_end {x d : Addr} {ox : Obj} {v0 v : Value} {W0 now Pw nw b lf size : Int} {tTH tRA tP : Tok} {p4 p5 : Addr × Obj} {rest news' : List (Addr × Obj)} {s' : Shared} {sh W F C T M FR FC : Int} {tW tF tC tT tB tM tR tX : Tok} {h : Heap} {tk : Nat}
    (hv : v = .none) (hs : s' = { s with heap := h, toks := tk }) (F' : Fr h₀ L h m) (N : News h₀ L h news') (hn : ∀ p ∈ ((x, ox) :: (d, dictOf [⟨PyData.keyHash P (Str.ofString "datagram"), .str (Str.ofString "datagram") (K 0), v0⟩, ⟨PyData.keyHash P (Str.ofString "window"), .str (Str.ofString "window") (K 1), (.int W tW)⟩, ⟨PyData.keyHash P (Str.ofString "threshold"), .str (Str.ofString "threshold") (K 2), (.int W0 tTH)⟩, ⟨PyData.keyHash P (Str.ofString "recovery_at"), .str (Str.ofString "recovery_at") (K 3), (.int now tRA)⟩, ⟨PyData.keyHash P (Str.ofString "in_flight"), .str (Str.ofString "in_flight") (K 4), (.int F tF)⟩, ⟨PyData.keyHash P (Str.ofString "credit"), .str (Str.ofString "credit") (K 5), (.int C tC)⟩, ⟨PyData.keyHash P (Str.ofString "top_window"), .str (Str.ofString "top_window") (K 6), (.int T tT)⟩, ⟨PyData.keyHash P (Str.ofString "prior_window"), .str (Str.ofString "prior_window") (K 7), (.int Pw tP)⟩, ⟨PyData.keyHash P (Str.ofString "begun_at"), .str (Str.ofString "begun_at") (K 8), (.int nw tB)⟩, ⟨PyData.keyHash P (Str.ofString "idle_since"), .str (Str.ofString "idle_since") (K 9), .none⟩, ⟨PyData.keyHash P (Str.ofString "meets_after"), .str (Str.ofString "meets_after") (K 10), (.int M tM)⟩, ⟨PyData.keyHash P (Str.ofString "friendly"), .str (Str.ofString "friendly") (K 11), (.int FR tR)⟩, ⟨PyData.keyHash P (Str.ofString "friendly_credit"), .str (Str.ofString "friendly_credit") (K 12), (.int FC tX)⟩] 13) :: p4 :: p5 :: rest), p ∈ news') (hsh : ShOk Pw b sh) (hok : AckOk b lf size sh W0 W F C T M FR FC) :
    AckP h₀ L m P K x d ox v0 W0 now Pw nw b lf size tTH tRA tP p4 p5 rest s v s' := by
  subst hv
  subst hs
  exact .mk sh W F C T M FR FC tW tF tC tT tB tM tR tX h tk F' (fun p hp => N p (hn p hp)) hsh hok

theorem ack {a4 a5 : Addr} {o4 o5 : Obj} {h9 : Heap} {f x d : Addr} {ox : Obj} {v0 : Value} {W0 now Pw nw size sent T0 T M0 FR0 FC0 b lf : Int} {BG : Value} {tTH tRA tP tW0 tF0 tC0 tT0 tM0 tR0 tX0 ts tn1 tn2 : Tok} {rest : List (Addr × Obj)} {Q : Value → Shared → Prop}
    (F9 : Fr h₀ L h9 m) (N9 : News h₀ L h9 ((x, ox) :: (d, dictOf [⟨PyData.keyHash P (Str.ofString "datagram"), .str (Str.ofString "datagram") (K 0), v0⟩, ⟨PyData.keyHash P (Str.ofString "window"), .str (Str.ofString "window") (K 1), (.int b tW0)⟩, ⟨PyData.keyHash P (Str.ofString "threshold"), .str (Str.ofString "threshold") (K 2), (.int W0 tTH)⟩, ⟨PyData.keyHash P (Str.ofString "recovery_at"), .str (Str.ofString "recovery_at") (K 3), (.int now tRA)⟩, ⟨PyData.keyHash P (Str.ofString "in_flight"), .str (Str.ofString "in_flight") (K 4), (.int 0 tF0)⟩, ⟨PyData.keyHash P (Str.ofString "credit"), .str (Str.ofString "credit") (K 5), (.int 0 tC0)⟩, ⟨PyData.keyHash P (Str.ofString "top_window"), .str (Str.ofString "top_window") (K 6), (.int T tT0)⟩, ⟨PyData.keyHash P (Str.ofString "prior_window"), .str (Str.ofString "prior_window") (K 7), (.int Pw tP)⟩, ⟨PyData.keyHash P (Str.ofString "begun_at"), .str (Str.ofString "begun_at") (K 8), BG⟩, ⟨PyData.keyHash P (Str.ofString "idle_since"), .str (Str.ofString "idle_since") (K 9), .none⟩, ⟨PyData.keyHash P (Str.ofString "meets_after"), .str (Str.ofString "meets_after") (K 10), (.int M0 tM0)⟩, ⟨PyData.keyHash P (Str.ofString "friendly"), .str (Str.ofString "friendly") (K 11), (.int FR0 tR0)⟩, ⟨PyData.keyHash P (Str.ofString "friendly_credit"), .str (Str.ofString "friendly_credit") (K 12), (.int FC0 tX0)⟩] 13) :: (a4, o4) :: (a5, o5) :: rest)) (_hbg : BegOk W0 T0 nw lf b BG T M0 FR0 FC0) (hb : 2400 ≤ b) (hl : 0 ≤ lf) (hl2 : lf < 17 * b) (hs : 0 ≤ size) (hs2 : size ≤ 1200)
    (h1 : ∀ (m : Str → Option Value) (o4 o5 : Obj), InAck Pw b size → Fr h₀ L h9 m → let es : List DictEntry := [⟨PyData.keyHash P (Str.ofString "datagram"), .str (Str.ofString "datagram") (K 0), v0⟩, ⟨PyData.keyHash P (Str.ofString "window"), .str (Str.ofString "window") (K 1), (.int b tW0)⟩, ⟨PyData.keyHash P (Str.ofString "threshold"), .str (Str.ofString "threshold") (K 2), (.int W0 tTH)⟩, ⟨PyData.keyHash P (Str.ofString "recovery_at"), .str (Str.ofString "recovery_at") (K 3), (.int now tRA)⟩, ⟨PyData.keyHash P (Str.ofString "in_flight"), .str (Str.ofString "in_flight") (K 4), (.int 0 tF0)⟩, ⟨PyData.keyHash P (Str.ofString "credit"), .str (Str.ofString "credit") (K 5), (.int 0 tC0)⟩, ⟨PyData.keyHash P (Str.ofString "top_window"), .str (Str.ofString "top_window") (K 6), (.int T tT0)⟩, ⟨PyData.keyHash P (Str.ofString "prior_window"), .str (Str.ofString "prior_window") (K 7), (.int Pw tP)⟩, ⟨PyData.keyHash P (Str.ofString "begun_at"), .str (Str.ofString "begun_at") (K 8), BG⟩, ⟨PyData.keyHash P (Str.ofString "idle_since"), .str (Str.ofString "idle_since") (K 9), .none⟩, ⟨PyData.keyHash P (Str.ofString "meets_after"), .str (Str.ofString "meets_after") (K 10), (.int M0 tM0)⟩, ⟨PyData.keyHash P (Str.ofString "friendly"), .str (Str.ofString "friendly") (K 11), (.int FR0 tR0)⟩, ⟨PyData.keyHash P (Str.ofString "friendly_credit"), .str (Str.ofString "friendly_credit") (K 12), (.int FC0 tX0)⟩]; News h₀ L h9 ((x, ox) :: (d, dictOf es 13) :: (a4, o4) :: (a5, o5) :: rest) → wpAny (model prog w) A (call (.ref f) [.ref x, .int size ts, .int sent tn1, .int nw tn2] []) (AckP h₀ L m P K x d ox v0 W0 now Pw nw b lf size tTH tRA tP (a4, o4) (a5, o5) rest s) E s)
    (h2 : ∀ (sh W T M FC : Int) (tW tF tC tT tB tM tR tX : Tok) (h : Heap) (tk : Nat), ShOk Pw b sh → 0 ≤ sh * 1200 * size → 0 ≤ (lf + sh * 1200 * size).fdiv (17 * b) → (lf + sh * 1200 * size).fdiv (17 * b) ≤ 600 → 0 ≤ FC → FC < 17 * b → W = b + (lf + sh * 1200 * size).fdiv (17 * b) → FC = lf + sh * 1200 * size - (lf + sh * 1200 * size).fdiv (17 * b) * 17 * b → 0 ≤ M → M ≤ 3300000 → 0 ≤ T → T ≤ 16800 → T + Gr M ≤ W0 → Fr h₀ L h m → let es : List DictEntry := [⟨PyData.keyHash P (Str.ofString "datagram"), .str (Str.ofString "datagram") (K 0), v0⟩, ⟨PyData.keyHash P (Str.ofString "window"), .str (Str.ofString "window") (K 1), (.int W tW)⟩, ⟨PyData.keyHash P (Str.ofString "threshold"), .str (Str.ofString "threshold") (K 2), (.int W0 tTH)⟩, ⟨PyData.keyHash P (Str.ofString "recovery_at"), .str (Str.ofString "recovery_at") (K 3), (.int now tRA)⟩, ⟨PyData.keyHash P (Str.ofString "in_flight"), .str (Str.ofString "in_flight") (K 4), (.int 0 tF)⟩, ⟨PyData.keyHash P (Str.ofString "credit"), .str (Str.ofString "credit") (K 5), (.int 0 tC)⟩, ⟨PyData.keyHash P (Str.ofString "top_window"), .str (Str.ofString "top_window") (K 6), (.int T tT)⟩, ⟨PyData.keyHash P (Str.ofString "prior_window"), .str (Str.ofString "prior_window") (K 7), (.int Pw tP)⟩, ⟨PyData.keyHash P (Str.ofString "begun_at"), .str (Str.ofString "begun_at") (K 8), (.int nw tB)⟩, ⟨PyData.keyHash P (Str.ofString "idle_since"), .str (Str.ofString "idle_since") (K 9), .none⟩, ⟨PyData.keyHash P (Str.ofString "meets_after"), .str (Str.ofString "meets_after") (K 10), (.int M tM)⟩, ⟨PyData.keyHash P (Str.ofString "friendly"), .str (Str.ofString "friendly") (K 11), (.int W tR)⟩, ⟨PyData.keyHash P (Str.ofString "friendly_credit"), .str (Str.ofString "friendly_credit") (K 12), (.int FC tX)⟩]; News h₀ L h ((x, ox) :: (d, dictOf es 13) :: (a4, o4) :: (a5, o5) :: rest) → Q .none { s with heap := h, toks := tk }) :
    wpAny (model prog w) A (call (.ref f) [.ref x, .int size ts, .int sent tn1, .int nw tn2] []) Q E s := by
  refine wpAny_mono (h1 m o4 o5 ⟨trivial⟩ F9 N9) (fun v s₂ hq => ?_) fun _ _ h => h
  obtain ⟨sh, W, F, C, T, M, FR, FC, tW, tF, tC, tT, tB, tM, tR, tX, h, tk, F', N, hsh, hF, hC, hW, hFR, hFC, g1, g2, g3, g4, g5⟩ := hq
  subst hF
  subst hC
  have ⟨r1, r2⟩ := sh_room hsh hs
  have ⟨q1, q2, q3⟩ := more_le hb hl2 hs hs2 r2
  have e2 : FR = W := by rw [hFR, hW]
  subst e2
  exact h2 sh _ T M FC tW tF tC tT tB tM tR tX h tk hsh r1 (fdiv_nn (by omega) (by omega)) q1 (hFC ▸ q2) (hFC ▸ q3) hW hFC g1 g2 g3 g4 g5 F' N

structure InBeg : Prop where
  mark :: (one : True)
noncomputable def LedB (x d : Addr) (ox : Obj) (P : Params) (K : Nat → Tok) (v0 v3 v4 v5 v7 : Value) (W0 nw b : Int) (tW tTH : Tok) (rest : List (Addr × Obj)) (T M FR FC : Int) (tT tB tM tR tX : Tok) : List (Addr × Obj) := ((x, ox) :: (d, dictOf [⟨PyData.keyHash P (Str.ofString "datagram"), .str (Str.ofString "datagram") (K 0), v0⟩, ⟨PyData.keyHash P (Str.ofString "window"), .str (Str.ofString "window") (K 1), (.int b tW)⟩, ⟨PyData.keyHash P (Str.ofString "threshold"), .str (Str.ofString "threshold") (K 2), (.int W0 tTH)⟩, ⟨PyData.keyHash P (Str.ofString "recovery_at"), .str (Str.ofString "recovery_at") (K 3), v3⟩, ⟨PyData.keyHash P (Str.ofString "in_flight"), .str (Str.ofString "in_flight") (K 4), v4⟩, ⟨PyData.keyHash P (Str.ofString "credit"), .str (Str.ofString "credit") (K 5), v5⟩, ⟨PyData.keyHash P (Str.ofString "top_window"), .str (Str.ofString "top_window") (K 6), (.int T tT)⟩, ⟨PyData.keyHash P (Str.ofString "prior_window"), .str (Str.ofString "prior_window") (K 7), v7⟩, ⟨PyData.keyHash P (Str.ofString "begun_at"), .str (Str.ofString "begun_at") (K 8), (.int nw tB)⟩, ⟨PyData.keyHash P (Str.ofString "idle_since"), .str (Str.ofString "idle_since") (K 9), .none⟩, ⟨PyData.keyHash P (Str.ofString "meets_after"), .str (Str.ofString "meets_after") (K 10), (.int M tM)⟩, ⟨PyData.keyHash P (Str.ofString "friendly"), .str (Str.ofString "friendly") (K 11), (.int FR tR)⟩, ⟨PyData.keyHash P (Str.ofString "friendly_credit"), .str (Str.ofString "friendly_credit") (K 12), (.int FC tX)⟩] 13) :: rest)
/-- the growth has begun -/
inductive BegP (h₀ : Heap) (L : Addr) (m : Str → Option Value) (P : Params) (K : Nat → Tok) (x d : Addr) (ox : Obj) (v0 v3 v4 v5 v7 : Value) (W0 nw b lf : Int) (tW tTH : Tok) (rest : List (Addr × Obj)) (s : Shared) : Flow → Shared → Prop
  | mk (T M : Int) (tT tB tM tR tX : Tok) (h : Heap) (tk : Nat) (g1 : 0 ≤ M) (g2 : M ≤ 3300000) (g3 : 0 ≤ T) (g4 : T ≤ 16800) (g5 : T + Gr M ≤ W0) (F' : Fr h₀ L h m) (N : News h₀ L h (LedB x d ox P K v0 v3 v4 v5 v7 W0 nw b tW tTH rest T M b lf tT tB tM tR tX)) :
    BegP h₀ L m P K x d ox v0 v3 v4 v5 v7 W0 nw b lf tW tTH rest s .next { s with heap := h, toks := tk }
theorem beg_end {x d : Addr} {ox : Obj} {v0 v3 v4 v5 v7 : Value} {W0 nw b lf T M FR FC : Int} {tW tTH tT tB tM tR tX : Tok} {rest news' : List (Addr × Obj)} {f : Flow} {s' : Shared} {h : Heap} {tk : Nat} (hf : f = .next) (hs : s' = { s with heap := h, toks := tk }) (F : Fr h₀ L h m)
    (N : News h₀ L h news') (hn : ∀ p ∈ ((x, ox) :: (d, dictOf [⟨PyData.keyHash P (Str.ofString "datagram"), .str (Str.ofString "datagram") (K 0), v0⟩, ⟨PyData.keyHash P (Str.ofString "window"), .str (Str.ofString "window") (K 1), (.int b tW)⟩, ⟨PyData.keyHash P (Str.ofString "threshold"), .str (Str.ofString "threshold") (K 2), (.int W0 tTH)⟩, ⟨PyData.keyHash P (Str.ofString "recovery_at"), .str (Str.ofString "recovery_at") (K 3), v3⟩, ⟨PyData.keyHash P (Str.ofString "in_flight"), .str (Str.ofString "in_flight") (K 4), v4⟩, ⟨PyData.keyHash P (Str.ofString "credit"), .str (Str.ofString "credit") (K 5), v5⟩, ⟨PyData.keyHash P (Str.ofString "top_window"), .str (Str.ofString "top_window") (K 6), (.int T tT)⟩, ⟨PyData.keyHash P (Str.ofString "prior_window"), .str (Str.ofString "prior_window") (K 7), v7⟩, ⟨PyData.keyHash P (Str.ofString "begun_at"), .str (Str.ofString "begun_at") (K 8), (.int nw tB)⟩, ⟨PyData.keyHash P (Str.ofString "idle_since"), .str (Str.ofString "idle_since") (K 9), .none⟩, ⟨PyData.keyHash P (Str.ofString "meets_after"), .str (Str.ofString "meets_after") (K 10), (.int M tM)⟩, ⟨PyData.keyHash P (Str.ofString "friendly"), .str (Str.ofString "friendly") (K 11), (.int FR tR)⟩, ⟨PyData.keyHash P (Str.ofString "friendly_credit"), .str (Str.ofString "friendly_credit") (K 12), (.int FC tX)⟩] 13) :: rest), p ∈ news') (h1 : FR = b) (h2 : FC = lf) (h3 : 0 ≤ M) (h4 : M ≤ 3300000) (h5 : 0 ≤ T) (h6 : T ≤ 16800) (h7 : T + Gr M ≤ W0) : BegP h₀ L m P K x d ox v0 v3 v4 v5 v7 W0 nw b lf tW tTH rest s f s' := by
  subst hf
  subst hs
  subst h1
  subst h2
  exact .mk T M tT tB tM tR tX h tk h3 h4 h5 h6 h7 F (fun p hp => N p (hn p hp))
theorem beg_gen {c : Sem Flow} {led : Value → List (Addr × Obj)} {Pst : Flow → Shared → Prop} {W0 T0 nw b lf T M FR FC : Int} {BG : Value} {h9 : Heap} {Q : Flow → Shared → Prop} (hbg : BegOk W0 T0 nw lf b BG T M FR FC) (F9 : Fr h₀ L h9 m) (N : News h₀ L h9 (led BG))
    (h0 : InBeg → lf = 0 → b = W0 → T = T0 → Fr h₀ L h9 m → News h₀ L h9 (led .none) → wpAny (model prog w) A c Pst E s)
    (h1 : ∀ tB, InBeg → FR = b → FC = lf → 0 ≤ M → M ≤ 3300000 → 0 ≤ T → T ≤ 16800 → T + Gr M ≤ W0 → Fr h₀ L h9 m → News h₀ L h9 (led (.int nw tB)) → wpAny (model prog w) A c Pst E s)
    (h2 : ∀ v s₂, Pst v s₂ → Q v s₂) : wpAny (model prog w) A c Q E s := by
  rcases hbg with ⟨e, e1, e2, e3⟩ | ⟨⟨t, e⟩, e1, e2, e3, e4, e5, e6, e7⟩
  · subst e
    exact wpAny_mono (h0 ⟨trivial⟩ e1 e2 e3 F9 N) h2 fun _ _ h => h
  · subst e
    exact wpAny_mono (h1 t ⟨trivial⟩ e1 e2 e3 e4 e5 e6 e7 F9 N) h2 fun _ _ h => h
theorem beg_cut {env : Env} {e1 : Expr} {a1 : Str} {q1 q2 q3 : Pos} {k1 : Nat} {body orelse : List Stmt} {pos : Pos} {x d : Addr} {ox : Obj} {v0 v3 v4 v5 v7 BG : Value} {W0 T0 nw b lf T M FR FC : Int} {tW tTH tT tM tR tX : Tok} {h9 : Heap} {rest : List (Addr × Obj)} {Q : Flow → Shared → Prop} (hbg : BegOk W0 T0 nw lf b BG T M FR FC) (F9 : Fr h₀ L h9 m)
    (N : News h₀ L h9 ((x, ox) :: (d, dictOf [⟨PyData.keyHash P (Str.ofString "datagram"), .str (Str.ofString "datagram") (K 0), v0⟩, ⟨PyData.keyHash P (Str.ofString "window"), .str (Str.ofString "window") (K 1), (.int b tW)⟩, ⟨PyData.keyHash P (Str.ofString "threshold"), .str (Str.ofString "threshold") (K 2), (.int W0 tTH)⟩, ⟨PyData.keyHash P (Str.ofString "recovery_at"), .str (Str.ofString "recovery_at") (K 3), v3⟩, ⟨PyData.keyHash P (Str.ofString "in_flight"), .str (Str.ofString "in_flight") (K 4), v4⟩, ⟨PyData.keyHash P (Str.ofString "credit"), .str (Str.ofString "credit") (K 5), v5⟩, ⟨PyData.keyHash P (Str.ofString "top_window"), .str (Str.ofString "top_window") (K 6), (.int T tT)⟩, ⟨PyData.keyHash P (Str.ofString "prior_window"), .str (Str.ofString "prior_window") (K 7), v7⟩, ⟨PyData.keyHash P (Str.ofString "begun_at"), .str (Str.ofString "begun_at") (K 8), (BG)⟩, ⟨PyData.keyHash P (Str.ofString "idle_since"), .str (Str.ofString "idle_since") (K 9), .none⟩, ⟨PyData.keyHash P (Str.ofString "meets_after"), .str (Str.ofString "meets_after") (K 10), (.int M tM)⟩, ⟨PyData.keyHash P (Str.ofString "friendly"), .str (Str.ofString "friendly") (K 11), (.int FR tR)⟩, ⟨PyData.keyHash P (Str.ofString "friendly_credit"), .str (Str.ofString "friendly_credit") (K 12), (.int FC tX)⟩] 13) :: rest))
    (h0 : InBeg → lf = 0 → b = W0 → T = T0 → Fr h₀ L h9 m → let es : List DictEntry := [⟨PyData.keyHash P (Str.ofString "datagram"), .str (Str.ofString "datagram") (K 0), v0⟩, ⟨PyData.keyHash P (Str.ofString "window"), .str (Str.ofString "window") (K 1), (.int b tW)⟩, ⟨PyData.keyHash P (Str.ofString "threshold"), .str (Str.ofString "threshold") (K 2), (.int W0 tTH)⟩, ⟨PyData.keyHash P (Str.ofString "recovery_at"), .str (Str.ofString "recovery_at") (K 3), v3⟩, ⟨PyData.keyHash P (Str.ofString "in_flight"), .str (Str.ofString "in_flight") (K 4), v4⟩, ⟨PyData.keyHash P (Str.ofString "credit"), .str (Str.ofString "credit") (K 5), v5⟩, ⟨PyData.keyHash P (Str.ofString "top_window"), .str (Str.ofString "top_window") (K 6), (.int T tT)⟩, ⟨PyData.keyHash P (Str.ofString "prior_window"), .str (Str.ofString "prior_window") (K 7), v7⟩, ⟨PyData.keyHash P (Str.ofString "begun_at"), .str (Str.ofString "begun_at") (K 8), (.none)⟩, ⟨PyData.keyHash P (Str.ofString "idle_since"), .str (Str.ofString "idle_since") (K 9), .none⟩, ⟨PyData.keyHash P (Str.ofString "meets_after"), .str (Str.ofString "meets_after") (K 10), (.int M tM)⟩, ⟨PyData.keyHash P (Str.ofString "friendly"), .str (Str.ofString "friendly") (K 11), (.int FR tR)⟩, ⟨PyData.keyHash P (Str.ofString "friendly_credit"), .str (Str.ofString "friendly_credit") (K 12), (.int FC tX)⟩]; News h₀ L h9 ((x, ox) :: (d, dictOf es 13) :: rest) → wpAny (model prog w) A (exec (.If (.Compare (.Attribute e1 a1 q1) [.Is] [.Constant .none k1 q2] q3) body orelse pos) env) (BegP h₀ L m P K x d ox v0 v3 v4 v5 v7 W0 nw b lf tW tTH rest s) E s)
    (h1 : ∀ tB, InBeg → FR = b → FC = lf → 0 ≤ M → M ≤ 3300000 → 0 ≤ T → T ≤ 16800 → T + Gr M ≤ W0 → Fr h₀ L h9 m → let es : List DictEntry := [⟨PyData.keyHash P (Str.ofString "datagram"), .str (Str.ofString "datagram") (K 0), v0⟩, ⟨PyData.keyHash P (Str.ofString "window"), .str (Str.ofString "window") (K 1), (.int b tW)⟩, ⟨PyData.keyHash P (Str.ofString "threshold"), .str (Str.ofString "threshold") (K 2), (.int W0 tTH)⟩, ⟨PyData.keyHash P (Str.ofString "recovery_at"), .str (Str.ofString "recovery_at") (K 3), v3⟩, ⟨PyData.keyHash P (Str.ofString "in_flight"), .str (Str.ofString "in_flight") (K 4), v4⟩, ⟨PyData.keyHash P (Str.ofString "credit"), .str (Str.ofString "credit") (K 5), v5⟩, ⟨PyData.keyHash P (Str.ofString "top_window"), .str (Str.ofString "top_window") (K 6), (.int T tT)⟩, ⟨PyData.keyHash P (Str.ofString "prior_window"), .str (Str.ofString "prior_window") (K 7), v7⟩, ⟨PyData.keyHash P (Str.ofString "begun_at"), .str (Str.ofString "begun_at") (K 8), (.int nw tB)⟩, ⟨PyData.keyHash P (Str.ofString "idle_since"), .str (Str.ofString "idle_since") (K 9), .none⟩, ⟨PyData.keyHash P (Str.ofString "meets_after"), .str (Str.ofString "meets_after") (K 10), (.int M tM)⟩, ⟨PyData.keyHash P (Str.ofString "friendly"), .str (Str.ofString "friendly") (K 11), (.int FR tR)⟩, ⟨PyData.keyHash P (Str.ofString "friendly_credit"), .str (Str.ofString "friendly_credit") (K 12), (.int FC tX)⟩]; News h₀ L h9 ((x, ox) :: (d, dictOf es 13) :: rest) → wpAny (model prog w) A (exec (.If (.Compare (.Attribute e1 a1 q1) [.Is] [.Constant .none k1 q2] q3) body orelse pos) env) (BegP h₀ L m P K x d ox v0 v3 v4 v5 v7 W0 nw b lf tW tTH rest s) E s)
    (h2 : ∀ (T M : Int) (tT tB tM tR tX : Tok) (h : Heap) (tk : Nat), 0 ≤ M → M ≤ 3300000 → 0 ≤ T → T ≤ 16800 → T + Gr M ≤ W0 → Fr h₀ L h m → let es : List DictEntry := [⟨PyData.keyHash P (Str.ofString "datagram"), .str (Str.ofString "datagram") (K 0), v0⟩, ⟨PyData.keyHash P (Str.ofString "window"), .str (Str.ofString "window") (K 1), (.int b tW)⟩, ⟨PyData.keyHash P (Str.ofString "threshold"), .str (Str.ofString "threshold") (K 2), (.int W0 tTH)⟩, ⟨PyData.keyHash P (Str.ofString "recovery_at"), .str (Str.ofString "recovery_at") (K 3), v3⟩, ⟨PyData.keyHash P (Str.ofString "in_flight"), .str (Str.ofString "in_flight") (K 4), v4⟩, ⟨PyData.keyHash P (Str.ofString "credit"), .str (Str.ofString "credit") (K 5), v5⟩, ⟨PyData.keyHash P (Str.ofString "top_window"), .str (Str.ofString "top_window") (K 6), (.int T tT)⟩, ⟨PyData.keyHash P (Str.ofString "prior_window"), .str (Str.ofString "prior_window") (K 7), v7⟩, ⟨PyData.keyHash P (Str.ofString "begun_at"), .str (Str.ofString "begun_at") (K 8), (.int nw tB)⟩, ⟨PyData.keyHash P (Str.ofString "idle_since"), .str (Str.ofString "idle_since") (K 9), .none⟩, ⟨PyData.keyHash P (Str.ofString "meets_after"), .str (Str.ofString "meets_after") (K 10), (.int M tM)⟩, ⟨PyData.keyHash P (Str.ofString "friendly"), .str (Str.ofString "friendly") (K 11), (.int b tR)⟩, ⟨PyData.keyHash P (Str.ofString "friendly_credit"), .str (Str.ofString "friendly_credit") (K 12), (.int lf tX)⟩]; News h₀ L h ((x, ox) :: (d, dictOf es 13) :: rest) → Q .next { s with heap := h, toks := tk }) :
    wpAny (model prog w) A (exec (.If (.Compare (.Attribute e1 a1 q1) [.Is] [.Constant .none k1 q2] q3) body orelse pos) env) Q E s := by
  refine beg_gen (led := fun BG => ((x, ox) :: (d, dictOf [⟨PyData.keyHash P (Str.ofString "datagram"), .str (Str.ofString "datagram") (K 0), v0⟩, ⟨PyData.keyHash P (Str.ofString "window"), .str (Str.ofString "window") (K 1), (.int b tW)⟩, ⟨PyData.keyHash P (Str.ofString "threshold"), .str (Str.ofString "threshold") (K 2), (.int W0 tTH)⟩, ⟨PyData.keyHash P (Str.ofString "recovery_at"), .str (Str.ofString "recovery_at") (K 3), v3⟩, ⟨PyData.keyHash P (Str.ofString "in_flight"), .str (Str.ofString "in_flight") (K 4), v4⟩, ⟨PyData.keyHash P (Str.ofString "credit"), .str (Str.ofString "credit") (K 5), v5⟩, ⟨PyData.keyHash P (Str.ofString "top_window"), .str (Str.ofString "top_window") (K 6), (.int T tT)⟩, ⟨PyData.keyHash P (Str.ofString "prior_window"), .str (Str.ofString "prior_window") (K 7), v7⟩, ⟨PyData.keyHash P (Str.ofString "begun_at"), .str (Str.ofString "begun_at") (K 8), (BG)⟩, ⟨PyData.keyHash P (Str.ofString "idle_since"), .str (Str.ofString "idle_since") (K 9), .none⟩, ⟨PyData.keyHash P (Str.ofString "meets_after"), .str (Str.ofString "meets_after") (K 10), (.int M tM)⟩, ⟨PyData.keyHash P (Str.ofString "friendly"), .str (Str.ofString "friendly") (K 11), (.int FR tR)⟩, ⟨PyData.keyHash P (Str.ofString "friendly_credit"), .str (Str.ofString "friendly_credit") (K 12), (.int FC tX)⟩] 13) :: rest)) hbg F9 N h0 h1 ?_
  rintro _ _ ⟨T, M, tT, tB, tM, tR, tX, h, tk, g1, g2, g3, g4, g5, F', N'⟩
  exact h2 T M tT tB tM tR tX h tk g1 g2 g3 g4 g5 F' N'

section
variable {news : List (Addr × Obj)} {env : Env}
theorem share_ack {e : Expr} {Pw b size : Int} {Q : Value → Shared → Prop} {h9 : Heap} (_M : InAck Pw b size) (F9 : Fr h₀ L h9 m) (N9 : News h₀ L h9 news) (hs : 0 ≤ size)
    (h1 : InShare → Fr h₀ L h9 m → News h₀ L h9 news → wpAny (model prog w) A (eval e env) (PureP h₀ L m news (ShOk Pw b) s) E s)
    (h2 : ∀ (sh : Int) (t : Tok) (h : Heap) (tk : Nat), ShOk Pw b sh → 0 ≤ sh * 1200 * size → Fr h₀ L h m → News h₀ L h news → Q (.int sh t) { s with heap := h, toks := tk }) : wpAny (model prog w) A (eval e env) Q E s :=
  pure_cut0 (ShOk Pw b) (h1 ⟨trivial⟩ F9 N9) (fun i t h tk c => h2 i t h tk c (sh_room c hs).1)
theorem share_law {e : Expr} {Pw b sh : Int} {Q : Value → Shared → Prop} {h9 : Heap} (_M : ShOk Pw b sh) (F9 : Fr h₀ L h9 m) (N9 : News h₀ L h9 news)
    (h1 : InShare → Fr h₀ L h9 m → News h₀ L h9 news → wpAny (model prog w) A (eval e env) (PureP h₀ L m news (ShOk Pw b) s) E s)
    (h2 : ∀ (t : Tok) (h : Heap) (tk : Nat), Fr h₀ L h m → News h₀ L h news → Q (.int sh t) { s with heap := h, toks := tk }) : wpAny (model prog w) A (eval e env) Q E s :=
  pure_cut0 (ShOk Pw b) (h1 ⟨trivial⟩ F9 N9) (fun i t h tk c => by cases sh_one c _M; exact h2 t h tk)
end

end
end Mine
end
section
open PySem PySem.W PyProof.Rows PySem.Calls
namespace Mine
def P1 (high low : Int) : Prop := 1 ≤ high ∧ high ≤ 6600000 ∧ low = 0
def M1 (high _low : Int) : Nat := (6600001 - high).toNat
def P2 (n low high : Int) : Prop := 0 ≤ low ∧ low < high ∧ high ≤ 6600000 ∧ low * low * low ≤ n ∧ n < high * high * high
def M2 (low high : Int) : Nat := (high - low).toNat
def P3 (X b b0 lft bes : Int) : Prop := 0 ≤ lft ∧ ∃ j, lft = X - 17 * b * j ∧ bes = b0 + j
def M3 (lft _bes : Int) : Nat := lft.toNat

theorem p1_end {n high : Int} (hn : n ≤ 35000000000000000000) (hc : high * high * high ≤ n) (h1 : 1 ≤ high) : P1 (2 * high) 0 ∧ M1 (2 * high) 0 < M1 high 0 := by
  have := cube_small hn hc
  exact ⟨⟨by omega, by omega, rfl⟩, (Int.toNat_lt_toNat (by omega)).2 (by omega)⟩
theorem p2_low {n low high mid : Int} (h0 : 0 ≤ low) (h3 : high ≤ 6600000) (h5 : n < high * high * high) (ha : 2 * mid ≤ low + high) (hb : low + high < 2 * mid + 2) (hg : high - low > 1) (hm : mid * mid * mid ≤ n) : P2 n mid high ∧ M2 mid high < M2 low high :=
  ⟨⟨by omega, by omega, h3, hm, h5⟩, (Int.toNat_lt_toNat (by omega)).2 (by omega)⟩
theorem p2_high {n low high mid : Int} (h0 : 0 ≤ low) (h3 : high ≤ 6600000) (h4 : low * low * low ≤ n) (ha : 2 * mid ≤ low + high) (hb : low + high < 2 * mid + 2) (hg : high - low > 1) (hm : ¬ mid * mid * mid ≤ n) : P2 n low mid ∧ M2 low mid < M2 low high :=
  ⟨⟨h0, by omega, by omega, h4, by omega⟩, (Int.toNat_lt_toNat (by omega)).2 (by omega)⟩
theorem p3_end {X b b0 lft bes : Int} (hb : 0 < b) (hP : P3 X b b0 lft bes) (hg : 17 * b ≤ lft) : P3 X b b0 (lft - 17 * b) (bes + 1) ∧ M3 (lft - 17 * b) (bes + 1) < M3 lft bes := by
  obtain ⟨h0, j, e1, e2⟩ := hP
  refine ⟨⟨by omega, j + 1, ?_, by omega⟩, (Int.toNat_lt_toNat (by omega)).2 (by omega)⟩
  rw [Int.mul_add]
  omega
theorem p3_out {X b b0 lft bes : Int} (hb : 0 < b) (hP : P3 X b b0 lft bes) (hg : lft < 17 * b) : bes = b0 + X.fdiv (17 * b) ∧ lft = X - X.fdiv (17 * b) * 17 * b := by
  obtain ⟨h0, j, e1, e2⟩ := hP
  have hd := fdiv_bounds X (b := 17 * b) (by omega)
  have e : X.fdiv (17 * b) = j := by
    rcases Int.lt_trichotomy (X.fdiv (17 * b)) j with h | h | h
    · exfalso
      have h1 : 17 * b * (X.fdiv (17 * b) + 1) ≤ 17 * b * j := Int.mul_le_mul_of_nonneg_left (by omega) (by omega)
      rw [Int.mul_add] at h1
      omega
    · exact h
    · exfalso
      have h1 : 17 * b * (j + 1) ≤ 17 * b * X.fdiv (17 * b) := Int.mul_le_mul_of_nonneg_left (by omega) (by omega)
      rw [Int.mul_add] at h1
      omega
  rw [e]
  refine ⟨e2, ?_⟩
  have : j * 17 * b = 17 * b * j := by rw [Int.mul_comm (j * 17) b, Int.mul_comm j 17, ← Int.mul_assoc, Int.mul_comm b 17]
  omega

section
variable {prog : Program} {w : World} {A : Around} {E : Value → Shared → Prop} {s : Shared} {h₀ : Heap} {L : Addr} {news : List (Addr × Obj)}
theorem tok_gen {α : Type} {c : Sem α} {Q : α → Shared → Prop} {h : Heap} {g : _} {dr : _} {o : _} {n j : Nat} (k : ∀ tk : Nat, wpAny (model prog w) A c Q E (Shared.mk h g dr tk o)) : wpAny (model prog w) A c Q E (Shared.mk h g dr (n + j) o) := k (n + j)
theorem max3_N {m : Str → Option Value} {a b c : Int} {t u x : Tok} {Q : Value → Shared → Prop} (hh : A.handled = none) (F : Fr h₀ L s.heap m) (N : News h₀ L s.heap news)
    (h : ∀ (M : Int) (tM : Tok) (h' : Heap) (tk : Nat), M = (if b > a then (if c > b then c else b) else (if c > a then c else a)) → Fr h₀ L h' m → News h₀ L h' news → Q (.int M tM) { s with heap := h', toks := tk }) :
    wpAny (model prog w) A (call (.builtin "max") [.int a t, .int b u, .int c x]) Q E s :=
  max_three_ints hh fun h' tk hk => by
    have key := fun M tM e => h M tM h' tk e (F.grownK hk) (N.grown hk)
    by_cases hba : b > a <;> by_cases hc1 : c > b <;> by_cases hc2 : c > a <;> simp only [hba, hc1, hc2, if_true, if_false] at key ⊢ <;> exact key _ _ rfl
end

section
variable {prog : Program} {w : World} {A : Around} {E : Value → Shared → Prop} {Q : Flow → Shared → Prop} {s : Shared} {env : Env} {h₀ : Heap} {L : Addr} {news : List (Addr × Obj)} {m₀ : Str → Option Value}

theorem root1 {test : Expr} {body : List Stmt} {pos : Pos} {n : Int} {t1 t2 : Tok} (_hn : n ≤ 35000000000000000000) (F : Fr h₀ L s.heap m₀) (N : News h₀ L s.heap news)
    (hx : m₀ (Str.ofString "high") = some (.int 1 t1)) (hy : m₀ (Str.ofString "low") = some (.int 0 t2))
    (turn : ∀ (high : Int) (ta tb : Tok) (u : Str → Option Value) (h : Heap) (tk : Nat), 1 ≤ high → high ≤ 6600000 →
      Fr h₀ L h (fun z => if z = Str.ofString "high" then some (.int high ta) else if z = Str.ofString "low" then some (.int 0 tb) else if ([] : List Str).contains z then u z else m₀ z) → News h₀ L h news →
      wpAny (model prog w) A (isTrue test env (eval test env)) (fun q s₂ =>
        if q = true then wpAny (model prog w) A (execs body env) (WhPost h₀ L (Str.ofString "high") (Str.ofString "low") [] m₀ news P1 M1 high 0 s Q) E s₂ else Q .next s₂) E { s with heap := h, toks := tk })
    (hE : PassesOwn (model prog w) A env E) : wpAny (model prog w) A (exec (.While test body [] pos) env) Q E s := by
  refine wh_two [] P1 M1 F N hx hy ⟨by decide, by decide, rfl⟩ ?_ hE
  rintro a b ta tb u h tk ⟨h1, h2, h3⟩ F₁ N₁
  subst h3
  exact turn a ta tb u h tk h1 h2 F₁ N₁

theorem root2 {test : Expr} {body : List Stmt} {pos : Pos} {n high : Int} {t1 t2 : Tok} (_hn : n ≤ 35000000000000000000) (F : Fr h₀ L s.heap m₀) (N : News h₀ L s.heap news)
    (hx : m₀ (Str.ofString "low") = some (.int 0 t1)) (hy : m₀ (Str.ofString "high") = some (.int high t2)) (hn0 : 0 ≤ n) (h1 : 1 ≤ high) (h2 : high ≤ 6600000) (h3 : ¬ high * high * high ≤ n)
    (turn : ∀ (low high : Int) (ta tb : Tok) (u : Str → Option Value) (h : Heap) (tk : Nat), 0 ≤ low → low < high → high ≤ 6600000 → low * low * low ≤ n → n < high * high * high → 2 * (low + high).fdiv 2 ≤ low + high → low + high < 2 * (low + high).fdiv 2 + 2 →
      Fr h₀ L h (fun z => if z = Str.ofString "low" then some (.int low ta) else if z = Str.ofString "high" then some (.int high tb) else if ([Str.ofString "middle"] : List Str).contains z then u z else m₀ z) → News h₀ L h news →
      wpAny (model prog w) A (isTrue test env (eval test env)) (fun q s₂ =>
        if q = true then wpAny (model prog w) A (execs body env) (WhPost h₀ L (Str.ofString "low") (Str.ofString "high") [Str.ofString "middle"] m₀ news (P2 n) M2 low high s Q) E s₂ else Q .next s₂) E { s with heap := h, toks := tk })
    (hE : PassesOwn (model prog w) A env E) : wpAny (model prog w) A (exec (.While test body [] pos) env) Q E s := by
  refine wh_two [Str.ofString "middle"] (P2 n) M2 F N hx hy ⟨by decide, by omega, h2, by omega, by omega⟩ ?_ hE
  rintro a b ta tb u h tk ⟨g1, g2, g3, g4, g5⟩ F₁ N₁
  have hd := fdiv_bounds (a + b) (b := 2) (by decide)
  exact turn a b ta tb u h tk g1 g2 g3 g4 g5 (by omega) (by omega) F₁ N₁

theorem left3 {test : Expr} {body : List Stmt} {pos : Pos} {X b b0 : Int} {t1 t2 t3 : Tok} (F : Fr h₀ L s.heap m₀) (N : News h₀ L s.heap news)
    (_hk : m₀ (Str.ofString "ahead") = some (.int b t3)) (hx : m₀ (Str.ofString "left") = some (.int X t1)) (hy : m₀ (Str.ofString "beside") = some (.int b0 t2)) (hb : 0 < b) (hX : 0 ≤ X)
    (turn : ∀ (lft bes : Int) (ta tb : Tok) (u : Str → Option Value) (h : Heap) (tk : Nat), 0 ≤ lft → P3 X b b0 lft bes → (lft < 17 * b → bes = b0 + X.fdiv (17 * b) ∧ lft = X - X.fdiv (17 * b) * 17 * b) →
      Fr h₀ L h (fun z => if z = Str.ofString "left" then some (.int lft ta) else if z = Str.ofString "beside" then some (.int bes tb) else if ([] : List Str).contains z then u z else m₀ z) → News h₀ L h news →
      wpAny (model prog w) A (isTrue test env (eval test env)) (fun q s₂ =>
        if q = true then wpAny (model prog w) A (execs body env) (WhPost h₀ L (Str.ofString "left") (Str.ofString "beside") [] m₀ news (P3 X b b0) M3 lft bes s Q) E s₂ else Q .next s₂) E { s with heap := h, toks := tk })
    (hE : PassesOwn (model prog w) A env E) : wpAny (model prog w) A (exec (.While test body [] pos) env) Q E s := by
  refine wh_two [] (P3 X b b0) M3 F N hx hy ⟨hX, 0, by omega, by omega⟩ ?_ hE
  intro lft bes ta tb u h tk hP F₁ N₁
  exact turn lft bes ta tb u h tk hP.1 hP (fun hg => p3_out hb hP hg) F₁ N₁
end
end Mine
end
open PySem PySem.W PyProof.Rows
set_option hygiene false
local macro_rules | `(tactic| walk_at "F") => `(tactic| ((rename Fr _ _ _ _ => lF'); (rename News _ _ _ _ => lN')))
local macro_rules | `(tactic| walk_at "A") => `(tactic| ((all_goals (clear lF' lN'; intros)); (all_goals (try k_fold)); (all_goals (try k_sweep))))
local macro_rules | `(tactic| walk_at "I") => `(tactic| ((try dsimp only [Mine.Led1, Mine.Led2, Mine.Led3]); (try simp only [List.cons_append, List.nil_append]); intro _ hp; first | exact hp | (repeat (first | exact hp | refine List.Mem.tail _ ?_))))
local macro_rules | `(tactic| walk_at "L") => `(tactic| (walk_at "F"; (rename IsRange _ _ _ _ _ _ _ _ => rgX)))
local macro_rules | `(tactic| walk_at "callWith ref") => `(tactic| ((with_reducible show wpAny _ _ (callWith _ _ _ (backTo _ (starEach [] _)) []) _ _ _); k_dflt (refine' callWith_K0 (Frag.In.keeps (by with_reducible assumption) (Fr.keep (by with_reducible assumption))) (by k_is) ?_; k_whole)))
local macro_rules | `(tactic| walk_at "subscriptTail Name Constant ref int") => `(tactic| (with_unfolding_all refine' Mine.item_news (by with_reducible assumption) (by k_mem) (by decide) (by decide) (by rfl) ?_ (by rfl)))
local macro_rules | `(tactic| walk_at "call builtin:list.pop") => `(tactic| ((with_unfolding_all refine' Mine.pop0 (by k_asm) (by k_asm) (by k_updF) (by assumption) (by assumption) (by omega) ?_); k_whole; intros; (try k_sweep)))
local macro_rules | `(tactic| walk_at "TakeP") => `(tactic| (refine Mine.take_end rfl (Mine.fmod_ok _ (by assumption)) (by with_unfolding_all rfl) (by assumption) (by assumption) (by walk_at "I") (by assumption) (by omega)))
local macro_rules | `(tactic| walk_at "call ref") => `(tactic| (first | ((fail_if_success (rename Mine.InRec => hM9)); walk_at "F"; with_reducible refine' Mine.rec_cut (by with_reducible assumption) lF' lN' (by omega) ?_ ?_ ?_; walk_at "A") | ((fail_if_success (rename Mine.InAck _ _ _ => hM9)); walk_at "F"; with_reducible refine' Mine.ack lF' lN' (by assumption) (by omega) (by omega) (by omega) (by omega) (by omega) ?_ ?_; walk_at "A") | (walk_at "F"; with_reducible refine' Mine.win_use (by with_reducible assumption) lF' lN' (by omega) (by omega) ?_; walk_at "A") | ((fail_if_success (rename Mine.InWin => hM9)); walk_at "F"; with_reducible refine' Mine.win_cut lF' lN' (by omega) (by omega) ?_ ?_; walk_at "A") | ((rename Mine.InTime => hM8); (fail_if_success (rename Mine.InRoot => hM9)); walk_at "F"; with_reducible refine' Mine.root_cut lF' lN' (Mine.room_n (by omega) (by omega)) ?_ ?_; walk_at "A") | ((fail_if_success (rename Mine.InTime => hM9)); walk_at "F"; with_reducible refine' Mine.time_cut lF' lN' (by omega) (by omega) ?_ ?_; walk_at "A") | (walk_at "F"; with_reducible refine' Mine.take_use (by with_reducible assumption) lF' lN' (by assumption) (by omega) (by decide) (by omega) (by first | exact Mine.off_nil | assumption) ?_; walk_at "A") | ((fail_if_success (rename Mine.InTake => hM9)); walk_at "F"; (try (replace lN' := Mine.trim7 lN')); with_reducible refine' Mine.take_cut lF' lN' (by assumption) (by omega) (by decide) (by omega) Mine.off_nil ?_ ?_; walk_at "A")))
local macro_rules | `(tactic| walk_at "call type:range") => `(tactic| (walk_at "F"; (with_unfolding_all refine range1_rows lF' lN' ?_); clear lF' lN'; intros))
local macro_rules | `(tactic| walk_at "call builtin:max") => `(tactic| ((with_reducible show wpAny _ _ (call _ [_, _, _]) _ _ _); walk_at "F"; with_unfolding_all refine' Mine.max3_N (by rfl) lF' lN' ?_; walk_at "A"))
local macro_rules | `(tactic| walk_at "PostF") => `(tactic| (dsimp only [Mine.PostF]))
local macro_rules | `(tactic| walk_at "pyIter ref") => `(tactic| (first | (walk_at "L"; (try (replace lN' := Mine.trim6 lN')); (try (rename _ = _ + Mine.Gr _ => c9; clear c9)); with_unfolding_all refine' Mine.loop3 (by rfl) (by rfl) rgX (by omega) (by omega) (by omega) (by omega) (by assumption) (by omega) lF' lN' (by rfl) (by rfl) (by rfl) ?_ ?_; all_goals (clear rgX); walk_at "A") | (walk_at "L"; with_unfolding_all refine' Mine.loop2 (by rfl) (by rfl) rgX (by omega) (by omega) (by omega) (by omega) lF' lN' (by rfl) ?_ ?_; all_goals (clear rgX); walk_at "A") | (walk_at "L"; refine Mine.gen1 lN' (by decide) ?_; clear lN'; intros; rename News _ _ _ _ => lN'; with_unfolding_all refine' Mine.loop1 (by rfl) (by rfl) rgX (by omega) (by omega) lF' lN' ?_ ?_; all_goals (clear rgX); walk_at "A")))
local macro_rules | `(tactic| walk_at "EndF") => `(tactic| (first | (refine Mine.endF (⟨_, _, _, _, _, _, _, _, _, _, _, _, _, _, _, _, _, _, _, _, _, _, _, _⟩ : Mine.St3) (by with_unfolding_all rfl) (by assumption) (by assumption) (by walk_at "I") (by kst_all) (by walk_at "S"; have h7 := h2 _ (List.Mem.tail _ (List.Mem.head _)); have h6 := Mine.off2 h3; simp only [if_neg h1, if_neg h4, if_neg h7, if_neg h6.1, if_neg h6.2, h3, List.contains_nil, Bool.false_eq_true, if_false]) ?_; (try dsimp only); refine Mine.j3_end ?_ ?_ ?_ ?_ (by assumption) ?_ ?_ ?_ ?_ ?_ ?_ ?_ ?_ ?_ ?_ ?_ ?_ ?_ <;> omega) | (refine Mine.endF (⟨_, _, _, _, _, _, _, _, _, _, _, _⟩ : Mine.St2) (by with_unfolding_all rfl) (by assumption) (by assumption) (by walk_at "I") (by kst_all) (by walk_at "S"; have h6 := Mine.off1 h3; simp only [if_neg h1, if_neg h4, if_neg h6, h3, List.contains_nil, Bool.false_eq_true, if_false]) ?_; (try dsimp only); apply Mine.j2_end <;> omega) | (refine Mine.endF (⟨_, _, _, _⟩ : Mine.St1) (by with_unfolding_all rfl) (by assumption) (by assumption) (by walk_at "I") (by kst_all) (by intro z h1 _ _; exact if_neg h1) (Mine.j1_end (by omega) (by omega)))))
local macro_rules | `(tactic| walk_at "S") => `(tactic| (intro z h1 h2 h3; have h4 := h2 _ (List.Mem.head _)))
local macro_rules | `(tactic| walk_at "PureP") => `(tactic| ((refine Mine.pure_end rfl (by with_unfolding_all rfl) (by assumption) (by assumption) (by walk_at "I") ?_); (try dsimp only); first | exact Mine.win_val (by assumption) | exact Mine.ct_zero (by omega) | exact Mine.ct_root (by omega) (by assumption) | exact Mine.cbrt_of (by assumption) (by omega) (by assumption) (by omega) (by assumption) (by assumption) | exact Mine.sh17 (by omega) | exact Mine.sh9 (by omega)))
local macro_rules | `(tactic| walk_at "AckP") => `(tactic| ((refine Mine.ack_end rfl (by with_unfolding_all rfl) (by assumption) (by assumption) (by walk_at "I") (by with_reducible assumption) ?_); first | (refine Mine.ack_okA (by omega) (by omega) (by omega) (by omega) rfl rfl (by intro hq9; omega) (by omega) (by omega) (by omega); done) | (refine Mine.ack_okB (by omega) (by omega) (by omega) rfl rfl rfl rfl (fun hq9 hq8 => Mine.okg (by omega) (by omega) hq9 hq8) (by omega) (by omega) (by omega); done)))
local macro_rules | `(tactic| walk_at "eval IfExp") => `(tactic| (first | ((fail_if_success (rename Mine.InShare => hM9)); walk_at "F"; with_reducible refine' Mine.share_law (by with_reducible assumption) lF' lN' ?_ ?_; walk_at "A") | ((fail_if_success (rename Mine.InShare => hM9)); walk_at "F"; with_reducible refine' Mine.share_ack (by with_reducible assumption) lF' lN' (by omega) ?_ ?_; walk_at "A")))
local macro_rules | `(tactic| walk_at "BoolP") => `(tactic| (refine Mine.bool_end (by first | rfl | exact congrArg Value.bool (decide_eq_false (by omega))) (by with_unfolding_all rfl) (by assumption) (by assumption) (by walk_at "I")))
local macro_rules | `(tactic| walk_at "exec If") => `(tactic| (first | ((fail_if_success (rename Mine.InBeg => hM9)); walk_at "F"; with_reducible refine' Mine.beg_cut (by with_reducible assumption) lF' lN' ?_ ?_ ?_; walk_at "A") | ((fail_if_success (rename Mine.InTop => hM9)); walk_at "F"; with_reducible refine' Mine.top_cut lF' lN' ?_ ?_; walk_at "A")))
local macro_rules | `(tactic| walk_at "TopP") => `(tactic| (refine Mine.top_end rfl (by with_unfolding_all rfl) (by assumption) (by assumption) (by walk_at "I") (by omega) (by omega)))
local macro_rules | `(tactic| walk_at "BegP") => `(tactic| (refine Mine.beg_end rfl (by with_unfolding_all rfl) (by assumption) (by assumption) (by walk_at "I") (by omega) (by omega) (by omega) (by omega) (by omega) (by omega) (by first | exact Mine.ct_top (by assumption) (by assumption) | omega)))
local macro_rules | `(tactic| walk_at "setAttr ref") => `(tactic| ((k_dflt (first | (refine' Mine.set_cub (by k_asm) (by k_asm) (by k_asm) (by with_reducible assumption) (by k_is) (by k_is) (by k_is) (by k_is) (by k_get) (by k_put) (Nat.le_of_ble_eq_true rfl) ?_; k_whole) | (refine' Mine.set_cub1 (by k_asm) (by k_asm) (by k_asm) (Mine.off_mk (by k_ne) (by k_all)) (by k_is) (by k_is) (by k_is) (by k_is) (by k_get) (by k_put) (Nat.le_of_ble_eq_true rfl) ?_; k_whole; intro hO)); intro od h' tk' F' N'; (try k_sweep))))
local macro_rules | `(tactic| walk_at "eval Attribute Name") => `(tactic| (k_dflt (refine' Mine.attr_cub (by k_asm) (by k_asm) (by k_asm) (by exact rfl) (by k_is) (by k_is) (by k_is) (by k_is) (by k_get) (by k_handed) ?_); k_whole))
local macro_rules | `(tactic| walk_at "execs cons") => `(tactic| (first | ((fail_if_success (rename Mine.InGso => hM9)); (with_reducible refine Mine.let_gso ?_); intro hG g' dr' o') | ((with_reducible refine Mine.tok_gen ?_); intro _)))
local macro_rules | `(tactic| walk_at "WhPost") => `(tactic| (dsimp only [Mine.WhPost]))
local macro_rules | `(tactic| walk_at "exec While Compare cons nil") => `(tactic| (walk_at "F"; (first | with_unfolding_all refine' Mine.left3 lF' lN' (by rfl) (by rfl) (by rfl) (by omega) (by omega) ?_ (by passes_own) | with_unfolding_all refine' Mine.root1 (by assumption) lF' lN' (by rfl) (by rfl) ?_ (by passes_own) | with_unfolding_all refine' Mine.root2 (by assumption) lF' lN' (by rfl) (by rfl) (by omega) (by omega) (by omega) (by omega) ?_ (by passes_own)); intros; (try k_fold); (try k_sweep)))
local macro_rules | `(tactic| walk_at "WhEnd") => `(tactic| ((refine Mine.wh_end (by with_unfolding_all rfl) (by assumption) (by assumption) (by walk_at "I") (by with_unfolding_all rfl) (by with_unfolding_all rfl) (by intro z h1 h2 h3; first | (simp only [if_neg h1, if_neg h2, List.contains_nil, Bool.false_eq_true, if_false]; done) | skip; have h4 := Mine.off1 h3; simp only [if_neg h1, if_neg h2, if_neg h4, h3, List.contains_nil, Bool.false_eq_true, if_false]) ?_); first | exact Mine.p1_end (by assumption) (by assumption) (by assumption) | (apply Mine.p2_low <;> omega) | (apply Mine.p2_high <;> omega) | exact Mine.p3_end (by omega) (by assumption) (by omega)))
local macro_rules | `(tactic| mul_fits) => `(tactic| first | exact PySem.IntMulOk.of_right (by decide) | exact PySem.IntMulOk.of_left (by decide) | exact PySem.IntMulOk.of_right (PySem.intBits_le_64 (by omega) (by omega)))
set_option rowWalk.seconds 0
set_option maxRecDepth 100000 in
set_option maxHeartbeats 40000000 in
theorem PySem.Challenge.cw_pf0264_01_holds : PySem.Challenge.rw_pf0264_01.Holds := by
  (w_on; o_law; k_head; (case hw => w_witness2); w_strict k_go)
