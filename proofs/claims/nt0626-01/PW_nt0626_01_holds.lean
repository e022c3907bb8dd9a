import PyProof.Rows.All
import Wide.All
import OpenK.AllK
import Wide.FinOn
import Lean
import PySem.Challenge.RW_nt0626_01
open PySem PySem.W PySem.Calls PyProof.Rows PyProof.V PySem.Spec
set_option Elab.async false
set_option maxRecDepth 100000
set_option rowWalk.seconds 0
set_option maxHeartbeats 8000000
namespace Mine
open_top hd for PySem.Challenge.rw_nt0626_01
structure Halt (P : Prop) : Prop where
  go : P
theorem halt {P : Prop} (h : Halt P) : P := h.go

/-- the addresses of a ledger are all different -/
def Apart (l : List (Addr × Obj)) : Prop := (l.map (·.1)).Nodup
theorem Apart.all {d : Addr} {o : Obj} {r : List (Addr × Obj)} (D : Apart ((d, o) :: r)) : ∀ p ∈ r, p.1 ≠ d := by
  intro p hp e
  have := (List.nodup_cons.mp D).1
  exact this (List.mem_map.mpr ⟨p, hp, e⟩)
theorem Apart.rest {p : Addr × Obj} {r : List (Addr × Obj)} (D : Apart (p :: r)) : Apart r := (List.nodup_cons.mp D).2
theorem Apart.ne {p q : Addr × Obj} {r : List (Addr × Obj)} (D : Apart (p :: r)) (h : q ∈ r) : p.1 ≠ q.1 := fun e => D.all (o := p.2) q h e.symm
theorem Apart.new {d : Addr} {o : Obj} {r : List (Addr × Obj)} (D : Apart r) (h : ∀ p ∈ r, p.1 < d) : Apart ((d, o) :: r) := by
  refine List.nodup_cons.mpr ⟨fun hm => ?_, D⟩
  obtain ⟨p, hp, e⟩ := List.mem_map.mp hm
  exact absurd (h p hp) (by rw [e]; exact Nat.lt_irrefl _)
theorem Apart.perm {l l' : List (Addr × Obj)} (D : Apart l) (h : l.Perm l') : Apart l' := (h.map _).nodup_iff.mp D
theorem Apart.sub {l l' : List (Addr × Obj)} (D : Apart l) (h : l'.Sublist l) : Apart l' := List.Nodup.sublist (h.map _) D
theorem Apart.map_eq {l l' : List (Addr × Obj)} (D : Apart l) (h : l'.map (·.1) = l.map (·.1)) : Apart l' := by unfold Apart; rw [h]; exact D
theorem Apart.upd {d : Addr} {o o' : Obj} {l l' : List (Addr × Obj)} (D : Apart l) (U : Upd d o o' l l') : Apart l' := by
  obtain ⟨pre, post, rfl, rfl, _, _⟩ := U.split
  exact D.map_eq (by simp)
theorem Apart.own {l own : List (Addr × Obj)} (D : Apart l) (Do : Apart own) (h : ∀ p ∈ own, ∀ q ∈ l, p.1 ≠ q.1) : Apart (l ++ own) := by
  unfold Apart
  rw [List.map_append]
  refine List.nodup_append.mpr ⟨D, Do, fun a ha b hb => ?_⟩
  obtain ⟨p, hp, rfl⟩ := List.mem_map.mp ha
  obtain ⟨q, hq, rfl⟩ := List.mem_map.mp hb
  exact fun e => h q hq p hp e.symm

theorem upd_head {d : Addr} {o o' : Obj} {r : List (Addr × Obj)} (D : Apart ((d, o) :: r)) : Upd d o o' ((d, o) :: r) ((d, o') :: r) := .head D.all
theorem upd_tail {d : Addr} {o o' : Obj} {p : Addr × Obj} {r r' : List (Addr × Obj)} (D : Apart (p :: r)) (hm : (d, o) ∈ r) (U : Apart r → Upd d o o' r r') : Upd d o o' (p :: r) (p :: r') := .tail (D.ne hm) (U D.rest)

def pickL {α : Type} : Nat → List α → List α
  | 0, l => l
  | _ + 1, [] => []
  | i + 1, x :: l => match pickL i l with
    | y :: r => y :: x :: r
    | [] => [x]
theorem pickL_perm {α : Type} : ∀ (i : Nat) (l : List α), (pickL i l).Perm l
  | 0, l => .refl l
  | _ + 1, [] => .refl _
  | i + 1, x :: l => by
    have h := pickL_perm i l
    simp only [pickL]
    split
    · rename_i y r e
      rw [e] at h
      exact (List.Perm.swap x y r).trans (h.cons x)
    · rename_i e
      rw [e] at h
      exact h.cons x
theorem news_perm {h₀ h : Heap} {L : Addr} {l l' : List (Addr × Obj)} (N : News h₀ L h l) (p : l'.Perm l) : News h₀ L h l' := fun q hq => N q (p.mem_iff.mp hq)
theorem news_pick {h₀ h : Heap} {L : Addr} {l : List (Addr × Obj)} (i : Nat) (N : News h₀ L h l) : News h₀ L h (pickL i l) := news_perm N (pickL_perm i l)
theorem apart_pick {l : List (Addr × Obj)} (i : Nat) (D : Apart l) : Apart (pickL i l) := D.perm (pickL_perm i l).symm
theorem news_tail {h₀ h : Heap} {L : Addr} {p : Addr × Obj} {l : List (Addr × Obj)} (N : News h₀ L h (p :: l)) : News h₀ L h l := fun q hq => N q (.tail _ hq)

/-- what plain data a value bears: None, an int, a text -/
def er : Value → Option Dat
  | .none => some .none
  | .int i _ => some (.int i)
  | .str x _ => if PyData.strOk x then some (.str x) else none
  | _ => none
def Are (vs : List Value) (ds : List Dat) : Prop := vs.map er = ds.map some
theorem Are.length {vs : List Value} {ds : List Dat} (h : Are vs ds) : vs.length = ds.length := by
  have := congrArg List.length h
  simpa using this
theorem Are.nil : Are [] [] := rfl
theorem Are.cons {v : Value} {d : Dat} {vs : List Value} {ds : List Dat} (h : er v = some d) (r : Are vs ds) : Are (v :: vs) (d :: ds) := by
  unfold Are at *; simp [h, r]
theorem Are.append {vs ws : List Value} {ds es : List Dat} (h : Are vs ds) (r : Are ws es) : Are (vs ++ ws) (ds ++ es) := by
  unfold Are at *; simp [h, r]
theorem Are.take {vs : List Value} {ds : List Dat} (h : Are vs ds) (n : Nat) : Are (vs.take n) (ds.take n) := by
  unfold Are at *; rw [List.map_take, h, List.map_take]
theorem Are.drop {vs : List Value} {ds : List Dat} (h : Are vs ds) (n : Nat) : Are (vs.drop n) (ds.drop n) := by
  unfold Are at *; rw [List.map_drop, h, List.map_drop]
theorem Are.set {vs : List Value} {ds : List Dat} {v : Value} {d : Dat} (h : Are vs ds) (e : er v = some d) (n : Nat) : Are (vs.set n v) (ds.set n d) := by
  unfold Are at *; rw [List.map_set, h, e, List.map_set]
theorem Are.nones (n : Nat) : Are (List.replicate n Value.none) (List.replicate n Dat.none) := by
  unfold Are; simp [er]
theorem Are.get {vs : List Value} {ds : List Dat} {i : Nat} {v : Value} (h : Are vs ds) (e : vs[i]? = some v) : er v = some (ds.getD i .none) := by
  have q := congrArg (fun l => l[i]?) h
  simp only [List.getElem?_map, e, Option.map_some] at q
  cases hd : ds[i]? with
  | none => rw [hd] at q; cases q
  | some d =>
    rw [hd] at q
    rw [List.getD_eq_getElem?_getD, hd]
    exact Option.some.inj q
theorem Are.some {vs : List Value} {ds : List Dat} {i : Nat} (h : Are vs ds) (hi : i < ds.length) : ∃ v, vs[i]? = some v ∧ er v = some (ds.getD i .none) := by
  have hi' : i < vs.length := by rw [h.length]; exact hi
  exact ⟨vs[i], List.getElem?_eq_getElem hi', h.get (List.getElem?_eq_getElem hi')⟩
theorem er_none : er Value.none = some Dat.none := rfl
theorem er_int (i : Int) (t : Tok) : er (.int i t) = some (.int i) := rfl
theorem er_dat {v : Value} {d : Dat} (h : er v = some d) : DatIn [] v d ∧ kqdOk 8 d = true := by
  cases v with
  | none => cases h; exact ⟨.none, rfl⟩
  | int i t => cases h; exact ⟨.int i t, rfl⟩
  | str x t =>
    simp only [er] at h
    split at h
    · rename_i q; cases h; exact ⟨.str x t, q⟩
    · cases h
  | _ => cases h
theorem Are.dats : ∀ {vs : List Value} {ds : List Dat}, Are vs ds → DatAll [] vs ds ∧ ∀ d ∈ ds, kqdOk 8 d = true
  | [], [], _ => ⟨.nil, fun _ h => nomatch h⟩
  | v :: vs, d :: ds, h => by
    unfold Are at h
    simp only [List.map_cons, List.cons.injEq] at h
    obtain ⟨q1, q2⟩ := er_dat h.1
    obtain ⟨r1, r2⟩ := Are.dats (vs := vs) (ds := ds) h.2
    exact ⟨.cons q1 r1, fun e he => by rcases List.mem_cons.mp he with rfl | he; exact q2; exact r2 e he⟩
  | [], _ :: _, h => by unfold Are at h; simp at h
  | _ :: _, [], h => by unfold Are at h; simp at h

/-- the contract of a def: the ledger's head is turned to another one, the rest stands -/
def Meets (w : World) (mean : ExcName → Option Value) (mg mb : Str → Option Value) (f : Addr) (need : Nat) (vals : List Value) (led : List (Addr × Obj)) (Post : (Value → List (Addr × Obj) → Prop) → Prop) : Prop :=
  ∀ (dp un : Nat) (gd : Option (List Code)) (cn : Str) (cs : Scope) (a : Addr) (ccd : Value) (cl : List (Str × Addr)) (outer : List Env) (A₀ : Around) (base h₀ : Heap) (L : Addr) (m : Str → Option Value) (s : Shared) (rest : List (Addr × Obj)) (Q E : Value → Shared → Prop),
    Below A₀ base outer h₀ → Fr h₀ L s.heap m → (hd.heap_39 w.params).In h₀ → News h₀ L s.heap (led ++ rest) → Apart (led ++ rest) → Top hd.view_39 (looseW hd.view_39 []) mean mg mb h₀ → cs.kind = .function →
    dp + need < recursionLimit → un + 100 * need < cLine →
    Post (fun r led' => ∀ h' tk', Fr h₀ L h' m → News h₀ L h' (led' ++ rest) → Apart (led' ++ rest) → Q r { s with heap := h', toks := tk' }) →
    wpAny (model PySem.Challenge.rw_nt0626_01.row.prog w) (ktrTop dp un gd cn cs L a ccd cl outer) (call (.ref f) vals) Q E s

section
variable {prog : Program} {w : World} {A : Around} {E : Value → Shared → Prop} {s : Shared} {h₀ : Heap} {L : Addr} {m : Str → Option Value} {news news' : List (Addr × Obj)}

theorem my_len {a : Addr} {vs : List Value} {n : Nat} {Q : Value → Shared → Prop} (N : News h₀ L s.heap news) (hm : (a, W.listOf vs.toArray n) ∈ news) (hz : vs.length < 100000)
    (h : ∀ t tk, Q (.int vs.length t) { s with toks := tk }) : wpAny (model prog w) A (call (.builtin "len") [.ref a]) Q E s := by
  refine len_list (items := vs.toArray) ⟨_, N.get hm, rfl, _, rfl⟩ ?_ ?_
  · rw [List.size_toArray]; omega
  · rw [List.size_toArray]; exact h _ _

theorem my_item {value slice : Expr} {a : Addr} {vs : List Value} {n : Nat} {k : Int} {u : Tok} {Q : Value → Shared → Prop} (N : News h₀ L s.heap news) (hm : (a, W.listOf vs.toArray n) ∈ news) (h0 : 0 ≤ k) (hj : k < (vs.length : Int)) (hz : vs.length < 100000)
    (h : ∀ v, vs[k.toNat]? = some v → Q v s)
    (hs : subscripted slice false (.ref a) (.int k u) = operate [.ref a, .int k u] (getItem (.ref a) (.int k u)) := by with_unfolding_all rfl) :
    wpAny (model prog w) A (subscriptTail value slice (.ref a) (.int k u)) Q E s := by
  have hl : s.heap.IsList a vs.toArray := ⟨_, N.get hm, rfl, _, rfl⟩
  have hk : k.toNat < vs.length := by omega
  refine tail_any hl.typeIs slot_list_getitem.lookup (wpAny_getItem_list (x := vs[k.toNat]) hl h0 (by omega) (by simp [hk]) (h _ (by simp [hk]))) hs

theorem ki_setL_of (l : List Value) (k : Nat) (v : Value) (h : k < l.length) : ki_setL l k v = some (l.set k v) := by
  induction l generalizing k with
  | nil => simp at h
  | cons x l ih =>
    cases k with
    | zero => rfl
    | succ k => simp only [ki_setL]; rw [ih k (by simpa using h)]; rfl

theorem my_set {a : Addr} {vs : List Value} {n : Nat} {k : Int} {u : Tok} {v : Value} {Q : Unit → Shared → Prop} (F : Fr h₀ L s.heap m) (N : News h₀ L s.heap news) (D : Apart news) (U : Upd a (W.listOf vs.toArray n) (W.listOf (vs.set k.toNat v).toArray n) news news') (h0 : 0 ≤ k) (hj : k < (vs.length : Int)) (hz : vs.length < 100000)
    (h : ∀ h', Fr h₀ L h' m → News h₀ L h' news' → Apart news' → Q () { s with heap := h' }) : wpAny (model prog w) A (setItem (.ref a) (.int k u) v) Q E s :=
  have hk : k.toNat < vs.length := by omega
  ki_set (its := vs.toArray) F N h0 (by omega) (ki_setL_of _ _ _ (by simpa using hk)) U fun h' F' N' => h h' F' N' (D.upd U)
end

/-- a fact laid by, out of omega's sight -/
structure Hold (P : Prop) : Prop where
  go : P
/-- the greater of two, and the lesser, told without a case -/
structure Len (c a b : Nat) : Prop where
  ge1 : a ≤ c
  ge2 : b ≤ c
  le : ∀ B, a ≤ B → b ≤ B → c ≤ B
theorem Len.of (a b : Nat) : Len (max a b) a b := ⟨Nat.le_max_left _ _, Nat.le_max_right _ _, fun _ h1 h2 => Nat.max_le.mpr ⟨h1, h2⟩⟩
theorem Len.eq {c c' a b : Nat} (h : Len c a b) (h' : Len c' a b) : c = c' := Nat.le_antisymm (h.le _ h'.ge1 h'.ge2) (h'.le _ h.ge1 h.ge2)
structure Mn (c a b : Nat) : Prop where
  le1 : c ≤ a
  le2 : c ≤ b
  ge : ∀ B, B ≤ a → B ≤ b → B ≤ c
theorem dok {a b c L : Nat} (h : a + c < L) (k : (b + 1).ble c = true) : a + 1 + b < L := by
  have := Nat.le_of_ble_eq_true k
  omega
theorem uok {a k b c L : Nat} (h : a + 100 * c < L) (q : (k + 100 * b).ble (100 * c) = true) : a + k + 100 * b < L := by
  have := Nat.le_of_ble_eq_true q
  omega
theorem nok {a k b c L : Nat} (h : a + 100 * c < L) (q : (k + b).ble (100 * c) = true) : a + k + b < L := by
  have := Nat.le_of_ble_eq_true q
  omega
theorem tn2 (a b : Nat) : ((a : Int) + (b : Int)).toNat = a + b := rfl
theorem tns (a b : Nat) : ((a : Int) - (b : Int)).toNat = a - b := Int.toNat_sub a b
theorem q_int {Q : Value → Shared → Prop} {a b : Int} {t : Tok} {s : Shared} (e : a = b) (h : Q (.int b t) s) : Q (.int a t) s := e ▸ h
section
variable {prog : Program} {w : World} {A : Around} {E : Value → Shared → Prop} {s : Shared} {h₀ : Heap} {L : Addr} {m : Str → Option Value} {news news' : List (Addr × Obj)}

theorem my_newList {M : Model} {vs : List Value} {Q : Value → Shared → Prop} (F : Fr h₀ L s.heap m) (N : News h₀ L s.heap news) (D : Apart news) (hz : vs.length < 100000)
    (h : ∀ l h', Fr h₀ L h' m → News h₀ L h' ((l, W.listOf vs.toArray 0) :: news) → Apart ((l, W.listOf vs.toArray 0) :: news) → Q (.ref l) { s with heap := h' }) : wpAny M A (newList vs) Q E s :=
  newList_K F N (fun l h' F' N' l1 => h l h' F' N' (D.new l1)) (by rw [sizeLine_eq]; omega)

theorem my_mul {l : Addr} {v : Value} {n : Nat} {x : Int} {u : Tok} {Q : Value → Shared → Prop} (F : Fr h₀ L s.heap m) (N : News h₀ L s.heap news) (D : Apart news) (hm : (l, W.listOf #[v] n) ∈ news) (h0 : -100000 < x) (h1 : x < 100000)
    (h : ∀ b h', Fr h₀ L h' m → News h₀ L h' ((b, W.listOf (List.replicate x.toNat v).toArray 0) :: news) → Apart ((b, W.listOf (List.replicate x.toNat v).toArray 0) :: news) → Q (.ref b) { s with heap := h' }) :
    wpAny (model prog w) A (binaryOp .Mult (.ref l) (.int x u)) Q E s := by
  refine mul_list F N (N.get hm) (by omega) (by omega) (by simp; omega) fun h' F' N' => ?_
  rw [listMul_foldl_if, show (List.replicate x.toNat (#[v] : Array Value).toList).flatten = List.replicate x.toNat v by simp] at N'
  exact h _ h' F' N' (D.new fun p hp => Heap.lt_size (N p hp).1)

theorem my_extend {a b : Addr} {vs ws : List Value} {n k : Nat} {Q : Value → Shared → Prop} (F : Fr h₀ L s.heap m) (N : News h₀ L s.heap news) (D : Apart news) (hb : (b, W.listOf ws.toArray k) ∈ news) (U : Upd a (W.listOf vs.toArray n) (W.listOf (vs ++ ws).toArray (n + 1)) news news')
    (h0 : ws.length ≠ 0) (hz : vs.length + ws.length < 100000)
    (h : ∀ h', Fr h₀ L h' m → News h₀ L h' news' → Apart news' → Q .none { s with heap := h' }) : wpAny (model prog w) A (call (.builtin "list.extend") [.ref a, .ref b]) Q E s := by
  have hs : ∀ k, k < 100000 → k ≤ sizeLine := fun k hk => by rw [sizeLine_eq]; omega
  refine kl_extend (its := vs.toArray) (its2 := ws.toArray) F N hb rfl (by simpa using h0) U ?_ (hs _ (by simp; omega)) (by simp only [List.size_toArray]; have := hs (vs.length + ws.length) hz; omega) fun h' F' N' => h h' F' N' (D.upd U)
  simp only [List.size_toArray, Bool.and_eq_true, not_and]
  intro _
  simp [Builtin.List.listTooLong, sizeLine]; omega

theorem my_append {a : Addr} {vs : List Value} {n : Nat} {x : Value} {Q : Value → Shared → Prop} (F : Fr h₀ L s.heap m) (N : News h₀ L s.heap news) (D : Apart news) (U : Upd a (W.listOf vs.toArray n) (W.listOf (vs ++ [x]).toArray (n + 1)) news news') (hz : vs.length < 100000)
    (h : ∀ h', Fr h₀ L h' m → News h₀ L h' news' → Apart news' → Q .none { s with heap := h' }) : wpAny (model prog w) A (call (.builtin "list.append") [.ref a, x]) Q E s :=
  append_K (its := vs.toArray) (n := n) F N (by simpa using U) (fun h' F' N' => h h' F' N' (D.upd U)) (by rw [sizeLine_eq, List.size_toArray]; omega)

theorem kl_last_of (l : List Value) (y : Value) : kl_last (l ++ [y]) = some (l, y) := by
  induction l with
  | nil => rfl
  | cons x l ih => simp only [List.cons_append, kl_last, ih]
theorem my_pop {a : Addr} {vs : List Value} {n : Nat} {y : Value} {Q : Value → Shared → Prop} (F : Fr h₀ L s.heap m) (N : News h₀ L s.heap news) (D : Apart news) (U : Upd a (W.listOf (vs ++ [y]).toArray n) (W.listOf vs.toArray (n + 1)) news news') (hz : vs.length < 100000)
    (h : ∀ h', Fr h₀ L h' m → News h₀ L h' news' → Apart news' → Q y { s with heap := h' }) : wpAny (model prog w) A (call (.builtin "list.pop") [.ref a]) Q E s :=
  kl_pop (its := (vs ++ [y]).toArray) F N (kl_last_of _ _) U (by rw [sizeLine_eq]; simp; omega) fun h' F' N' => h h' F' N' (D.upd U)

theorem my_add {a b : Addr} {vs ws : List Value} {n k : Nat} {Q : Value → Shared → Prop} (F : Fr h₀ L s.heap m) (N : News h₀ L s.heap news) (D : Apart news) (ha : (a, W.listOf vs.toArray n) ∈ news) (hb : (b, W.listOf ws.toArray k) ∈ news) (hz : vs.length + ws.length < 100000)
    (h : ∀ c h', Fr h₀ L h' m → News h₀ L h' ((c, W.listOf (vs ++ ws).toArray 0) :: news) → Apart ((c, W.listOf (vs ++ ws).toArray 0) :: news) → Q (.ref c) { s with heap := h' }) :
    wpAny (model prog w) A (binaryOp .Add (.ref a) (.ref b)) Q E s :=
  add_lists F N ⟨_, N.get ha, rfl, _, rfl⟩ ⟨_, N.get hb, rfl, _, rfl⟩ (fun h' F' N' => h _ h' F' N' (D.new fun p hp => Heap.lt_size (N p hp).1)) (by rw [sizeLine_eq]; omega)

theorem pick_run_eq (l : List Value) (x y : Nat) : (l.drop (min x l.length)).take (min y l.length - min x l.length) = (l.drop x).take (y - x) := by
  rw [kmk_drop_min]
  by_cases h : x ≤ l.length
  · rw [Nat.min_eq_left h]
    by_cases h2 : y ≤ l.length
    · rw [Nat.min_eq_left h2]
    · rw [Nat.min_eq_right (by omega), List.take_of_length_le (by rw [List.length_drop]; omega), List.take_of_length_le (by rw [List.length_drop]; omega)]
  · rw [List.drop_of_length_le (by omega)]; simp
theorem sl_eq {a b : Nat} {n : Nat} {x y : Int} (hx : x = ((min a n : Nat) : Int)) (hy : y = ((min b n : Nat) : Int)) : (x, y, (1 : Int)) = (((min a n : Nat) : Int), ((min b n : Nat) : Int), 1) := by rw [hx, hy]
theorem sl_min (a n : Nat) : min (a : Int) (n : Int) = ((min a n : Nat) : Int) := by omega
theorem sl_mm (a n : Nat) : max 0 (min (a : Int) (n : Int)) = ((min a n : Nat) : Int) := by rw [sl_min]; exact Int.max_eq_right (Int.natCast_nonneg _)
theorem pick_run' (vs : List Value) {x y : Int} (h : 0 ≤ x) (h2 : 0 ≤ y) : (slicePick vs.toArray (some x) (some y) none).toList = (vs.drop x.toNat).take (y.toNat - x.toNat) := by
  obtain ⟨a, rfl⟩ := Int.eq_ofNat_of_zero_le h
  obtain ⟨b, rfl⟩ := Int.eq_ofNat_of_zero_le h2
  have e : sliceBounds (some (a : Int)) (some (b : Int)) none vs.toArray.size = (((min a vs.toArray.size : Nat) : Int), ((min b vs.toArray.size : Nat) : Int), 1) := by
    simp only [sliceBounds, Option.getD_none, show (1 : Int) > 0 by decide, if_true, if_neg (Int.not_lt.mpr h), if_neg (Int.not_lt.mpr h2)]
    exact sl_eq (by first | exact sl_min _ _ | exact sl_mm _ _) (by first | exact sl_min _ _ | exact sl_mm _ _)
  rw [kmk_pick_nat _ e]
  show (vs.drop (min a vs.toArray.size)).take (min b vs.toArray.size - min a vs.toArray.size) = _
  rw [List.size_toArray, pick_run_eq]; rfl
theorem pick_upto (vs : List Value) {y : Int} (h : 0 ≤ y) : (slicePick vs.toArray none (some y) none).toList = vs.take y.toNat := by
  obtain ⟨b, rfl⟩ := Int.eq_ofNat_of_zero_le h
  have e : sliceBounds none (some (b : Int)) none vs.toArray.size = (((0 : Nat) : Int), ((min b vs.toArray.size : Nat) : Int), 1) := by
    simp only [sliceBounds, Option.getD_none, show (1 : Int) > 0 by decide, if_true, if_neg (Int.not_lt.mpr h)]
    first | (rw [sl_mm]; rfl) | (rw [sl_min]; rfl)
  rw [kmk_pick_nat _ e]
  show (vs.drop 0).take (min b vs.toArray.size - 0) = _
  rw [List.drop_zero, Nat.sub_zero, List.size_toArray, kmk_take_min]; rfl
theorem pick_from (vs : List Value) {x : Int} (h : 0 ≤ x) : (slicePick vs.toArray (some x) none none).toList = vs.drop x.toNat := by
  obtain ⟨a, rfl⟩ := Int.eq_ofNat_of_zero_le h
  have e : sliceBounds (some (a : Int)) none none vs.toArray.size = (((min a vs.toArray.size : Nat) : Int), ((vs.toArray.size : Nat) : Int), 1) := by
    simp only [sliceBounds, Option.getD_none, show (1 : Int) > 0 by decide, if_true, if_neg (Int.not_lt.mpr h)]
    first | rw [sl_mm] | rw [sl_min]
  rw [kmk_pick_nat _ e]
  show (vs.drop (min a vs.toArray.size)).take (vs.toArray.size - min a vs.toArray.size) = _
  rw [List.size_toArray, kmk_drop_min, List.take_of_length_le (by rw [List.length_drop]; omega)]; rfl

theorem my_slice {value slice : PySem.Expr} {l : Addr} {vs zs : List Value} {n : Nat} {vl vu : Value} {lo hi : Option Int} {Q : Value → Shared → Prop} (F : Fr h₀ L s.heap m) (N : News h₀ L s.heap news) (D : Apart news) (hm : (l, W.listOf vs.toArray n) ∈ news)
    (pl : IsPart vl lo) (pu : IsPart vu hi) (e : (slicePick vs.toArray lo hi none).toList = zs) (hz : vs.length < 100000)
    (h : ∀ c h', Fr h₀ L h' m → News h₀ L h' ((c, W.listOf zs.toArray 0) :: news) → Apart ((c, W.listOf zs.toArray 0) :: news) → Q (.ref c) { s with heap := h' })
    (hs : subscripted slice false (.ref l) (.ref s.heap.objs.size) = operate [.ref s.heap.objs.size, .ref l] (getItem (.ref l) (.ref s.heap.objs.size))) (ht : ∀ r, letTemporaryGo value (.ref l) r = pure ()) :
    wpAny (model prog w) A (subscriptTail value slice (.ref l) (.ref s.heap.objs.size)) Q E { s with heap := s.heap.push { cls := .type "slice", data := .fields #[vl, vu, .none] } } :=
  kmk_slice_lit F N ⟨_, N.get hm, rfl, _, rfl⟩ pl pu e (fun c h' F' N' l1 => h c h' F' N' (D.new l1)) hs ht (by rw [sizeLine_eq, List.size_toArray]; omega)

theorem my_eq {a b : Addr} {vs ws : List Value} {n k : Nat} {ds : List Dat} {Q : Value → Shared → Prop} (N : News h₀ L s.heap news) (ha : (a, W.listOf vs.toArray n) ∈ news) (hb : (b, W.listOf ws.toArray k) ∈ news) (Ha : Are vs ds) (Hb : Are ws ds) (hu : A.units + 64 < cLine) (h : Q (.bool true) s) :
    wpAny (model prog w) A (compareOp .Eq (.ref a) (.ref b)) Q E s := by
  refine kqd_eq (n₁ := []) (n₂ := []) N ha rfl rfl Ha.dats.1 (fun _ h => nomatch h) hb rfl rfl Hb.dats.1 (fun _ h => nomatch h) Ha.dats.2 Hb.dats.2 hu ?_
  simpa using h
theorem my_ne {a b : Addr} {vs ws : List Value} {n k : Nat} {ds : List Dat} {Q : Value → Shared → Prop} (N : News h₀ L s.heap news) (ha : (a, W.listOf vs.toArray n) ∈ news) (hb : (b, W.listOf ws.toArray k) ∈ news) (Ha : Are vs ds) (Hb : Are ws ds) (hu : A.units + 64 < cLine) (h : Q (.bool false) s) :
    wpAny (model prog w) A (compareOp .NotEq (.ref a) (.ref b)) Q E s := by
  refine kqd_ne (n₁ := []) (n₂ := []) N ha rfl rfl Ha.dats.1 (fun _ h => nomatch h) hb rfl rfl Hb.dats.1 (fun _ h => nomatch h) Ha.dats.2 Hb.dats.2 hu ?_
  simpa using h
theorem my_ne_str {x : Str} {t u : Tok} {Q : Value → Shared → Prop} (h : Q (.bool false) s) : wpAny (model prog w) A (compareOp .NotEq (.str x t) (.str x u)) Q E s := by
  refine PyProof.Rows.ne_str ?_
  simpa using h
theorem my_newTuple {M : Model} {vs : List Value} {Q : Value → Shared → Prop} (F : Fr h₀ L s.heap m) (N : News h₀ L s.heap news) (D : Apart news) (hz : vs.length < 100000)
    (h : ∀ l h', Fr h₀ L h' m → News h₀ L h' ((l, { cls := .type "tuple", data := .seq vs.toArray }) :: news) → Apart ((l, { cls := .type "tuple", data := .seq vs.toArray }) :: news) → Q (.ref l) { s with heap := h' }) : wpAny M A (newTuple vs) Q E s :=
  newTuple_N F N (fun h' F' N' => h _ h' F' N' (D.new fun p hp => Heap.lt_size (N p hp).1)) (by rw [sizeLine_eq]; omega)
end
theorem news_fun {h₀ h : Heap} {L : Addr} {l : List (Addr × Obj)} (N : News h₀ L h l) {p q : Addr × Obj} (hp : p ∈ l) (hq : q ∈ l) (e : p.1 = q.1) : p = q := by
  have a := (N p hp).1
  have b := (N q hq).1
  rw [e, b] at a
  exact Prod.ext e (Option.some.inj a).symm
theorem apart_dedup {h₀ h : Heap} {L : Addr} : ∀ (l : List (Addr × Obj)), News h₀ L h l → ∃ l', Apart l' ∧ ∀ p, p ∈ l' ↔ p ∈ l
  | [], _ => ⟨[], List.nodup_nil, fun _ => .rfl⟩
  | p :: l, N => by
    obtain ⟨l', D, e⟩ := apart_dedup l (news_tail N)
    by_cases h : p.1 ∈ l'.map (·.1)
    · refine ⟨l', D, fun q => (e q).trans ⟨fun hq => .tail _ hq, fun hq => ?_⟩⟩
      rcases List.mem_cons.mp hq with rfl | hq
      · obtain ⟨q', hq', eq⟩ := List.mem_map.mp h
        have hq2 := (e q').mp hq'
        rw [news_fun N (.head _) (.tail _ hq2) eq.symm]
        exact hq2
      · exact hq
    · exact ⟨p :: l', List.nodup_cons.mpr ⟨h, D⟩, fun q => by rw [List.mem_cons, List.mem_cons, e q]⟩

theorem Meets.use {w : World} {mean : ExcName → Option Value} {mg mb : Str → Option Value} {f : Addr} {need : Nat} {vals : List Value} {led : List (Addr × Obj)} {Post : (Value → List (Addr × Obj) → Prop) → Prop} (C : Meets w mean mg mb f need vals led Post)
    {dp un : Nat} {gd : Option (List Code)} {cn : Str} {cs : Scope} {a : Addr} {ccd : Value} {cl : List (Str × Addr)} {outer : List Env} {A₀ : Around} {base h₀ : Heap} {L : Addr} {m : Str → Option Value} {s : Shared} {news : List (Addr × Obj)} (rest : List (Addr × Obj)) {Q E : Value → Shared → Prop}
    (B : Below A₀ base outer h₀) (F : Fr h₀ L s.heap m) (X : (hd.heap_39 w.params).In h₀) (N : News h₀ L s.heap news) (D : Apart news) (T : Top hd.view_39 (looseW hd.view_39 []) mean mg mb h₀) (hk : cs.kind = .function)
    (hp : (led ++ rest).Perm news) (hd : dp + need < recursionLimit) (hu : un + 100 * need < cLine)
    (ret : Post (fun r led' => ∀ h' tk', Fr h₀ L h' m → News h₀ L h' (led' ++ rest) → Apart (led' ++ rest) → Q r { s with heap := h', toks := tk' })) :
    wpAny (model PySem.Challenge.rw_nt0626_01.row.prog w) (ktrTop dp un gd cn cs L a ccd cl outer) (call (.ref f) vals) Q E s :=
  C dp un gd cn cs a ccd cl outer A₀ base h₀ L m s rest Q E B F X (news_perm N hp) (D.perm hp.symm) T hk hd hu ret

/-- a turn's end: one list of the ledger is another one, and a word holds of it -/
def TurnEnd (h₀ : Heap) (L : Addr) (x : Str) (m₀ : Str → Option Value) (st : Addr) (R : List (Addr × Obj)) (P : List Value → Prop) (s s₂ : Shared) : Prop :=
  ∃ h' tk m' vs k, s₂ = { s with heap := h', toks := tk } ∧ Fr h₀ L h' m' ∧ News h₀ L h' ((st, W.listOf vs.toArray k) :: R) ∧ (∀ z, z ≠ x → m' z = m₀ z) ∧ P vs
def TurnPost (h₀ : Heap) (L : Addr) (x : Str) (m₀ : Str → Option Value) (st : Addr) (R : List (Addr × Obj)) (P : List Value → Prop) (s : Shared) (Q : Flow → Shared → Prop) (f : Flow) (s₂ : Shared) : Prop :=
  match f with
  | .ret v => Q (.ret v) s₂
  | .brk => Q .next s₂
  | _ => TurnEnd h₀ L x m₀ st R P s s₂
theorem turn_end {h₀ : Heap} {L : Addr} {x : Str} {m₀ m' : Str → Option Value} {st : Addr} {R : List (Addr × Obj)} {P : List Value → Prop} {s : Shared} {h' : Heap} {tk k : Nat} {vs : List Value} {Q : Flow → Shared → Prop}
    (F : Fr h₀ L h' m') (N : News h₀ L h' ((st, W.listOf vs.toArray k) :: R)) (hm : ∀ z, z ≠ x → m' z = m₀ z) (hp : P vs) : TurnPost h₀ L x m₀ st R P s Q .next { s with heap := h', toks := tk } :=
  ⟨h', tk, m', vs, k, rfl, F, N, hm, hp⟩

theorem map_x {x : Str} {m₁ m₀ : Str → Option Value} (v : Option Value) (hm : ∀ z, z ≠ x → m₁ z = m₀ z) : (fun y => if y = x then v else m₁ y) = fun y => if y = x then v else m₀ y := by
  funext y
  by_cases h : y = x
  · simp [h]
  · simp only [if_neg h]; exact hm y h
theorem map_u {x : Str} {m₁ m₀ : Str → Option Value} (hm : ∀ z, z ≠ x → m₁ z = m₀ z) : m₁ = fun y => if y = x then m₁ y else m₀ y := by
  funext y
  by_cases h : y = x
  · simp [h]
  · simp only [if_neg h]; exact hm y h

section
variable {prog : Program} {w : World} {A : Around} {E : Value → Shared → Prop} {s : Shared} {env : Env} {h₀ : Heap} {x : Str} {body : List Stmt} {Q : Flow → Shared → Prop}
theorem my_range {r : Addr} {a₀ b₀ : Int} {t₀ u₀ v₀ : Tok} {n n₀ : Nat} {m₀ : Str → Option Value} {st : Addr} {vs₀ : List Value} {rest : List (Addr × Obj)} (P : Nat → List Value → Prop)
    (hh : A.handled = none) (hr : IsRange s.heap r a₀ b₀ 1 t₀ u₀ v₀) (hs : -100000 < a₀ ∧ a₀ < 100000 ∧ -100000 < b₀ ∧ b₀ < 100000) (hn : n = (b₀ - a₀).toNat)
    (F : Fr h₀ env.locals s.heap m₀) (N : News h₀ env.locals s.heap ((st, W.listOf vs₀.toArray n₀) :: rest)) (D : Apart ((st, W.listOf vs₀.toArray n₀) :: rest)) (hp : P 0 vs₀)
    (turn : ∀ i t vs k h tk R, i < n → P i vs → Fr h₀ env.locals h (fun y => if y = x then some (.int (a₀ + (i : Int)) t) else m₀ y) → News h₀ env.locals h ((st, W.listOf vs.toArray k) :: R) → Apart ((st, W.listOf vs.toArray k) :: R) →
      wpAny (model prog w) A (execs body env) (TurnPost h₀ env.locals x m₀ st R (P (i + 1)) { s with heap := h, toks := tk } Q) E { s with heap := h, toks := tk })
    (done : ∀ (u : Str → Option Value) vs k h tk, P n vs → Fr h₀ env.locals h (fun y => if y = x then u y else m₀ y) → News h₀ env.locals h ((st, W.listOf vs.toArray k) :: rest) → Apart ((st, W.listOf vs.toArray k) :: rest) → Q .next { s with heap := h, toks := tk }) :
    wpAny (model prog w) A (pyIter (.ref r)) (fun it s₂ => LoopAtV prog w A h₀ env x body Q E it s₂) E s := by
  have hsz : Builtin.Range.rangeSize a₀ b₀ 1 = (n : Int) := by rw [rangeSize_nat, hn]
  refine wpAny_pyIter_range hr (small_one (by omega) (by omega) (by omega) (by omega)) ?_
  have Wk : Walks prog w A s.heap.objs.size [s.heap.objs.size] [s.heap.objs.size] n (fun i v => i < n ∧ ∃ t, v = .int (a₀ + i * 1) t)
      (fun i h => IsRangeIter h s.heap.objs.size (a₀ + (i : Nat) * 1) ((n : Int) - (i : Nat)) 1) := (Walks.range hh _ a₀ 1 n).bound
  refine loop_invN (news := (st, W.listOf vs₀.toArray n₀) :: rest) (fun i m nx => (∀ z, z ≠ x → m z = m₀ z) ∧ ∃ vs k, nx = (st, W.listOf vs.toArray k) :: rest ∧ P i vs) Wk ?_ ?_ ?_ ?_ (by show IsRangeIter _ _ _ _ _; rw [hsz]; simpa using Heap.get?_push_size _ rfl) (F.push _) (fun p hp => ⟨Heap.get?_push_of_some _ (N p hp).1, (N p hp).2⟩) ⟨fun _ _ => rfl, vs₀, n₀, rfl, hp⟩ ?_ ?_
  · intro hm
    exact absurd F.ns.lt ((List.mem_singleton.mp hm) ▸ Nat.lt_irrefl _)
  · intro b hb
    rw [List.mem_singleton.mp hb]
    exact next_is_new F
  · intro p hp hI
    exact absurd (Heap.lt_size (N p hp).1) ((List.mem_singleton.mp hI) ▸ Nat.lt_irrefl _)
  · intro p hp hI
    exact absurd (Heap.lt_size (N p hp).1) ((List.mem_singleton.mp hI) ▸ Nat.lt_irrefl _)
  · rintro i v m₁ nx h tk own hi ⟨_, t, rfl⟩ hadr hoff ⟨hm, vs, k, rfl, hP⟩ F₁ N₁
    rw [map_x _ hm, show a₀ + (i : Int) * 1 = a₀ + (i : Int) by omega] at F₁
    obtain ⟨own', Do, he⟩ := apart_dedup own fun p hp => N₁ p (List.mem_append.mpr (.inr hp))
    have N₂ : News h₀ env.locals h ((st, W.listOf vs.toArray k) :: (rest ++ own')) := fun p hp => N₁ p (by
      rcases List.mem_cons.mp hp with rfl | hp
      · exact .head _
      · rcases List.mem_append.mp hp with hp | hp
        · exact .tail _ (List.mem_append.mpr (.inl hp))
        · exact List.mem_append.mpr (.inr ((he p).mp hp)))
    have D₂ : Apart ((st, W.listOf vs.toArray k) :: (rest ++ own')) := by
      refine Apart.own (l := (st, W.listOf vs.toArray k) :: rest) (D.map_eq hadr) Do fun p hp q hq => ?_
      exact hoff p ((he p).mp hp) q.1 (by rw [← hadr]; exact List.mem_map.mpr ⟨q, hq, rfl⟩)
    refine wpAny_mono (turn i t vs k h tk (rest ++ own') hi hP F₁ N₂ D₂) (fun f s₂ p => ?_) fun _ _ e => e
    have fin : TurnEnd h₀ env.locals x m₀ st (rest ++ own') (P (i + 1)) { s with heap := h, toks := tk } s₂ → InvEndN h₀ env.locals (fun m nx => (∀ z, z ≠ x → m z = m₀ z) ∧ ∃ vs k, nx = (st, W.listOf vs.toArray k) :: rest ∧ P (i + 1) vs) own (((st, W.listOf vs₀.toArray n₀) :: rest).map (·.1)) { s with heap := h, toks := tk } s₂ := by
      rintro ⟨h', tk', m', ws, k', e, F', N', hm', hP'⟩
      refine ⟨h', tk', m', (st, W.listOf ws.toArray k') :: (rest ++ own'), (st, W.listOf ws.toArray k') :: rest, e, F', N', fun p hp => ?_, fun p hp => ?_, rfl, hm', ws, k', rfl, hP'⟩
      · rcases List.mem_cons.mp hp with rfl | hp
        · exact .head _
        · exact .tail _ (List.mem_append.mpr (.inl hp))
      · exact .tail _ (List.mem_append.mpr (.inr ((he p).mpr hp)))
    cases f with
    | ret v => exact p
    | brk => exact p
    | next => exact fin p
    | cont => exact fin p
  · rintro m₁ nx h tk ⟨hm, vs, k, rfl, hP⟩ F₁ N₁
    rw [map_u hm] at F₁
    exact done m₁ vs k h tk hP F₁ N₁ (D.map_eq rfl)
end
theorem news_drop1 {h₀ h : Heap} {L : Addr} {x y : Addr × Obj} {l : List (Addr × Obj)} (N : News h₀ L h (x :: y :: l)) : News h₀ L h (x :: l) := fun q hq => N q (by
  rcases List.mem_cons.mp hq with rfl | hq
  · exact .head _
  · exact .tail _ (.tail _ hq))
theorem apart_drop1 {x y : Addr × Obj} {l : List (Addr × Obj)} (D : Apart (x :: y :: l)) : Apart (x :: l) := D.sub (.cons_cons _ (.cons _ (.refl _)))
theorem news_er {h₀ h : Heap} {L : Addr} {l : List (Addr × Obj)} (i : Nat) (N : News h₀ L h l) : News h₀ L h (l.eraseIdx i) := fun q hq => N q (List.mem_of_mem_eraseIdx hq)
theorem apart_er {l : List (Addr × Obj)} (i : Nat) (D : Apart l) : Apart (l.eraseIdx i) := D.sub (List.eraseIdx_sublist l i)
section
variable {prog : Program} {w : World} {A : Around} {E : Value → Shared → Prop} {s : Shared} {h₀ : Heap} {L : Addr} {m : Str → Option Value} {news : List (Addr × Obj)}
theorem my_last {value slice : Expr} {a : Addr} {vs : List Value} {y : Value} {n : Nat} {u : Tok} {Q : Value → Shared → Prop} (N : News h₀ L s.heap news) (hm : (a, W.listOf (vs ++ [y]).toArray n) ∈ news) (hz : vs.length < 100000)
    (h : Q y s)
    (hs : subscripted slice false (.ref a) (.int (-1) u) = operate [.ref a, .int (-1) u] (getItem (.ref a) (.int (-1) u)) := by with_unfolding_all rfl) :
    wpAny (model prog w) A (subscriptTail value slice (.ref a) (.int (-1) u)) Q E s := by
  have hl : s.heap.IsList a (vs ++ [y]).toArray := ⟨_, N.get hm, rfl, _, rfl⟩
  have hsz : (vs ++ [y]).toArray.size = vs.length + 1 := by rw [List.size_toArray, List.length_append]; rfl
  have hx : (vs ++ [y]).toArray[((-1 : Int) + ((vs ++ [y]).toArray.size : Int)).toNat]? = some y := by
    rw [hsz, show ((-1 : Int) + ((vs.length + 1 : Nat) : Int)).toNat = vs.length by omega, List.getElem?_toArray, List.getElem?_append_right (Nat.le_refl _), Nat.sub_self]
    rfl
  exact tail_any hl.typeIs slot_list_getitem.lookup (wpAny_getItem_list_neg (x := y) hl (by omega) (by rw [hsz]; omega) (by omega) hx h) hs
end
theorem off1_mem {D : Addr} {l : List (Addr × Obj)} (x : LCg.Off1 D l) (p : Addr × Obj) (h : p ∈ l) : p.1 ≠ D := by
  induction l with
  | nil => exact absurd h List.not_mem_nil
  | cons q r ih =>
    rcases List.mem_cons.mp h with e | h
    · rw [e]; exact x.1
    · exact ih x.2 h
theorem Apart.off1 {D : Addr} {o : Obj} {l : List (Addr × Obj)} (h : Apart l) (x : LCg.Off1 D l) : Apart ((D, o) :: l) := by
  refine List.nodup_cons.mpr ⟨fun hm => ?_, h⟩
  obtain ⟨p, hp, e⟩ := List.mem_map.mp hm
  exact off1_mem x p hp e
theorem strOk_ofString (x : String) : PyData.strOk (Str.ofString x) = true := by
  unfold PyData.strOk
  rw [Str.ofString_eq_toList, List.all_toArray, List.all_eq_true]
  intro c hc
  obtain ⟨d, _, rfl⟩ := List.mem_map.mp hc
  have := d.valid
  rcases this with h | h
  · exact decide_eq_true (Nat.lt_trans h (by decide))
  · exact decide_eq_true h.2
theorem strOk_append {x y : Str} (hx : PyData.strOk x = true) (hy : PyData.strOk y = true) : PyData.strOk (x ++ y) = true := by
  unfold PyData.strOk at *
  rw [Str.cps_append, Array.all_append, hx, hy]; rfl
section
variable {prog : Program} {w : World} {A : Around} {E : Value → Shared → Prop} {s : Shared}
theorem my_str {a : Int} {t : Tok} {Q : Value → Shared → Prop} (h0 : 0 ≤ a) (h1 : a < 1000000) (h : ∀ (z : Str) t' tk', PyData.strOk z = true → z.length ≤ 1000002 → Q (.str z t') { s with toks := tk' }) :
    wpAny (model prog w) A (call (.type "str") [.int a t]) Q E s := by
  refine P.str_of_int (shown (N := 2 ^ 1920) (by omega) (by omega) (Int.le_refl _)) (h _ _ _ (strOk_ofString _) ?_)
  have := len_str_of_int a
  omega
theorem my_add_str {x y : Str} {t u : Tok} {Q : Value → Shared → Prop} (hx : PyData.strOk x = true) (hy : PyData.strOk y = true) (h1 : x.length ≤ 1000002) (h2 : y.length ≤ 1000002) (h : ∀ (z : Str) t' tk', PyData.strOk z = true → Q (.str z t') { s with toks := tk' }) :
    wpAny (model prog w) A (binaryOp .Add (.str x t) (.str y u)) Q E s :=
  PyProof.Rows.add_str (fun t' tk' => h _ t' tk' (strOk_append hx hy)) (by rw [sizeLine_eq]; omega)
end
theorem updF_head {d : Addr} {o : Obj} {r : List (Addr × Obj)} (D : Apart ((d, o) :: r)) : UpdF d o ((d, o) :: r) (fun o' => (d, o') :: r) := .head D.all
theorem updF_tail {d : Addr} {o : Obj} {p : Addr × Obj} {r : List (Addr × Obj)} {g : Obj → List (Addr × Obj)} (D : Apart (p :: r)) (hm : (d, o) ∈ r) (U : Apart r → UpdF d o r g) : UpdF d o (p :: r) (fun o' => p :: g o') := .tail (D.ne hm) (U D.rest)
theorem Apart.updF {d : Addr} {o o' : Obj} {l : List (Addr × Obj)} {g : Obj → List (Addr × Obj)} (D : Apart l) (U : UpdF d o l g) : Apart (g o') := by
  obtain ⟨pre, post, rfl, hg, _, _⟩ := U.split
  rw [hg]
  exact D.map_eq (by simp)
section
variable {prog : Program} {w : World} {A : Around} {E : Value → Shared → Prop} {s : Shared} {h₀ : Heap} {L d : Addr} {m : Str → Option Value} {news : List (Addr × Obj)} {g : Obj → List (Addr × Obj)} {o : Obj}
theorem my_dset {x : Str} {t : Tok} {v : Value} {kvs : List (Str × Value)} {Q : Unit → Shared → Prop} (F : Fr h₀ L s.heap m) (N : News h₀ L s.heap news) (D : Apart news) (U : UpdF d o news g) (hd : o.IsDictOf (PySem.strKind prog w) kvs) (hsz : kvs.length ≤ 20)
    (h : ∀ h' o', Fr h₀ L h' m → News h₀ L h' (g o') → Apart (g o') → o'.IsDictOf (PySem.strKind prog w) (stored kvs x v) → Q () { s with heap := h', toks := s.toks + 1 }) : wpAny (model prog w) A (setItem (.ref d) (.str x t) v) Q E s :=
  kda_set (knd := PySem.strKind prog w) F N U hd (strKind_is _ _ _ _) (by rw [sizeLine_eq]; omega) fun h' o' F' N' hd' => h h' o' F' N' (D.updF U) hd'
end
section
variable {prog : Program} {w : World} {h₀ h : Heap} {L : Addr} {m : Str → Option Value} {news : List (Addr × Obj)}
theorem my_made {vs : List (Value × Value)} {P : Heap → Prop} (F : Fr h₀ L h m) (N : News h₀ L h news) (D : Apart news) (hbig : h₀.NoLimit) (hk : allStrKeys vs = true) (hn : ((strPairs vs).map (·.1)).Nodup)
    (k : ∀ h' o, Fr h₀ L h' m → News h₀ L h' ((h.objs.size, o) :: news) → Apart ((h.objs.size, o) :: news) → o.IsDictOf (PySem.strKind prog w) (strPairs vs) → P h') :
    ∃ kvs, Carries (PySem.strKind prog w) vs kvs ∧ (h.push { cls := .type "dict", data := .dict #[] }).DictOf (PySem.strKind prog w) h.objs.size [] ∧
      ∀ h', h'.DictOf (PySem.strKind prog w) h.objs.size (merged [] kvs) → Heap.SameBut h.objs.size (h.push { cls := .type "dict", data := .dict #[] }) h' → P h' :=
  made_str F N hk hn fun h' o F' N' hd => k h' o F' N' (D.new fun p hp => Heap.lt_size (N p hp).1) hd
end
section Walks
-- my own words for the walk
local macro_rules | `(tactic| walk_at "call ref") => `(tactic| (refine halt ?_))
local macro_rules | `(tactic| walk_at "pyIter ref") => `(tactic| (refine halt ?_))
local macro_rules | `(tactic| walk_at "exec While BoolOp cons nil") => `(tactic| (refine halt ?_))
local macro_rules | `(tactic| walk_at "KswPost") => `(tactic| (refine halt ?_))
local macro_rules | `(tactic| walk_at "LeaveK") => `(tactic| (refine halt ?_))
local macro_rules | `(tactic| walk_at "mine arith") => `(tactic| (first | with_reducible assumption | omega | ((try simp only [List.length_set, List.length_append, List.length_replicate, List.length_cons, List.length_nil, List.length_take, List.length_drop]); omega)))
local macro_rules | `(tactic| k_upd) => `(tactic| (first | exact upd_head (by assumption) | (refine' upd_tail (by assumption) ?hm ?U; (case U => intro D9; k_upd); (case hm => k_mem))))
local macro_rules | `(tactic| walk_at "call builtin:len") => `(tactic| (k_here; (with_reducible show wpAny _ _ (call (Value.builtin "len") [Value.ref _]) _ _ _); k_dflt (refine' my_len ?N ?m ?z ?_; (case N => k_asm); (case m => k_mem); (case z => walk_at "mine arith")); intro t' tk'))
local macro_rules | `(tactic| walk_at "newList") => `(tactic| (k_here; k_dflt (refine' my_newList ?F ?N ?D ?z ?_; (case F => k_asm); (case N => k_asm); (case D => k_asm); (case z => walk_at "mine arith")); intro l' h' F' N' D'))
local macro_rules | `(tactic| walk_at "binaryOp Mult ref int") => `(tactic| (k_here; k_dflt (refine' my_mul ?F ?N ?D ?m ?a ?b ?_; (case F => k_asm); (case N => k_asm); (case D => k_asm); (case m => k_mem); (case a => walk_at "mine arith"); (case b => walk_at "mine arith")); intro l' h' F' N' D'))
local macro_rules | `(tactic| walk_at "binaryOp Add ref ref") => `(tactic| (k_here; k_dflt (refine' my_add ?F ?N ?D ?m ?m2 ?z ?_; (case F => k_asm); (case N => k_asm); (case D => k_asm); (case m => k_mem); (case m2 => k_mem); (case z => walk_at "mine arith")); intro l' h' F' N' D'))
local macro_rules | `(tactic| walk_at "call builtin:list.extend") => `(tactic| (k_here; (with_reducible show wpAny _ _ (call (Value.builtin _) [Value.ref _, Value.ref _]) _ _ _); k_dflt (refine' my_extend ?F ?N ?D ?m ?U ?a ?z ?_; (case F => k_asm); (case N => k_asm); (case D => k_asm); (case m => k_mem); (case U => k_upd); (case a => walk_at "mine arith"); (case z => walk_at "mine arith")); intro h' F' N' D'))
local macro_rules | `(tactic| walk_at "call builtin:list.append") => `(tactic| (k_here; (with_reducible show wpAny _ _ (call (Value.builtin _) [Value.ref _, _]) _ _ _); k_dflt (refine' my_append ?F ?N ?D ?U ?z ?_; (case F => k_asm); (case N => k_asm); (case D => k_asm); (case U => k_upd); (case z => walk_at "mine arith")); intro h' F' N' D'))
local macro_rules | `(tactic| walk_at "call builtin:list.pop") => `(tactic| (k_here; (with_reducible show wpAny _ _ (call (Value.builtin _) [Value.ref _]) _ _ _); k_dflt (refine' my_pop ?F ?N ?D ?U ?z ?_; (case F => k_asm); (case N => k_asm); (case D => k_asm); (case U => k_upd); (case z => walk_at "mine arith")); intro h' F' N' D'))
local macro_rules | `(tactic| walk_at "mine item") => `(tactic| (k_here; (with_reducible show wpAny _ _ (subscriptTail _ _ (Value.ref _) (Value.int _ _)) _ _ _); with_unfolding_all (refine' my_item ?N ?m ?a ?b ?c ?_ ?s; (case N => k_asm); (case m => k_mem); (case a => walk_at "mine arith"); (case b => walk_at "mine arith"); (case c => walk_at "mine arith"); (case s => rfl)); intro v' hv'))
local macro_rules | `(tactic| walk_at "subscriptTail Name Name ref int") => `(tactic| walk_at "mine item")
local macro_rules | `(tactic| walk_at "subscriptTail Name BinOp ref int") => `(tactic| walk_at "mine item")
local macro_rules | `(tactic| walk_at "setItem ref int") => `(tactic| (k_here; (with_reducible show wpAny _ _ (setItem (Value.ref _) (Value.int _ _) _) _ _ _); (fail_if_success (with_reducible show wpAny _ _ (setItem (Value.ref _) (Value.int 1 _) _) _ _ _)); (fail_if_success (with_reducible show wpAny _ _ (setItem (Value.ref _) (Value.int 2 _) _) _ _ _)); k_dflt (refine' my_set ?F ?N ?D ?U ?a ?b ?c ?_; (case F => k_asm); (case N => k_asm); (case D => k_asm); (case U => k_upd); (case a => walk_at "mine arith"); (case b => walk_at "mine arith"); (case c => walk_at "mine arith")); intro h' F' N' D'))
local macro_rules | `(tactic| walk_at "mine part") => `(tactic| (first | exact IsPart.none | exact IsPart.int _ _))
local macro_rules | `(tactic| walk_at "mine pick") => `(tactic| (first | exact pick_run' _ (by walk_at "mine arith") (by walk_at "mine arith") | exact pick_upto _ (by walk_at "mine arith") | exact pick_from _ (by walk_at "mine arith")))
local macro_rules | `(tactic| walk_at "mine slice") => `(tactic| (k_here; (with_reducible show wpAny _ _ (subscriptTail _ (PySem.Expr.Slice _ _ none _) (Value.ref _) (Value.ref _)) _ _ _); k_dflt (refine' my_slice ?F ?N ?D ?m ?p ?q ?e ?z ?_ ?s ?t; (case F => k_asm); (case N => k_asm); (case D => k_asm); (case m => k_mem); (case p => walk_at "mine part"); (case q => walk_at "mine part"); (case e => walk_at "mine pick"); (case z => walk_at "mine arith"); (case s => with_unfolding_all rfl); (case t => kmk_pure)); intro l' h' F' N' D'))
local macro_rules | `(tactic| walk_at "subscriptTail Name Slice ref ref") => `(tactic| walk_at "mine slice")
local macro_rules | `(tactic| walk_at "compareOp Eq ref ref") => `(tactic| (refine halt ?_))
local macro_rules | `(tactic| walk_at "compareOp NotEq ref ref") => `(tactic| (refine halt ?_))
local macro_rules | `(tactic| walk_at "call type:enumerate") => `(tactic| (refine halt ?_))
local macro_rules | `(tactic| walk_at "exec For Tuple Call cons nil") => `(tactic| (k_here; (rename Fr _ _ _ _ => lF'); with_unfolding_all refine For_turns lF' ?_))
local macro_rules | `(tactic| walk_at "compareOp NotEq str str") => `(tactic| (k_here; k_dflt (refine' my_ne_str ?_)))
local macro_rules | `(tactic| walk_at "newTuple") => `(tactic| (k_here; k_dflt (refine' my_newTuple ?F ?N ?D ?z ?_; (case F => k_asm); (case N => k_asm); (case D => k_asm); (case z => walk_at "mine arith")); intro l' h' F' N' D'))
local macro_rules | `(tactic| walk_at "CompSrc") => `(tactic| (refine halt ?_))
local macro_rules | `(tactic| walk_at "subscriptTail Name UnaryOp ref int") => `(tactic| (k_here; with_unfolding_all (refine' my_last ?N ?m ?z ?_ ?s; (case N => k_asm); (case m => k_mem); (case z => walk_at "mine arith"); (case s => rfl))))
local macro_rules | `(tactic| walk_at "call type:str") => `(tactic| (k_here; (with_reducible show wpAny _ _ (call (Value.type "str") [Value.int _ _]) _ _ _); refine' my_str ?a ?b ?_; (case a => walk_at "mine arith"); (case b => walk_at "mine arith"); intro z' t' tk' hz' hl'))
local macro_rules | `(tactic| walk_at "binaryOp Add str str") => `(tactic| (k_here; refine' my_add_str ?a ?b ?c ?d ?_; (case a => first | assumption | exact strOk_ofString _); (case b => first | assumption | exact strOk_ofString _); (case c => first | assumption | decide); (case d => first | assumption | decide); intro z' t' tk' hz'))
local macro_rules | `(tactic| k_updF) => `(tactic| (first | exact updF_head (by assumption) | (refine' updF_tail (by assumption) ?hm ?U; (case U => intro D9; k_updF); (case hm => k_mem))))
local macro_rules | `(tactic| walk_at "setItem ref str") => `(tactic| (k_here; k_dflt (refine' my_dset ?F ?N ?D ?U ?d ?z ?_; (case F => k_asm); (case N => k_asm); (case D => k_asm); (case U => k_updF); (case d => k_asm); (case z => exact Nat.le_of_ble_eq_true rfl)); intro h' o' F' N' D' hd'; (try kob_lit); (try dsimp only at N' D')))
local macro_rules | `(tactic| walk_at "Exists") => `(tactic| (k_here; (refine my_made (by k_asm) (by k_asm) (by k_asm) (Top.nolimit (by k_asm)) (by rfl) (of_decide_eq_true (by rfl)) ?_; intro h' o' F' N' D' hd'; (try simp only [strPairs] at hd'))))
theorem getD_grown (ds : List Dat) (k i : Nat) : (ds ++ List.replicate k Dat.none).getD i .none = ds.getD i .none := by
  simp only [List.getD_eq_getElem?_getD]
  by_cases h : i < ds.length
  · rw [List.getElem?_append_left h]
  · rw [List.getElem?_append_right (by omega), List.getElem?_eq_none (l := ds) (by omega)]
    cases q : (List.replicate k Dat.none)[i - ds.length]? with
    | none => rfl
    | some d =>
      obtain ⟨_, e⟩ := List.getElem?_eq_some_iff.mp q
      simp at e; rw [← e]; rfl
theorem getD_set (ds : List Dat) (k i : Nat) (d : Dat) (hk : k < ds.length) : (ds.set k d).getD i .none = if i = k then d else ds.getD i .none := by
  simp only [List.getD_eq_getElem?_getD, List.getElem?_set]
  by_cases h : k = i
  · subst h; simp [hk]
  · rw [if_neg h, if_neg (Ne.symm h)]
theorem getD_set_of (ds : List Dat) (k : Nat) (d : Dat) (hk : k < ds.length) : (ds.set k d).getD k .none = d := by rw [getD_set _ _ _ _ hk, if_pos rfl]
theorem getD_set_off (ds : List Dat) (k i : Nat) (d : Dat) (hk : k < ds.length) (h : i ≠ k) : (ds.set k d).getD i .none = ds.getD i .none := by rw [getD_set _ _ _ _ hk, if_neg h]
theorem grow_meets {w : World} {mean : ExcName → Option Value} {mg mb : Str → Option Value} {st : Addr} {vs : List Value} {n : Nat} {v : Int} {t : Tok} (size : Nat) (hv : v = (size : Int)) (ds : List Dat) (hA : Are vs ds) (h1 : size < 10000) (hl : ds.length < 10000) :
    Meets w mean mg mb 21 1 [.ref st, .int v t] [(st, W.listOf vs.toArray n)] (fun K => ∀ vs' n' ds', Are vs' ds' → Len ds'.length ds.length size → (∀ i, ds'.getD i .none = ds.getD i .none) → K .none [(st, W.listOf (List.toArray vs') n')]) := by
  subst hv
  have hlen := hA.length
  w_top off
  intro dp un gd cn cs a ccd cl outer A₀ base h₀ L m s rest Q E B F X
  revert X; k_fill; intro X N D T hk hd hu ret
  refine wpAny_call ?_
  k_dflt ktr_enter
  simp only [List.cons_append, List.nil_append] at N D ret; simp only [List.cons_append, List.nil_append] at *
  have hz : vs.length < 100000 := by rw [hlen]; exact Nat.lt_trans hl (by decide)
  k_steps
  · refine ⟨leaveK_ (by k_asm) (by k_asm) fun kF kN => ?_⟩
    refine ret _ _ (ds ++ List.replicate (size - ds.length) .none) ?_ ?_ (fun i => getD_grown _ _ _) _ _ kF (news_tail (news_tail kN)) (Apart.rest (Apart.rest (by assumption)))
    · rw [tns, hlen]
      exact hA.append (Are.nones _)
    · rw [List.length_append, List.length_replicate, Nat.add_sub_cancel' (by omega)]
      exact ⟨by omega, Nat.le_refl _, fun _ _ h => h⟩
  · refine ⟨leaveK_ (by k_asm) (by k_asm) fun kF kN => ?_⟩
    exact ret _ _ ds hA ⟨Nat.le_refl _, by omega, fun _ h _ => h⟩ (fun _ => rfl) _ _ kF kN (by assumption)
theorem fill_step {ds es : List Dat} {first i : Nat} (h : first + i < es.length) (hge : ∀ j, es.getD j .none = if first ≤ j ∧ j < first + i then .none else ds.getD j .none) :
    ∀ j, (es.set (first + i) .none).getD j .none = if first ≤ j ∧ j < first + (i + 1) then .none else ds.getD j .none := by
  intro j
  rw [getD_set _ _ _ _ h, hge]
  repeat' split
  all_goals first | rfl | omega
theorem fill_meets {w : World} {mean : ExcName → Option Value} {mg mb : Str → Option Value} {st : Addr} {vs : List Value} {n : Nat} {vf vl : Int} {t t' : Tok} (first last : Nat) (hf : vf = (first : Int)) (hv : vl = (last : Int)) (ds : List Dat) (hA : Are vs ds) (h1 : first < 10000) (h3 : last < 10000) (hl : ds.length < 10000) :
    Meets w mean mg mb 28 2 [.ref st, .int vf t, .int vl t'] [(st, W.listOf vs.toArray n)] (fun K => ∀ vs' n' ds', Are vs' ds' → Len ds'.length ds.length last → (∀ i, ds'.getD i .none = if first ≤ i ∧ i < last then .none else ds.getD i .none) → K .none [(st, W.listOf (List.toArray vs') n')]) := by
  subst hf hv
  w_top off
  intro dp un gd cn cs a ccd cl outer A₀ base h₀ L m s rest Q E B F X
  revert X; k_fill; intro X N D T hk hd hu ret
  refine wpAny_call ?_
  k_dflt ktr_enter
  simp only [List.cons_append, List.nil_append] at N D ret; simp only [List.cons_append, List.nil_append] at *
  k_steps
  refine ⟨?_⟩
  k_dflt (refine' Meets.use (grow_meets last rfl ds hA h3 hl) (rest) ?B ?F ?X ?N ?D ?T ?hk ?hp ?hd ?hu ?_; (case B => k_asm); (case F => k_asm); (case X => k_asm); (case N => k_asm); (case D => k_asm); (case T => k_asm); (case hk => rfl); (case hp => exact .refl _); (case hd => first | exact dok hd rfl | (dsimp only [ktrTop, Around.deeper, Around.in1]; omega)); (case hu => first | exact uok hu rfl | (dsimp only [ktrTop, Around.deeper, Around.in1]; omega)))
  intro vs1 n1 ds1 hA1 hl1 hg1 h1' tk1 F1 N1 D1
  simp only [List.cons_append, List.nil_append] at N1 D1
  clear F N D
  have hz1 := hl1.le 10000 (Nat.le_of_lt hl) (Nat.le_of_lt h3)
  have hz2 := hl1.ge2
  k_steps
  refine ⟨?_⟩
  refine my_range (n := last - first) (fun i ws => ∃ es, Are ws es ∧ es.length = ds1.length ∧ ∀ j, es.getD j .none = if first ≤ j ∧ j < first + i then .none else ds.getD j .none) (by rfl) (by assumption) ⟨by omega, by omega, by omega, by omega⟩ (tns _ _).symm (by assumption) (by assumption) D1 ⟨_, hA1, rfl, fun j => ?_⟩ ?_ ?_
  · rw [hg1, if_neg (by omega)]
  · rintro i t2 ws k2 h2' tk2 R2 hi ⟨es, hAe, hle, hge⟩ F2 N2 D2
    have hws := hAe.length.trans hle
    have hz : ws.length < 100000 := by omega
    k_steps
    exact turn_end (by assumption) (by assumption) (fun z hz => by simp only [if_neg hz]) ⟨_, hAe.set er_none _, by rw [List.length_set]; exact hle, fill_step (by omega) hge⟩
  · rintro u ws k2 h2' tk2 ⟨es, hAe, hle, hge⟩ F2 N2 D2
    k_steps
    refine ⟨leaveK_ (by k_asm) (by k_asm) fun kF kN => ?_⟩
    refine ret _ _ es hAe (hle ▸ hl1) (fun j => ?_) _ _ kF kN D2
    rw [hge]
    clear hg1 hge ret
    repeat' split
    all_goals first | rfl | omega
theorem cut_meets {w : World} {mean : ExcName → Option Value} {mg mb : Str → Option Value} {vf vt vx : Int} {t t' t'' : Tok} (func top fixed : Nat) (hf : vf = (func : Int)) (ht : vt = (top : Int)) (hx : vx = (fixed : Int)) (h1 : func < 10000) (h2 : top < 10000) (h3 : fixed < 10000) :
    Meets w mean mg mb 35 1 [.int vf t, .int vt t', .int vx t''] [] (fun K => ∀ (x : Nat) (t : Tok), Mn x top (func + 1 + fixed) → K (.int x t) []) := by
  subst hf ht hx
  w_top off
  intro dp un gd cn cs a ccd cl outer A₀ base h₀ L m s rest Q E B F X
  revert X; k_fill; intro X N D T hk hd hu ret
  refine wpAny_call ?_
  k_dflt ktr_enter
  simp only [List.cons_append, List.nil_append] at N D ret; simp only [List.cons_append, List.nil_append] at *
  k_steps
  refine ⟨leaveK_ (by k_asm) (by k_asm) fun kF kN => ?_⟩
  by_cases c : top ≤ func + 1 + fixed
  · rw [if_neg (by omega)]
    exact ret top _ ⟨Nat.le_refl _, c, fun _ h _ => h⟩ _ _ kF kN D
  · rw [if_pos (by omega)]
    exact ret (func + 1 + fixed) _ ⟨by omega, Nat.le_refl _, fun _ _ h => h⟩ _ _ kF kN D

theorem further_meets {w : World} {mean : ExcName → Option Value} {mg mb : Str → Option Value} {vf vb vx : Int} {t t' t'' : Tok} (func fixed count : Nat) (hf : vf = (func : Int)) (hb : vb = ((func + fixed + 1 + count : Nat) : Int)) (hx : vx = (fixed : Int)) (h1 : func < 10000) (h2 : fixed < 10000) (h3 : count < 10000) :
    Meets w mean mg mb 56 1 [.int vf t, .int vb t', .int vx t''] [] (fun K => ∀ t, K (.int count t) []) := by
  subst hf hb hx
  w_top off
  intro dp un gd cn cs a ccd cl outer A₀ base h₀ L m s rest Q E B F X
  revert X; k_fill; intro X N D T hk hd hu ret
  refine wpAny_call ?_
  k_dflt ktr_enter
  simp only [List.cons_append, List.nil_append] at N D ret; simp only [List.cons_append, List.nil_append] at *
  k_steps
  refine ⟨leaveK_ (by k_asm) (by k_asm) fun kF kN => ?_⟩
  rw [show ((func + fixed + 1 + count : Nat) : Int) - (func : Int) - (fixed : Int) - 1 = (count : Int) by omega]
  exact ret _ _ _ kF kN D

theorem padded_meets {w : World} {mean : ExcName → Option Value} {mg mb : Str → Option Value} {st : Addr} {vs : List Value} {n : Nat} {vt va vx : Int} {t t' t'' : Tok} (top actual fixed : Nat) (ht : vt = (top : Int)) (ha : va = (actual : Int)) (hx : vx = (fixed : Int)) (ds : List Dat) (hA : Are vs ds) (h1 : top < 4000) (h2 : actual < 4000) (h3 : fixed < 4000) (hl : ds.length < 10000) :
    Meets w mean mg mb 42 3 [.ref st, .int vt t, .int va t', .int vx t''] [(st, W.listOf vs.toArray n)] (fun K => ∀ t vs' n' ds', Are vs' ds' → Len ds'.length ds.length (top + (fixed - actual)) → (∀ i, ds'.getD i .none = if top ≤ i ∧ i < top + (fixed - actual) then .none else ds.getD i .none) → K (.int ((top + (fixed - actual) : Nat) : Int) t) [(st, W.listOf (List.toArray vs') n')]) := by
  subst ht ha hx
  w_top off
  intro dp un gd cn cs a ccd cl outer A₀ base h₀ L m s rest Q E B F X
  revert X; k_fill; intro X N D T hk hd hu ret
  refine wpAny_call ?_
  k_dflt ktr_enter
  simp only [List.cons_append, List.nil_append] at N D ret; simp only [List.cons_append, List.nil_append] at *
  k_steps
  refine ⟨?_⟩
  k_dflt (refine' Meets.use (fill_meets top (top + (fixed - actual)) rfl (by omega) ds hA (by omega) (by omega) hl) (rest) ?B ?F ?X ?N ?D ?T ?hk ?hp ?hd ?hu ?_; (case B => k_asm); (case F => k_asm); (case X => k_asm); (case N => k_asm); (case D => k_asm); (case T => k_asm); (case hk => rfl); (case hp => exact .refl _); (case hd => first | exact dok hd rfl | (dsimp only [ktrTop, Around.deeper, Around.in1]; omega)); (case hu => first | exact uok hu rfl | (dsimp only [ktrTop, Around.deeper, Around.in1]; omega)))
  intro vs1 n1 ds1 hA1 hl1 hg1 h1' tk1 F1 N1 D1
  simp only [List.cons_append, List.nil_append] at N1 D1
  clear F N D
  k_steps
  refine ⟨leaveK_ (by k_asm) (by k_asm) fun kF kN => ?_⟩
  exact q_int (by omega) (ret _ _ _ ds1 hA1 hl1 hg1 _ _ kF kN D1)
theorem lift_step {ds es : List Dat} {first top fixed i : Nat} (h : top + i < es.length) (hf : first + fixed ≤ top) (hi : i < fixed) (hge : ∀ j, es.getD j .none = if top ≤ j ∧ j < top + i then ds.getD (first + (j - top)) .none else if first ≤ j ∧ j < first + i then .none else ds.getD j .none) :
    ∀ j, ((es.set (top + i) (es.getD (first + i) .none)).set (first + i) .none).getD j .none = if top ≤ j ∧ j < top + (i + 1) then ds.getD (first + (j - top)) .none else if first ≤ j ∧ j < first + (i + 1) then .none else ds.getD j .none := by
  intro j
  rw [getD_set _ _ _ _ (by rw [List.length_set]; omega), getD_set _ _ _ _ h]
  by_cases c1 : j = first + i
  · rw [if_pos c1, if_neg (by omega), if_pos (by omega)]
  · rw [if_neg c1]
    by_cases c2 : j = top + i
    · rw [if_pos c2, if_pos (by omega), hge, if_neg (by omega), if_neg (by omega)]; congr 1; omega
    · rw [if_neg c2, hge]
      by_cases c3 : top ≤ j ∧ j < top + i
      · rw [if_pos c3, if_pos ⟨c3.1, by omega⟩]
      · rw [if_neg c3]
        by_cases c4 : first ≤ j ∧ j < first + i
        · rw [if_pos c4, if_neg (by omega), if_pos ⟨c4.1, by omega⟩]
        · rw [if_neg c4, if_neg (by omega), if_neg (by omega)]
theorem lifted_meets {w : World} {mean : ExcName → Option Value} {mg mb : Str → Option Value} {st : Addr} {vs : List Value} {n : Nat} {vt vx va : Int} {t t' t'' : Tok} (first fixed actual : Nat) (ht : vt = ((first + actual : Nat) : Int)) (hx : vx = (fixed : Int)) (ha : va = (actual : Int)) (ds : List Dat) (hA : Are vs ds) (h1 : first + actual < 4000) (h2 : fixed ≤ actual) (hl : ds.length < 8000) :
    Meets w mean mg mb 49 3 [.ref st, .int vt t, .int vx t', .int va t''] [(st, W.listOf vs.toArray n)] (fun K => ∀ t vs' n' ds', Are vs' ds' → Len ds'.length ds.length (first + actual + fixed) → (∀ i, ds'.getD i .none = if first + actual ≤ i ∧ i < first + actual + fixed then ds.getD (first + (i - (first + actual))) .none else if first ≤ i ∧ i < first + fixed then .none else ds.getD i .none) → K (.int ((first + actual : Nat) : Int) t) [(st, W.listOf (List.toArray vs') n')]) := by
  subst ht hx ha
  w_top off
  intro dp un gd cn cs a ccd cl outer A₀ base h₀ L m s rest Q E B F X
  revert X; k_fill; intro X N D T hk hd hu ret
  refine wpAny_call ?_
  k_dflt ktr_enter
  simp only [List.cons_append, List.nil_append] at N D ret; simp only [List.cons_append, List.nil_append] at *
  k_steps
  refine ⟨?_⟩
  k_dflt (refine' Meets.use (grow_meets (first + actual + fixed) (by omega) ds hA (by omega) (by omega)) (rest) ?B ?F ?X ?N ?D ?T ?hk ?hp ?hd ?hu ?_; (case B => k_asm); (case F => k_asm); (case X => k_asm); (case N => k_asm); (case D => k_asm); (case T => k_asm); (case hk => rfl); (case hp => exact .refl _); (case hd => first | exact dok hd rfl | (dsimp only [ktrTop, Around.deeper, Around.in1]; omega)); (case hu => first | exact uok hu rfl | (dsimp only [ktrTop, Around.deeper, Around.in1]; omega)))
  intro vs1 n1 ds1 hA1 hl1 hg1 h1' tk1 F1 N1 D1
  simp only [List.cons_append, List.nil_append] at N1 D1
  clear F N D
  have hz1 := hl1.le 9000 (by omega) (by omega)
  have hz2 := hl1.ge2
  k_steps
  refine ⟨?_⟩
  refine my_range (n := fixed) (fun i ws => ∃ es, Are ws es ∧ es.length = ds1.length ∧ ∀ j, es.getD j .none = if first + actual ≤ j ∧ j < first + actual + i then ds.getD (first + (j - (first + actual))) .none else if first ≤ j ∧ j < first + i then .none else ds.getD j .none) (by rfl) (by assumption) ⟨by decide, by decide, by omega, by omega⟩ (by omega) (by assumption) (by assumption) D1 ⟨_, hA1, rfl, fun j => ?_⟩ ?_ ?_
  · rw [hg1, if_neg (by omega), if_neg (by omega)]
  · rintro i t2 ws k2 h2' tk2 R2 hi ⟨es, hAe, hle, hge⟩ F2 N2 D2
    have hws := hAe.length.trans hle
    have hz : ws.length < 100000 := by omega
    k_steps
    rename Value => v9
    rename ws[_]? = some v9 => hv9
    have e1 : (((first + actual : Nat) : Int) - (actual : Int) + (0 + (i : Int))).toNat = first + i := by omega
    have e2 : (((first + actual : Nat) : Int) + (0 + (i : Int))).toNat = first + actual + i := by omega
    rw [e1] at hv9
    refine turn_end (by assumption) (by assumption) (fun z hz => by simp only [if_neg hz]) ⟨_, (hAe.set (hAe.get hv9) _).set er_none _, by simp only [List.length_set]; exact hle, ?_⟩
    rw [e1, e2]
    exact lift_step (by omega) (by omega) hi hge
  · rintro u ws k2 h2' tk2 ⟨es, hAe, hle, hge⟩ F2 N2 D2
    k_steps
    refine ⟨leaveK_ (by k_asm) (by k_asm) fun kF kN => ?_⟩
    exact ret _ _ _ es hAe (hle ▸ hl1) hge _ _ kF kN D2
theorem move_step {ds es : List Dat} {first goal i : Nat} (h : goal + i < es.length) (hf : goal < first) (hge : ∀ j, es.getD j .none = if goal ≤ j ∧ j < goal + i then ds.getD (first + (j - goal)) .none else ds.getD j .none) :
    ∀ j, (es.set (goal + i) (es.getD (first + i) .none)).getD j .none = if goal ≤ j ∧ j < goal + (i + 1) then ds.getD (first + (j - goal)) .none else ds.getD j .none := by
  intro j
  rw [getD_set _ _ _ _ h]
  by_cases c2 : j = goal + i
  · rw [if_pos c2, if_pos (by omega), hge, if_neg (by omega)]; congr 1; omega
  · rw [if_neg c2, hge]
    by_cases c3 : goal ≤ j ∧ j < goal + i
    · rw [if_pos c3, if_pos ⟨c3.1, by omega⟩]
    · rw [if_neg c3, if_neg (by omega)]
theorem moved_meets {w : World} {mean : ExcName → Option Value} {mg mb : Str → Option Value} {st : Addr} {vs : List Value} {n : Nat} {vf vt vg : Int} {t t' t'' : Tok} (first many goal : Nat) (hf : vf = (first : Int)) (ht : vt = ((first + many : Nat) : Int)) (hg : vg = (goal : Int)) (ds : List Dat) (hA : Are vs ds) (h1 : goal < first) (h2 : first + many ≤ ds.length) (hl : ds.length < 8000) :
    Meets w mean mg mb 77 3 [.ref st, .int vf t, .int vt t', .int vg t''] [(st, W.listOf vs.toArray n)] (fun K => ∀ t vs' n' ds', Are vs' ds' → ds'.length = ds.length → (∀ i, ds'.getD i .none = if goal ≤ i ∧ i < goal + many then ds.getD (first + (i - goal)) .none else ds.getD i .none) → K (.int ((goal + many : Nat) : Int) t) [(st, W.listOf (List.toArray vs') n')]) := by
  subst hf ht hg
  w_top off
  intro dp un gd cn cs a ccd cl outer A₀ base h₀ L m s rest Q E B F X
  revert X; k_fill; intro X N D T hk hd hu ret
  refine wpAny_call ?_
  k_dflt ktr_enter
  simp only [List.cons_append, List.nil_append] at N D ret; simp only [List.cons_append, List.nil_append] at *
  k_steps
  refine ⟨?_⟩
  refine my_range (n := many) (fun i ws => ∃ es, Are ws es ∧ es.length = ds.length ∧ ∀ j, es.getD j .none = if goal ≤ j ∧ j < goal + i then ds.getD (first + (j - goal)) .none else ds.getD j .none) (by rfl) (by assumption) ⟨by omega, by omega, by omega, by omega⟩ (by omega) (by assumption) (by assumption) D ⟨_, hA, rfl, fun j => ?_⟩ ?_ ?_
  · rw [if_neg (by omega)]
  · rintro i t2 ws k2 h2' tk2 R2 hi ⟨es, hAe, hle, hge⟩ F2 N2 D2
    have hws := hAe.length.trans hle
    have hz : ws.length < 100000 := by omega
    k_steps
    rename Value => v9
    rename ws[_]? = some v9 => hv9
    have e1 : ((first : Int) + (i : Int)).toNat = first + i := rfl
    have e2 : ((goal : Int) + ((first : Int) + (i : Int)) - (first : Int)).toNat = goal + i := by omega
    rw [e1] at hv9
    refine turn_end (by assumption) (by assumption) (fun z hz => by simp only [if_neg hz]) ⟨_, hAe.set (hAe.get hv9) _, by simp only [List.length_set]; exact hle, ?_⟩
    rw [e2]
    exact move_step (by omega) h1 hge
  · rintro u ws k2 h2' tk2 ⟨es, hAe, hle, hge⟩ F2 N2 D2
    k_steps
    refine ⟨leaveK_ (by k_asm) (by k_asm) fun kF kN => ?_⟩
    exact q_int (by omega) (ret _ _ _ es hAe hle hge _ _ kF kN D2)
theorem taken_step {ds es : List Dat} {first count target i : Nat} {d : Dat} (h : target + i < es.length) (hd : d = if i < count then ds.getD (first + i) .none else .none) (hge : ∀ j, es.getD j .none = if target ≤ j ∧ j < target + i then (if j - target < count then ds.getD (first + (j - target)) .none else .none) else ds.getD j .none) :
    ∀ j, (es.set (target + i) d).getD j .none = if target ≤ j ∧ j < target + (i + 1) then (if j - target < count then ds.getD (first + (j - target)) .none else .none) else ds.getD j .none := by
  intro j
  rw [getD_set _ _ _ _ h]
  by_cases c2 : j = target + i
  · rw [if_pos c2, if_pos (by omega), hd, show j - target = i by omega]
  · rw [if_neg c2, hge]
    by_cases c3 : target ≤ j ∧ j < target + i
    · rw [if_pos c3, if_pos (show target ≤ j ∧ j < target + (i + 1) from ⟨c3.1, by omega⟩)]
    · rw [if_neg c3, if_neg (show ¬(target ≤ j ∧ j < target + (i + 1)) by omega)]
theorem taken_read {ds es : List Dat} {first count target i : Nat} (h : first + count ≤ target) (hi : i < count) (hge : ∀ j, es.getD j .none = if target ≤ j ∧ j < target + i then (if j - target < count then ds.getD (first + (j - target)) .none else .none) else ds.getD j .none) :
    es.getD (first + i) .none = if i < count then ds.getD (first + i) .none else .none := by
  rw [hge, if_neg (by omega), if_pos hi]
theorem taken_meets {w : World} {mean : ExcName → Option Value} {mg mb : Str → Option Value} {st : Addr} {vs : List Value} {n : Nat} {vb vc vt wanted : Int} {t t' t'' t3 : Tok} (first count target many : Nat) (hb : vb = ((first + count : Nat) : Int)) (hc : vc = (count : Int)) (ht : vt = (target : Int)) (hm1 : wanted = -1 → many = count) (hm2 : wanted ≠ -1 → wanted = (many : Int)) (ds : List Dat) (hA : Are vs ds) (h1 : first + count ≤ target) (h2 : target < 4000) (h3 : many < 100) (hl : ds.length < 8000) :
    Meets w mean mg mb 63 3 [.ref st, .int vb t, .int vc t', .int vt t'', .int wanted t3] [(st, W.listOf vs.toArray n)] (fun K => ∀ t vs' n' ds', Are vs' ds' → Len ds'.length ds.length (target + many) → (∀ i, ds'.getD i .none = if target ≤ i ∧ i < target + many then (if i - target < count then ds.getD (first + (i - target)) .none else .none) else ds.getD i .none) → K (.int ((target + many : Nat) : Int) t) [(st, W.listOf (List.toArray vs') n')]) := by
  subst hb hc ht
  w_top off
  intro dp un gd cn cs a ccd cl outer A₀ base h₀ L m s rest Q E B F X
  revert X; k_fill; intro X N D T hk hd hu ret
  refine wpAny_call ?_
  k_dflt ktr_enter
  simp only [List.cons_append, List.nil_append] at N D ret; simp only [List.cons_append, List.nil_append] at *
  k_steps
  · have hq : wanted = -1 := by assumption
    obtain rfl := hm1 hq
    clear hm1 hm2 hq
    refine ⟨?_⟩
    k_dflt (refine' Meets.use (grow_meets (target + many) (by omega) ds hA (by omega) (by omega)) (rest) ?B ?F ?X ?N ?D ?T ?hk ?hp ?hd ?hu ?_; (case B => k_asm); (case F => k_asm); (case X => k_asm); (case N => k_asm); (case D => k_asm); (case T => k_asm); (case hk => rfl); (case hp => exact .refl _); (case hd => first | exact dok hd rfl | (dsimp only [ktrTop, Around.deeper, Around.in1]; omega)); (case hu => first | exact uok hu rfl | (dsimp only [ktrTop, Around.deeper, Around.in1]; omega)))
    intro vs1 n1 ds1 hA1 hl1 hg1 h1' tk1 F1 N1 D1
    simp only [List.cons_append, List.nil_append] at N1 D1
    clear F N D
    have hz1 := hl1.le 9000 (by omega) (by omega)
    have hz2 := hl1.ge2
    k_steps
    refine ⟨?_⟩
    refine my_range (n := many) (fun i ws => ∃ es, Are ws es ∧ es.length = ds1.length ∧ ∀ j, es.getD j .none = if target ≤ j ∧ j < target + i then (if j - target < many then ds.getD (first + (j - target)) .none else .none) else ds.getD j .none) (by rfl) (by assumption) ⟨by decide, by decide, by omega, by omega⟩ (by omega) (by assumption) (by assumption) D1 ⟨_, hA1, rfl, fun j => ?_⟩ ?_ ?_
    · rw [hg1, if_neg (by omega)]
    · rintro i t2 ws k2 h2' tk2 R2 hi ⟨es, hAe, hle, hge⟩ F2 N2 D2
      have hws := hAe.length.trans hle
      have hz : ws.length < 100000 := by omega
      have e2 : ((target : Int) + (0 + (i : Int))).toNat = target + i := by omega
      k_steps
      have e1 : (((first + many : Nat) : Int) - (many : Int) + (0 + (i : Int))).toNat = first + i := by omega
      rename Value => v9
      rename ws[_]? = some v9 => hv9
      rw [e1] at hv9
      refine turn_end (by assumption) (by assumption) (fun z hz => by simp only [if_neg hz]) ⟨_, hAe.set (hAe.get hv9) _, by rw [List.length_set]; exact hle, ?_⟩
      rw [e2]
      exact taken_step (by omega) (taken_read h1 (by omega) hge) hge
    · rintro u ws k2 h2' tk2 ⟨es, hAe, hle, hge⟩ F2 N2 D2
      k_steps
      refine ⟨leaveK_ (by k_asm) (by k_asm) fun kF kN => ?_⟩
      exact q_int (by omega) (ret _ _ _ es hAe (hle ▸ hl1) hge _ _ kF kN D2)
  · have hq : wanted ≠ -1 := by assumption
    obtain rfl := hm2 hq
    clear hm1 hm2 hq
    refine ⟨?_⟩
    k_dflt (refine' Meets.use (grow_meets (target + many) (by omega) ds hA (by omega) (by omega)) (rest) ?B ?F ?X ?N ?D ?T ?hk ?hp ?hd ?hu ?_; (case B => k_asm); (case F => k_asm); (case X => k_asm); (case N => k_asm); (case D => k_asm); (case T => k_asm); (case hk => rfl); (case hp => exact .refl _); (case hd => first | exact dok hd rfl | (dsimp only [ktrTop, Around.deeper, Around.in1]; omega)); (case hu => first | exact uok hu rfl | (dsimp only [ktrTop, Around.deeper, Around.in1]; omega)))
    intro vs1 n1 ds1 hA1 hl1 hg1 h1' tk1 F1 N1 D1
    simp only [List.cons_append, List.nil_append] at N1 D1
    clear F N D
    have hz1 := hl1.le 9000 (by omega) (by omega)
    have hz2 := hl1.ge2
    k_steps
    refine ⟨?_⟩
    refine my_range (n := many) (fun i ws => ∃ es, Are ws es ∧ es.length = ds1.length ∧ ∀ j, es.getD j .none = if target ≤ j ∧ j < target + i then (if j - target < count then ds.getD (first + (j - target)) .none else .none) else ds.getD j .none) (by rfl) (by assumption) ⟨by decide, by decide, by omega, by omega⟩ (by omega) (by assumption) (by assumption) D1 ⟨_, hA1, rfl, fun j => ?_⟩ ?_ ?_
    · rw [hg1, if_neg (by omega)]
    · rintro i t2 ws k2 h2' tk2 R2 hi ⟨es, hAe, hle, hge⟩ F2 N2 D2
      have hws := hAe.length.trans hle
      have hz : ws.length < 100000 := by omega
      have e2 : ((target : Int) + (0 + (i : Int))).toNat = target + i := by omega
      k_steps
      · have e1 : (((first + count : Nat) : Int) - (count : Int) + (0 + (i : Int))).toNat = first + i := by omega
        rename Value => v9
        rename ws[_]? = some v9 => hv9
        rw [e1] at hv9
        refine turn_end (by assumption) (by assumption) (fun z hz => by simp only [if_neg hz]) ⟨_, hAe.set (hAe.get hv9) _, by rw [List.length_set]; exact hle, ?_⟩
        rw [e2]
        exact taken_step (by omega) (taken_read h1 (by omega) hge) hge
      · refine turn_end (by assumption) (by assumption) (fun z hz => by simp only [if_neg hz]) ⟨_, hAe.set er_none _, by rw [List.length_set]; exact hle, ?_⟩
        rw [e2]
        exact taken_step (by omega) (by rw [if_neg (by omega)]) hge
    · rintro u ws k2 h2' tk2 ⟨es, hAe, hle, hge⟩ F2 N2 D2
      k_steps
      refine ⟨leaveK_ (by k_asm) (by k_asm) fun kF kN => ?_⟩
      exact q_int (by omega) (ret _ _ _ es hAe (hle ▸ hl1) hge _ _ kF kN D2)
structure SetS where
  i : Nat
  t1 : Tok
  t2 : Tok
  t3 : Tok
  vs : List Value
  k : Nat
theorem casts_add (z : Int) (i : Nat) : z + ((i + 1 : Nat) : Int) = z + (i : Int) + 1 := by omega
theorem casts_sub (z : Int) (i : Nat) : z - ((i + 1 : Nat) : Int) = z - (i : Int) - 1 := by omega
theorem settled_fin {ds es : List Dat} {goal first many count : Nat} (h : count ≤ many) (hge : ∀ j, es.getD j .none = if goal ≤ j ∧ j < goal + count then ds.getD (first + (j - goal)) .none else ds.getD j .none) :
    ∀ j, es.getD j .none = if goal ≤ j ∧ j < goal + count then (if j - goal < many then ds.getD (first + (j - goal)) .none else .none) else ds.getD j .none := by
  intro j
  rw [hge]
  by_cases c : goal ≤ j ∧ j < goal + count
  · rw [if_pos c, if_pos c, if_pos (by omega)]
  · rw [if_neg c, if_neg c]
theorem settled_fill {ds es fs : List Dat} {goal first many count : Nat} (h : many ≤ count) (hge : ∀ j, es.getD j .none = if goal ≤ j ∧ j < goal + many then ds.getD (first + (j - goal)) .none else ds.getD j .none) (hg : ∀ j, fs.getD j .none = if goal + many ≤ j ∧ j < goal + count then .none else es.getD j .none) :
    ∀ j, fs.getD j .none = if goal ≤ j ∧ j < goal + count then (if j - goal < many then ds.getD (first + (j - goal)) .none else .none) else ds.getD j .none := by
  intro j
  rw [hg, hge]
  by_cases c : goal + many ≤ j ∧ j < goal + count
  · rw [if_pos c, if_pos (by omega), if_neg (by omega)]
  · rw [if_neg c]
    by_cases d : goal ≤ j ∧ j < goal + many
    · rw [if_pos d, if_pos (by omega), if_pos (by omega)]
    · rw [if_neg d, if_neg (by omega)]
theorem settled_meets {w : World} {mean : ExcName → Option Value} {mg mb : Str → Option Value} {st : Addr} {vs : List Value} {n : Nat} {vg vf vt wanted : Int} {t t' t'' t3 : Tok} (goal first many count : Nat) (hvg : vg = (goal : Int)) (hvf : vf = (first : Int)) (hvt : vt = ((first + many : Nat) : Int)) (hc1 : wanted < 0 → count = many) (hc2 : 0 ≤ wanted → wanted = (count : Int)) (ds : List Dat) (hA : Are vs ds) (h1 : goal < first) (h2 : first + many ≤ ds.length) (h3 : count < 100) (hl : ds.length < 4000) :
    Meets w mean mg mb 70 4 [.ref st, .int vg t, .int vf t', .int vt t'', .int wanted t3] [(st, W.listOf vs.toArray n)] (fun K => ∀ t vs' n' ds', Are vs' ds' → Len ds'.length ds.length (goal + count) → (∀ i, ds'.getD i .none = if goal ≤ i ∧ i < goal + count then (if i - goal < many then ds.getD (first + (i - goal)) .none else .none) else ds.getD i .none) → K (.int ((goal + count : Nat) : Int) t) [(st, W.listOf (List.toArray vs') n')]) := by
  subst hvg hvf hvt
  w_top off
  intro dp un gd cn cs a ccd cl outer A₀ base h₀ L m s rest Q E B F X
  revert X; k_fill; intro X N D T hk hd hu ret
  refine wpAny_call ?_
  k_dflt ktr_enter
  simp only [List.cons_append, List.nil_append] at N D ret; simp only [List.cons_append, List.nil_append] at *
  k_steps
  refine ⟨?_⟩
  k_dflt (refine' ksw_while (fun c : SetS => (st, W.listOf c.vs.toArray c.k) :: rest) (fun c : SetS => [(Str.ofString "goal", Value.int ((goal : Int) + (c.i : Int)) c.t1), (Str.ofString "first", Value.int ((first : Int) + (c.i : Int)) c.t2), (Str.ofString "left", Value.int (wanted - (c.i : Int)) c.t3)]) (fun _ => True) [] (fun c : SetS => c.i ≤ many ∧ (0 ≤ wanted → (c.i : Int) ≤ wanted) ∧ ∃ es, Are c.vs es ∧ es.length = ds.length ∧ ∀ j, es.getD j .none = if goal ≤ j ∧ j < goal + c.i then ds.getD (first + (j - goal)) .none else ds.getD j .none) (fun c : SetS => many - c.i) { i := 0, t1 := t, t2 := t', t3 := t3, vs := vs, k := n } ?F ?N trivial ?hk ?hp ?turn)
  (case F => k_asm)
  (case N => k_asm)
  case hk =>
    intro p hp
    have e0 : ∀ z : Int, z + ((0 : Nat) : Int) = z := Int.add_zero
    have e1 : ∀ z : Int, z - ((0 : Nat) : Int) = z := Int.sub_zero
    dsimp only at hp; rw [e0, e0, e1] at hp
    rcases List.mem_cons.mp hp with rfl | hp
    · with_unfolding_all rfl
    rcases List.mem_cons.mp hp with rfl | hp
    · with_unfolding_all rfl
    rcases List.mem_cons.mp hp with rfl | hp
    · with_unfolding_all rfl
    cases hp
  (case hp => (refine ⟨Nat.zero_le _, fun h => h, ds, hA, rfl, fun j => ?_⟩; dsimp only; rw [if_neg (by omega)]))
  rintro ⟨i, u1, u2, u3, ws, k⟩ u h2' tk2 _ ⟨hi, hw, es, hAe, hle, hge⟩ F2 N2
  dsimp only at hi hw hAe hge N2 F2 ⊢
  have D2 : Apart ((st, W.listOf ws.toArray k) :: rest) := D.map_eq rfl
  have hws := hAe.length.trans hle
  have hz : ws.length < 100000 := by omega
  replace hc1 := Hold.mk hc1
  replace hc2 := Hold.mk hc2
  k_steps
  · refine ⟨?_⟩
    rename Fr _ _ _ _ => F9
    rename News _ _ _ _ => N9
    rename Value => v9
    rename ws[_]? = some v9 => hv9
    rw [tn2] at hv9
    have hi1 : i + 1 ≤ many := by omega
    refine' ksw_end { i := i + 1, t1 := ?a1, t2 := ?a2, t3 := ?a3, vs := _, k := k } F9 N9 (fun p hp => hp) trivial ?h1 ?h2 ⟨hi1, (fun h => by dsimp only; omega), _, hAe.set (hAe.get hv9) _, (by simp only [List.length_set]; exact hle), ?h3⟩ (by dsimp only; omega)
    case h1 =>
      intro p hp
      dsimp only at hp; rw [casts_add, casts_add, casts_sub] at hp
      rcases List.mem_cons.mp hp with rfl | hp
      · with_unfolding_all rfl
      rcases List.mem_cons.mp hp with rfl | hp
      · with_unfolding_all rfl
      rcases List.mem_cons.mp hp with rfl | hp
      · with_unfolding_all rfl
      cases hp
    case h2 =>
      intro z hz _
      have z1 := hz _ (.head _)
      have z2 := hz _ (.tail _ (.head _))
      have z3 := hz _ (.tail _ (.tail _ (.head _)))
      dsimp only at z1 z2 z3
      simp only [kstB, if_neg z1, if_neg z2, if_neg z3]
      rfl
    case h3 =>
      dsimp only
      rw [tn2]
      exact move_step (by omega) h1 hge
  · refine ⟨?_⟩
    obtain rfl : i = many := by clear hw h1 h2 h3 hl hws hz hle; omega
    obtain rfl := hc2.go (by omega)
    have hmc : i ≤ count := by omega
    clear hw hi
    k_dflt (refine' Meets.use (fill_meets (goal + i) (goal + count) rfl (by omega) es hAe (by omega) (by omega) (by omega)) (rest) ?B ?F ?X ?N ?D ?T ?hk ?hp ?hd ?hu ?_; (case B => k_asm); (case F => k_asm); (case X => k_asm); (case N => k_asm); (case D => k_asm); (case T => k_asm); (case hk => rfl); (case hp => exact .refl _); (case hd => first | exact dok hd rfl | (dsimp only [ktrTop, Around.deeper, Around.in1]; omega)); (case hu => first | exact uok hu rfl | (dsimp only [ktrTop, Around.deeper, Around.in1]; omega)))
    intro vs1 n1 ds1 hA1 hl1 hg1 h1' tk1 F1 N1 D1
    simp only [List.cons_append, List.nil_append] at N1 D1
    clear F N D
    k_steps
    refine ⟨leaveK_ (by k_asm) (by k_asm) fun kF kN => ?_⟩
    exact q_int (by omega) (ret _ _ _ ds1 hA1 (hle ▸ hl1) (settled_fill hmc hge hg1) _ _ kF kN D1)
  · have hneg : wanted < 0 := by clear h1 h2 h3 hl hws hz hle; omega
    obtain rfl := hc1.go hneg
    obtain rfl : i = count := by clear hw h1 h2 h3 hl hws hz hle; omega
    refine ⟨leaveK_ (by k_asm) (by k_asm) fun kF kN => ?_⟩
    exact ret _ _ _ es hAe (hle ▸ ⟨Nat.le_refl _, by omega, fun _ h _ => h⟩) (settled_fin (Nat.le_refl _) hge) _ _ kF kN D2
  · obtain rfl : i = count := by have := hc2.go (by omega); omega
    refine ⟨leaveK_ (by k_asm) (by k_asm) fun kF kN => ?_⟩
    exact ret _ _ _ es hAe (hle ▸ ⟨Nat.le_refl _, by omega, fun _ h _ => h⟩) (settled_fin hi hge) _ _ kF kN D2
/-- the deal: numbers to be dealt, and a seed for the time when they are through -/
def DealL (dl nm : Addr) (l : List (Addr × Obj)) : Prop :=
  ∃ pos seed t1 t2 n nums k, l = [(dl, W.listOf #[Value.ref nm, Value.int pos t1, Value.int seed t2] n), (nm, W.listOf (List.toArray nums) k)] ∧ 0 ≤ pos ∧ pos ≤ nums.length ∧ 0 ≤ seed ∧ seed < 2147483647 ∧ (∀ v ∈ nums, ∃ i t, v = Value.int i t) ∧ nums.length ≤ 40
theorem take_meets {w : World} {mean : ExcName → Option Value} {mg mb : Str → Option Value} {dl nm : Addr} {led : List (Addr × Obj)} (hL : DealL dl nm led) {many : Int} {t : Tok} (hm : 0 < many ∧ many < 1000) :
    Meets w mean mg mb 89 1 [.ref dl, .int many t] led (fun K => ∀ (v : Int) (t : Tok) (pos seed : Int) (t1 t2 : Tok) (n : Nat) (nums : List Value) (k : Nat), 0 ≤ v → v < many → DealL dl nm [(dl, W.listOf #[Value.ref nm, Value.int pos t1, Value.int seed t2] n), (nm, W.listOf (List.toArray nums) k)] → K (.int v t) [(dl, W.listOf #[Value.ref nm, Value.int pos t1, Value.int seed t2] n), (nm, W.listOf (List.toArray nums) k)]) := by
  obtain ⟨pos, seed, t1, t2, n, nums, k, rfl, hp0, hp1, hs0, hs1, hn, hk40⟩ := hL
  w_top off
  intro dp un gd cn cs a ccd cl outer A₀ base h₀ L m s rest Q E B F X
  revert X; k_fill; intro X N D T hk hd hu ret
  refine wpAny_call ?_
  k_dflt ktr_enter
  simp only [List.cons_append, List.nil_append] at N D ret; simp only [List.cons_append, List.nil_append] at *
  k_steps
  · rename_i v9 hv9
    obtain ⟨i9, t9, rfl⟩ := hn v9 (List.mem_of_getElem? hv9)
    k_steps
    refine ⟨leaveK_ (by k_asm) (by k_asm) fun kF kN => ?_⟩
    refine ret _ _ _ _ _ _ _ _ _ (Int.fmod_nonneg_of_pos _ hm.1) (Int.fmod_lt_of_pos _ hm.1) ⟨_, _, _, _, _, _, _, rfl, ?_, ?_, hs0, hs1, hn, hk40⟩ _ _ kF kN (D.map_eq rfl)
    · omega
    · omega
  · refine ⟨leaveK_ (by k_asm) (by k_asm) fun kF kN => ?_⟩
    exact ret _ _ _ _ _ _ _ _ _ (Int.fmod_nonneg_of_pos _ hm.1) (Int.fmod_lt_of_pos _ hm.1) ⟨_, _, _, _, _, _, _, rfl, hp0, hp1, Int.fmod_nonneg_of_pos _ (by decide), Int.fmod_lt_of_pos _ (by decide), hn, hk40⟩ _ _ kF kN (D.map_eq rfl)
def dueN (ds : List Dat) (n : Nat) : List Dat := (ds ++ List.replicate n Dat.none).take n
theorem dueN_length (ds : List Dat) (n : Nat) : (dueN ds n).length = n := by
  unfold dueN
  rw [List.length_take, List.length_append, List.length_replicate]
  exact Nat.min_eq_left (Nat.le_add_left _ _)
theorem ext_getD {xs ys : List Dat} (hl : xs.length = ys.length) (h : ∀ i, i < xs.length → xs.getD i .none = ys.getD i .none) : xs = ys := by
  refine List.ext_getElem hl fun i h1 h2 => ?_
  have := h i h1
  rw [List.getD_eq_getElem?_getD, List.getD_eq_getElem?_getD, List.getElem?_eq_getElem h1, List.getElem?_eq_getElem h2] at this
  exact this
theorem getD_take (xs : List Dat) (n i : Nat) : (xs.take n).getD i .none = if i < n then xs.getD i .none else .none := by
  simp only [List.getD_eq_getElem?_getD, List.getElem?_take]
  split <;> rfl
theorem getD_drop (xs : List Dat) (n i : Nat) : (xs.drop n).getD i .none = xs.getD (n + i) .none := by
  simp only [List.getD_eq_getElem?_getD, List.getElem?_drop]
theorem getD_over (xs : List Dat) (i : Nat) (h : xs.length ≤ i) : xs.getD i .none = .none := by
  rw [List.getD_eq_getElem?_getD, List.getElem?_eq_none h]; rfl
theorem dueN_get (ds : List Dat) (n i : Nat) (h : i < n) : (dueN ds n).getD i .none = ds.getD i .none := by
  unfold dueN
  rw [getD_take, if_pos h, getD_grown]
theorem due_meets {w : World} {mean : ExcName → Option Value} {mg mb : Str → Option Value} {a : Addr} {vs : List Value} {n : Nat} {v : Int} {t : Tok} (many : Nat) (hv : v = (many : Int)) (ds : List Dat) (hA : Are vs ds) (hm : many < 10000) (hl : ds.length < 10000) :
    Meets w mean mg mb 96 1 [.ref a, .int v t] [(a, W.listOf vs.toArray n)] (fun K => ∀ b vs', Are vs' (dueN ds many) → K (.ref b) [(b, W.listOf (List.toArray vs') 0), (a, W.listOf vs.toArray n)]) := by
  subst hv
  have hlen := hA.length
  have hz : vs.length < 100000 := by omega
  w_top off
  intro dp un gd cn cs a' ccd cl outer A₀ base h₀ L m s rest Q E B F X
  revert X; k_fill; intro X N D T hk hd hu ret
  refine wpAny_call ?_
  k_dflt ktr_enter
  simp only [List.cons_append, List.nil_append] at *
  k_steps
  rename Apart _ => D9
  refine ⟨leaveK_ (by k_asm) (by k_asm) fun kF kN => ?_⟩
  exact ret _ _ ((hA.append (Are.nones _)).take _) _ _ kF (news_drop1 (news_drop1 (news_drop1 kN))) (apart_drop1 (apart_drop1 (apart_drop1 D9)))
theorem begun_eq (ds as : List Dat) (bs fixed : Nat) (hl : bs + (fixed + 2) ≤ ds.length) (hg : ∀ i, i < fixed + 2 → ds.getD (bs + i) .none = if i < fixed then as.getD i .none else .none) :
    (ds.drop bs).take (fixed + 2) = dueN (as.take fixed) (fixed + 2) := by
  refine ext_getD (by rw [List.length_take, List.length_drop, dueN_length]; omega) fun i hi => ?_
  rw [List.length_take] at hi
  have hi' := Nat.lt_of_lt_of_le hi (Nat.min_le_left _ _)
  rw [getD_take, if_pos hi', getD_drop, dueN_get _ _ _ hi', getD_take, hg i hi']
theorem begun_closed {ds ds1 as : List Dat} {F X x : Nat} (hx : Mn x (F + 1 + as.length) (F + 1 + X)) (hd2 : ∀ i, i < as.length → ds.getD (F + 1 + i) .none = as.getD i .none)
    (hg : ∀ j, ds1.getD j .none = if x ≤ j ∧ j < F + 1 + (X + 2) then .none else ds.getD j .none) (h1 : F + 1 ≤ x) :
    (∀ i, i < X + 2 → ds1.getD (F + 1 + i) .none = if i < X then as.getD i .none else .none) ∧ ∀ j, j ≤ F → ds1.getD j .none = ds.getD j .none := by
  have l1 := hx.le1
  have l2 := hx.le2
  refine ⟨fun i hi => ?_, fun j hj => ?_⟩
  · rw [hg]
    by_cases c1 : i < X
    · rw [if_pos c1]
      by_cases c2 : i < as.length
      · have := hx.ge (F + 1 + (i + 1)) (by omega) (by omega)
        rw [if_neg (by omega), hd2 i c2]
      · rw [if_pos (by omega), getD_over _ _ (Nat.le_of_not_lt c2)]
    · rw [if_neg c1, if_pos (by omega)]
  · rw [hg, if_neg (by omega)]
theorem begun_open {ds ds1 ds2 ds3 as : List Dat} {F X M : Nat} (hM : Len M as.length X) (hd2 : ∀ i, i < as.length → ds.getD (F + 1 + i) .none = as.getD i .none)
    (hg1 : ∀ j, ds1.getD j .none = if F + 1 + as.length ≤ j ∧ j < F + 1 + M then .none else ds.getD j .none)
    (hg2 : ∀ j, ds2.getD j .none = if F + 1 + M ≤ j ∧ j < F + 1 + M + X then ds1.getD (F + 1 + (j - (F + 1 + M))) .none else if F + 1 ≤ j ∧ j < F + 1 + X then .none else ds1.getD j .none)
    (hg3 : ∀ j, ds3.getD j .none = if F + 1 + M + X ≤ j ∧ j < F + 1 + M + (X + 2) then .none else ds2.getD j .none) :
    (∀ i, i < X + 2 → ds3.getD (F + 1 + M + i) .none = if i < X then as.getD i .none else .none) ∧ (∀ j, j ≤ F → ds3.getD j .none = ds.getD j .none) ∧
      (∀ i, i < X → ds3.getD (F + 1 + i) .none = .none) ∧ ∀ i, X ≤ i → i < as.length → ds3.getD (F + 1 + i) .none = as.getD i .none := by
  have m1 := hM.ge1
  have m2 := hM.ge2
  refine ⟨fun i hi => ?_, fun j hj => ?_, fun i hi => ?_, fun i hi h5 => ?_⟩
  · rw [hg3]
    by_cases c1 : i < X
    · rw [if_pos c1, if_neg (by omega), hg2, if_pos (by omega), show F + 1 + (F + 1 + M + i - (F + 1 + M)) = F + 1 + i by omega, hg1]
      by_cases c2 : i < as.length
      · rw [if_neg (by omega), hd2 i c2]
      · rw [if_pos (by omega), getD_over _ _ (Nat.le_of_not_lt c2)]
    · rw [if_neg c1, if_pos (by omega)]
  · rw [hg3, if_neg (by omega), hg2, if_neg (by omega), if_neg (by omega), hg1, if_neg (by omega)]
  · rw [hg3, if_neg (by omega), hg2, if_neg (by omega), if_pos (by omega)]
  · rw [hg3, if_neg (by omega), hg2, if_neg (by omega), if_neg (by omega), hg1, if_neg (by omega), hd2 i h5]
def BegunPost (b : Bool) (ds as : List Dat) (F X x : Nat) (ds' : List Dat) : Prop :=
  Len ds'.length ds.length (x + (X + 2)) ∧ (b = false → x = F + 1) ∧ (b = true → ∃ M, Len M as.length X ∧ x = F + 1 + M) ∧ (∀ i, i < X + 2 → ds'.getD (x + i) .none = if i < X then as.getD i .none else .none) ∧ (∀ j, j ≤ F → ds'.getD j .none = ds.getD j .none) ∧
    (b = true → (∀ i, i < X → ds'.getD (F + 1 + i) .none = .none) ∧ ∀ i, X ≤ i → i < as.length → ds'.getD (F + 1 + i) .none = as.getD i .none)
theorem begun_meets {w : World} {mean : ExcName → Option Value} {mg mb : Str → Option Value} {st ar : Addr} {vs avs : List Value} {n k : Nat} {vf vx vz : Int} {t t' t'' : Tok} {b : Bool} (F X : Nat) (hf : vf = (F : Int)) (hx : vx = (X : Int)) (hz : vz = ((X + 2 : Nat) : Int)) (ds as : List Dat) (hA : Are vs ds) (hB : Are avs as) (h1 : F < 1000) (h2 : X < 10) (h4 : as.length < 10) (hl : ds.length < 2000)
    (hd1 : F + 1 + as.length ≤ ds.length) (hd2 : ∀ i, i < as.length → ds.getD (F + 1 + i) .none = as.getD i .none) :
    Meets w mean mg mb 103 5 [.ref st, .int vf t, .ref ar, .bool b, .int vx t', .int vz t''] [(st, W.listOf vs.toArray n), (ar, W.listOf avs.toArray k)]
      (fun K => ∀ (x : Nat) (t : Tok) (vs' : List Value) (n' : Nat) (ds' : List Dat), Are vs' ds' → BegunPost b ds as F X x ds' → K (.int x t) [(st, W.listOf (List.toArray vs') n'), (ar, W.listOf avs.toArray k)]) := by
  subst hf hx hz
  have hlA := hA.length
  have hlB := hB.length
  have hzA : vs.length < 100000 := by omega
  have hzB : avs.length < 100000 := by omega
  w_top off
  intro dp un gd cn cs a ccd cl outer A₀ base h₀ L m s rest Q E B F9 X9
  revert X9; k_fill; intro X9 N D T hk hd hu ret
  refine wpAny_call ?_
  k_dflt ktr_enter
  simp only [List.cons_append, List.nil_append] at N D ret; simp only [List.cons_append, List.nil_append] at *
  cases b
  · k_steps
    rename News _ _ _ _ => N8
    have N9 := news_tail N8
    clear N8 N
    refine ⟨?_⟩
    k_dflt (refine' Meets.use (cut_meets F (F + 1 + as.length) X rfl (by omega) rfl (by omega) (by omega) (by omega)) ((st, W.listOf vs.toArray n) :: (ar, W.listOf avs.toArray k) :: rest) ?B ?F ?X ?N ?D ?T ?hk ?hp ?hd ?hu ?_; (case B => k_asm); (case F => k_asm); (case X => k_asm); (case N => k_asm); (case D => k_asm); (case T => k_asm); (case hk => rfl); (case hp => exact .refl _); (case hd => first | exact dok hd rfl | (dsimp only [ktrTop, Around.deeper, Around.in1]; omega)); (case hu => first | exact uok hu rfl | (dsimp only [ktrTop, Around.deeper, Around.in1]; omega)))
    intro x u1 hx h1' tk1 F1 N1 D1
    simp only [List.cons_append, List.nil_append] at N1 D1
    have x1 := hx.le1
    have x2 := hx.ge (F + 1) (Nat.le_add_right _ _) (Nat.le_add_right _ _)
    clear N9
    k_steps
    refine ⟨?_⟩
    k_dflt (refine' Meets.use (fill_meets x (F + 1 + (X + 2)) rfl (by omega) ds hA (by omega) (by omega) (by omega)) ((ar, W.listOf avs.toArray k) :: rest) ?B ?F ?X ?N ?D ?T ?hk ?hp ?hd ?hu ?_; (case B => k_asm); (case F => k_asm); (case X => k_asm); (case N => k_asm); (case D => k_asm); (case T => k_asm); (case hk => rfl); (case hp => exact .refl _); (case hd => first | exact dok hd rfl | (dsimp only [ktrTop, Around.deeper, Around.in1]; omega)); (case hu => first | exact uok hu rfl | (dsimp only [ktrTop, Around.deeper, Around.in1]; omega)))
    intro vs1 n1 ds1 hA1 hl1 hg1 h2' tk2 F2 N2 D2
    simp only [List.cons_append, List.nil_append] at N2 D2
    have hlA1 := hA1.length
    have hz1 : vs1.length < 100000 := by rw [hlA1]; exact Nat.lt_of_le_of_lt (hl1.le 5000 (by omega) (by omega)) (by decide)
    have hl2 := hl1.ge2
    obtain ⟨hfin, hlow⟩ := begun_closed hx hd2 hg1 x2
    k_steps
    refine ⟨?_⟩
    k_dflt (refine' Meets.use (due_meets (X + 2) rfl (as.take X) (hB.take _) (by omega) (by rw [List.length_take]; exact Nat.lt_of_le_of_lt (Nat.min_le_right _ _) (by omega))) (_) ?B ?F ?X ?N ?D ?T ?hk ?hp ?hd ?hu ?_; (case B => k_asm); (case F => k_asm); (case X => k_asm); (case N => k_asm); (case D => k_asm); (case T => k_asm); (case hk => rfl); (case hp => exact .refl _); (case hd => first | exact dok hd rfl | (dsimp only [ktrTop, Around.deeper, Around.in1]; omega)); (case hu => first | exact uok hu rfl | (dsimp only [ktrTop, Around.deeper, Around.in1]; omega)))
    intro b3 vs3 hA3 h3' tk3 F3 N3 D3
    simp only [List.cons_append, List.nil_append] at N3 D3
    k_steps
    refine ⟨?_⟩
    refine my_ne N3 (by k_mem) (by k_mem) ?Ha hA3 (nok hu rfl) ?_
    case Ha =>
      rw [← begun_eq ds1 as (F + 1) X hl2 hfin, show ((F : Int) + 1 + ((X + 2 : Nat) : Int)).toNat - ((F : Int) + 1).toNat = X + 2 by omega]
      exact (hA1.drop _).take _
    k_steps
    refine ⟨leaveK_ (by k_asm) (by k_asm) fun kF kN => ?_⟩
    exact ret (F + 1) _ _ _ ds1 hA1 ⟨hl1, fun _ => rfl, fun h => (nomatch h), hfin, hlow, fun h => (nomatch h)⟩ _ _ kF (news_tail (news_tail (news_tail kN))) D3.rest.rest.rest
  · k_steps
    rename News _ _ _ _ => N8
    have N9 := news_tail N8
    clear N8 N
    refine ⟨?_⟩
    k_dflt (refine' Meets.use (padded_meets (F + 1 + as.length) as.length X (by omega) (by omega) rfl ds hA (by omega) (by omega) (by omega) (by omega)) ((ar, W.listOf avs.toArray k) :: rest) ?B ?F ?X ?N ?D ?T ?hk ?hp ?hd ?hu ?_; (case B => k_asm); (case F => k_asm); (case X => k_asm); (case N => k_asm); (case D => k_asm); (case T => k_asm); (case hk => rfl); (case hp => exact .refl _); (case hd => first | exact dok hd rfl | (dsimp only [ktrTop, Around.deeper, Around.in1]; omega)); (case hu => first | exact uok hu rfl | (dsimp only [ktrTop, Around.deeper, Around.in1]; omega)))
    obtain ⟨M, hM⟩ : ∃ M, M = as.length + (X - as.length) := ⟨_, rfl⟩
    have LM : Len M as.length X := ⟨by omega, by omega, fun B _ _ => by omega⟩
    rw [show F + 1 + as.length + (X - as.length) = F + 1 + M by rw [hM, Nat.add_assoc]]
    have hMx : (if (X : Int) > (avs.length : Int) then (X : Int) else (avs.length : Int)) = (M : Int) := by clear hd1 hl h1 hzA hzB; split <;> omega
    clear hM
    have m1 := LM.le 10 (by omega) (by omega)
    intro u1 vs1 n1 ds1 hA1 hl1 hg1 h1' tk1 F1 N1 D1
    simp only [List.cons_append, List.nil_append] at N1 D1
    have y1 := hl1.le 3000 (by omega) (by omega)
    clear N9
    k_steps
    refine ⟨?_⟩
    k_dflt (refine' Meets.use (lifted_meets (F + 1) X M (by omega) rfl hMx ds1 hA1 (by omega) LM.ge2 (by omega)) ((ar, W.listOf avs.toArray k) :: rest) ?B ?F ?X ?N ?D ?T ?hk ?hp ?hd ?hu ?_; (case B => k_asm); (case F => k_asm); (case X => k_asm); (case N => k_asm); (case D => k_asm); (case T => k_asm); (case hk => rfl); (case hp => exact .refl _); (case hd => first | exact dok hd rfl | (dsimp only [ktrTop, Around.deeper, Around.in1]; omega)); (case hu => first | exact uok hu rfl | (dsimp only [ktrTop, Around.deeper, Around.in1]; omega)))
    intro u2 vs2 n2 ds2 hA2 hl2 hg2 h2' tk2 F2 N2 D2
    simp only [List.cons_append, List.nil_append] at N2 D2
    have y2 := hl2.le 4000 (by omega) (by omega)
    k_steps
    refine ⟨?_⟩
    k_dflt (refine' Meets.use (fill_meets (F + 1 + M + X) (F + 1 + M + (X + 2)) (by omega) (by omega) ds2 hA2 (by omega) (by omega) (by omega)) ((ar, W.listOf avs.toArray k) :: rest) ?B ?F ?X ?N ?D ?T ?hk ?hp ?hd ?hu ?_; (case B => k_asm); (case F => k_asm); (case X => k_asm); (case N => k_asm); (case D => k_asm); (case T => k_asm); (case hk => rfl); (case hp => exact .refl _); (case hd => first | exact dok hd rfl | (dsimp only [ktrTop, Around.deeper, Around.in1]; omega)); (case hu => first | exact uok hu rfl | (dsimp only [ktrTop, Around.deeper, Around.in1]; omega)))
    intro vs3 n3 ds3 hA3 hl3 hg3 h3' tk3 F3 N3 D3
    simp only [List.cons_append, List.nil_append] at N3 D3
    have hlA3 := hA3.length
    have hz3 : vs3.length < 100000 := by rw [hlA3]; exact Nat.lt_of_le_of_lt (hl3.le 5000 (by omega) (by omega)) (by decide)
    have hl4 := hl3.ge2
    obtain ⟨hfin, hlow, hnil, hrest⟩ := begun_open LM hd2 hg1 hg2 hg3
    have hL : Len ds3.length ds.length (F + 1 + M + (X + 2)) := ⟨Nat.le_trans hl1.ge1 (Nat.le_trans hl2.ge1 hl3.ge1), hl3.ge2, fun B b1 b2 => hl3.le _ (hl2.le _ (hl1.le _ b1 (by omega)) (by omega)) b2⟩
    k_steps
    refine ⟨?_⟩
    k_dflt (refine' Meets.use (due_meets (X + 2) rfl (as.take X) (hB.take _) (by omega) (by rw [List.length_take]; exact Nat.lt_of_le_of_lt (Nat.min_le_right _ _) (by omega))) (_) ?B ?F ?X ?N ?D ?T ?hk ?hp ?hd ?hu ?_; (case B => k_asm); (case F => k_asm); (case X => k_asm); (case N => k_asm); (case D => k_asm); (case T => k_asm); (case hk => rfl); (case hp => exact .refl _); (case hd => first | exact dok hd rfl | (dsimp only [ktrTop, Around.deeper, Around.in1]; omega)); (case hu => first | exact uok hu rfl | (dsimp only [ktrTop, Around.deeper, Around.in1]; omega)))
    intro b4 vs4 hA4 h4' tk4 F4 N4 D4
    simp only [List.cons_append, List.nil_append] at N4 D4
    k_steps
    refine ⟨?_⟩
    refine my_ne N4 (by k_mem) (by k_mem) ?Ha hA4 (nok hu rfl) ?_
    case Ha =>
      rw [← begun_eq ds3 as (F + 1 + M) X hl4 hfin, show (((F + 1 + M : Nat) : Int) + ((X + 2 : Nat) : Int)).toNat - ((F + 1 + M : Nat) : Int).toNat = X + 2 from Nat.add_sub_cancel_left _ _]
      exact (hA3.drop _).take _
    k_steps
    refine ⟨leaveK_ (by k_asm) (by k_asm) fun kF kN => ?_⟩
    exact ret (F + 1 + M) _ _ _ ds3 hA3 ⟨hL, fun h => (nomatch h), fun _ => ⟨M, LM, rfl⟩, hfin, hlow, fun _ => ⟨hnil, hrest⟩⟩ _ _ kF (news_tail (news_tail (news_tail kN))) D4.rest.rest.rest
def TurnEnd2 (h₀ : Heap) (L : Addr) (x1 x2 : Str) (m₀ : Str → Option Value) (st : Addr) (R : List (Addr × Obj)) (P : List Value → Prop) (s s₂ : Shared) : Prop :=
  ∃ h' tk m' vs k, s₂ = { s with heap := h', toks := tk } ∧ Fr h₀ L h' m' ∧ News h₀ L h' ((st, W.listOf vs.toArray k) :: R) ∧ (∀ z, z ≠ x1 → z ≠ x2 → m' z = m₀ z) ∧ P vs
def TurnPost2 (h₀ : Heap) (L : Addr) (x1 x2 : Str) (m₀ : Str → Option Value) (st : Addr) (R : List (Addr × Obj)) (P : List Value → Prop) (s : Shared) (Q : Flow → Shared → Prop) (f : Flow) (s₂ : Shared) : Prop :=
  match f with
  | .ret v => Q (.ret v) s₂
  | .brk => Q .next s₂
  | _ => TurnEnd2 h₀ L x1 x2 m₀ st R P s s₂
theorem turn_end2 {h₀ : Heap} {L : Addr} {x1 x2 : Str} {m₀ m' : Str → Option Value} {st : Addr} {R : List (Addr × Obj)} {P : List Value → Prop} {s : Shared} {h' : Heap} {tk k : Nat} {vs : List Value} {Q : Flow → Shared → Prop}
    (F : Fr h₀ L h' m') (N : News h₀ L h' ((st, W.listOf vs.toArray k) :: R)) (hm : ∀ z, z ≠ x1 → z ≠ x2 → m' z = m₀ z) (hp : P vs) : TurnPost2 h₀ L x1 x2 m₀ st R P s Q .next { s with heap := h', toks := tk } :=
  ⟨h', tk, m', vs, k, rfl, F, N, hm, hp⟩
theorem map_u2 {x1 x2 : Str} {m₁ m₀ : Str → Option Value} (hm : ∀ z, z ≠ x1 → z ≠ x2 → m₁ z = m₀ z) : m₁ = fun y => if y = x1 then m₁ y else if y = x2 then m₁ y else m₀ y := by
  funext y
  by_cases h : y = x1
  · simp [h]
  · by_cases h2 : y = x2
    · simp [h2]
    · simp only [if_neg h, if_neg h2]; exact hm y h h2

section
variable {prog : Program} {w : World} {A : Around} {E : Value → Shared → Prop} {s : Shared} {env : Env} {h₀ : Heap} {body : List Stmt} {Q : Flow → Shared → Prop}
theorem my_enum {elts : List Expr} {kk : Nat} {pos : Pos} {x1 x2 : Str} {l : Addr} {ws : List Value} {n n₀ : Nat} {m₀ : Str → Option Value} {st : Addr} {vs₀ : List Value} {R : List (Addr × Obj)} (P : Nat → List Value → Prop)
    (hh : A.handled = none) (F : Fr h₀ env.locals s.heap m₀) (N : News h₀ env.locals s.heap ((st, W.listOf vs₀.toArray n₀) :: R)) (D : Apart ((st, W.listOf vs₀.toArray n₀) :: R)) (hl : (l, W.listOf ws.toArray n) ∈ R) (hp : P 0 vs₀)
    (turn : ∀ i x T t (u : Str → Option Value) vs k h tk R', ws[i]? = some x → P i vs → IsTup h T #[.int (i : Int) t, x] → Fr h₀ env.locals h (fun y => if y = x1 then u y else if y = x2 then u y else m₀ y) → News h₀ env.locals h ((st, W.listOf vs.toArray k) :: R') → Apart ((st, W.listOf vs.toArray k) :: R') →
      wpAny (model prog w) A (assign (.Tuple elts kk pos) env (.ref T)) (fun _ s₂ => wpAny (model prog w) A (execs body env) (TurnPost2 h₀ env.locals x1 x2 m₀ st R' (P (i + 1)) { s with heap := h, toks := tk } Q) E s₂) E { s with heap := h, toks := tk })
    (done : ∀ (u : Str → Option Value) vs k h tk, P ws.length vs → Fr h₀ env.locals h (fun y => if y = x1 then u y else if y = x2 then u y else m₀ y) → News h₀ env.locals h ((st, W.listOf vs.toArray k) :: R) → Apart ((st, W.listOf vs.toArray k) :: R) → Q .next { s with heap := h, toks := tk }) :
    wpAny (model prog w) A (call (.type "enumerate") [.ref l]) (fun xv s₁ => wpAny (model prog w) A (pyIter xv) (fun it s₂ => TurnsAt prog w A h₀ env (.Tuple elts kk pos) body Q E it s₂) E s₁) E s := by
  refine ktu_enum hh F N (.tail _ hl) rfl rfl rfl fun I hI => ?_
  have go : ∀ (suf : List Value) (i : Nat), (∀ j x, suf[j]? = some x → ws[i + j]? = some x) → i + suf.length = ws.length → ∀ m vs k, P i vs → (∀ z, z ≠ x1 → z ≠ x2 → m z = m₀ z) →
      ItemsRest prog w A E h₀ env (.Tuple elts kk pos) body Q s [(I + 1, "enumerate"), (I, "list_iterator")] [(l, W.listOf ws.toArray n)] (enumItems i suf) m ((st, W.listOf vs.toArray k) :: R) := by
    intro suf
    induction suf with
    | nil =>
      intro i _ hi m vs k hP hm h tk F1 N1
      rw [map_u2 hm] at F1
      exact done m vs k h tk (by rw [← hi]; exact hP) F1 N1 (D.map_eq rfl)
    | cons v suf ih =>
      intro i hs hi m vs k hP hm
      refine ItemsRest.pair fun T t h tk hT F1 o1 _ o2 _ N1 => ?_
      rw [map_u2 hm] at F1
      have hx : ws[i]? = some v := hs 0 v rfl
      have dis : ∀ p ∈ (st, W.listOf vs.toArray k) :: R, ∀ q ∈ [(I + 1, o1), (I, o2)], p.1 ≠ q.1 := by
        intro p hp q hq
        have h1 : p.1 < I := by
          rcases List.mem_cons.mp hp with rfl | hp
          · exact hI (st, W.listOf vs₀.toArray n₀) (.head _)
          · exact hI p (.tail _ hp)
        rcases List.mem_cons.mp hq with rfl | hq
        · exact Nat.ne_of_lt (Nat.lt_succ_of_lt h1)
        · rw [List.mem_singleton.mp hq]; exact Nat.ne_of_lt h1
      have N2 : News h₀ env.locals h ((st, W.listOf vs.toArray k) :: (R ++ [(I + 1, o1), (I, o2)])) := fun p hp => N1 p (by
        rcases List.mem_cons.mp hp with rfl | hp
        · exact List.mem_append.mpr (.inr (.head _))
        · rcases List.mem_append.mp hp with hp | hp
          · exact List.mem_append.mpr (.inr (.tail _ hp))
          · exact List.mem_append.mpr (.inl hp))
      have D2 : Apart ((st, W.listOf vs.toArray k) :: (R ++ [(I + 1, o1), (I, o2)])) := by
        refine Apart.own (l := (st, W.listOf vs.toArray k) :: R) (D.map_eq rfl) ?_ fun p hp q hq e => dis q hq p hp e.symm
        refine List.nodup_cons.mpr ⟨fun hm => ?_, List.nodup_cons.mpr ⟨fun hm => (nomatch hm), List.nodup_nil⟩⟩
        have := List.mem_singleton.mp hm
        exact absurd this (Nat.succ_ne_self I)
      refine wpAny_mono (turn i v T t m vs k h tk _ hx hP hT F1 N2 D2) (fun _ s₂ q => wpAny_mono q (fun f s₃ p => ?_) fun _ _ e => e) fun _ _ e => e
      have fin : TurnEnd2 h₀ env.locals x1 x2 m₀ st (R ++ [(I + 1, o1), (I, o2)]) (P (i + 1)) { s with heap := h, toks := tk } s₃ →
          UnrEndW h₀ env.locals { s with heap := h, toks := tk } [(I + 1, o1), (I, o2)] (fun m' n' => SubL [(l, W.listOf ws.toArray n)] n' ∧ ItemsRest prog w A E h₀ env (.Tuple elts kk pos) body Q s [(I + 1, "enumerate"), (I, "list_iterator")] [(l, W.listOf ws.toArray n)] (enumItems (i + 1) suf) m' n') s₃ := by
        rintro ⟨h', tk', m', vs', k', e, F', N', hm', hP'⟩
        refine ⟨h', tk', m', (st, W.listOf vs'.toArray k') :: R, e, F', fun p hp => N' p ?_, fun p hp q hq => ?_, ⟨.tail _ hl, trivial⟩, ih (i + 1) (fun j x hj => ?_) (by rw [← hi, List.length_cons]; omega) m' vs' k' hP' hm'⟩
        · rcases List.mem_append.mp hp with hp | hp
          · exact .tail _ (List.mem_append.mpr (.inr hp))
          · rcases List.mem_cons.mp hp with rfl | hp
            · exact .head _
            · exact .tail _ (List.mem_append.mpr (.inl hp))
        · rcases List.mem_cons.mp hp with rfl | hp
          · exact dis (st, W.listOf vs.toArray k) (.head _) q hq
          · exact dis p (.tail _ hp) q hq
        · rw [show i + 1 + j = i + (j + 1) by omega]; exact hs (j + 1) x (by simpa using hj)
      cases f with
      | ret v => exact p
      | brk => exact p
      | next => exact fin p
      | cont => exact fin p
  exact go ws 0 (fun j x hj => by rw [Nat.zero_add]; exact hj) (Nat.zero_add _) m₀ vs₀ n₀ hp fun _ _ _ => rfl
end
theorem put_step {ds es as : List Dat} {top i : Nat} {d e : Dat} (h : top + i < es.length) (hi : i < as.length + 1) (he : e = (d :: as).getD i .none) (hge : ∀ j, es.getD j .none = if top ≤ j ∧ j < top + i then (d :: as).getD (j - top) .none else if top ≤ j ∧ j < top + 1 + as.length then .none else ds.getD j .none) :
    ∀ j, (es.set (top + i) e).getD j .none = if top ≤ j ∧ j < top + (i + 1) then (d :: as).getD (j - top) .none else if top ≤ j ∧ j < top + 1 + as.length then .none else ds.getD j .none := by
  intro j
  rw [getD_set _ _ _ _ h]
  by_cases c2 : j = top + i
  · rw [if_pos c2, if_pos (by omega), he, show j - top = i by omega]
  · rw [if_neg c2, hge]
    by_cases c3 : top ≤ j ∧ j < top + i
    · rw [if_pos c3, if_pos ⟨c3.1, by omega⟩]
    · rw [if_neg c3, if_neg (show ¬(top ≤ j ∧ j < top + (i + 1)) by omega)]
theorem put_fin {ds es as : List Dat} {top : Nat} {d : Dat} (hge : ∀ j, es.getD j .none = if top ≤ j ∧ j < top + (as.length + 1) then (d :: as).getD (j - top) .none else if top ≤ j ∧ j < top + 1 + as.length then .none else ds.getD j .none) :
    (es.getD top .none = d) ∧ (∀ i, i < as.length → es.getD (top + 1 + i) .none = as.getD i .none) ∧ ∀ j, j < top → es.getD j .none = ds.getD j .none := by
  refine ⟨?_, fun i hi => ?_, fun j hj => ?_⟩
  · rw [hge, if_pos (by omega), Nat.sub_self]; rfl
  · rw [hge, if_pos (by omega), show top + 1 + i - top = i + 1 by omega]; rfl
  · rw [hge, if_neg (by omega), if_neg (by omega)]
theorem put_meets {w : World} {mean : ExcName → Option Value} {mg mb : Str → Option Value} {st ar : Addr} {vs avs : List Value} {n k : Nat} {v : Int} {nm : Str} {t t' : Tok} (top : Nat) (hv : v = (top : Int)) (ds as : List Dat) (hA : Are vs ds) (hB : Are avs as) (hnm : PyData.strOk nm = true) (h1 : top < 1000) (h4 : as.length < 10) (hl : ds.length < 2000) :
    Meets w mean mg mb 110 4 [.ref st, .int v t, .str nm t', .ref ar] [(st, W.listOf vs.toArray n), (ar, W.listOf avs.toArray k)]
      (fun K => ∀ vs' n' ds', Are vs' ds' → Len ds'.length ds.length (top + 1 + as.length) → ds'.getD top .none = .str nm → (∀ i, i < as.length → ds'.getD (top + 1 + i) .none = as.getD i .none) → (∀ j, j < top → ds'.getD j .none = ds.getD j .none) → K .none [(st, W.listOf (List.toArray vs') n'), (ar, W.listOf avs.toArray k)]) := by
  subst hv
  have hlA := hA.length
  have hlB := hB.length
  have hzA : vs.length < 100000 := by omega
  have hzB : avs.length < 100000 := by omega
  w_top off
  intro dp un gd cn cs a ccd cl outer A₀ base h₀ L m s rest Q E B F X
  revert X; k_fill; intro X N D T hk hd hu ret
  refine wpAny_call ?_
  k_dflt ktr_enter
  simp only [List.cons_append, List.nil_append] at N D ret; simp only [List.cons_append, List.nil_append] at *
  k_steps
  refine ⟨?_⟩
  k_dflt (refine' Meets.use (fill_meets top (top + 1 + as.length) rfl (by omega) ds hA (by omega) (by omega) (by omega)) ((ar, W.listOf avs.toArray k) :: rest) ?B ?F ?X ?N ?D ?T ?hk ?hp ?hd ?hu ?_; (case B => k_asm); (case F => k_asm); (case X => k_asm); (case N => k_asm); (case D => k_asm); (case T => k_asm); (case hk => rfl); (case hp => exact .refl _); (case hd => first | exact dok hd rfl | (dsimp only [ktrTop, Around.deeper, Around.in1]; omega)); (case hu => first | exact uok hu rfl | (dsimp only [ktrTop, Around.deeper, Around.in1]; omega)))
  intro vs1 n1 ds1 hA1 hl1 hg1 h1' tk1 F1 N1 D1
  simp only [List.cons_append, List.nil_append] at N1 D1
  have y1 := hl1.le 3000 (by omega) (by omega)
  have y2 := hl1.ge2
  k_steps
  refine ⟨?_⟩
  rename Fr _ _ _ _ => F3
  rename News _ _ _ _ => N3
  rename Apart _ => D3
  have N4 := news_pick 2 N3
  have D4 := apart_pick 2 D3
  simp only [pickL] at N4 D4
  have hC := Are.cons (v := Value.str nm t') (d := .str nm) (by simp only [er, hnm, if_true]) hB
  have hlC := hC.length
  clear hzB hlB hlA hzA
  refine my_enum (x1 := Str.ofString "at") (x2 := Str.ofString "value") (fun i ws => ∃ es, Are ws es ∧ es.length = ds1.length ∧ ∀ j, es.getD j .none = if top ≤ j ∧ j < top + i then ((Dat.str nm) :: as).getD (j - top) .none else if top ≤ j ∧ j < top + 1 + as.length then .none else ds.getD j .none) (by rfl) F3 N4 D4 (.head _) ⟨ds1, hA1, rfl, fun j => ?_⟩ ?_ ?_
  · rw [hg1, if_neg (c := top ≤ j ∧ j < top + 0) (by omega)]
  · rintro i x T9 t9 u ws k2 h2' tk2 R2 hx ⟨es, hAe, hle, hge⟩ hT F5 N5 D5
    have hws := hAe.length.trans hle
    have hz : ws.length < 100000 := by omega
    have hil := (List.getElem?_eq_some_iff.mp hx).1
    have hil2 : i < as.length + 1 := Nat.lt_of_lt_of_le hil (Nat.le_of_eq hlC)
    k_steps
    refine turn_end2 (by assumption) (by assumption) (fun z h1 h2 => by simp only [if_neg h1, if_neg h2]) ⟨_, hAe.set (hC.get hx) _, by simp only [List.length_set]; exact hle, ?_⟩
    rw [tn2]
    exact put_step (by omega) hil2 rfl hge
  · rintro u ws k2 h2' tk2 ⟨es, hAe, hle, hge⟩ F5 N5 D5
    k_steps
    refine ⟨leaveK_ (by k_asm) (by k_asm) fun kF kN => ?_⟩
    obtain ⟨f1, f2, f3⟩ := put_fin (top := top) (es := es) (ds := ds) (as := as) (d := .str nm) (by rw [show as.length + 1 = ((Value.str nm t') :: avs).length from hlC.symm]; exact hge)
    exact ret _ _ es hAe (hle ▸ hl1) f1 f2 f3 _ _ kF (news_drop1 (news_drop1 kN)) (apart_drop1 (apart_drop1 D5))
/-- a frame: what goes on -/
structure FrS where
  func : Nat
  base : Nat
  name : Str
  fixed : Nat
  isOpen : Bool
  rest : List Dat
  regs : List Dat
  wanted : Int
def frKvs (f : FrS) (t1 t2 t3 t4 t5 : Tok) (ra ga : Addr) : List (Str × Value) :=
  [(Str.ofString "func", .int f.func t1), (Str.ofString "base", .int f.base t2), (Str.ofString "name", .str f.name t3), (Str.ofString "fixed", .int f.fixed t4), (Str.ofString "is_open", .bool f.isOpen), (Str.ofString "rest", .ref ra), (Str.ofString "regs", .ref ga), (Str.ofString "wanted", .int f.wanted t5)]
def FrameL (w : World) (d : Addr) (f : FrS) (l : List (Addr × Obj)) : Prop :=
  ∃ o ra ga rvs gvs n1 n2 t1 t2 t3 t4 t5, l = [(d, o), (ra, W.listOf (List.toArray rvs) n1), (ga, W.listOf (List.toArray gvs) n2)] ∧ o.IsDictOf (PySem.strKind PySem.Challenge.rw_nt0626_01.row.prog w) (frKvs f t1 t2 t3 t4 t5 ra ga) ∧ Are rvs f.rest ∧ Are gvs f.regs
structure Stands (ds : List Dat) (f : FrS) : Prop where
  lo : f.func < f.base
  hi : f.base + f.regs.length ≤ ds.length
  name : ds.getD f.func .none = .str f.name
  regs : ∀ i, i < f.regs.length → ds.getD (f.base + i) .none = f.regs.getD i .none
  bs : f.isOpen = true → f.base = f.func + 1 + f.fixed + f.rest.length
  nils : f.isOpen = true → ∀ i, i < f.fixed → ds.getD (f.func + 1 + i) .none = .none
  rest : f.isOpen = true → ∀ i, i < f.rest.length → ds.getD (f.func + 1 + f.fixed + i) .none = f.rest.getD i .none
theorem er_str {v : Value} {x : Str} (h : er v = some (.str x)) : ∃ t, v = .str x t := by
  cases v with
  | str y t =>
    simp only [er] at h
    split at h
    · cases h; exact ⟨t, rfl⟩
    · cases h
  | _ => cases h

theorem slice_eq {ds xs : List Dat} {a n : Nat} (hn : n = xs.length) (hl : a + xs.length ≤ ds.length) (h : ∀ i, i < xs.length → ds.getD (a + i) .none = xs.getD i .none) : (ds.drop a).take n = xs := by
  subst hn
  refine ext_getD (by simp only [List.length_take, List.length_drop]; omega) fun i hi => ?_
  simp only [List.length_take, List.length_drop] at hi
  rw [getD_take, getD_drop, if_pos (by omega), h i (by omega)]

theorem Are.run {vs : List Value} {ds xs : List Dat} {a n : Nat} (hA : Are vs ds) (hn : n = xs.length) (hl : a + xs.length ≤ ds.length) (h : ∀ i, i < xs.length → ds.getD (a + i) .none = xs.getD i .none) : Are ((vs.drop a).take n) xs := by
  have := (hA.drop a).take n
  rw [slice_eq hn hl h] at this
  exact this
theorem run_toNat {a n : Nat} : ((a : Int) + (n : Int)).toNat - (a : Int).toNat = n := Nat.add_sub_cancel_left _ _
theorem stands_meets {w : World} {mean : ExcName → Option Value} {mg mb : Str → Option Value} {st d : Addr} {vs : List Value} {n : Nat} {led : List (Addr × Obj)} (ds : List Dat) (f : FrS) (hA : Are vs ds) (hF : FrameL w d f led) (hS : Stands ds f) (hl : ds.length < 2000) (hw : f.fixed < 10 ∧ f.rest.length < 10 ∧ f.regs.length < 20) :
    Meets w mean mg mb 117 3 [.ref st, .ref d] ((st, W.listOf vs.toArray n) :: led) (fun K => K (.bool true) ((st, W.listOf vs.toArray n) :: led)) := by
  obtain ⟨o, ra, ga, rvs, gvs, n1, n2, t1, t2, t3, t4, t5, rfl, hd0, hR, hG⟩ := hF
  have hlA := hA.length
  have hlR := hR.length
  have hlG := hG.length
  obtain ⟨s1, s2, s3, s4, s5, s6, s7⟩ := hS
  have hzA : vs.length < 100000 := by omega
  have hzR : rvs.length < 100000 := by omega
  have hzG : gvs.length < 100000 := by omega
  have hzF : (f.func : Int) < (vs.length : Int) := by omega
  unfold frKvs at hd0
  w_top off
  intro dp un gd cn cs a ccd cl outer A₀ base h₀ L m s rest Q E B F X
  revert X; k_fill; intro X N D T hk hd hu ret
  refine wpAny_call ?_
  k_dflt ktr_enter
  simp only [List.cons_append, List.nil_append] at N D ret; simp only [List.cons_append, List.nil_append] at *
  k_steps
  rename_i v9 hv9
  have e9 := hA.get hv9
  rw [Int.toNat_natCast, s3] at e9
  obtain ⟨t9, rfl⟩ := er_str e9
  dsimp only
  rename News _ _ _ _ => N8
  have N9 := news_tail N8
  clear N8
  k_steps
  refine ⟨?_⟩
  dsimp only
  refine my_ne (ds := f.regs) (by k_asm) (by k_mem) (by k_mem) ?Ha hG (nok hu rfl) ?_
  case Ha =>
    rw [run_toNat]
    exact hA.run (a := f.base) hlG s2 s4
  k_steps
  · have ho : f.isOpen = true := by first | assumption | (cases hq : f.isOpen <;> simp_all)
    have b5 := s5 ho
    refine ⟨?_⟩
    k_dflt (refine' Meets.use (further_meets f.func f.fixed f.rest.length rfl (by omega) rfl (by omega) (by omega) (by omega)) (_) ?B ?F ?X ?N ?D ?T ?hk ?hp ?hd ?hu ?_; (case B => k_asm); (case F => k_asm); (case X => k_asm); (case N => k_asm); (case D => k_asm); (case T => k_asm); (case hk => rfl); (case hp => exact .refl _); (case hd => first | exact dok hd rfl | (dsimp only [ktrTop, Around.deeper, Around.in1]; omega)); (case hu => first | exact uok hu rfl | (dsimp only [ktrTop, Around.deeper, Around.in1]; omega)))
    intro u1 h1' tk1 F1 N1 D1
    simp only [List.cons_append, List.nil_append] at N1 D1
    k_steps
    refine ⟨?_⟩
    refine my_ne (ds := List.replicate f.fixed .none) (by k_asm) (by k_mem) (by k_mem) ?Ha ?Hb (nok hu rfl) ?_
    case Ha =>
      rw [show ((f.func : Int) + 1 + (f.fixed : Int)).toNat - ((f.func : Int) + 1).toNat = f.fixed from Nat.add_sub_cancel_left (n := f.func + 1) (m := f.fixed)]
      refine hA.run (a := f.func + 1) (by rw [List.length_replicate]) (by rw [List.length_replicate]; omega) fun i hi => ?_
      rw [List.length_replicate] at hi
      rw [s6 ho i hi]
      have := getD_grown [] f.fixed i
      simp only [List.nil_append] at this
      rw [this]; rfl
    case Hb => rw [Int.toNat_natCast]; exact Are.nones _
    k_steps
    · refine ⟨?_⟩
      dsimp only
      have e1 : ((f.base : Int) - (f.rest.length : Int)).toNat = f.func + 1 + f.fixed := by clear hzA hzR hzG hzF hlA hlR hlG s2 hl hw; omega
      refine my_eq (ds := f.rest) (by k_asm) (by k_mem) (by k_mem) ?Ha hR (nok hu rfl) ?_
      case Ha =>
        rw [e1]
        exact hA.run (by rw [Int.toNat_natCast, b5]; exact Nat.add_sub_cancel_left _ _) (by omega) (s7 ho)
      k_steps
      refine ⟨leaveK_ (by k_asm) (by k_asm) fun kF kN => ?_⟩
      exact ret _ _ kF (news_tail (news_tail (news_tail (news_tail (news_tail (news_tail kN)))))) D
    · exfalso
      omega
  · refine ⟨leaveK_ (by k_asm) (by k_asm) fun kF kN => ?_⟩
    exact ret _ _ kF (news_tail kN) D
theorem copied_meets {w : World} {mean : ExcName → Option Value} {mg mb : Str → Option Value} {st d : Addr} {vs : List Value} {n : Nat} {led : List (Addr × Obj)} {wanted : Int} {t : Tok} (ds : List Dat) (f : FrS) (hA : Are vs ds) (hF : FrameL w d f led) (hS : Stands ds f) (hl : ds.length < 1000) (hw : f.fixed < 10 ∧ f.rest.length < 10 ∧ f.regs.length < 20) (ho : f.isOpen = true) (h1 : -1 ≤ wanted ∧ wanted < 10) :
    Meets w mean mg mb 124 5 [.ref st, .ref d, .int wanted t] ((st, W.listOf vs.toArray n) :: led) (fun K => ∀ vs' n' ds', Are vs' ds' → ds.length ≤ ds'.length → ds'.length ≤ ds.length + 10 → (∀ j, j < f.base + f.regs.length → ds'.getD j .none = ds.getD j .none) → K (.bool true) ((st, W.listOf (List.toArray vs') n') :: led)) := by
  obtain ⟨o, ra, ga, rvs, gvs, n1, n2, t1, t2, t3, t4, t5, rfl, hd0, hR, hG⟩ := hF
  have hlA := hA.length
  have hlR := hR.length
  have hlG := hG.length
  obtain ⟨s1, s2, s3, s4, s5, s6, s7⟩ := hS
  have b5 := s5 ho
  have hzA : vs.length < 100000 := by omega
  have hzR : rvs.length < 100000 := by omega
  have hzG : gvs.length < 100000 := by omega
  unfold frKvs at hd0
  w_top off
  intro dp un gd cn cs a ccd cl outer A₀ base h₀ L m s rest Q E B F X
  revert X; k_fill; intro X N D T hk hd hu ret
  refine wpAny_call ?_
  k_dflt ktr_enter
  simp only [List.cons_append, List.nil_append] at N D ret; simp only [List.cons_append, List.nil_append] at *
  k_steps
  · refine ⟨?_⟩
    rename News _ _ _ _ => N8
    have N9 := news_tail N8
    clear N8
    k_dflt (refine' Meets.use (taken_meets (f.func + 1 + f.fixed) f.rest.length (f.base + f.regs.length) f.rest.length (by omega) (by omega) (by omega) (fun _ => rfl) (fun h => by omega) ds hA (by omega) (by omega) (by omega) (by omega)) (_) ?B ?F ?X ?N ?D ?T ?hk ?hp ?hd ?hu ?_; (case B => k_asm); (case F => k_asm); (case X => k_asm); (case N => k_asm); (case D => k_asm); (case T => k_asm); (case hk => rfl); (case hp => exact .refl _); (case hd => first | exact dok hd rfl | (dsimp only [ktrTop, Around.deeper, Around.in1]; omega)); (case hu => first | exact uok hu rfl | (dsimp only [ktrTop, Around.deeper, Around.in1]; omega)))
    intro u1 vs1 k1 ds1 hA1 hl1 hg1 h1' tk1 F1 N1 D1
    simp only [List.cons_append, List.nil_append] at N1 D1
    have hlA1 := hA1.length
    have y1 := hl1.le (ds.length + 10) (by omega) (by omega)
    have y2 := hl1.ge1
    have y3 := hl1.ge2
    have hz1 : vs1.length < 100000 := by omega
    k_steps
    · refine ⟨?_⟩
      try dsimp only
      have e1 : ((f.base : Int) + (gvs.length : Int)).toNat = f.base + f.regs.length := by rw [hlG]; rfl
      refine my_eq (ds := f.rest) (by k_asm) (by k_mem) (by k_mem) ?Ha hR (nok hu rfl) ?_
      case Ha =>
        rw [e1]
        refine hA1.run (by rw [Int.toNat_natCast]; exact Nat.add_sub_cancel_left _ _) y3 fun i hi => ?_
        rw [hg1, if_pos ⟨Nat.le_add_right _ _, Nat.add_lt_add_left hi _⟩, Nat.add_sub_cancel_left, if_pos hi, s7 ho i hi]
      k_steps
      refine ⟨leaveK_ (by k_asm) (by k_asm) fun kF kN => ?_⟩
      have kN2 :=  (news_tail kN)
      have kD2 :=  D1
      simp only [pickL] at kN2 kD2
      refine ret _ _ ds1 hA1 y2 y1 (fun j hj => ?_) _ _ kF kN2 kD2
      rw [hg1, if_neg fun h => Nat.lt_irrefl _ (Nat.lt_of_lt_of_le hj h.1)]
    · exfalso
      omega
  · refine ⟨?_⟩
    obtain ⟨q, rfl⟩ : ∃ q : Nat, wanted = (q : Int) := ⟨wanted.toNat, by omega⟩
    rename News _ _ _ _ => N8
    have N9 := news_pick 2 (news_tail N8)
    have D9 := apart_pick 2 D
    simp only [pickL] at N9 D9
    clear N8
    k_dflt (refine' Meets.use (due_meets q rfl f.rest hR (by omega) (by omega)) (_) ?B ?F ?X ?N ?D ?T ?hk ?hp ?hd ?hu ?_; (case B => k_asm); (case F => k_asm); (case X => k_asm); (case N => k_asm); (case D => k_asm); (case T => k_asm); (case hk => rfl); (case hp => exact .refl _); (case hd => first | exact dok hd rfl | (dsimp only [ktrTop, Around.deeper, Around.in1]; omega)); (case hu => first | exact uok hu rfl | (dsimp only [ktrTop, Around.deeper, Around.in1]; omega)))
    intro b3 vs3 hA3 h3' tk3 F3 N3 D3
    simp only [List.cons_append, List.nil_append] at N3 D3
    have hlA3 := hA3.length
    rw [dueN_length] at hlA3
    have hz3 : vs3.length < 100000 := by omega
    clear N9
    k_steps
    refine ⟨?_⟩
    rename News _ _ _ _ => N8
    have N9 := news_pick 2 N8
    have D9 := apart_pick 2 D3
    simp only [pickL] at N9 D9
    clear N8
    k_dflt (refine' Meets.use (taken_meets (f.func + 1 + f.fixed) f.rest.length (f.base + f.regs.length) q (by omega) (by omega) (by omega) (fun h => by omega) (fun _ => rfl) ds hA (by omega) (by omega) (by omega) (by omega)) (_) ?B ?F ?X ?N ?D ?T ?hk ?hp ?hd ?hu ?_; (case B => k_asm); (case F => k_asm); (case X => k_asm); (case N => k_asm); (case D => k_asm); (case T => k_asm); (case hk => rfl); (case hp => exact .refl _); (case hd => first | exact dok hd rfl | (dsimp only [ktrTop, Around.deeper, Around.in1]; omega)); (case hu => first | exact uok hu rfl | (dsimp only [ktrTop, Around.deeper, Around.in1]; omega)))
    intro u1 vs1 k1 ds1 hA1 hl1 hg1 h1' tk1 F1 N1 D1
    simp only [List.cons_append, List.nil_append] at N1 D1
    have hlA1 := hA1.length
    have y1 := hl1.le (ds.length + 10) (by omega) (by omega)
    have y2 := hl1.ge1
    have y3 := hl1.ge2
    have hz1 : vs1.length < 100000 := by omega
    k_steps
    · refine ⟨?_⟩
      try dsimp only
      have e1 : ((f.base : Int) + (gvs.length : Int)).toNat = f.base + f.regs.length := by rw [hlG]; rfl
      refine my_eq (ds := dueN f.rest q) (by k_asm) (by k_mem) (by k_mem) ?Ha hA3 (nok hu rfl) ?_
      case Ha =>
        rw [e1]
        refine hA1.run (by rw [Int.toNat_natCast, dueN_length]; exact Nat.add_sub_cancel_left _ _) (by rw [dueN_length]; exact y3) fun i hi => ?_
        rw [dueN_length] at hi
        rw [dueN_get _ _ _ hi, hg1, if_pos ⟨Nat.le_add_right _ _, Nat.add_lt_add_left hi _⟩, Nat.add_sub_cancel_left]
        by_cases c : i < f.rest.length
        · rw [if_pos c, s7 ho i c]
        · rw [if_neg c, getD_over _ _ (Nat.le_of_not_lt c)]
      k_steps
      refine ⟨leaveK_ (by k_asm) (by k_asm) fun kF kN => ?_⟩
      have kN2 := news_pick 1 (news_pick 2 (news_drop1 (news_tail kN)))
      have kD2 := apart_pick 1 (apart_pick 2 (apart_drop1 D1))
      simp only [pickL] at kN2 kD2
      refine ret _ _ ds1 hA1 y2 y1 (fun j hj => ?_) _ _ kF kN2 kD2
      rw [hg1, if_neg fun h => Nat.lt_irrefl _ (Nat.lt_of_lt_of_le hj h.1)]
    · exfalso
      omega
theorem returned_meets {w : World} {mean : ExcName → Option Value} {mg mb : Str → Option Value} {dl nm st fl d : Addr} {vs as : List Value} {n k : Nat} {ledD led : List (Addr × Obj)} (ds : List Dat) (f : FrS) (hD : DealL dl nm ledD) (hA : Are vs ds) (hF : FrameL w d f led) (hS : Stands ds f) (hl : ds.length < 1000) (hw : f.fixed < 10 ∧ f.rest.length < 10 ∧ f.regs.length < 20) (h1 : -1 ≤ f.wanted ∧ f.wanted < 10) (has : as.length < 10) :
    Meets w mean mg mb 136 6 [.ref dl, .ref st, .ref fl] (ledD ++ (st, W.listOf vs.toArray n) :: (fl, W.listOf (as ++ [Value.ref d]).toArray k) :: led) (fun K => ∀ ledD' vs' n' ds' k', DealL dl nm ledD' → Are vs' ds' → ds.length ≤ ds'.length → ds'.length ≤ ds.length + 10 → (∀ j, j < f.func → ds'.getD j .none = ds.getD j .none) → K (.bool true) (ledD' ++ [(st, W.listOf (List.toArray vs') n'), (fl, W.listOf as.toArray k')])) := by
  obtain ⟨o, ra, ga, rvs, gvs, n1, n2, t1, t2, t3, t4, t5, rfl, hd0, hR, hG⟩ := hF
  have hD0 := hD
  obtain ⟨pos, seed, u1, u2, k1, nums, k2, rfl, hDx⟩ := hD
  clear hDx
  have hlA := hA.length
  have hlR := hR.length
  have hlG := hG.length
  obtain ⟨s1, s2, s3, s4, s5, s6, s7⟩ := hS
  have hzA : vs.length < 100000 := by omega
  have hzS : as.length < 100000 := by omega
  have hzG : gvs.length < 100000 := by omega
  unfold frKvs at hd0
  w_top off
  intro dp un gd cn cs a ccd cl outer A₀ base h₀ L m s rest Q E B F X
  revert X; k_fill; intro X N D T hk hd hu ret
  refine wpAny_call ?_
  k_dflt ktr_enter
  simp only [List.cons_append, List.nil_append] at N D ret; simp only [List.cons_append, List.nil_append] at *
  k_steps
  refine ⟨?_⟩
  k_dflt (refine' Meets.use (take_meets hD0 ⟨by omega, by omega⟩) (_) ?B ?F ?X ?N ?D ?T ?hk ?hp ?hd ?hu ?_; (case B => k_asm); (case F => k_asm); (case X => k_asm); (case N => k_asm); (case D => k_asm); (case T => k_asm); (case hk => rfl); (case hp => exact .refl _); (case hd => first | exact dok hd rfl | (dsimp only [ktrTop, Around.deeper, Around.in1]; omega)); (case hu => first | exact uok hu rfl | (dsimp only [ktrTop, Around.deeper, Around.in1]; omega)))
  intro v1 w1 pos' seed' u1' u2' k1' nums' k2' e1 e2 hD2 h1' tk1 F1 N1 D1
  simp only [List.cons_append, List.nil_append] at N1 D1
  obtain ⟨m9, r0, rfl, hr0⟩ : ∃ m9 r0 : Nat, v1 = (m9 : Int) ∧ r0 + m9 = f.regs.length := ⟨v1.toNat, f.regs.length - v1.toNat, by omega, by omega⟩
  clear e1 e2
  have hd9 : ((gvs.length : Int) - (m9 : Int)).toNat = r0 := by clear hzA hzS hzG; omega
  have hf9 : (f.base : Int) + (gvs.length : Int) - (m9 : Int) = ((f.base + r0 : Nat) : Int) := by clear hzA hzS hzG hd9; omega
  have hp9 : 0 ≤ (gvs.length : Int) - (m9 : Int) := by clear hzA hzS hzG hd9 hf9; omega
  have hG8 : Are (gvs.drop ((gvs.length : Int) - (m9 : Int)).toNat) (f.regs.drop r0) := by rw [hd9]; exact hG.drop r0
  have hl9 : (f.regs.drop r0).length = m9 := by rw [List.length_drop, ← hr0]; exact Nat.add_sub_cancel_left _ _
  have hl8 : (List.drop ((gvs.length : Int) - (m9 : Int)).toNat gvs).length = m9 := by rw [hG8.length]; exact hl9
  clear hd9
  replace hf9 := Hold.mk hf9
  k_steps
  · refine ⟨?_⟩
    rename News _ _ _ _ => N8
    rename Apart _ => D8
    have N9 := news_pick 3 N8
    have D9 := apart_pick 3 D8
    simp only [pickL] at N9 D9
    clear N8 D8
    k_dflt (refine' Meets.use (settled_meets f.func (f.base + r0) m9 m9 rfl hf9.go (by omega) (fun _ => rfl) (fun h => by omega) ds hA (by omega) (by omega) (by omega) (by omega)) (_) ?B ?F ?X ?N ?D ?T ?hk ?hp ?hd ?hu ?_; (case B => k_asm); (case F => k_asm); (case X => k_asm); (case N => k_asm); (case D => k_asm); (case T => k_asm); (case hk => rfl); (case hp => exact .refl _); (case hd => first | exact dok hd rfl | (dsimp only [ktrTop, Around.deeper, Around.in1]; omega)); (case hu => first | exact uok hu rfl | (dsimp only [ktrTop, Around.deeper, Around.in1]; omega)))
    intro u5 vs5 k5 ds5 hA5 hl5 hg5 h5' tk5 F5 N5 D5
    simp only [List.cons_append, List.nil_append] at N5 D5
    have hlA5 := hA5.length
    have y1 := hl5.le (ds.length + 10) (by omega) (by omega)
    have y2 := hl5.ge1
    have y3 := hl5.ge2
    have hz5 : vs5.length < 100000 := by omega
    k_steps
    · refine ⟨?_⟩
      try dsimp only
      refine my_eq (ds := f.regs.drop r0) (by k_asm) (by k_mem) (by k_mem) ?Ha hG8 (nok hu rfl) ?_
      case Ha =>
        refine hA5.run (a := f.func) (by rw [Int.toNat_natCast, Int.toNat_natCast, hl9]; exact Nat.add_sub_cancel_left _ _) (by rw [hl9]; exact y3) fun i hi => ?_
        rw [hl9] at hi
        rw [hg5, if_pos ⟨Nat.le_add_right _ _, Nat.add_lt_add_left hi _⟩, Nat.add_sub_cancel_left, if_pos hi, getD_drop, Nat.add_assoc, s4 _ (by omega)]
      k_steps
      refine ⟨leaveK_ (by k_asm) (by k_asm) fun kF kN => ?_⟩
      have kN2 := news_er 4 (news_er 4 (news_er 4 (news_pick 2 (news_pick 2 (news_drop1 (news_tail kN))))))
      have kD2 := apart_er 4 (apart_er 4 (apart_er 4 (apart_pick 2 (apart_pick 2 (apart_drop1 D5)))))
      simp only [pickL, List.eraseIdx] at kN2 kD2
      refine ret [_, _] _ _ ds5 _ hD2 hA5 y2 y1 (fun j hj => ?_) _ _ kF kN2 kD2
      rw [hg5, if_neg fun h => Nat.lt_irrefl _ (Nat.lt_of_lt_of_le hj h.1)]
    · exfalso
      omega
  · refine ⟨?_⟩
    obtain ⟨q, hq⟩ : ∃ q : Nat, f.wanted = (q : Int) := ⟨f.wanted.toNat, by omega⟩
    k_dflt (refine' Meets.use (due_meets q hq (f.regs.drop r0) hG8 (by omega) (by rw [hl9]; omega)) (_) ?B ?F ?X ?N ?D ?T ?hk ?hp ?hd ?hu ?_; (case B => k_asm); (case F => k_asm); (case X => k_asm); (case N => k_asm); (case D => k_asm); (case T => k_asm); (case hk => rfl); (case hp => exact .refl _); (case hd => first | exact dok hd rfl | (dsimp only [ktrTop, Around.deeper, Around.in1]; omega)); (case hu => first | exact uok hu rfl | (dsimp only [ktrTop, Around.deeper, Around.in1]; omega)))
    intro b3 vs3 hA3 h3' tk3 F3 N3 D3
    simp only [List.cons_append, List.nil_append] at N3 D3
    have hlA3 := hA3.length
    rw [dueN_length] at hlA3
    have hz3 : vs3.length < 100000 := by omega
    k_steps
    refine ⟨?_⟩
    rename News _ _ _ _ => N8
    have N9 := news_pick 4 N8
    have D9 := apart_pick 4 D3
    simp only [pickL] at N9 D9
    clear N8
    k_dflt (refine' Meets.use (settled_meets f.func (f.base + r0) m9 q rfl hf9.go (by omega) (fun h => by omega) (fun _ => hq) ds hA (by omega) (by omega) (by omega) (by omega)) (_) ?B ?F ?X ?N ?D ?T ?hk ?hp ?hd ?hu ?_; (case B => k_asm); (case F => k_asm); (case X => k_asm); (case N => k_asm); (case D => k_asm); (case T => k_asm); (case hk => rfl); (case hp => exact .refl _); (case hd => first | exact dok hd rfl | (dsimp only [ktrTop, Around.deeper, Around.in1]; omega)); (case hu => first | exact uok hu rfl | (dsimp only [ktrTop, Around.deeper, Around.in1]; omega)))
    intro u5 vs5 k5 ds5 hA5 hl5 hg5 h5' tk5 F5 N5 D5
    simp only [List.cons_append, List.nil_append] at N5 D5
    have hlA5 := hA5.length
    have y1 := hl5.le (ds.length + 10) (by omega) (by omega)
    have y2 := hl5.ge1
    have y3 := hl5.ge2
    have hz5 : vs5.length < 100000 := by omega
    k_steps
    · refine ⟨?_⟩
      try dsimp only
      refine my_eq (ds := dueN (f.regs.drop r0) q) (by k_asm) (by k_mem) (by k_mem) ?Ha hA3 (nok hu rfl) ?_
      case Ha =>
        refine hA5.run (a := f.func) (by rw [Int.toNat_natCast, Int.toNat_natCast, dueN_length]; exact Nat.add_sub_cancel_left _ _) (by rw [dueN_length]; exact y3) fun i hi => ?_
        rw [dueN_length] at hi
        rw [dueN_get _ _ _ hi, hg5, if_pos ⟨Nat.le_add_right _ _, Nat.add_lt_add_left hi _⟩, Nat.add_sub_cancel_left, getD_drop]
        by_cases c : i < m9
        · rw [if_pos c, Nat.add_assoc, s4 _ (by omega)]
        · rw [if_neg c, getD_over _ _ (by omega)]
      k_steps
      refine ⟨leaveK_ (by k_asm) (by k_asm) fun kF kN => ?_⟩
      have kN2 := news_er 4 (news_er 4 (news_er 4 (news_pick 2 (news_pick 2 (news_drop1 (news_drop1 (news_tail kN)))))))
      have kD2 := apart_er 4 (apart_er 4 (apart_er 4 (apart_pick 2 (apart_pick 2 (apart_drop1 (apart_drop1 D5))))))
      simp only [pickL, List.eraseIdx] at kN2 kD2
      refine ret [_, _] _ _ ds5 _ hD2 hA5 y2 y1 (fun j hj => ?_) _ _ kF kN2 kD2
      rw [hg5, if_neg fun h => Nat.lt_irrefl _ (Nat.lt_of_lt_of_le hj h.1)]
    · exfalso
      omega
section
variable {prog : Program} {w : World} {A : Around} {h₀ : Heap} {L : Addr} {m : Str → Option Value} {env : Env}
def EltEnd (h₀ : Heap) (L : Addr) (m : Str → Option Value) (dl nm : Addr) (X : List (Addr × Obj)) (s : Shared) (y : Value) (s' : Shared) : Prop :=
  ∃ ledD' h' tk', s' = { s with heap := h', toks := tk' } ∧ Fr h₀ L h' m ∧ News h₀ L h' (ledD' ++ X) ∧ Apart (ledD' ++ X) ∧ DealL dl nm ledD' ∧ ∃ d, er y = some d
theorem my_comp {elt : Expr} {x : Str} {scope : Scope} {cl : List (Str × Addr)} {Fin : Shared → List Value → List (Addr × Obj) → Prop} {r : Addr} {b : Int} {t u v : Tok} {s₁ : Shared} {dl nm : Addr} {ledD : List (Addr × Obj)} (R : List (Addr × Obj))
    (hh : A.handled = none) (F : Fr h₀ L s₁.heap m) (N : News h₀ L s₁.heap (ledD ++ R)) (D : Apart (ledD ++ R)) (hD : DealL dl nm ledD) (hr : IsRange s₁.heap r 0 b 1 t u v) (hb : 0 ≤ b ∧ b < 100)
    (turn : ∀ (s₂ : Shared) ledD' C oC m₂ X h tk (E' : Value → Shared → Prop), (∃ g, s₂ = { s₁ with heap := g }) → DealL dl nm ledD' → LCg.NsObj oC m₂ → (C, oC) ∈ X → (∀ p ∈ R, p ∈ X) → Fr h₀ L h m → News h₀ L h (ledD' ++ X) → Apart (ledD' ++ X) →
      wpAny (model prog w) A (eval elt (compEnvC scope cl C env)) (EltEnd h₀ L m dl nm X { s₂ with heap := h, toks := tk }) E' { s₂ with heap := h, toks := tk })
    (fin : ∀ (s₂ : Shared) ledD' ys ds, (∃ g, s₂ = { s₁ with heap := g }) → DealL dl nm ledD' → Are ys ds → ds.length = b.toNat → Apart (ledD' ++ R) → Fin s₂ ys (ledD' ++ R)) :
    LCg.CompSrc prog w A h₀ L m env elt x scope cl Fin (.ref r) s₁ := by
  have hsz : Builtin.Range.rangeSize 0 b 1 = (b.toNat : Int) := by rw [rangeSize_nat]; omega
  refine LCg.CompSrc.range hh F N hr (small_one (by omega) (by omega) (by omega) (by omega)) hsz (by rw [sizeLine_eq]; omega) fun g => ?_
  have go : ∀ k i ys ds ledD', i + k = b.toNat → DealL dl nm ledD' → Are ys ds → ds.length = i → Apart (ledD' ++ R) →
      LCg.CompRest prog w A h₀ L m env elt x scope cl { s₁ with heap := g } (fun _ => True) (fun i v => ∃ t, v = .int (0 + (i : Int)) t) (Fin { s₁ with heap := g }) k i ys (ledD' ++ R) := by
    intro k
    induction k with
    | zero => intro i ys ds ledD' hi h1 h2 h3 h4; exact LCg.CompRest.zero (fin _ ledD' ys ds ⟨g, rfl⟩ h1 h2 (by omega) h4)
    | succ k ih =>
      intro i ys ds ledD' hi h1 h2 h3 h4
      refine LCg.CompRest.succ fun v' I oI C oC Dd m₂ h tk E' _ hns _ F1 N1 off dis => ?_
      have off3 := off.mem
      have N2 : News h₀ L h (ledD' ++ (R ++ [(I, oI), (C, oC), (Dd, LCg.lst ys)])) := fun p hp => N1 p (by
        rcases List.mem_append.mp hp with hp | hp
        · exact .tail _ (.tail _ (.tail _ (List.mem_append.mpr (.inl hp))))
        · rcases List.mem_append.mp hp with hp | hp
          · exact .tail _ (.tail _ (.tail _ (List.mem_append.mpr (.inr hp))))
          · rcases List.mem_cons.mp hp with rfl | hp
            · exact .head _
            · rcases List.mem_cons.mp hp with rfl | hp
              · exact .tail _ (.head _)
              · rw [List.mem_singleton.mp hp]; exact .tail _ (.tail _ (.head _)))
      have D2 : Apart (ledD' ++ (R ++ [(I, oI), (C, oC), (Dd, LCg.lst ys)])) := by
        rw [← List.append_assoc]
        refine Apart.own h4 ?_ fun p hp q hq e => ?_
        · refine List.nodup_cons.mpr ⟨fun hm => ?_, List.nodup_cons.mpr ⟨fun hm => ?_, List.nodup_cons.mpr ⟨fun hm => (nomatch hm), List.nodup_nil⟩⟩⟩
          · rcases List.mem_cons.mp hm with e | hm
            · exact dis.1 e
            · exact dis.2.1 (List.mem_singleton.mp hm)
          · exact dis.2.2 (List.mem_singleton.mp hm)
        · have z := off3 q hq
          rcases List.mem_cons.mp hp with rfl | hp
          · exact z.1 e.symm
          · rcases List.mem_cons.mp hp with rfl | hp
            · exact z.2.1 e.symm
            · rw [List.mem_singleton.mp hp] at e; exact z.2.2 e.symm
      refine wpAny_mono (turn { s₁ with heap := g } ledD' C oC m₂ _ h tk E' ⟨g, rfl⟩ h1 hns (List.mem_append.mpr (.inr (.tail _ (.head _)))) (fun p hp => List.mem_append.mpr (.inl hp)) F1 N2 D2) (fun y s₂ q => ?_) fun _ _ e => e
      obtain ⟨ledD3, h3', tk3, rfl, F3, N3, D3, hD3, d, hy⟩ := q
      have D4 : Apart (ledD3 ++ R) := by
        rw [← List.append_assoc] at D3
        exact D3.sub (List.sublist_append_left _ _)
      refine LCg.CompEnd.intro F3 N3 (ledD3 ++ R) (fun p hp => ?_) (LCg.Off3.of fun p hp => ?_) trivial (ih (i + 1) (ys ++ [y]) (ds ++ [d]) ledD3 (by omega) hD3 (h2.append (Are.cons hy Are.nil)) (by simp [h3]) D4)
      · rcases List.mem_cons.mp hp with rfl | hp
        · exact List.mem_append.mpr (.inr (List.mem_append.mpr (.inr (.head _))))
        rcases List.mem_cons.mp hp with rfl | hp
        · exact List.mem_append.mpr (.inr (List.mem_append.mpr (.inr (.tail _ (.head _)))))
        rcases List.mem_cons.mp hp with rfl | hp
        · exact List.mem_append.mpr (.inr (List.mem_append.mpr (.inr (.tail _ (.tail _ (.head _))))))
        rcases List.mem_append.mp hp with hp | hp
        · exact List.mem_append.mpr (.inl hp)
        · exact List.mem_append.mpr (.inr (List.mem_append.mpr (.inl hp)))
      · rw [← List.append_assoc] at D3
        unfold Apart at D3
        rw [List.map_append] at D3
        have dj := (List.nodup_append.mp D3).2.2 p.1 (List.mem_map.mpr ⟨p, hp, rfl⟩)
        exact ⟨dj I (.head _), dj C (.tail _ (.head _)), dj Dd (.tail _ (.tail _ (.head _)))⟩
  exact go b.toNat 0 [] [] ledD (by omega) hD Are.nil rfl D
end
structure FrOk (f : FrS) : Prop where
  a : f.fixed < 10
  b : f.rest.length < 10
  c : f.regs.length < 20
  d : -1 ≤ f.wanted
  e : f.wanted < 10
  g : 0 < f.regs.length

def newFr (f : FrS) (B fx : Nat) (args : List Dat) (z : Str) (op : Bool) (w : Int) : FrS :=
  { func := f.base + f.regs.length, base := B, name := z, fixed := fx, isOpen := op, rest := args.drop fx, regs := dueN (args.take fx) (fx + 2), wanted := w }
theorem newFr_ok {f : FrS} {B fx : Nat} {args : List Dat} {z : Str} {op : Bool} {w : Int} (h1 : fx < 10) (h2 : args.length < 10) (h3 : -1 ≤ w) (h4 : w < 10) : FrOk (newFr f B fx args z op w) :=
  ⟨h1, Nat.lt_of_le_of_lt (Nat.le_of_eq (List.length_drop ..)) (Nat.lt_of_le_of_lt (Nat.sub_le _ _) h2), Nat.lt_of_le_of_lt (Nat.le_of_eq (dueN_length ..)) (Nat.lt_of_lt_of_le (Nat.add_lt_add_right h1 2) (by decide)), h3, h4, Nat.lt_of_lt_of_le (Nat.succ_pos _) (Nat.le_of_eq (dueN_length (args.take fx) (fx + 2)).symm)⟩
theorem call_stands {f : FrS} {ds dsB args : List Dat} {B fx : Nat} {z : Str} {op : Bool} {w : Int} (P : BegunPost op ds args (f.base + f.regs.length) fx B dsB) (hname : ds.getD (f.base + f.regs.length) .none = .str z) :
    Stands dsB (newFr f B fx args z op w) where
  lo := by
    show f.base + f.regs.length < B
    cases op with
    | false => rw [P.2.1 rfl]; exact Nat.lt_succ_self _
    | true => obtain ⟨M, _, e⟩ := P.2.2.1 rfl; rw [e]; omega
  hi := by show B + (dueN (args.take fx) (fx + 2)).length ≤ _; rw [dueN_length]; exact P.1.ge2
  name := (P.2.2.2.2.1 _ (Nat.le_refl _)).trans hname
  regs := fun i hi => by
    have hi' : i < fx + 2 := Nat.lt_of_lt_of_le hi (Nat.le_of_eq (dueN_length (args.take fx) (fx + 2)))
    show dsB.getD (B + i) .none = (dueN (args.take fx) (fx + 2)).getD i .none
    rw [P.2.2.2.1 i hi', dueN_get _ _ _ hi', getD_take]
  bs := fun h => by
    have h' : op = true := h
    obtain ⟨M, L, e⟩ := P.2.2.1 h'
    show B = f.base + f.regs.length + 1 + fx + (args.drop fx).length
    have l1 := L.ge1
    have l2 := L.ge2
    have l3 := L.le (fx + (args.length - fx)) (by omega) (by omega)
    rw [List.length_drop]
    clear P L
    by_cases c : fx ≤ args.length <;> omega
  nils := fun h i hi => (P.2.2.2.2.2 h).1 i hi
  rest := fun h i hi => by
    have hi' : i < (args.drop fx).length := hi
    rw [List.length_drop] at hi'
    show dsB.getD (f.base + f.regs.length + 1 + fx + i) .none = (args.drop fx).getD i .none
    rw [getD_drop, Nat.add_assoc (f.base + f.regs.length + 1) fx i, (P.2.2.2.2.2 h).2 (fx + i) (Nat.le_add_right _ _) (by clear P; omega)]
def movFr (f : FrS) (g : Nat) (w : Int) : FrS := { f with func := g, base := f.base - f.func + g, wanted := w }
theorem move_stands {f : FrS} {ds ds' : List Dat} {g : Nat} {w : Int} (hS : Stands ds f) (hg : g < f.func) (hl : ds'.length = ds.length)
    (hget : ∀ j, ds'.getD j .none = if g ≤ j ∧ j < g + (f.base + f.regs.length - f.func) then ds.getD (f.func + (j - g)) .none else ds.getD j .none) : Stands ds' (movFr f g w) := by
  obtain ⟨s1, s2, s3, s4, s5, s6, s7⟩ := hS
  obtain ⟨q, hq⟩ : ∃ q, f.base = f.func + (q + 1) := ⟨f.base - f.func - 1, by clear hg hl s2; omega⟩
  have hb : f.base - f.func + g = g + (q + 1) := by rw [hq, Nat.add_sub_cancel_left, Nat.add_comm]
  have mv : ∀ j, j < q + 1 + f.regs.length → ds'.getD (g + j) .none = ds.getD (f.func + j) .none := by
    intro j h1
    rw [hget, if_pos ⟨Nat.le_add_right _ _, by rw [hq, Nat.add_assoc f.func, Nat.add_sub_cancel_left]; exact Nat.add_lt_add_left h1 g⟩, Nat.add_sub_cancel_left]
  have mq : ∀ i, i < q + 1 → ds'.getD (g + i) .none = ds.getD (f.func + i) .none := fun i hi => mv i (Nat.lt_of_lt_of_le hi (Nat.le_add_right _ _))
  refine ⟨?_, ?_, ?_, ?_, ?_, ?_, ?_⟩
  · show g < f.base - f.func + g
    rw [hb]; exact Nat.lt_add_of_pos_right (Nat.succ_pos q)
  · show f.base - f.func + g + f.regs.length ≤ _
    rw [hb, hl]; omega
  · show ds'.getD g .none = .str f.name
    rw [← s3]; exact mq 0 (Nat.succ_pos q)
  · intro i hi
    have hi' : i < f.regs.length := hi
    show ds'.getD (f.base - f.func + g + i) .none = f.regs.getD i .none
    rw [← s4 i hi', hb, hq, Nat.add_assoc g, Nat.add_assoc f.func]
    exact mv _ (Nat.add_lt_add_left hi' _)
  · intro h
    have := s5 h
    show f.base - f.func + g = g + 1 + f.fixed + f.rest.length
    rw [hb]; omega
  · intro h i hi
    have hi' : i < f.fixed := hi
    have := s5 h
    show ds'.getD (g + 1 + i) .none = .none
    have k := mq (1 + i) (by omega)
    rw [← Nat.add_assoc, ← Nat.add_assoc, s6 h i hi'] at k
    exact k
  · intro h i hi
    have hi' : i < f.rest.length := hi
    have := s5 h
    show ds'.getD (g + 1 + f.fixed + i) .none = f.rest.getD i .none
    have k := mq (1 + f.fixed + i) (by omega)
    rw [← Nat.add_assoc, ← Nat.add_assoc, ← Nat.add_assoc, ← Nat.add_assoc, s7 h i hi'] at k
    exact k
theorem called_meets {w : World} {mean : ExcName → Option Value} {mg mb : Str → Option Value} {dl nm st fl d : Addr} {vs as : List Value} {n k : Nat} {ledD led : List (Addr × Obj)} {b : Bool} (ds : List Dat) (f : FrS) (hD : DealL dl nm ledD) (hA : Are vs ds) (hF : FrameL w d f led) (hS : Stands ds f) (hl : ds.length < 900) (hw : FrOk f) (has : as.length < 10) :
    Meets w mean mg mb 129 7 [.ref dl, .ref st, .ref fl, .bool b] (ledD ++ (st, W.listOf vs.toArray n) :: (fl, W.listOf (as ++ [Value.ref d]).toArray k) :: led) (fun K => ∀ ledD' vs' n' ds' k' d' f' lf, DealL dl nm ledD' → Are vs' ds' → FrameL w d' f' lf → Stands ds' f' → FrOk f' → ds.length ≤ ds'.length → ds'.length ≤ ds.length + 12 → (∀ j, j < f'.func → ds'.getD j .none = ds.getD j .none) → ∀ (as' : List Value) (l' : List (Addr × Obj)), (b = true → as' = as ++ [Value.ref d'] ∧ l' = lf ∧ f'.func = f.func) → (b = false → as' = (as ++ [Value.ref d]) ++ [Value.ref d'] ∧ l' = lf ++ led ∧ f'.func = f.base + f.regs.length) →
      K (.bool true) (ledD' ++ (st, W.listOf (List.toArray vs') n') :: (fl, W.listOf (List.toArray as') k') :: l')) := by
  obtain ⟨o, ra, ga, rvs, gvs, n1, n2, t1, t2, t3, t4, t5, rfl, hd0, hR, hG⟩ := hF
  have hD0 := hD
  obtain ⟨pos, seed, u1, u2, k1, nums, k2, rfl, hDx⟩ := hD
  clear hDx
  have hlA := hA.length
  have hlR := hR.length
  have hlG := hG.length
  have s1 := hS.lo
  have s2 := hS.hi
  clear hS
  obtain ⟨w1', w2', w3', w4', w5', w6'⟩ := hw
  have hzA : vs.length < 100000 := by omega
  have hzS : as.length < 100000 := by omega
  have hzG : gvs.length < 100000 := by omega
  unfold frKvs at hd0
  w_top off
  intro dp un gd cn cs a ccd cl outer A₀ base h₀ L m s rest Q E B F X
  revert X; k_fill; intro X N D T hk hd hu ret
  refine wpAny_call ?_
  k_dflt (refine' code_defC ?k1 ?k2 ?k3 ?k4 ?k5 ?kA ?kF ?kK ?k6 ?k7 ?k8 ?k9 ?kB ?kD ?_ ?c2 ?c3 ?c4; (case kA => exact rfl); (case kF => exact rfl); (case kK => assumption); (case k1 => k_asm); (case k2 => k_asm); (case k3 => k_asm); (case k4 => k_asm); (case k5 => k_asm); (case k6 => k_is); (case k7 => k_is); (case k8 => dsimp only [ktrTop]; omega); (case k9 => exact BindsTo.of_eq rfl); (case kB => exact rfl); (case kD => decide +kernel); (case c2 => exact rfl); (case c3 => exact rfl); (case c4 => exact rfl); k_whole; intro g' L' h' tk' cells' FG' F' N' Y' B' X' T' l1; k_cells Y'; (try dsimp only); (try k_fold))
  simp only [List.cons_append, List.nil_append] at N D ret; simp only [List.cons_append, List.nil_append] at *
  rename Obj => oc
  have Dc := D.new (d := L' + 1) (o := oc) fun p hp => Nat.lt_succ_of_lt (l1 p hp)
  have Nc := news_pick 2 (news_pick 2 N')
  have Dc2 := apart_pick 2 (apart_pick 2 Dc)
  simp only [pickL] at Nc Dc2
  try clear N'; try clear Dc; try clear l1
  (try dsimp only)
  k_steps
  refine ⟨?_⟩
  k_dflt (refine' Meets.use (take_meets hD0 ⟨by omega, by omega⟩) (_) ?B ?F ?X ?N ?D ?T ?hk ?hp ?hd ?hu ?_; (case B => k_asm); (case F => k_asm); (case X => k_asm); (case N => k_asm); (case D => k_asm); (case T => k_asm); (case hk => rfl); (case hp => exact .refl _); (case hd => first | exact dok hd rfl | (dsimp only [ktrTop, Around.deeper, Around.in1]; omega)); (case hu => first | exact uok hu rfl | (dsimp only [ktrTop, Around.deeper, Around.in1]; omega)))
  intro v1 w1 pos1 seed1 x1 y1 kk1 nums1 ll1 e1 g1 hE1 h1' tk1 F1 N1 D1
  obtain ⟨fx, rfl⟩ : ∃ fx : Nat, v1 = (fx : Int) := ⟨v1.toNat, by omega⟩
  simp only [List.cons_append, List.nil_append] at N1 D1
  try clear Nc; try clear Dc2
  (try dsimp only)
  k_steps
  refine ⟨?_⟩
  k_dflt (refine' Meets.use (take_meets hE1 ⟨by omega, by omega⟩) (_) ?B ?F ?X ?N ?D ?T ?hk ?hp ?hd ?hu ?_; (case B => k_asm); (case F => k_asm); (case X => k_asm); (case N => k_asm); (case D => k_asm); (case T => k_asm); (case hk => rfl); (case hp => exact .refl _); (case hd => first | exact dok hd rfl | (dsimp only [ktrTop, Around.deeper, Around.in1]; omega)); (case hu => first | exact uok hu rfl | (dsimp only [ktrTop, Around.deeper, Around.in1]; omega)))
  intro v2 w2 pos2 seed2 x2 y2 kk2 nums2 ll2 e2 g2 hE2 h2' tk2 F2 N2 D2
  simp only [List.cons_append, List.nil_append] at N2 D2
  try clear N1; try clear D1
  (try dsimp only)
  k_steps
  rename News _ _ _ _ => N8
  have N9 := news_tail N8
  try clear N8; try clear N2
  refine ⟨?_⟩
  k_dflt (refine' Meets.use (take_meets hE2 ⟨by omega, by omega⟩) (_) ?B ?F ?X ?N ?D ?T ?hk ?hp ?hd ?hu ?_; (case B => k_asm); (case F => k_asm); (case X => k_asm); (case N => k_asm); (case D => k_asm); (case T => k_asm); (case hk => rfl); (case hp => exact .refl _); (case hd => first | exact dok hd rfl | (dsimp only [ktrTop, Around.deeper, Around.in1]; omega)); (case hu => first | exact uok hu rfl | (dsimp only [ktrTop, Around.deeper, Around.in1]; omega)))
  intro v3 w3 pos3 seed3 x3 y3 kk3 nums3 ll3 e3 g3 hE3 h3' tk3 F3 N3 D3
  simp only [List.cons_append, List.nil_append] at N3 D3
  try clear N9; try clear D2
  (try dsimp only)
  k_steps
  refine ⟨?_⟩
  rename News _ _ _ _ => N9
  rename Fr _ _ _ _ => F9
  refine my_comp (ledD := [(dl, _), (nm, _)]) _ (by rfl) F9 N9 D3 hE3 (by assumption) ⟨by omega, by omega⟩ ?_ ?_
  · rintro s2 ledD' C oC m₂ X9 h9 tk9 E9 ⟨g9, rfl⟩ hD9 hns hCX hRX F10 N10 D10
    have hc := hRX _ (.head _)
    (try dsimp only)
    k_steps
    refine ⟨?_⟩
    k_dflt (refine' Meets.use (take_meets hD9 ⟨by omega, by omega⟩) (X9) ?B ?F ?X ?N ?D ?T ?hk ?hp ?hd ?hu ?_; (case B => k_asm); (case F => k_asm); (case X => k_asm); (case N => k_asm); (case D => k_asm); (case T => k_asm); (case hk => rfl); (case hp => exact .refl _); (case hd => first | exact dok hd rfl | (dsimp only [ktrTop, Around.deeper, Around.in1]; omega)); (case hu => first | exact uok hu rfl | (dsimp only [ktrTop, Around.deeper, Around.in1]; omega)))
    intro v4 w4 pos4 seed4 x4 y4 kk4 nums4 ll4 e4 g4 hD4 h4' tk4 F4 N4 D4
    exact ⟨_, _, _, rfl, F4, N4, D4, hD4, _, rfl⟩
  · rintro s2 ledD' ys args ⟨g9, rfl⟩ hD9 hys hlen D10 A9 h9 tk9 F10 N10 off
    have D11 := D10.off1 (o := W.listOf ys.toArray ys.length) off
    have hE9 := hD9
    obtain ⟨pos9, seed9, x9, y9, kk9, nums9, ll9, rfl, hDx⟩ := hD9
    clear hDx
    have N11 : News g' L' h9 ((A9, W.listOf ys.toArray ys.length) :: _) := N10
    simp only [List.cons_append, List.nil_append] at N11 D11
    clear N10 D10 off D3
    have hly := hys.length
    have hl6 : args.length < 6 := by omega
    have hzY : ys.length < 100000 := by omega
    clear hlen e3 g3
    (try dsimp only)
    k_steps
    refine ⟨?_⟩
    rename Str => zn
    rename News _ _ _ _ => N12
    have N13 := news_pick 4 N12
    have D13 := apart_pick 4 D11
    simp only [pickL] at N13 D13
    clear N12 D11
    k_dflt (refine' Meets.use (put_meets (f.base + f.regs.length) (by omega) ds args hA hys (by assumption) (by omega) (by omega) (by omega)) (_) ?B ?F ?X ?N ?D ?T ?hk ?hp ?hd ?hu ?_; (case B => k_asm); (case F => k_asm); (case X => k_asm); (case N => k_asm); (case D => k_asm); (case T => k_asm); (case hk => rfl); (case hp => exact .refl _); (case hd => first | exact dok hd rfl | (dsimp only [ktrTop, Around.deeper, Around.in1]; omega)); (case hu => first | exact uok hu rfl | (dsimp only [ktrTop, Around.deeper, Around.in1]; omega)))
    intro vsP nP dsP hAP hlP hgP1 hgP2 hgP3 hp' tkp Fp Np Dp
    simp only [List.cons_append, List.nil_append] at Np Dp
    have p1 := hlP.le 910 (by omega) (by omega)
    have p2 := hlP.ge2
    (try dsimp only)
    k_steps
    refine ⟨?_⟩
    k_dflt (refine' Meets.use (begun_meets (b := v2 == 1) (f.base + f.regs.length) fx (by omega) rfl (by omega) dsP args hAP hys (by omega) (by omega) (by omega) (by omega) p2 hgP2) (_) ?B ?F ?X ?N ?D ?T ?hk ?hp ?hd ?hu ?_; (case B => k_asm); (case F => k_asm); (case X => k_asm); (case N => k_asm); (case D => k_asm); (case T => k_asm); (case hk => rfl); (case hp => exact .refl _); (case hd => first | exact dok hd rfl | (dsimp only [ktrTop, Around.deeper, Around.in1]; omega)); (case hu => first | exact uok hu rfl | (dsimp only [ktrTop, Around.deeper, Around.in1]; omega)))
    intro B9 tB vsB nB dsB hAB PB hb' tkb Fb Nb Db
    simp only [List.cons_append, List.nil_append] at Nb Db
    obtain ⟨q9, hq9, hq8, hq7⟩ : ∃ q9, B9 = f.base + f.regs.length + q9 ∧ 0 < q9 ∧ q9 ≤ 7 := by
      cases hv : v2 == 1 with
      | false => exact ⟨1, PB.2.1 hv, by decide, by decide⟩
      | true =>
        obtain ⟨M, L, e⟩ := PB.2.2.1 hv
        exact ⟨M + 1, by rw [e]; omega, Nat.succ_pos _, Nat.succ_le_succ (L.le _ (by omega) (by omega))⟩
    (try dsimp only)
    k_steps
    refine ⟨?_⟩
    k_dflt (refine' Meets.use (due_meets (fx + 2) (by omega) (args.take fx) (hys.take fx) (by omega) (Nat.lt_of_le_of_lt (List.length_take_le _ _) (by omega))) (_) ?B ?F ?X ?N ?D ?T ?hk ?hp ?hd ?hu ?_; (case B => k_asm); (case F => k_asm); (case X => k_asm); (case N => k_asm); (case D => k_asm); (case T => k_asm); (case hk => rfl); (case hp => exact .refl _); (case hd => first | exact dok hd rfl | (dsimp only [ktrTop, Around.deeper, Around.in1]; omega)); (case hu => first | exact uok hu rfl | (dsimp only [ktrTop, Around.deeper, Around.in1]; omega)))
    intro b5 vs5 hA5 h5' tk5 F5 N5 D5
    simp only [List.cons_append, List.nil_append] at N5 D5
    rename Obj.IsDictOf _ _ _ => hdm
    (try dsimp only)
    k_steps
    refine ⟨?_⟩
    rename News _ _ _ _ => N12
    have N13 := news_pick 7 (news_pick 7 N12)
    have D13 := apart_pick 7 (apart_pick 7 D5)
    simp only [pickL] at N13 D13
    clear N12 D5
    k_dflt (refine' Meets.use (take_meets hE9 ⟨by omega, by omega⟩) (_) ?B ?F ?X ?N ?D ?T ?hk ?hp ?hd ?hu ?_; (case B => k_asm); (case F => k_asm); (case X => k_asm); (case N => k_asm); (case D => k_asm); (case T => k_asm); (case hk => rfl); (case hp => exact .refl _); (case hd => first | exact dok hd rfl | (dsimp only [ktrTop, Around.deeper, Around.in1]; omega)); (case hu => first | exact uok hu rfl | (dsimp only [ktrTop, Around.deeper, Around.in1]; omega)))
    intro v6 w6 pos6 seed6 x6 y6 kk6 nums6 ll6 e6 g6 hE6 h6' tk6 F6 N6 D6
    simp only [List.cons_append, List.nil_append] at N6 D6
    have hlA5 := hA5.length
    rw [dueN_length] at hlA5
    have hz5 : vs5.length < 100000 := by omega
    have hlAB := hAB.length
    have b1 := PB.1.le (ds.length + 12) (Nat.le_trans (hlP.le (ds.length + 12) (by omega) (by omega)) (Nat.le_refl _)) (by omega)
    have b2 := Nat.le_trans hlP.ge1 PB.1.ge1
    have b3 := PB.1.ge2
    have hzB : vsB.length < 100000 := by omega
    have e1 : (f.base : Int) + (gvs.length : Int) = ((f.base + f.regs.length : Nat) : Int) := by rw [hlG]; rfl
    have hSt := call_stands (f := f) (w := v6 - 1) PB hgP1
    have hlow : ∀ j, j < f.base + f.regs.length → dsB.getD j .none = ds.getD j .none := fun j hj => (PB.2.2.2.2.1 _ (Nat.le_of_lt hj)).trans (hgP3 _ hj)
    have hNo := newFr_ok (f := f) (B := B9) (fx := fx) (args := args) (z := zn) (op := v2 == 1) (w := v6 - 1) (by omega) (by omega) (by omega) (by omega)
    (try dsimp only)
    k_steps
    · rename News _ _ _ _ => Nn
      rename Apart _ => Dn
      have Nn2 := news_pick 7 Nn
      have Dn2 := apart_pick 7 Dn
      simp only [pickL] at Nn2 Dn2
      clear Nn Dn
      refine ⟨?_⟩
      k_dflt (refine' Meets.use (moved_meets (f.base + f.regs.length) (q9 + (fx + 2)) f.func e1 (by omega) rfl dsB hAB (by omega) (by omega) (by omega)) (_) ?B ?F ?X ?N ?D ?T ?hk ?hp ?hd ?hu ?_; (case B => k_asm); (case F => k_asm); (case X => k_asm); (case N => k_asm); (case D => k_asm); (case T => k_asm); (case hk => rfl); (case hp => exact .refl _); (case hd => first | exact dok hd rfl | (dsimp only [ktrTop, Around.deeper, Around.in1]; omega)); (case hu => first | exact uok hu rfl | (dsimp only [ktrTop, Around.deeper, Around.in1]; omega)))
      intro um vsm nmm dsm hAm hlm hgm hm' tkm Fm Nm Dm
      simp only [List.cons_append, List.nil_append] at Nm Dm
      have hlAm := hAm.length
      (try dsimp only)
      k_steps
      · exfalso
        omega
      · rename Obj.IsDictOf _ _ _ => hdn
        rename Apart _ => Dn
        have e2 : (B9 : Int) - ((f.base : Int) + (gvs.length : Int)) + (f.func : Int) = ((B9 - (f.base + f.regs.length) + f.func : Nat) : Int) := by rw [hq9, Nat.add_sub_cancel_left]; clear hzA hzS hzG b1 b2 b3 p1 p2; omega
        rw [e2] at hdn
        refine ⟨leaveK_ (by k_asm) (by k_asm) fun kF kN => ?_⟩
        have kN2 := news_pick 6 (news_pick 6 (news_pick 4 (news_pick 6 (news_pick 5 (news_pick 4 (news_pick 3 (news_er 0 (news_er 2 (news_er 6 (news_er 9 (news_er 10 (news_er 12 (news_er 13 (news_er 14 kN))))))))))))))
        have kD2 := apart_pick 6 (apart_pick 6 (apart_pick 4 (apart_pick 6 (apart_pick 5 (apart_pick 4 (apart_pick 3 (apart_er 0 (apart_er 2 (apart_er 6 (apart_er 9 (apart_er 10 (apart_er 12 (apart_er 13 (apart_er 14 Dn))))))))))))))
        simp only [pickL, List.eraseIdx] at kN2 kD2
        have hfl : f.func < f.base + f.regs.length := Nat.lt_of_lt_of_le s1 (Nat.le_add_right _ _)
        have hMv := move_stands (ds' := dsm) (g := f.func) (w := f.wanted) hSt hfl hlm (fun j => by
          rw [hgm]
          show _ = if f.func ≤ j ∧ j < f.func + (B9 + (dueN (args.take fx) (fx + 2)).length - (f.base + f.regs.length)) then dsB.getD (f.base + f.regs.length + (j - f.func)) .none else _
          rw [dueN_length, hq9, Nat.add_assoc (f.base + f.regs.length), Nat.add_sub_cancel_left])
        have hb : b = true := by assumption
        refine ret [_, _] _ _ dsm _ _ (movFr (newFr f B9 fx args zn (v2 == 1) (v6 - 1)) f.func f.wanted) [_, _, _] hE6 hAm ⟨_, _, _, _, _, _, _, _, _, _, _, _, rfl, hdn, hys.drop fx, hA5⟩ hMv ⟨hNo.a, hNo.b, hNo.c, w4', w5', hNo.g⟩ (hlm ▸ b2) (hlm ▸ b1) (fun j hj => ?_) _ _ (fun _ => ⟨rfl, rfl, rfl⟩) (fun h => absurd (h.symm.trans hb) (by decide)) _ _ kF kN2 kD2
        rw [hgm, if_neg fun h => Nat.lt_irrefl _ (Nat.lt_of_lt_of_le hj h.1), hlow j (Nat.lt_trans hj hfl)]
    · rename Obj.IsDictOf _ _ _ => hdn
      rename Apart _ => Dn
      rw [e1] at hdn
      refine ⟨leaveK_ (by k_asm) (by k_asm) fun kF kN => ?_⟩
      have kN2 := news_pick 6 (news_pick 6 (news_pick 6 (news_pick 6 (news_pick 4 (news_pick 3 (news_pick 2 (news_er 0 (news_er 4 (news_er 8 (news_er 9 kN))))))))))
      have kD2 := apart_pick 6 (apart_pick 6 (apart_pick 6 (apart_pick 6 (apart_pick 4 (apart_pick 3 (apart_pick 2 (apart_er 0 (apart_er 4 (apart_er 8 (apart_er 9 Dn))))))))))
      simp only [pickL, List.eraseIdx] at kN2 kD2
      have hb : b = false := by assumption
      exact ret [_, _] _ _ dsB _ _ (newFr f B9 fx args zn (v2 == 1) (v6 - 1)) [_, _, _] hE6 hAB ⟨_, _, _, _, _, _, _, _, _, _, _, _, rfl, hdn, hys.drop fx, hA5⟩ hSt hNo b2 b1 hlow _ _ (fun h => absurd (h.symm.trans hb) (by decide)) (fun _ => ⟨rfl, rfl, rfl⟩) _ _ kF kN2 kD2
def FramesL (w : World) : List (Addr × FrS) → List (Addr × Obj) → Prop
  | [], l => l = []
  | p :: r, l => ∃ l1 l2, l = l1 ++ l2 ∧ FrameL w p.1 p.2 l1 ∧ FramesL w r l2
def vals (fs : List (Addr × FrS)) : List Value := fs.reverse.map fun p => Value.ref p.1
theorem vals_cons (d : Addr) (f : FrS) (r : List (Addr × FrS)) : vals ((d, f) :: r) = vals r ++ [Value.ref d] := by simp [vals]
theorem vals_length (r : List (Addr × FrS)) : (vals r).length = r.length := by simp [vals]
def Chain : List (Addr × FrS) → Prop
  | [] => True
  | [_] => True
  | p :: q :: r => q.2.base + q.2.regs.length ≤ p.2.func ∧ Chain (q :: r)
structure Good (ds : List Dat) (fs : List (Addr × FrS)) : Prop where
  some : fs ≠ []
  few : fs.length ≤ 6
  all : ∀ p ∈ fs, Stands ds p.2 ∧ FrOk p.2
  chain : Chain fs
theorem stands_mono {ds ds' : List Dat} {f : FrS} (hS : Stands ds f) (hl : ds.length ≤ ds'.length) (h : ∀ j, j < f.base + f.regs.length → ds'.getD j .none = ds.getD j .none) : Stands ds' f where
  lo := hS.lo
  hi := Nat.le_trans hS.hi hl
  name := by have := hS.lo; rw [h _ (by omega)]; exact hS.name
  regs := fun i hi => by rw [h _ (by omega)]; exact hS.regs i hi
  bs := hS.bs
  nils := fun ho i hi => by have := hS.bs ho; rw [h _ (by omega)]; exact hS.nils ho i hi
  rest := fun ho i hi => by have := hS.bs ho; rw [h _ (by omega)]; exact hS.rest ho i hi
/-- the frames below end ahead of the one above -/
theorem chain_below {ds : List Dat} {p : Addr × FrS} {r : List (Addr × FrS)} (hc : Chain (p :: r)) (hS : ∀ q ∈ r, Stands ds q.2) : ∀ q ∈ r, q.2.base + q.2.regs.length ≤ p.2.func := by
  induction r generalizing p with
  | nil => exact fun _ h => absurd h List.not_mem_nil
  | cons a r ih =>
    intro q hq
    have h1 : a.2.base + a.2.regs.length ≤ p.2.func := hc.1
    rcases List.mem_cons.mp hq with rfl | hq
    · exact h1
    · have := ih hc.2 (fun q hq => hS q (.tail _ hq)) q hq
      have := (hS a (.head _)).lo
      omega
theorem chain_tail {p : Addr × FrS} {r : List (Addr × FrS)} (hc : Chain (p :: r)) : Chain r := by
  cases r with
  | nil => trivial
  | cons a r => exact hc.2
theorem chain_top {p p' : Addr × FrS} {r : List (Addr × FrS)} (hc : Chain (p :: r)) (e : p.2.func ≤ p'.2.func) : Chain (p' :: r) := by
  cases r with
  | nil => trivial
  | cons a r => exact ⟨Nat.le_trans hc.1 e, hc.2⟩
theorem good_push {ds ds' : List Dat} {p p' : Addr × FrS} {r : List (Addr × FrS)} (G : Good ds (p :: r)) (hn : r.length < 5) (hS : Stands ds' p'.2) (hO : FrOk p'.2) (hl : ds.length ≤ ds'.length) (e : p'.2.func = p.2.base + p.2.regs.length) (h : ∀ j, j < p'.2.func → ds'.getD j .none = ds.getD j .none) : Good ds' (p' :: p :: r) where
  some := by simp
  few := by simp only [List.length_cons]; omega
  all := fun q hq => by
    rcases List.mem_cons.mp hq with rfl | hq
    · exact ⟨hS, hO⟩
    · refine ⟨stands_mono (G.all q hq).1 hl fun j hj => h j ?_, (G.all q hq).2⟩
      rcases List.mem_cons.mp hq with rfl | hq
      · omega
      · have := chain_below G.chain (fun q hq => (G.all q (.tail _ hq)).1) q hq
        have := (G.all p (.head _)).1.lo
        omega
  chain := ⟨by rw [e]; exact Nat.le_refl _, G.chain⟩
theorem good_top {ds ds' : List Dat} {p p' : Addr × FrS} {r : List (Addr × FrS)} (G : Good ds (p :: r)) (hS : Stands ds' p'.2) (hO : FrOk p'.2) (hl : ds.length ≤ ds'.length) (e : p'.2.func = p.2.func) (h : ∀ j, j < p.2.func → ds'.getD j .none = ds.getD j .none) : Good ds' (p' :: r) where
  some := by simp
  few := G.few
  all := fun q hq => by
    rcases List.mem_cons.mp hq with rfl | hq
    · exact ⟨hS, hO⟩
    · refine ⟨stands_mono (G.all q (.tail _ hq)).1 hl fun j hj => h j ?_, (G.all q (.tail _ hq)).2⟩
      have := chain_below G.chain (fun q hq => (G.all q (.tail _ hq)).1) q hq
      omega
  chain := chain_top G.chain (Nat.le_of_eq e.symm)
theorem good_pop {ds ds' : List Dat} {p : Addr × FrS} {r : List (Addr × FrS)} (G : Good ds (p :: r)) (hr : r ≠ []) (hl : ds.length ≤ ds'.length) (h : ∀ j, j < p.2.func → ds'.getD j .none = ds.getD j .none) : Good ds' r where
  some := hr
  few := by have := G.few; simp only [List.length_cons] at this; omega
  all := fun q hq => by
    refine ⟨stands_mono (G.all q (.tail _ hq)).1 hl fun j hj => h j ?_, (G.all q (.tail _ hq)).2⟩
    have := chain_below G.chain (fun q hq => (G.all q (.tail _ hq)).1) q hq
    omega
  chain := chain_tail G.chain

theorem store_ok {f : FrS} {i : Nat} {x : Dat} (h : FrOk f) : FrOk { f with regs := f.regs.set i x } :=
  ⟨h.a, h.b, by show (f.regs.set i x).length < 20; rw [List.length_set]; exact h.c, h.d, h.e, by show 0 < (f.regs.set i x).length; rw [List.length_set]; exact h.g⟩
theorem store_stands {ds : List Dat} {f : FrS} {i : Nat} {x : Dat} (hS : Stands ds f) (hi : i < f.regs.length) : Stands (ds.set (f.base + i) x) { f with regs := f.regs.set i x } := by
  obtain ⟨s1, s2, s3, s4, s5, s6, s7⟩ := hS
  have low : ∀ j, j < f.base → (ds.set (f.base + i) x).getD j .none = ds.getD j .none := fun j hj => by rw [getD_set _ _ _ _ (by omega), if_neg (by omega)]
  refine ⟨s1, ?_, ?_, fun j hj => ?_, s5, fun ho j hj => ?_, fun ho j hj => ?_⟩
  · show f.base + (f.regs.set i x).length ≤ (ds.set (f.base + i) x).length
    rw [List.length_set, List.length_set]; exact s2
  · show (ds.set (f.base + i) x).getD f.func .none = .str f.name
    rw [low _ s1]; exact s3
  · show (ds.set (f.base + i) x).getD (f.base + j) .none = (f.regs.set i x).getD j .none
    have hj' : j < f.regs.length := by have := List.length_set (as := f.regs) (i := i) (a := x); exact this ▸ hj
    rw [getD_set _ _ _ _ (by omega), getD_set _ _ _ _ hi]
    by_cases c : j = i
    · rw [if_pos (by omega), if_pos c]
    · rw [if_neg (by omega), if_neg c]; exact s4 j hj'
  · have := s5 ho
    show (ds.set (f.base + i) x).getD (f.func + 1 + j) .none = .none
    have hj' : j < f.fixed := hj
    rw [low _ (by omega)]; exact s6 ho j hj
  · have := s5 ho
    show (ds.set (f.base + i) x).getD (f.func + 1 + f.fixed + j) .none = f.rest.getD j .none
    have hj' : j < f.rest.length := hj
    rw [low _ (by omega)]; exact s7 ho j hj
theorem news_assoc {h₀ h : Heap} {L : Addr} {X Y Z : List (Addr × Obj)} (N : News h₀ L h (X ++ (Y ++ Z))) : News h₀ L h ((X ++ Y) ++ Z) := by rw [List.append_assoc]; exact N
theorem apart_assoc {X Y Z : List (Addr × Obj)} (N : Apart (X ++ (Y ++ Z))) : Apart ((X ++ Y) ++ Z) := by rw [List.append_assoc]; exact N

structure MyMark : Prop where
  go : True
def TestJoin (h₀ : Heap) (L : Addr) (m : Str → Option Value) (R : Bool → Prop) (all : List (Addr × Obj)) (s : Shared) (b : Bool) (s' : Shared) : Prop :=
  R b ∧ ∃ h' tk', s' = { s with heap := h', toks := tk' } ∧ Fr h₀ L h' m ∧ News h₀ L h' all
theorem test_join {h₀ : Heap} {L : Addr} {m : Str → Option Value} {R : Bool → Prop} {all : List (Addr × Obj)} {s : Shared} {b : Bool} {h' : Heap} {tk' : Nat} (r : R b) (F : Fr h₀ L h' m) (N : News h₀ L h' all) : TestJoin h₀ L m R all s b { s with heap := h', toks := tk' } := ⟨r, h', tk', rfl, F, N⟩
/-- a test of several ways is walked by itself: behind it there are two ways -/
theorem my_join {M : Model} {A : Around} {t : Sem Bool} {Q : Bool → Shared → Prop} {E : Value → Shared → Prop} {s : Shared} {h₀ : Heap} {L : Addr} {m : Str → Option Value} {all : List (Addr × Obj)} (R : Bool → Prop) (_ : Fr h₀ L s.heap m) (_ : News h₀ L s.heap all)
    (h : wpAny M A t (TestJoin h₀ L m R all s) E s) (k : ∀ b h' tk', R b → Fr h₀ L h' m → News h₀ L h' all → Q b { s with heap := h', toks := tk' }) : wpAny M A t Q E s :=
  wpAny_mono h (fun b _ ⟨r, h', tk', e, F, N⟩ => e ▸ k b h' tk' r F N) fun _ _ e => e
local macro_rules | `(tactic| walk_at "isTrue BoolOp") => `(tactic| ((have hM9 : MyMark := by assumption); clear hM9; refine halt ?_))
local macro_rules | `(tactic| walk_at "TestJoin") => `(tactic| (refine halt ?_))
theorem cut_eq {p q : Addr × Obj} {X Y U Z : List (Addr × Obj)} : X ++ ((p :: q :: (U ++ Y)) ++ Z) = (X ++ p :: q :: U) ++ (Y ++ Z) := by simp only [List.append_assoc, List.cons_append]
theorem news_cut {h₀ h : Heap} {L : Addr} {p q : Addr × Obj} {X Y U Z : List (Addr × Obj)} (N : News h₀ L h ((X ++ p :: q :: U) ++ (Y ++ Z))) : News h₀ L h (X ++ ((p :: q :: (U ++ Y)) ++ Z)) := by rw [cut_eq]; exact N
theorem apart_cut {p q : Addr × Obj} {X Y U Z : List (Addr × Obj)} (N : Apart ((X ++ p :: q :: U) ++ (Y ++ Z))) : Apart (X ++ ((p :: q :: (U ++ Y)) ++ Z)) := by rw [cut_eq]; exact N
theorem step_meets {w : World} {mean : ExcName → Option Value} {mg mb : Str → Option Value} {dl nm st fl d : Addr} {vs : List Value} {n k : Nat} {ledD lf lr : List (Addr × Obj)} {f : FrS} {r : List (Addr × FrS)} (ds : List Dat) (hD : DealL dl nm ledD) (hA : Are vs ds) (hF : FrameL w d f lf) (hFr : FramesL w r lr) (G : Good ds ((d, f) :: r)) (hl : ds.length < 800) :
    Meets w mean mg mb 143 9 [.ref dl, .ref st, .ref fl] (ledD ++ (st, W.listOf vs.toArray n) :: (fl, W.listOf (vals r ++ [Value.ref d]).toArray k) :: (lf ++ lr)) (fun K => ∀ ledD' vs' n' ds' k' fs' l', DealL dl nm ledD' → Are vs' ds' → FramesL w fs' l' → Good ds' fs' → ds'.length ≤ ds.length + 12 → K (.bool true) (ledD' ++ (st, W.listOf (List.toArray vs') n') :: (fl, W.listOf (vals fs').toArray k') :: l')) := by
  have hD0 := hD
  have hF0 := hF
  obtain ⟨o, ra, ga, rvs, gvs, n1, n2, t1, t2, t3, t4, t5, rfl, hd0, hR, hG⟩ := hF
  obtain ⟨pos, seed, u1, u2, k1, nums, k2, rfl, hDx⟩ := hD
  clear hDx
  have hlA := hA.length
  have hlR := hR.length
  have hlG := hG.length
  have hlr := vals_length r
  have hfew := G.few
  simp only [List.length_cons] at hfew
  obtain ⟨hS, hO⟩ := G.all _ (.head _)
  dsimp only at hS hO
  have hO' := hO
  obtain ⟨w1', w2', w3', w4', w5', w6'⟩ := hO
  unfold frKvs at hd0
  w_top off
  intro dp un gd cn cs a ccd cl outer A₀ base h₀ L m s rest Q E B F X
  revert X; k_fill; intro X N D T hk hd hu ret
  refine wpAny_call ?_
  k_dflt ktr_enter
  simp only [List.cons_append, List.nil_append] at N D ret; simp only [List.cons_append, List.nil_append] at *
  simp only [List.append_assoc] at *
  k_steps
  refine ⟨?_⟩
  k_dflt (refine' Meets.use (take_meets hD0 ⟨by omega, by omega⟩) (_) ?B ?F ?X ?N ?D ?T ?hk ?hp ?hd ?hu ?_; (case B => k_asm); (case F => k_asm); (case X => k_asm); (case N => k_asm); (case D => k_asm); (case T => k_asm); (case hk => rfl); (case hp => exact .refl _); (case hd => first | exact dok hd rfl | (dsimp only [ktrTop, Around.deeper, Around.in1]; omega)); (case hu => first | exact uok hu rfl | (dsimp only [ktrTop, Around.deeper, Around.in1]; omega)))
  intro v1 w1 pos1 seed1 x1 y1 kk1 nums1 ll1 e1 g1 hE1 h1' tk1 F1 N1 D1
  simp only [List.cons_append, List.nil_append] at N1 D1
  have hlv : (vals r ++ [Value.ref d]).length = r.length + 1 := by simp [vals]
  have hmk : MyMark := ⟨trivial⟩
  k_steps
  refine ⟨?_⟩
  rename Fr _ _ _ _ => F8
  rename News _ _ _ _ => N8
  refine my_join (fun b => (b = true → r.length < 5) ∧ (b = false → r.length ≠ 0)) F8 N8 ?test ?two
  case test =>
    clear hmk
    k_steps
    all_goals (
      refine ⟨?_⟩
      rename News _ _ _ _ => N9
      first
      | exact test_join ⟨fun _ => by omega, fun h => nomatch h⟩ (by assumption) (news_tail N9)
      | exact test_join ⟨fun h => (nomatch h), fun _ => by omega⟩ (by assumption) (news_tail N9))
  intro b h2' tk2 ⟨hy, hn⟩ F2 N2
  clear F8 N8
  k_steps
  · refine ⟨?_⟩
    k_dflt (refine' Meets.use (called_meets (as := vals r) ds f hE1 hA hF0 hS (by omega) hO' (by omega)) (_) ?B ?F ?X ?N ?D ?T ?hk ?hp ?hd ?hu ?_; (case B => k_asm); (case F => k_asm); (case X => k_asm); (case N => k_asm); (case D => k_asm); (case T => k_asm); (case hk => rfl); (case hp => exact .refl _); (case hd => first | exact dok hd rfl | (dsimp only [ktrTop, Around.deeper, Around.in1]; omega)); (case hu => first | exact uok hu rfl | (dsimp only [ktrTop, Around.deeper, Around.in1]; omega)))
    intro ledD2 vs2 n2' ds2 k2' d2 f2 lf2 hD2 hA2 hF2 hS2 hO2 hl2 hl2' hlow as2 l2 _ hb2
    obtain ⟨rfl, rfl, hfu⟩ := hb2 rfl
    clear hb2
    intro h2' tk2 F2 N2 D2
    k_steps
    refine ⟨leaveK_ (by k_asm) (by k_asm) fun kF kN => ?_⟩
    refine ret ledD2 vs2 n2' ds2 k2' ((d2, f2) :: (d, f) :: r) ((lf2 ++ [(d, o), (ra, _), (ga, _)]) ++ lr) hD2 hA2 ⟨lf2, _, List.append_assoc _ _ _, hF2, _, _, rfl, hF0, hFr⟩ (good_push G (hy (by assumption)) hS2 hO2 hl2 hfu hlow) hl2' _ _ kF ?_ ?_
    · rw [vals_cons, vals_cons]; exact news_cut kN
    · rw [vals_cons, vals_cons]; exact apart_cut D2
  · refine ⟨?_⟩
    k_dflt (refine' Meets.use (called_meets (as := vals r) ds f hE1 hA hF0 hS (by omega) hO' (by omega)) (_) ?B ?F ?X ?N ?D ?T ?hk ?hp ?hd ?hu ?_; (case B => k_asm); (case F => k_asm); (case X => k_asm); (case N => k_asm); (case D => k_asm); (case T => k_asm); (case hk => rfl); (case hp => exact .refl _); (case hd => first | exact dok hd rfl | (dsimp only [ktrTop, Around.deeper, Around.in1]; omega)); (case hu => first | exact uok hu rfl | (dsimp only [ktrTop, Around.deeper, Around.in1]; omega)))
    intro ledD2 vs2 n2' ds2 k2' d2 f2 lf2 hD2 hA2 hF2 hS2 hO2 hl2 hl2' hlow as2 l2 hb1 _
    obtain ⟨rfl, rfl, hfu⟩ := hb1 rfl
    clear hb1
    intro h2' tk2 F2 N2 D2
    k_steps
    refine ⟨leaveK_ (by k_asm) (by k_asm) fun kF kN => ?_⟩
    refine ret ledD2 vs2 n2' ds2 k2' ((d2, f2) :: r) (l2 ++ lr) hD2 hA2 ⟨l2, lr, rfl, hF2, hFr⟩ (good_top (p := (d, f)) G hS2 hO2 hl2 hfu (hfu ▸ hlow)) hl2' _ _ kF ?_ ?_
    · rw [vals_cons]; exact news_cut kN
    · rw [vals_cons]; exact apart_cut D2
  · refine ⟨?_⟩
    k_dflt (refine' Meets.use (returned_meets (as := vals r) ds f hE1 hA hF0 hS (by omega) ⟨w1', w2', w3'⟩ ⟨w4', w5'⟩ (by omega)) (_) ?B ?F ?X ?N ?D ?T ?hk ?hp ?hd ?hu ?_; (case B => k_asm); (case F => k_asm); (case X => k_asm); (case N => k_asm); (case D => k_asm); (case T => k_asm); (case hk => rfl); (case hp => exact .refl _); (case hd => first | exact dok hd rfl | (dsimp only [ktrTop, Around.deeper, Around.in1]; omega)); (case hu => first | exact uok hu rfl | (dsimp only [ktrTop, Around.deeper, Around.in1]; omega)))
    intro ledD2 vs2 n2' ds2 k2' hD2 hA2 hl2 hl2' hlow h2' tk2 F2 N2 D2
    k_steps
    refine ⟨leaveK_ (by k_asm) (by k_asm) fun kF kN => ?_⟩
    refine ret ledD2 vs2 n2' ds2 k2' r lr hD2 hA2 hFr (good_pop (p := (d, f)) G (fun h => ?_) hl2 hlow) (by omega) _ _ kF (news_cut (U := []) kN) (apart_cut (U := []) D2)
    exact hn (by first | assumption | (cases b <;> simp_all)) (by rw [h]; rfl)
  · refine ⟨?_⟩
    rename Fr _ _ _ _ => F8
    rename News _ _ _ _ => N8
    refine my_join (fun b => b = true → f.isOpen = true) F8 N8 ?test2 ?two2
    case test2 =>
      clear hmk
      k_steps
      all_goals (
        refine ⟨?_⟩
        rename News _ _ _ _ => N9
        first
        | exact test_join (fun _ => by assumption) (by assumption) N9
        | exact test_join (fun h => nomatch h) (by assumption) N9)
    clear hmk hy hn
    intro b h4' tk4 ho F4 N4
    clear F8 N8
    k_steps
    · refine ⟨?_⟩
      rename News _ _ _ _ => N8
      have N9 := N8
      clear N8
      k_dflt (refine' Meets.use (take_meets hE1 ⟨by omega, by omega⟩) (_) ?B ?F ?X ?N ?D ?T ?hk ?hp ?hd ?hu ?_; (case B => k_asm); (case F => k_asm); (case X => k_asm); (case N => k_asm); (case D => k_asm); (case T => k_asm); (case hk => rfl); (case hp => exact .refl _); (case hd => first | exact dok hd rfl | (dsimp only [ktrTop, Around.deeper, Around.in1]; omega)); (case hu => first | exact uok hu rfl | (dsimp only [ktrTop, Around.deeper, Around.in1]; omega)))
      intro v2 w2 pos2 seed2 x2 y2 kk2 nums2 ll2 e2 g2 hE2 h2' tk2 F2 N2 D2
      simp only [List.cons_append, List.nil_append] at N2 D2
      clear N9
      k_steps
      refine ⟨?_⟩
      rename News _ _ _ _ => N8
      have N9 := news_pick 5 (news_pick 6 (news_pick 6 (news_pick 6 N8)))
      have D9 := apart_pick 5 (apart_pick 6 (apart_pick 6 (apart_pick 6 D2)))
      simp only [pickL] at N9 D9
      clear N8
      k_dflt (refine' Meets.use (copied_meets ds f hA hF0 hS (by omega) ⟨w1', w2', w3'⟩ (ho (by assumption)) ⟨by omega, by omega⟩) (_) ?B ?F ?X ?N ?D ?T ?hk ?hp ?hd ?hu ?_; (case B => k_asm); (case F => k_asm); (case X => k_asm); (case N => k_asm); (case D => k_asm); (case T => k_asm); (case hk => rfl); (case hp => exact .refl _); (case hd => first | exact dok hd rfl | (dsimp only [ktrTop, Around.deeper, Around.in1]; omega)); (case hu => first | exact uok hu rfl | (dsimp only [ktrTop, Around.deeper, Around.in1]; omega)))
      intro vs3 n3' ds3 hA3 hl3 hl3' hlow h3' tk3 F3 N3 D3
      simp only [List.cons_append, List.nil_append] at N3 D3
      k_steps
      refine ⟨leaveK_ (by k_asm) (by k_asm) fun kF kN => ?_⟩
      have kN2 := news_pick 6 (news_pick 6 (news_pick 1 (news_pick 6 kN)))
      have kD2 := apart_pick 6 (apart_pick 6 (apart_pick 1 (apart_pick 6 D3)))
      simp only [pickL] at kN2 kD2
      refine ret [_, _] vs3 n3' ds3 k ((d, f) :: r) ([(d, o), (ra, _), (ga, _)] ++ lr) hE2 hA3 ⟨_, lr, rfl, hF0, hFr⟩ (good_top (p := (d, f)) G (stands_mono hS hl3 hlow) hO' hl3 rfl (fun j hj => hlow j (by have := hS.lo; dsimp only at hj; omega))) (by omega) _ _ kF ?_ ?_
      · rw [vals_cons]; exact kN2
      · rw [vals_cons]; exact kD2
    · refine ⟨?_⟩
      rename News _ _ _ _ => N8
      have N9 := N8
      clear N8
      k_dflt (refine' Meets.use (take_meets hE1 ⟨by omega, by omega⟩) (_) ?B ?F ?X ?N ?D ?T ?hk ?hp ?hd ?hu ?_; (case B => k_asm); (case F => k_asm); (case X => k_asm); (case N => k_asm); (case D => k_asm); (case T => k_asm); (case hk => rfl); (case hp => exact .refl _); (case hd => first | exact dok hd rfl | (dsimp only [ktrTop, Around.deeper, Around.in1]; omega)); (case hu => first | exact uok hu rfl | (dsimp only [ktrTop, Around.deeper, Around.in1]; omega)))
      intro v2 w2 pos2 seed2 x2 y2 kk2 nums2 ll2 e2 g2 hE2 h2' tk2 F2 N2 D2
      simp only [List.cons_append, List.nil_append] at N2 D2
      clear N9
      k_steps
      refine ⟨?_⟩
      k_dflt (refine' Meets.use (take_meets hE2 ⟨by omega, by omega⟩) (_) ?B ?F ?X ?N ?D ?T ?hk ?hp ?hd ?hu ?_; (case B => k_asm); (case F => k_asm); (case X => k_asm); (case N => k_asm); (case D => k_asm); (case T => k_asm); (case hk => rfl); (case hp => exact .refl _); (case hd => first | exact dok hd rfl | (dsimp only [ktrTop, Around.deeper, Around.in1]; omega)); (case hu => first | exact uok hu rfl | (dsimp only [ktrTop, Around.deeper, Around.in1]; omega)))
      intro v3 w3 pos3 seed3 x3 y3 kk3 nums3 ll3 e3 g3 hE3 h3' tk3 F3 N3 D3
      simp only [List.cons_append, List.nil_append] at N3 D3
      have hSb := hS.hi
      k_steps
      refine ⟨leaveK_ (by k_asm) (by k_asm) fun kF kN => ?_⟩
      rename Apart _ => Dn
      have kN2 := news_tail kN
      have kD2 := Dn.rest
      refine ret [_, _] (vs.set ((f.base : Int) + v2).toNat (.int v3 w3)) n (ds.set (f.base + v2.toNat) (.int v3)) k ((d, { f with regs := f.regs.set v2.toNat (.int v3) }) :: r) ([(d, o), (ra, _), (ga, _)] ++ lr) hE3 ?_ ⟨_, lr, rfl, ⟨o, ra, ga, rvs, gvs.set v2.toNat (.int v3 w3), n1, n2, t1, t2, t3, t4, t5, rfl, hd0, hR, hG.set (er_int _ _) _⟩, hFr⟩ (good_top (p := (d, f)) G (store_stands hS (by omega)) (store_ok hO') (by rw [List.length_set]; exact Nat.le_refl _) rfl (fun j hj => ?_)) (by rw [List.length_set]; omega) _ _ kF ?_ ?_
      · rw [show f.base + v2.toNat = ((f.base : Int) + v2).toNat by omega]
        exact hA.set (er_int _ _) _
      · have := hS.lo
        dsimp only at hj
        rw [getD_set _ _ _ _ (by omega), if_neg (by omega)]
      · rw [vals_cons]; exact kN2
      · rw [vals_cons]; exact kD2
/-- a turn's end of the law's own loop: the ledger is another one, apart from all else -/
def MainEnd (h₀ : Heap) (L : Addr) (x : Str) (m₀ : Str → Option Value) (own : List (Addr × Obj)) (J : List (Addr × Obj) → Prop) (s s₂ : Shared) : Prop :=
  ∃ h' tk m' nx, s₂ = { s with heap := h', toks := tk } ∧ Fr h₀ L h' m' ∧ News h₀ L h' (nx ++ own) ∧ Apart (nx ++ own) ∧ (∀ z, z ≠ x → m' z = m₀ z) ∧ J nx
def MainPost (h₀ : Heap) (L : Addr) (x : Str) (m₀ : Str → Option Value) (own : List (Addr × Obj)) (J : List (Addr × Obj) → Prop) (s : Shared) (Q : Flow → Shared → Prop) (f : Flow) (s₂ : Shared) : Prop :=
  match f with
  | .ret v => Q (.ret v) s₂
  | .brk => Q .next s₂
  | _ => MainEnd h₀ L x m₀ own J s s₂
theorem main_end {h₀ : Heap} {L : Addr} {x : Str} {m₀ m' : Str → Option Value} {own nx : List (Addr × Obj)} {J : List (Addr × Obj) → Prop} {s : Shared} {h' : Heap} {tk : Nat} {Q : Flow → Shared → Prop}
    (F : Fr h₀ L h' m') (N : News h₀ L h' (nx ++ own)) (D : Apart (nx ++ own)) (hm : ∀ z, z ≠ x → m' z = m₀ z) (hj : J nx) : MainPost h₀ L x m₀ own J s Q .next { s with heap := h', toks := tk } :=
  ⟨h', tk, m', nx, rfl, F, N, D, hm, hj⟩
section
variable {prog : Program} {w : World} {A : Around} {E : Value → Shared → Prop} {s : Shared} {env : Env} {h₀ : Heap} {x : Str} {body : List Stmt} {Q : Flow → Shared → Prop}
theorem my_main {r : Addr} {b₀ : Int} {t₀ u₀ v₀ : Tok} {n : Nat} {m₀ : Str → Option Value} {led : List (Addr × Obj)} (J : Nat → List (Addr × Obj) → Prop)
    (hh : A.handled = none) (hr : IsRange s.heap r 0 b₀ 1 t₀ u₀ v₀) (hs : -100000 < b₀ ∧ b₀ < 100000) (hn : n = b₀.toNat)
    (F : Fr h₀ env.locals s.heap m₀) (N : News h₀ env.locals s.heap led) (D : Apart led) (hp : J 0 led)
    (turn : ∀ i t nx own h tk, i < n → J i nx → Fr h₀ env.locals h (fun y => if y = x then some (.int (i : Int) t) else m₀ y) → News h₀ env.locals h (nx ++ own) → Apart (nx ++ own) →
      wpAny (model prog w) A (execs body env) (MainPost h₀ env.locals x m₀ own (J (i + 1)) { s with heap := h, toks := tk } Q) E { s with heap := h, toks := tk })
    (done : ∀ (u : Str → Option Value) nx h tk, J n nx → Fr h₀ env.locals h (fun y => if y = x then u y else m₀ y) → News h₀ env.locals h nx → Q .next { s with heap := h, toks := tk }) :
    wpAny (model prog w) A (pyIter (.ref r)) (fun it s₂ => LoopAtV prog w A h₀ env x body Q E it s₂) E s := by
  have hsz : Builtin.Range.rangeSize 0 b₀ 1 = (n : Int) := by rw [rangeSize_nat, hn]; omega
  refine wpAny_pyIter_range hr (small_one (by omega) (by omega) (by omega) (by omega)) ?_
  have Wk : Walks prog w A s.heap.objs.size [s.heap.objs.size] [s.heap.objs.size] n (fun i v => i < n ∧ ∃ t, v = .int (0 + i * 1) t)
      (fun i h => IsRangeIter h s.heap.objs.size (0 + (i : Nat) * 1) ((n : Int) - (i : Nat)) 1) := (Walks.range hh _ 0 1 n).bound
  refine ⟨s.heap.objs.size, [s.heap.objs.size], [s.heap.objs.size], n, _, _, m₀, led, fun i m nx => (∀ z, z ≠ x → m z = m₀ z) ∧ Apart nx ∧ J i nx, rfl, Wk, ?_, ?_, ?_, (by show IsRangeIter _ _ _ _ _; rw [hsz]; simpa using Heap.get?_push_size _ rfl), F.push _, (fun p hp => ⟨Heap.get?_push_of_some _ (N p hp).1, (N p hp).2⟩), ⟨fun _ _ => rfl, D, hp⟩, ?_, ?_⟩
  · intro hm
    exact absurd F.ns.lt ((List.mem_singleton.mp hm) ▸ Nat.lt_irrefl _)
  · intro b hb
    rw [List.mem_singleton.mp hb]
    exact next_is_new F
  · intro p hp hI
    exact absurd (Heap.lt_size (N p hp).1) ((List.mem_singleton.mp hI) ▸ Nat.lt_irrefl _)
  · rintro i v m₁ nx s₁ own ⟨h, tk, rfl⟩ hi ⟨_, t, rfl⟩ ⟨hm, Dn, hP⟩ hoff hown _ hall hst F₁ N₁
    rw [map_x _ hm, show (0 : Int) + (i : Int) * 1 = (i : Int) by omega] at F₁
    have hI₀ : h₀.get? s.heap.objs.size = none := next_is_new F
    obtain ⟨own', Do, he⟩ := apart_dedup own fun p hp => N₁ p (List.mem_append.mpr (.inl hp))
    have N₂ : News h₀ env.locals h (nx ++ own') := fun p hp => N₁ p (by
      rcases List.mem_append.mp hp with hp | hp
      · exact List.mem_append.mpr (.inr hp)
      · exact List.mem_append.mpr (.inl ((he p).mp hp)))
    have D₂ : Apart (nx ++ own') := Apart.own Dn Do fun p hp q hq e => hoff q hq (e ▸ hown p ((he p).mp hp))
    refine wpAny_mono (turn i t nx own' h tk hi hP F₁ N₂ D₂) (fun f s₂ p => ?_) fun _ _ e => e
    have fin : MainEnd h₀ env.locals x m₀ own' (J (i + 1)) { s with heap := h, toks := tk } s₂ → LoopStepU h₀ env.locals [s.heap.objs.size] own (fun m nx => (∀ z, z ≠ x → m z = m₀ z) ∧ Apart nx ∧ J (i + 1) nx) { s with heap := h, toks := tk } .next s₂ := by
      rintro ⟨h', tk', m', nx', e, F', N', D', hm', hJ'⟩
      refine ⟨rfl, h', tk', m', nx', e, F', fun p hp => N' p ?_, fun p hp hI => ?_, hm', D'.sub (List.sublist_append_left _ _), hJ'⟩
      · rcases List.mem_append.mp hp with hp | hp
        · exact List.mem_append.mpr (.inr ((he p).mpr hp))
        · exact List.mem_append.mpr (.inl hp)
      · obtain ⟨o, ho⟩ : ∃ o, h.get? s.heap.objs.size = some o := ⟨_, hst⟩
        have hmem := (he _).mpr (hall _ (List.mem_singleton.mpr rfl) hI₀ o ho)
        unfold Apart at D'
        rw [List.map_append] at D'
        exact (List.nodup_append.mp D').2.2 p.1 (List.mem_map.mpr ⟨p, hp, rfl⟩) _ (List.mem_map.mpr ⟨_, hmem, rfl⟩) (List.mem_singleton.mp hI)
    cases f with
    | ret v => exact .ret p
    | brk => exact .brk p
    | next => exact .next (fin p)
    | cont => exact .cont (fin p)
  · rintro h' tk m₁ nx F₁ N₁ _ ⟨hm, Dn, hP⟩
    rw [map_u hm] at F₁
    exact done m₁ nx h' tk hP F₁ N₁
end
section
variable {prog : Program} {w : World} {A : Around} {h₀ : Heap} {L : Addr} {m : Str → Option Value} {env : Env}
def TestEnd (h₀ : Heap) (L : Addr) (m : Str → Option Value) (all : List (Addr × Obj)) (s : Shared) (b : Bool) (s' : Shared) : Prop :=
  b = false ∧ ∃ h' tk', s' = { s with heap := h', toks := tk' } ∧ Fr h₀ L h' m ∧ News h₀ L h' all
theorem test_end {all : List (Addr × Obj)} {s : Shared} {h' : Heap} {tk' : Nat} (F : Fr h₀ L h' m) (N : News h₀ L h' all) : TestEnd h₀ L m all s false { s with heap := h', toks := tk' } := ⟨rfl, h', tk', rfl, F, N⟩
theorem my_filter {ct elt : Expr} {x : Str} {scope : Scope} {cl : List (Str × Addr)} {Fin : Shared → List Value → List (Addr × Obj) → Prop} {ax : Addr} {vs : List Value} {n : Nat} {s₁ : Shared} {news : List (Addr × Obj)}
    (hh : A.handled = none) (F : Fr h₀ L s₁.heap m) (N : News h₀ L s₁.heap news) (D : Apart news) (hm : (ax, W.listOf vs.toArray n) ∈ news) (hz : vs.length < 100000)
    (turn : ∀ (s₂ : Shared) v I oI C oC Dd oD m₂ h tk (E' : Value → Shared → Prop), (∃ g, s₂ = { s₁ with heap := g }) → v ∈ vs → LCg.NsObj oC m₂ → m₂ x = some v → Fr h₀ L h m → News h₀ L h ((I, oI) :: (C, oC) :: (Dd, oD) :: news) → Apart ((I, oI) :: (C, oC) :: (Dd, oD) :: news) →
      wpAny (model prog w) A (isTrue ct (compEnvC scope cl C env) (eval ct (compEnvC scope cl C env))) (TestEnd h₀ L m ((I, oI) :: (C, oC) :: (Dd, oD) :: news) { s₂ with heap := h, toks := tk }) E' { s₂ with heap := h, toks := tk })
    (fin : ∀ (s₂ : Shared), (∃ g, s₂ = { s₁ with heap := g }) → Fin s₂ [] news) :
    LCt.CompSrcT prog w A h₀ L m env ct elt x scope cl Fin (.ref ax) s₁ := by
  have hsz : vs.toArray.size ≤ sizeLine := by rw [sizeLine_eq, List.size_toArray]; omega
  refine LCt.CompSrcT.ledger hh F N hm hsz fun g => ?_
  have go : ∀ k i, i + k = vs.toArray.size →
      LCt.CompRestT prog w A h₀ L m env ct elt x scope cl { s₁ with heap := g } (LCg.SrcAt h₀ ax vs.toArray) (fun i v => vs.toArray[i]? = some v) (Fin { s₁ with heap := g }) k i [] news := by
    intro k
    induction k with
    | zero => intro i hi; exact LCt.CompRestT.zero (fin _ ⟨g, rfl⟩)
    | succ k ih =>
      intro i hi
      refine LCt.CompRestT.succ fun v' I oI C oC Dd m₂ h tk E' hv hns hx F1 N1 off dis => ?_
      have off3 := off.mem
      have hv' : v' ∈ vs := by
        rw [List.getElem?_toArray] at hv
        exact List.mem_of_getElem? hv
      have D1 : Apart ((I, oI) :: (C, oC) :: (Dd, LCg.lst []) :: news) := by
        have h3 : Apart ((Dd, LCg.lst []) :: news) := List.nodup_cons.mpr ⟨fun hm => by
          obtain ⟨p, hp, e⟩ := List.mem_map.mp hm
          exact (off3 p hp).2.2 e, D⟩
        have h2 : Apart ((C, oC) :: (Dd, LCg.lst []) :: news) := List.nodup_cons.mpr ⟨fun hm => by
          obtain ⟨p, hp, e⟩ := List.mem_map.mp hm
          rcases List.mem_cons.mp hp with rfl | hp
          · exact dis.2.2 e.symm
          · exact (off3 p hp).2.1 e, h3⟩
        refine List.nodup_cons.mpr ⟨fun hm => ?_, h2⟩
        obtain ⟨p, hp, e⟩ := List.mem_map.mp hm
        rcases List.mem_cons.mp hp with rfl | hp
        · exact dis.1 e.symm
        rcases List.mem_cons.mp hp with rfl | hp
        · exact dis.2.1 e.symm
        · exact (off3 p hp).1 e
      refine wpAny_mono (turn { s₁ with heap := g } v' I oI C oC Dd _ m₂ h tk E' ⟨g, rfl⟩ hv' hns hx F1 N1 D1) (fun b s₂ q => ?_) fun _ _ e => e
      obtain ⟨rfl, h2, tk2, rfl, F2, N2⟩ := q
      simp only [Bool.false_eq_true, if_false]
      exact LCg.CompEnd.intro F2 N2 news (fun p hp => hp) off (Or.inr ⟨_, hm, rfl, _, rfl⟩) (ih (i + 1) (by omega))
  exact go _ 0 (by omega)
end
theorem frames_at {w : World} : ∀ {fs : List (Addr × FrS)} {l : List (Addr × Obj)}, FramesL w fs l → ∀ p ∈ fs, ∃ lf l', FrameL w p.1 p.2 lf ∧ (lf ++ l').Perm l
  | [], _, _, _, hp => absurd hp List.not_mem_nil
  | q :: r, l, h, p, hp => by
    obtain ⟨l1, l2, rfl, h1, h2⟩ := h
    rcases List.mem_cons.mp hp with rfl | hp
    · exact ⟨l1, l2, h1, .refl _⟩
    · obtain ⟨lf, l', h3, h4⟩ := frames_at h2 p hp
      refine ⟨lf, l1 ++ l', h3, ?_⟩
      rw [← List.append_assoc]
      refine (List.Perm.append_right l' List.perm_append_comm).trans ?_
      rw [List.append_assoc]
      exact h4.append_left l1
theorem vals_mem {fs : List (Addr × FrS)} {v : Value} (h : v ∈ vals fs) : ∃ p ∈ fs, v = Value.ref p.1 := by
  obtain ⟨p, hp, e⟩ := List.mem_map.mp h
  exact ⟨p, List.mem_reverse.mp hp, e.symm⟩
/-- what stands between the turns of law -/
def Main (w : World) (dl nm st fl c : Addr) (oc : Obj) (i : Nat) (nx : List (Addr × Obj)) : Prop :=
  ∃ ledD vs n ds k fs l, nx = (ledD ++ (st, W.listOf (List.toArray vs) n) :: (fl, W.listOf (vals fs).toArray k) :: l) ++ [(c, oc)] ∧ DealL dl nm ledD ∧ Are vs ds ∧ FramesL w fs l ∧ Good ds fs ∧ ds.length ≤ 3 + 12 * i
theorem seed_fold (ns : List Int) : ∀ a : Int, 0 ≤ a → a < 2147483647 → 0 ≤ ns.foldl (fun a n => (a * 39373 + n + 5).fmod 2147483647) a ∧ ns.foldl (fun a n => (a * 39373 + n + 5).fmod 2147483647) a < 2147483647 := by
  induction ns with
  | nil => intro a h1 h2; exact ⟨h1, h2⟩
  | cons n r ih => intro a _ _; exact ih _ (Int.fmod_nonneg_of_pos _ (by decide)) (Int.fmod_lt_of_pos _ (by decide))
def groundS : FrS := { func := 0, base := 1, name := Str.ofString "g", fixed := 0, isOpen := false, rest := [], regs := [.int 1, .int 2], wanted := 0 }
theorem ground_stands : Stands [.str (Str.ofString "g"), .int 1, .int 2] groundS where
  lo := by decide
  hi := by decide
  name := rfl
  regs := fun i hi => by
    have hi' : i < 2 := hi
    match i, hi' with
    | 0, _ => rfl
    | 1, _ => rfl
  bs := fun h => nomatch h
  nils := fun h => nomatch h
  rest := fun h => nomatch h
theorem ground_ok : FrOk groundS := ⟨by decide, by decide, by decide, by decide, by decide, by decide⟩
theorem ground_good (d : Addr) : Good [.str (Str.ofString "g"), .int 1, .int 2] [(d, groundS)] where
  some := by simp
  few := by rw [List.length_singleton]; decide
  all := fun p hp => by
    rw [List.mem_singleton.mp hp]
    exact ⟨ground_stands, ground_ok⟩
  chain := trivial
theorem perm_stand {α : Type} {i c d e s f : α} {A L lf l' O : List α} (h : (lf ++ l').Perm L) : ((s :: lf) ++ (i :: c :: d :: e :: (A ++ f :: (l' ++ O)))).Perm (i :: c :: d :: e :: ((A ++ s :: f :: L) ++ O)) := by
  classical
  rw [List.perm_iff_count]
  intro x
  have q := (List.perm_iff_count.mp h) x
  simp only [List.count_append, List.count_cons] at q ⊢
  omega
section
variable {prog : Program} {w : World} {A : Around} {E : Value → Shared → Prop} {s : Shared} {env : Env} {h₀ : Heap} {x : Str} {body : List Stmt} {Q : Flow → Shared → Prop}
theorem my_law {r : Addr} {b₀ : Int} {t₀ u₀ v₀ : Tok} {m₀ : Str → Option Value} {led : List (Addr × Obj)} {dl nm st fl c : Addr} {oc : Obj} (J0 : Main w dl nm st fl c oc 0 led)
    (hh : A.handled = none) (hr : IsRange s.heap r 0 b₀ 1 t₀ u₀ v₀) (hs : 0 ≤ b₀ ∧ b₀ < 60)
    (F : Fr h₀ env.locals s.heap m₀) (N : News h₀ env.locals s.heap led) (D : Apart led)
    (turn : ∀ (i : Nat) t ledD vs n ds k d f lf r lr own h tk, i < 60 → DealL dl nm ledD → Are vs ds → FrameL w d f lf → FramesL w r lr → Good ds ((d, f) :: r) → ds.length ≤ 3 + 12 * i → Fr h₀ env.locals h (fun y => if y = x then some (.int (i : Int) t) else m₀ y) →
      News h₀ env.locals h ((c, oc) :: ((ledD ++ (st, W.listOf (List.toArray vs) n) :: (fl, W.listOf (vals r ++ [Value.ref d]).toArray k) :: (lf ++ lr)) ++ own)) → Apart ((c, oc) :: ((ledD ++ (st, W.listOf (List.toArray vs) n) :: (fl, W.listOf (vals r ++ [Value.ref d]).toArray k) :: (lf ++ lr)) ++ own)) →
      wpAny (model prog w) A (execs body env) (MainPost h₀ env.locals x m₀ own (Main w dl nm st fl c oc (i + 1)) { s with heap := h, toks := tk } Q) E { s with heap := h, toks := tk })
    (done : ∀ (u : Str → Option Value) nx h tk, Fr h₀ env.locals h (fun y => if y = x then u y else m₀ y) → News h₀ env.locals h nx → Q .next { s with heap := h, toks := tk }) :
    wpAny (model prog w) A (pyIter (.ref r)) (fun it s₂ => LoopAtV prog w A h₀ env x body Q E it s₂) E s := by
  refine my_main (n := b₀.toNat) (Main w dl nm st fl c oc) hh hr ⟨by omega, by omega⟩ rfl F N D J0 ?_ fun u nx h tk _ F N => done u nx h tk F N
  rintro i t nx own h tk hi ⟨ledD, vs, n, ds, k, fs, l, rfl, hD, hA, hF, hG, hl⟩ F1 N1 D1
  cases fs with
  | nil => exact absurd rfl hG.some
  | cons p r =>
    obtain ⟨d, f⟩ := p
    obtain ⟨lf, lr, rfl, hf, hr⟩ := hF
    have P1 : ((c, oc) :: ((ledD ++ (st, W.listOf (List.toArray vs) n) :: (fl, W.listOf (vals ((d, f) :: r)).toArray k) :: (lf ++ lr)) ++ own)).Perm (((ledD ++ (st, W.listOf (List.toArray vs) n) :: (fl, W.listOf (vals ((d, f) :: r)).toArray k) :: (lf ++ lr)) ++ [(c, oc)]) ++ own) := by
      rw [List.append_assoc _ [(c, oc)] own]
      exact List.perm_middle.symm
    have N2 := news_perm N1 P1
    have D2 := D1.perm P1.symm
    rw [vals_cons] at N2 D2
    exact turn i t ledD vs n ds k d f lf r lr own h tk (by omega) hD hA hf hr hG hl F1 N2 D2
theorem main_end2 {m₀ m' : Str → Option Value} {own : List (Addr × Obj)} {h' : Heap} {tk i : Nat} {ledD l : List (Addr × Obj)} {vs : List Value} {n k : Nat} {ds : List Dat} {fs : List (Addr × FrS)} {dl nm st fl c : Addr} {oc : Obj} {L : Addr} (hD : DealL dl nm ledD) (hA : Are vs ds) (hF : FramesL w fs l) (hG : Good ds fs) (hl : ds.length ≤ 3 + 12 * (i + 1))
    (F : Fr h₀ L h' m') (N : News h₀ L h' ((c, oc) :: ((ledD ++ (st, W.listOf (List.toArray vs) n) :: (fl, W.listOf (vals fs).toArray k) :: l) ++ own))) (D : Apart ((c, oc) :: ((ledD ++ (st, W.listOf (List.toArray vs) n) :: (fl, W.listOf (vals fs).toArray k) :: l) ++ own)))
    (hm : ∀ z, z ≠ x → m' z = m₀ z) : MainPost h₀ L x m₀ own (Main w dl nm st fl c oc (i + 1)) s Q .next { s with heap := h', toks := tk } := by
  have P1 : ((c, oc) :: ((ledD ++ (st, W.listOf (List.toArray vs) n) :: (fl, W.listOf (vals fs).toArray k) :: l) ++ own)).Perm (((ledD ++ (st, W.listOf (List.toArray vs) n) :: (fl, W.listOf (vals fs).toArray k) :: l) ++ [(c, oc)]) ++ own) := by
    rw [List.append_assoc _ [(c, oc)] own]
    exact List.perm_middle.symm
  exact main_end F (news_perm N P1.symm) (D.perm P1) hm ⟨ledD, vs, n, ds, k, fs, l, rfl, hD, hA, hF, hG, hl⟩
end
theorem main_start {w : World} {dl nm st fl d ra ga c : Addr} {oc o : Obj} {ys : List Value} {seed : Int} {a1 a2 b1 b2 b3 c1 c2 t1 t2 t3 t4 t5 : Tok} {n1 n2 n3 n4 n5 n6 : Nat} (hs : 0 ≤ seed ∧ seed < 2147483647) (hys : ∀ v ∈ ys, ∃ i t, v = Value.int i t) (h40 : ys.length ≤ 40)
    (hdg : o.IsDictOf (PySem.strKind PySem.Challenge.rw_nt0626_01.row.prog w) (frKvs groundS t1 t2 t3 t4 t5 ra ga)) :
    Main w dl nm st fl c oc 0 [(dl, W.listOf #[Value.ref nm, .int 0 a1, .int seed a2] n1), (nm, W.listOf ys.toArray n2), (st, W.listOf #[Value.str (Str.ofString "g") b1, .int 1 b2, .int 2 b3] n3), (fl, W.listOf #[Value.ref d] n4), (d, o), (ra, W.listOf #[] n5), (ga, W.listOf #[Value.int 1 c1, .int 2 c2] n6), (c, oc)] := by
  refine ⟨[_, _], [.str (Str.ofString "g") b1, .int 1 b2, .int 2 b3], n3, [.str (Str.ofString "g"), .int 1, .int 2], n4, [(d, groundS)], [_, _, _], rfl, ⟨0, seed, a1, a2, n1, ys, n2, rfl, by decide, by omega, hs.1, hs.2, hys, h40⟩, ?_, ⟨[_, _, _], [], rfl, ⟨o, ra, ga, [], [.int 1 c1, .int 2 c2], n5, n6, t1, t2, t3, t4, t5, rfl, hdg, rfl, rfl⟩, rfl⟩, ground_good _, Nat.le_refl _⟩
  unfold Are
  simp only [List.map_cons, List.map_nil, er, strOk_ofString, if_true]
end Walks
def Under (a : Nat) : List Nat → Prop
  | [] => True
  | [x] => x < a
  | x :: y :: l => x < a ∧ Under a (y :: l)
theorem Under.all {a : Nat} : ∀ {l : List Nat}, Under a l → ∀ x ∈ l, x < a
  | [_], h, x, hx => by rw [List.mem_singleton.mp hx]; exact h
  | _ :: _ :: _, h, x, hx => by
    rcases List.mem_cons.mp hx with rfl | hx
    · exact h.1
    · exact Under.all h.2 x hx
theorem nd_u {a : Nat} {l : List Nat} (h : Under a l) (D : l.Nodup) : (a :: l).Nodup := List.nodup_cons.mpr ⟨fun hm => Nat.lt_irrefl _ (h.all a hm), D⟩
theorem nd_2 {a x y : Nat} (h : x ≠ a ∧ y ≠ a) (D : [x, y].Nodup) : [a, x, y].Nodup := List.nodup_cons.mpr ⟨fun hm => by
  rcases List.mem_cons.mp hm with e | hm
  · exact h.1 e.symm
  · exact h.2 (List.mem_singleton.mp hm).symm, D⟩
theorem nd_1 {a x : Nat} (h : x < a) : [a, x].Nodup := nd_u (l := [x]) h (List.nodup_cons.mpr ⟨fun h => (nomatch h), List.nodup_nil⟩)
theorem apart_of {h₀ h : Heap} {L : Addr} {l : List (Addr × Obj)} (_ : News h₀ L h l) (q : (l.map (·.1)).Nodup) : Apart l := q
theorem halt_range {prog : Program} {w : World} {A : Around} {r : Addr} {a b c : Int} {t u v : Tok} {s : Shared} {Q E : Value → Shared → Prop} (_ : IsRange s.heap r a b c t u v) (h : Halt (wpAny (model prog w) A (pyIter (.ref r)) Q E s)) : wpAny (model prog w) A (pyIter (.ref r)) Q E s := h.go
local macro_rules | `(tactic| walk_at "pyIter ref") => `(tactic| (refine halt_range (by assumption) ?_))
local macro_rules | `(tactic| walk_at "call ref") => `(tactic| ((have hM9 : MyMark := by assumption); clear hM9; refine halt ?_))
local macro_rules | `(tactic| walk_at "CompSrcT") => `(tactic| ((have hM9 : MyMark := by assumption); clear hM9; refine halt ?_))
local macro_rules | `(tactic| walk_at "compareOp NotEq ref ref") => `(tactic| ((have hM9 : MyMark := by assumption); clear hM9; refine halt ?_))
local macro_rules | `(tactic| walk_at "TestEnd") => `(tactic| (refine halt ?_))
local macro_rules | `(tactic| walk_at "newList") => `(tactic| ((have hM9 : MyMark := by assumption); clear hM9; k_here; k_dflt (refine' my_newList ?F ?N ?D ?z ?_; (case F => k_asm); (case N => k_asm); (case D => k_asm); (case z => exact Nat.lt_of_ble_eq_true rfl)); intro l' h' F' N' D'))
theorem ints_each {vs : List Value} {ns : List Int} (h : IntsAre vs ns) : ∀ v ∈ vs, ∃ i t, v = Value.int i t := by
  intro v hv
  obtain ⟨i, hi⟩ := List.getElem?_of_mem hv
  obtain ⟨k, t, e, _⟩ := IntsAre.at h i v hi
  exact ⟨k, t, e⟩
theorem law_holds : PySem.Challenge.rw_nt0626_01.Holds := hd (by
  w_top off
  k_go0; (all_goals try k_fold); k_steps
  refine ⟨?_⟩
  rename IsRange _ _ _ _ _ _ _ _ => hr
  rename Fr _ _ _ _ => F8
  rename News _ _ _ _ => N8
  rename Obj.IsDictOf _ _ _ => hdg
  simp only [strPairs] at hdg
  have D8 := apart_of N8 (by
    simp only [List.map_cons, List.map_nil]
    exact nd_u (by assumption) (nd_u (by assumption) (nd_u (by assumption) (nd_u (by assumption) (nd_u (by assumption) (nd_u (by assumption) (nd_u (by assumption) (nd_2 (by assumption) (nd_1 (by assumption))))))))))
  have N9 := news_pick 6 (news_pick 6 (news_pick 4 (news_pick 3 (news_pick 3 (news_pick 2 (news_pick 1 (news_er 0 (news_er 8 N8))))))))
  have D9 := apart_pick 6 (apart_pick 6 (apart_pick 4 (apart_pick 3 (apart_pick 3 (apart_pick 2 (apart_pick 1 (apart_er 0 (apart_er 8 D8))))))))
  simp only [pickL, List.eraseIdx] at N9 D9
  rw [Int.fdiv_eq_ediv_of_nonneg _ (by decide : (0:Int) ≤ 4)] at hr
  clear N8 D8
  rename IntsAre ys _ => hys
  have hmk : MyMark := ⟨trivial⟩
  refine my_law (main_start (seed_fold _ _ (by decide) (by decide)) ?gi ?gl hdg) (by rfl) hr ⟨by omega, by omega⟩ F8 N9 D9 ?turn ?done
  case gi => exact ints_each hys
  case gl =>
    have hL8 := hys.length
    rw [List.length_map] at hL8
    omega
  case done =>
    clear hmk
    intro u nx h tk F1 N1
    k_steps
  case turn =>
    clear hdg hr F8 N9 D9 hys
    intro i t ledD vs n ds k d f lf r lr own h tk hi hD hA hF hFr hG hl F1 N1 D1
    k_steps
    refine ⟨?_⟩
    k_dflt (refine' Meets.use (step_meets (r := r) ds hD hA hF hFr hG (by omega)) (_) ?B ?F ?X ?N ?D ?T ?hk ?hp ?hd ?hu ?_; (case B => k_asm); (case F => k_asm); (case X => k_asm); (case N => k_asm); (case D => k_asm); (case T => k_asm); (case hk => rfl); (case hp => exact List.perm_middle); (case hd => first | decide | (simp only [depth_deeper, depth_caller, recursionLimit, units_deeper, units_caller, cLine]; omega) | (dsimp only [ktrTop, Around.deeper, Around.in1, callerA]; omega)); (case hu => first | decide | (simp only [depth_deeper, depth_caller, recursionLimit, units_deeper, units_caller, cLine]; omega) | (dsimp only [ktrTop, Around.deeper, Around.in1, callerA]; omega)))
    clear F1 N1 D1 hD hA hF hFr hG
    intro ledD2 vs2 n2' ds2 k2' fs2 l2 hD2 hA2 hF2 hG2 hl2 h2' tk2 F2 N2 D2
    have N3 := news_perm N2 List.perm_middle.symm
    have D3 := D2.perm List.perm_middle
    clear N2 D2
    k_steps
    refine ⟨?_⟩
    rename Fr _ _ _ _ => F4
    refine my_filter (by rfl) F4 N3 D3 (.tail _ (List.mem_append.mpr (.inl (List.mem_append.mpr (.inr (.tail _ (.head _))))))) ?fz ?fturn ?ffin
    case fz =>
      have := hG2.few
      rw [vals_length]; omega
    case fturn =>
      rintro s9 v9 I oI C oC Dd oD m9 h9 tk9 E9 ⟨g9, rfl⟩ hv hns hx F5 N5 D5
      obtain ⟨p, hp, rfl⟩ := vals_mem hv
      obtain ⟨lf', l', hfp, hperm⟩ := frames_at hF2 p hp
      obtain ⟨hSp, hOp⟩ := hG2.all p hp
      clear F4 N3 D3
      k_steps
      refine ⟨?_⟩
      have N6 := news_perm N5 (perm_stand hperm)
      have D6 := D5.perm (perm_stand hperm).symm
      clear N5 D5
      k_dflt (refine' Meets.use (stands_meets ds2 p.2 hA2 hfp hSp (by omega) ⟨hOp.a, hOp.b, hOp.c⟩) (_) ?B ?F ?X ?N ?D ?T ?hk ?hp ?hd ?hu ?_; (case B => k_asm); (case F => k_asm); (case X => k_asm); (case N => k_asm); (case D => k_asm); (case T => k_asm); (case hk => rfl); (case hp => exact .refl _); (case hd => first | decide | (simp only [depth_deeper, depth_caller, recursionLimit, units_deeper, units_caller, cLine]; omega) | (dsimp only [ktrTop, Around.deeper, Around.in1, callerA]; omega)); (case hu => first | decide | (simp only [depth_deeper, depth_caller, recursionLimit, units_deeper, units_caller, cLine]; omega) | (dsimp only [ktrTop, Around.deeper, Around.in1, callerA]; omega)))
      intro h3' tk3 F6 N7 D7
      have N8 := news_perm N7 (perm_stand hperm).symm
      clear N7 D7 N6 D6
      k_steps
      refine ⟨?_⟩
      exact test_end (by assumption) N8
    case ffin =>
      rintro s9 ⟨g9, rfl⟩
      k_steps
      refine ⟨?_⟩
      rename News _ _ _ _ => N6
      dsimp only
      refine my_ne (vs := []) (ws := []) (ds := []) N6 (.tail _ (.head _)) (.head _) Are.nil Are.nil ?hu ?_
      case hu => first | decide | (simp only [units_deeper, units_caller, cLine]; omega) | (dsimp only [ktrTop, Around.deeper, Around.in1, callerA]; omega)
      have N7 := news_tail (news_tail N6)
      clear N6
      k_steps
      refine main_end2 hD2 hA2 hF2 hG2 (by omega) (by assumption) N7 D3 (fun z hz => if_neg hz))
end Mine
theorem PySem.Challenge.cw_nt0626_01_holds : PySem.Challenge.rw_nt0626_01.Holds := by
  exact Mine.law_holds
