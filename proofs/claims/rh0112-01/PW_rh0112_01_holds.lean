import PyProof.Rows.All
import Wide.All
import OpenK.AllK
import Wide.FinOn
import Lean
import PySem.Challenge.RW_rh0112_01
open PySem PySem.W PyProof.Rows
set_option Elab.async false
set_option maxRecDepth 100000
set_option maxHeartbeats 8000000
set_option pp.deepTerms false
set_option linter.all false
open_top hd for PySem.Challenge.rw_rh0112_01
namespace Mine
abbrev tup (vs : List Value) (n : Nat) : Obj := { cls := .type "tuple", data := .seq vs.toArray n }
def setL (d : Addr) (o : Obj) (news : List (Addr × Obj)) : List (Addr × Obj) := news.map fun p => if p.1 = d then (d, o) else p
theorem mem_setL_ne {a d : Addr} {x o : Obj} {news : List (Addr × Obj)} (h : (a, x) ∈ news) (hn : a ≠ d) : (a, x) ∈ setL d o news :=
  List.mem_map.mpr ⟨(a, x), h, by simp [hn]⟩
theorem mem_setL_self {d : Addr} {x o : Obj} {news : List (Addr × Obj)} (h : (d, x) ∈ news) : (d, o) ∈ setL d o news :=
  List.mem_map.mpr ⟨(d, x), h, by simp⟩
/-- what a Store's dict holds: seven attributes, their hashes and tokens -/
structure StoreA where
  h : Nat → Int
  k : Nat → Tok
  sy : Addr
  mhT : Tok
  hl : Addr
  sk : Addr
  tr : Addr
  hbT : Tok
  bbT : Tok
abbrev storeE (S : StoreA) : List DictEntry := [⟨S.h 0, .str (Str.ofString "symbols") (S.k 0), .ref S.sy⟩, ⟨S.h 1, .str (Str.ofString "max_heap") (S.k 1), .int 100000 S.mhT⟩, ⟨S.h 2, .str (Str.ofString "heap") (S.k 2), .ref S.hl⟩, ⟨S.h 3, .str (Str.ofString "stack") (S.k 3), .ref S.sk⟩, ⟨S.h 4, .str (Str.ofString "trail") (S.k 4), .ref S.tr⟩, ⟨S.h 5, .str (Str.ofString "hb") (S.k 5), .int 0 S.hbT⟩, ⟨S.h 6, .str (Str.ofString "bb") (S.k 6), .int 0 S.bbT⟩]
/-- what a Symbols' dict holds -/
structure SymA where
  h : Nat → Int
  k : Nat → Tok
  lt : Addr
  da : Addr
  lf : Addr
  df : Addr
abbrev symE (S : SymA) : List DictEntry := [⟨S.h 0, .str (Str.ofString "texts") (S.k 0), .ref S.lt⟩, ⟨S.h 1, .str (Str.ofString "atom_numbers") (S.k 1), .ref S.da⟩, ⟨S.h 2, .str (Str.ofString "functors") (S.k 2), .ref S.lf⟩, ⟨S.h 3, .str (Str.ofString "functor_numbers") (S.k 3), .ref S.df⟩]
def Held (P : Prop) : Prop := P
theorem held {P : Prop} (h : Held P) : P := h
/-- what an Areas' dict holds: eighteen attributes -/
structure AreaA where
  h : Nat → Int
  k : Nat → Tok
  sy : Addr
  code : Value
  t2 : Tok
  t4 : Tok
  st : Addr
  v : Nat → Value
abbrev areaE (S : AreaA) : List DictEntry := [⟨S.h 0, .str (Str.ofString "symbols") (S.k 0), .ref S.sy⟩, ⟨S.h 1, .str (Str.ofString "code") (S.k 1), S.code⟩, ⟨S.h 2, .str (Str.ofString "max_heap") (S.k 2), .int 100000 S.t2⟩, ⟨S.h 3, .str (Str.ofString "occurs") (S.k 3), .bool true⟩, ⟨S.h 4, .str (Str.ofString "max_bits") (S.k 4), .int 4096 S.t4⟩, ⟨S.h 5, .str (Str.ofString "store") (S.k 5), .ref S.st⟩, ⟨S.h 6, .str (Str.ofString "x") (S.k 6), S.v 6⟩, ⟨S.h 7, .str (Str.ofString "p") (S.k 7), S.v 7⟩, ⟨S.h 8, .str (Str.ofString "cp") (S.k 8), S.v 8⟩, ⟨S.h 9, .str (Str.ofString "e") (S.k 9), S.v 9⟩, ⟨S.h 10, .str (Str.ofString "b") (S.k 10), S.v 10⟩, ⟨S.h 11, .str (Str.ofString "b0") (S.k 11), S.v 11⟩, ⟨S.h 12, .str (Str.ofString "mode") (S.k 12), S.v 12⟩, ⟨S.h 13, .str (Str.ofString "s") (S.k 13), S.v 13⟩, ⟨S.h 14, .str (Str.ofString "guard") (S.k 14), S.v 14⟩, ⟨S.h 15, .str (Str.ofString "roots") (S.k 15), S.v 15⟩, ⟨S.h 16, .str (Str.ofString "bags") (S.k 16), S.v 16⟩, ⟨S.h 17, .str (Str.ofString "collect_wanted") (S.k 17), S.v 17⟩]
end Mine
namespace Mine
section
variable {prog : Program} {w : World} {A : Around} {E : Value → Shared → Prop} {s : Shared} {h₀ : Heap} {L : Addr} {m : Str → Option Value} {news : List (Addr × Obj)}
theorem item_abs {value slice : PySem.Expr} {l : Addr} {vs : List Value} {n : Nat} {k : Int} {u : Tok} {v : Value} {Q : Value → Shared → Prop}
    (N : News h₀ L s.heap news) (hm : (l, listOf vs.toArray n) ∈ news) (hx : vs[k.toNat]? = some v) (h0 : 0 ≤ k) (hb : vs.length ≤ 200000) (h : Q v s)
    (hs : subscripted slice false (.ref l) (.int k u) = operate [.ref l, .int k u] (getItem (.ref l) (.int k u))) :
    wpAny (model prog w) A (subscriptTail value slice (.ref l) (.int k u)) Q E s :=
  tail_any (N.isList hm).typeIs slot_list_getitem.lookup (wpAny_getItem_list (N.isList hm) h0
    (by have := (List.getElem?_eq_some_iff.mp hx).1; omega) (by simpa using hx) h) hs
theorem in_tupK {K : Frag} {a : Addr} {its : Array Value} {n : Nat} {ys : List Str} {x : Str} {u : Tok} {b : Bool} {Q : Value → Shared → Prop}
    (F : Fr h₀ L s.heap m) (X : K.In h₀) (hl : K.lookup a = some ⟨.type "tuple", none, .seq its n, #[]⟩) (hw : StrsAre its.toList ys) (hb : ys.any (· == x) = b)
    (h : Q (.bool b) s) : wpAny (model prog w) A (compareOp .In (.str x u) (.ref a)) Q E s :=
  in_tuple_strs (items := its) ⟨_, F.keep _ _ (X _ _ hl), rfl, n, rfl⟩ hw (hb ▸ h)
theorem append_L {D : Addr} {l : List Value} {n : Nat} {x : Value} {news' : List (Addr × Obj)} {Q : Value → Shared → Prop} (F : Fr h₀ L s.heap m) (N : News h₀ L s.heap news) (U : Upd D (listOf l.toArray n) (listOf (l ++ [x]).toArray (n + 1)) news news') (hz : l.length ≤ 200000)
    (h : ∀ h', Fr h₀ L h' m → News h₀ L h' news' → Q .none { s with heap := h' }) : wpAny (model prog w) A (call (.builtin "list.append") [.ref D, x]) Q E s :=
  append_K (its := l.toArray) F N (by rw [List.push_toArray]; exact U) h (by rw [List.size_toArray, PySem.sizeLine_eq]; omega)
theorem pop_L {D : Addr} {l : List Value} {n : Nat} {x : Value} {news' : List (Addr × Obj)} {Q : Value → Shared → Prop} (F : Fr h₀ L s.heap m) (N : News h₀ L s.heap news) (U : Upd D (listOf (l ++ [x]).toArray n) (listOf l.toArray (n + 1)) news news') (hz : l.length ≤ 200000)
    (h : ∀ h', Fr h₀ L h' m → News h₀ L h' news' → Q x { s with heap := h' }) : wpAny (model prog w) A (call (.builtin "list.pop") [.ref D]) Q E s :=
  kl_pop (its := (l ++ [x]).toArray) F N (kpa_last x l) U (by show (l ++ [x]).length ≤ sizeLine; rw [List.length_append, PySem.sizeLine_eq]; simp; omega) h
theorem some_true (l : List Value) (x : Value) : (!(l ++ [x]).isEmpty) = true := by simp
theorem none_false : (!([] : List Value).isEmpty) = false := rfl
theorem truthy_L {a : Addr} {l : List Value} {n : Nat} {b : Bool} {Q : Bool → Shared → Prop} (N : News h₀ L s.heap news) (hm : (a, listOf l.toArray n) ∈ news) (hz : l.length ≤ 200000) (hb : (!l.isEmpty) = b)
    (h : Q b { s with toks := s.toks + 1 + 1 }) : wpAny (model prog w) A (truthy (.ref a)) Q E s :=
  wpAny_truthy_list (N.isList hm) (by rw [List.size_toArray]; omega) (by rw [show (!l.toArray.isEmpty) = b from by simpa using hb]; exact h)
theorem len_L {a : Addr} {l : List Value} {n : Nat} {Q : Value → Shared → Prop} (N : News h₀ L s.heap news) (hm : (a, listOf l.toArray n) ∈ news) (hz : l.length ≤ 200000)
    (h : Q (.int ((l.length : Nat) : Int) (s.toks + 1)) { s with toks := s.toks + 1 + 1 }) : wpAny (model prog w) A (call (.builtin "len") [.ref a]) Q E s :=
  len_list (N.isList hm) (by rw [List.size_toArray]; omega) (by rw [List.size_toArray]; exact h)
end
end Mine
namespace Mine
open PySem.Spec PyProof.V
def CellAt (r : List (Addr × Obj)) (v : Value) (c : Int × Int) : Prop := ∃ x t1 t2 n, v = .ref x ∧ (x, tup [.int c.1 t1, .int c.2 t2] n) ∈ r
theorem CellAt.mono {r r' : List (Addr × Obj)} {v : Value} {c : Int × Int} (h : CellAt r v c) (k : ∀ p ∈ r, p ∈ r') : CellAt r' v c := by
  obtain ⟨x, t1, t2, n, e, hm⟩ := h
  exact ⟨x, t1, t2, n, e, k _ hm⟩
/-- a Python list as a stack of cells: its end is the head -/
inductive Stk (r : List (Addr × Obj)) : List Value → List (Int × Int) → Prop
  | nil : Stk r [] []
  | push {l : List Value} {cs : List (Int × Int)} {v : Value} {c : Int × Int} : CellAt r v c → Stk r l cs → Stk r (l ++ [v]) (c :: cs)
theorem Stk.mono {r r' : List (Addr × Obj)} {l : List Value} {cs : List (Int × Int)} (h : Stk r l cs) (k : ∀ p ∈ r, p ∈ r') : Stk r' l cs := by
  induction h with
  | nil => exact .nil
  | push a _ ih => exact .push (a.mono k) ih
theorem Stk.length {r : List (Addr × Obj)} {l : List Value} {cs : List (Int × Int)} (h : Stk r l cs) : l.length = cs.length := by
  induction h with
  | nil => rfl
  | push a _ ih => simp [ih]
inductive StkI : List Value → List Int → Prop
  | nil : StkI [] []
  | push {l : List Value} {ns : List Int} (n : Int) (t : Tok) : StkI l ns → StkI (l ++ [Value.int n t]) (n :: ns)
theorem StkI.length {l : List Value} {cs : List Int} (h : StkI l cs) : l.length = cs.length := by
  induction h with
  | nil => rfl
  | push n t _ ih => simp [ih]
/-- the heap's cells -/
def CellsAre (r : List (Addr × Obj)) (hvs : List Value) (H : List (Int × Int)) : Prop := hvs.length = H.length ∧ ∀ (k : Nat) c, H[k]? = some c → ∃ v, hvs[k]? = some v ∧ CellAt r v c
theorem CellsAre.mono {r r' : List (Addr × Obj)} {hvs : List Value} {H : List (Int × Int)} (h : CellsAre r hvs H) (k : ∀ p ∈ r, p ∈ r') : CellsAre r' hvs H :=
  ⟨h.1, fun i c hc => let ⟨v, a, b⟩ := h.2 i c hc; ⟨v, a, b.mono k⟩⟩
theorem CellsAre.get {r : List (Addr × Obj)} {hvs : List Value} {H : List (Int × Int)} (h : CellsAre r hvs H) {k : Nat} {a b : Int} (e : H[k]? = some (a, b)) : ∃ x t1 t2 n, hvs[k]? = some (.ref x) ∧ (x, tup [.int a t1, .int b t2] n) ∈ r := by
  obtain ⟨v, h1, x, t1, t2, n, e1, h2⟩ := h.2 k _ e
  exact ⟨x, t1, t2, n, e1 ▸ h1, h2⟩
inductive Fin3 where
  | val (v : Int)
  | memory
  | lis
def D0 := List (PyData × PyData)
/-- what evaluate's loop does, turn by turn; the number: its turns -/
inductive Run (H : List (Int × Int)) : Nat → List (Int × Int) → List Int → List (PyData × PyData) → Fin3 → Prop
  | val (v : Int) (D : List (PyData × PyData)) : Run H 0 [] [v] D (.val v)
  | mem {a : Int} {td : List (Int × Int)} {vs : List Int} {D : List (PyData × PyData)} : lookup (.int a) D = some .none → 0 ≤ a → Run H 0 ((2, a) :: td) vs D .memory
  | lis {a : Int} {td : List (Int × Int)} {vs : List Int} {D : List (PyData × PyData)} : Run H 0 ((3, a) :: td) vs D .lis
  | int {n : Nat} {v : Int} {td : List (Int × Int)} {vs : List Int} {D : List (PyData × PyData)} {f : Fin3} : Run H n td (v :: vs) D f → Run H (n + 1) ((5, v) :: td) vs D f
  | add {n : Nat} {a i j : Int} {td : List (Int × Int)} {vs : List Int} {D : List (PyData × PyData)} {f : Fin3} : 0 ≤ a → H[a.toNat]? = some (6, 14) → (Builtin.Int.intBits (i + j) : Int) ≤ 4096 →
      Run H n td ((i + j) :: vs) (putD (.int a) (.int (i + j)) D) f → Run H (n + 1) ((6, a) :: td) (j :: i :: vs) D f
  | sub {n : Nat} {a i j : Int} {td : List (Int × Int)} {vs : List Int} {D : List (PyData × PyData)} {f : Fin3} : 0 ≤ a → H[a.toNat]? = some (6, 13) → (Builtin.Int.intBits (i - j) : Int) ≤ 4096 →
      Run H n td ((i - j) :: vs) (putD (.int a) (.int (i - j)) D) f → Run H (n + 1) ((6, a) :: td) (j :: i :: vs) D f
  | neg {n : Nat} {a j : Int} {td : List (Int × Int)} {vs : List Int} {D : List (PyData × PyData)} {f : Fin3} : 0 ≤ a → H[a.toNat]? = some (6, 12) → (Builtin.Int.intBits (-j) : Int) ≤ 4096 →
      Run H n td (-j :: vs) (putD (.int a) (.int (-j)) D) f → Run H (n + 1) ((6, a) :: td) (j :: vs) D f
  | known {n : Nat} {a z : Int} {td : List (Int × Int)} {vs : List Int} {D : List (PyData × PyData)} {f : Fin3} : lookup (.int a) D = some (.int z) → Run H n td (z :: vs) D f → Run H (n + 1) ((2, a) :: td) vs D f
  | two {n : Nat} {a fn : Int} {c1 c2 : Int × Int} {td : List (Int × Int)} {vs : List Int} {D : List (PyData × PyData)} {f : Fin3} : lookup (.int a) D = none → 0 ≤ a → fn = 13 ∨ fn = 14 → H[a.toNat]? = some (6, fn) → H[a.toNat + 1]? = some c1 → H[a.toNat + 2]? = some c2 →
      Run H n (c1 :: c2 :: (6, a) :: td) vs (putD (.int a) .none D) f → Run H (n + 1) ((2, a) :: td) vs D f
  | one {n : Nat} {a : Int} {c1 : Int × Int} {td : List (Int × Int)} {vs : List Int} {D : List (PyData × PyData)} {f : Fin3} : lookup (.int a) D = none → 0 ≤ a → H[a.toNat]? = some (6, 12) → H[a.toNat + 1]? = some c1 →
      Run H n (c1 :: (6, a) :: td) vs (putD (.int a) .none D) f → Run H (n + 1) ((2, a) :: td) vs D f
/-- the loop's goal holds wherever the frame and the ledger are so -/
def Ready (P : Shared → Prop) (s : Shared) (g : Heap) (L va td kn : Addr) (m₀ : Str → Option Value) (stored : List Str) (r : List (Addr × Obj)) (lv lt : List Value) (od : Obj) : Prop :=
  ∀ h tk m₁ nv nt, (∀ z, stored.contains z = false → m₁ z = m₀ z) → Fr g L h m₁ → News g L h ((va, listOf lv.toArray nv) :: (td, listOf lt.toArray nt) :: (kn, od) :: r) → P { s with heap := h, toks := tk }
structure Off3 (va td kn : Addr) (r : List (Addr × Obj)) : Prop where
  a : ∀ p ∈ r, p.1 ≠ va
  b : ∀ p ∈ r, p.1 ≠ td
  c : ∀ p ∈ r, p.1 ≠ kn
def KnownD (prog : Program) (w : World) (od : Obj) (D : List (PyData × PyData)) : Prop := ∃ kvs, od.IsDictOf (intKind prog w) kvs ∧ FlatPairs PyData.int kvs D
structure EvTurns (prog : Program) (w : World) (P : Shared → Prop) (s : Shared) (g : Heap) (L va td kn : Addr) (m₀ : Str → Option Value) (stored : List Str) (hvs : List Value) (G : List (Addr × Obj) → Prop) (fin : Fin3) : Prop where
  c_val : ∀ r lt od v tv, fin = .val v → G r → Off3 va td kn r → lt = [] → Ready P s g L va td kn m₀ stored r [.int v tv] lt od
  c_mem : ∀ r lv lt od D a x t1 t2 n, fin = .memory → G r → Off3 va td kn r → (x, tup [.int 2 t1, .int a t2] n) ∈ r → KnownD prog w od D → lookup (.int a) D = some .none → lt.length ≤ 100000 →
      Ready P s g L va td kn m₀ stored r lv (lt ++ [.ref x]) od
  c_lis : ∀ r lv lt od D a x t1 t2 n, fin = .lis → G r → Off3 va td kn r → (x, tup [.int 3 t1, .int a t2] n) ∈ r → KnownD prog w od D → lt.length ≤ 100000 → Ready P s g L va td kn m₀ stored r lv (lt ++ [.ref x]) od
  c_int : ∀ r lv lt od v x t1 t2 n, G r → Off3 va td kn r → (x, tup [.int 5 t1, .int v t2] n) ∈ r → lv.length ≤ 100000 → lt.length ≤ 100000 → (∀ t', Ready P s g L va td kn m₀ stored r (lv ++ [.int v t']) lt od) →
      Ready P s g L va td kn m₀ stored r lv (lt ++ [.ref x]) od
  c_add : ∀ r lv lt od D a i j ti tj x t1 t2 n y t3 t4 n', G r → Off3 va td kn r → (x, tup [.int 6 t1, .int a t2] n) ∈ r → 0 ≤ a → hvs[a.toNat]? = some (.ref y) → (y, tup [.int 6 t3, .int 14 t4] n') ∈ r → (Builtin.Int.intBits (i + j) : Int) ≤ 4096 → KnownD prog w od D →
      D.length ≤ 100000 → lv.length ≤ 100000 → lt.length ≤ 100000 → (∀ t' od', KnownD prog w od' (putD (.int a) (.int (i + j)) D) → Ready P s g L va td kn m₀ stored r (lv ++ [.int (i + j) t']) lt od') →
      Ready P s g L va td kn m₀ stored r ((lv ++ [.int i ti]) ++ [.int j tj]) (lt ++ [.ref x]) od
  c_sub : ∀ r lv lt od D a i j ti tj x t1 t2 n y t3 t4 n', G r → Off3 va td kn r → (x, tup [.int 6 t1, .int a t2] n) ∈ r → 0 ≤ a → hvs[a.toNat]? = some (.ref y) → (y, tup [.int 6 t3, .int 13 t4] n') ∈ r → (Builtin.Int.intBits (i - j) : Int) ≤ 4096 → KnownD prog w od D →
      D.length ≤ 100000 → lv.length ≤ 100000 → lt.length ≤ 100000 → (∀ t' od', KnownD prog w od' (putD (.int a) (.int (i - j)) D) → Ready P s g L va td kn m₀ stored r (lv ++ [.int (i - j) t']) lt od') →
      Ready P s g L va td kn m₀ stored r ((lv ++ [.int i ti]) ++ [.int j tj]) (lt ++ [.ref x]) od
  c_neg : ∀ r lv lt od D a j tj x t1 t2 n y t3 t4 n', G r → Off3 va td kn r → (x, tup [.int 6 t1, .int a t2] n) ∈ r → 0 ≤ a → hvs[a.toNat]? = some (.ref y) → (y, tup [.int 6 t3, .int 12 t4] n') ∈ r → (Builtin.Int.intBits (-j) : Int) ≤ 4096 → KnownD prog w od D →
      D.length ≤ 100000 → lv.length ≤ 100000 → lt.length ≤ 100000 → (∀ t' od', KnownD prog w od' (putD (.int a) (.int (-j)) D) → Ready P s g L va td kn m₀ stored r (lv ++ [.int (-j) t']) lt od') →
      Ready P s g L va td kn m₀ stored r (lv ++ [.int j tj]) (lt ++ [.ref x]) od
  c_known : ∀ r lv lt od D a z x t1 t2 n, G r → Off3 va td kn r → (x, tup [.int 2 t1, .int a t2] n) ∈ r → KnownD prog w od D → lookup (.int a) D = some (.int z) → lv.length ≤ 100000 → lt.length ≤ 100000 → (∀ t', Ready P s g L va td kn m₀ stored r (lv ++ [.int z t']) lt od) →
      Ready P s g L va td kn m₀ stored r lv (lt ++ [.ref x]) od
  c_two : ∀ r lv lt od D a fn x t1 t2 n y t3 t4 n' x1 x2, G r → Off3 va td kn r → (x, tup [.int 2 t1, .int a t2] n) ∈ r → 0 ≤ a → fn = 13 ∨ fn = 14 → hvs[a.toNat]? = some (.ref y) → (y, tup [.int 6 t3, .int fn t4] n') ∈ r → hvs[a.toNat + 1]? = some (.ref x1) → hvs[a.toNat + 2]? = some (.ref x2) →
      KnownD prog w od D → lookup (.int a) D = none → D.length ≤ 100000 → lv.length ≤ 100000 → lt.length ≤ 100000 →
      (∀ c t5 t6 od', Off3 va td kn ((c, tup [.int 6 t5, .int a t6] 0) :: r) → KnownD prog w od' (putD (.int a) .none D) → Ready P s g L va td kn m₀ stored ((c, tup [.int 6 t5, .int a t6] 0) :: r) lv (((lt ++ [.ref c]) ++ [.ref x2]) ++ [.ref x1]) od') →
      Ready P s g L va td kn m₀ stored r lv (lt ++ [.ref x]) od
  c_one : ∀ r lv lt od D a x t1 t2 n y t3 t4 n' x1, G r → Off3 va td kn r → (x, tup [.int 2 t1, .int a t2] n) ∈ r → 0 ≤ a → hvs[a.toNat]? = some (.ref y) → (y, tup [.int 6 t3, .int 12 t4] n') ∈ r → hvs[a.toNat + 1]? = some (.ref x1) →
      KnownD prog w od D → lookup (.int a) D = none → D.length ≤ 100000 → lv.length ≤ 100000 → lt.length ≤ 100000 →
      (∀ c t5 t6 od', Off3 va td kn ((c, tup [.int 6 t5, .int a t6] 0) :: r) → KnownD prog w od' (putD (.int a) .none D) → Ready P s g L va td kn m₀ stored ((c, tup [.int 6 t5, .int a t6] 0) :: r) lv ((lt ++ [.ref c]) ++ [.ref x1]) od') →
      Ready P s g L va td kn m₀ stored r lv (lt ++ [.ref x]) od
  Gs : ∀ r p, G r → G (p :: r)
section
variable {prog : Program} {w : World} {P : Shared → Prop} {s : Shared} {g : Heap} {L va td kn : Addr} {m₀ : Str → Option Value} {stored : List Str} {H : List (Int × Int)} {hvs : List Value}
theorem ev_ind (G : List (Addr × Obj) → Prop) (Gc : ∀ r, G r → CellsAre r hvs H) (fin : Fin3) (T : EvTurns prog w P s g L va td kn m₀ stored hvs G fin) :
    ∀ n todo vs D f, Run H n todo vs D f → f = fin → ∀ r lv lt od, G r → Off3 va td kn r → Stk r lt todo → StkI lv vs → KnownD prog w od D → todo.length + 3 * n ≤ 90000 → vs.length + n ≤ 90000 → D.length + n ≤ 90000 → Ready P s g L va td kn m₀ stored r lv lt od := by
  intro n todo vs D f hR hf
  subst hf
  induction hR with
  | val v D =>
    intro r lv lt od g1 o st si _ _ _ _
    cases st
    cases si with
    | push n t h => cases h; exact T.c_val r [] od v t rfl g1 o rfl
  | mem hl h0 =>
    intro r lv lt od g1 o st si kd b1 b2 b3
    cases st with
    | push a st =>
      obtain ⟨x, t1, t2, n, rfl, hx⟩ := a
      have := st.length
      exact T.c_mem r lv _ od _ _ x t1 t2 n rfl g1 o hx kd hl (by simp only [List.length_cons] at b1; omega)
  | lis =>
    intro r lv lt od g1 o st si kd b1 b2 b3
    cases st with
    | push a st =>
      obtain ⟨x, t1, t2, n, rfl, hx⟩ := a
      have := st.length
      exact T.c_lis r lv _ od _ _ x t1 t2 n rfl g1 o hx kd (by simp only [List.length_cons] at b1; omega)
  | int hr ih =>
    intro r lv lt od g1 o st si kd b1 b2 b3
    have e2 := si.length
    cases st with
    | push a st =>
      obtain ⟨x, t1, t2, n, rfl, hx⟩ := a
      have e1 := st.length
      simp only [List.length_cons] at b1
      exact T.c_int r lv _ od _ x t1 t2 n g1 o hx (by omega) (by omega) fun t' => ih T r _ _ od g1 o st (.push _ _ si) kd (by omega) (by simp only [List.length_cons]; omega) (by omega)
  | @add n₀ a₀ i j td₀ vs₀ D₀ f₀ h0 hH hb hr ih =>
    intro r lv lt od g1 o st si kd b1 b2 b3
    cases st with
    | push a st =>
      obtain ⟨x, t1, t2, n, rfl, hx⟩ := a
      cases si with
      | push j tj si =>
        cases si with
        | push i ti si =>
          have e1 := st.length
          have e2 := si.length
          obtain ⟨y, t3, t4, n', hy, hy'⟩ := (Gc r g1).get hH
          simp only [List.length_cons] at b1 b2
          exact T.c_add r _ _ od _ _ i j ti tj x t1 t2 n y t3 t4 n' g1 o hx h0 hy hy' hb kd (by omega) (by omega) (by omega) fun t' od' kd' => ih T r _ _ od' g1 o st (.push _ _ si) kd' (by omega) (by simp only [List.length_cons]; omega) (by
            have := putD_length_le (PyData.int a₀) (PyData.int (i + j)) D₀
            exact Nat.le_trans (Nat.add_le_add_right this _) (by omega))
  | @sub n₀ a₀ i j td₀ vs₀ D₀ f₀ h0 hH hb hr ih =>
    intro r lv lt od g1 o st si kd b1 b2 b3
    cases st with
    | push a st =>
      obtain ⟨x, t1, t2, n, rfl, hx⟩ := a
      cases si with
      | push j tj si =>
        cases si with
        | push i ti si =>
          have e1 := st.length
          have e2 := si.length
          obtain ⟨y, t3, t4, n', hy, hy'⟩ := (Gc r g1).get hH
          simp only [List.length_cons] at b1 b2
          exact T.c_sub r _ _ od _ _ i j ti tj x t1 t2 n y t3 t4 n' g1 o hx h0 hy hy' hb kd (by omega) (by omega) (by omega) fun t' od' kd' => ih T r _ _ od' g1 o st (.push _ _ si) kd' (by omega) (by simp only [List.length_cons]; omega) (by
            have := putD_length_le (PyData.int a₀) (PyData.int (i - j)) D₀
            exact Nat.le_trans (Nat.add_le_add_right this _) (by omega))
  | @neg n₀ a₀ j td₀ vs₀ D₀ f₀ h0 hH hb hr ih =>
    intro r lv lt od g1 o st si kd b1 b2 b3
    cases st with
    | push a st =>
      obtain ⟨x, t1, t2, n, rfl, hx⟩ := a
      cases si with
      | push j tj si =>
        have e1 := st.length
        have e2 := si.length
        obtain ⟨y, t3, t4, n', hy, hy'⟩ := (Gc r g1).get hH
        simp only [List.length_cons] at b1 b2
        exact T.c_neg r _ _ od _ _ j tj x t1 t2 n y t3 t4 n' g1 o hx h0 hy hy' hb kd (by omega) (by omega) (by omega) fun t' od' kd' => ih T r _ _ od' g1 o st (.push _ _ si) kd' (by omega) (by simp only [List.length_cons]; omega) (by
            have := putD_length_le (PyData.int a₀) (PyData.int (-j)) D₀
            exact Nat.le_trans (Nat.add_le_add_right this _) (by omega))
  | @known n₀ a₀ z td₀ vs₀ D₀ f₀ hl hr ih =>
    intro r lv lt od g1 o st si kd b1 b2 b3
    have e2 := si.length
    cases st with
    | push a st =>
      obtain ⟨x, t1, t2, n, rfl, hx⟩ := a
      have e1 := st.length
      simp only [List.length_cons] at b1
      exact T.c_known r lv _ od _ _ _ x t1 t2 n g1 o hx kd hl (by omega) (by omega) fun t' => ih T r _ _ od g1 o st (.push _ _ si) kd (by omega) (by simp only [List.length_cons]; omega) (by omega)
  | @two n₀ a₀ fn₀ c1₀ c2₀ td₀ vs₀ D₀ f₀ hl h0 hfn hH h1 h2 hr ih =>
    intro r lv lt od g1 o st si kd b1 b2 b3
    have e2 := si.length
    cases st with
    | push a st =>
      obtain ⟨x, t1, t2, n, rfl, hx⟩ := a
      have e1 := st.length
      obtain ⟨y, t3, t4, n', hy, hy'⟩ := (Gc r g1).get hH
      obtain ⟨v1, q1, c1⟩ := (Gc r g1).2 _ _ h1
      obtain ⟨v2, q2, c2⟩ := (Gc r g1).2 _ _ h2
      have c1' := c1
      have c2' := c2
      obtain ⟨x1, _, _, _, rfl, _⟩ := c1'
      obtain ⟨x2, _, _, _, rfl, _⟩ := c2'
      simp only [List.length_cons] at b1
      exact T.c_two r lv _ od _ _ _ x t1 t2 n y t3 t4 n' x1 x2 g1 o hx h0 hfn hy hy' q1 q2 kd hl (by omega) (by omega) (by omega) fun c t5 t6 od' o' kd' => ih T _ _ _ od' (T.Gs _ _ g1) o'
        (.push (c1.mono fun _ h => .tail _ h) (.push (c2.mono fun _ h => .tail _ h) (.push ⟨c, t5, t6, 0, rfl, .head _⟩ (st.mono fun _ h => .tail _ h)))) si kd' (by simp only [List.length_cons]; omega) (by omega) (by
            have := putD_length_le (PyData.int a₀) PyData.none D₀
            exact Nat.le_trans (Nat.add_le_add_right this _) (by omega))
  | @one n₀ a₀ c1₀ td₀ vs₀ D₀ f₀ hl h0 hH h1 hr ih =>
    intro r lv lt od g1 o st si kd b1 b2 b3
    have e2 := si.length
    cases st with
    | push a st =>
      obtain ⟨x, t1, t2, n, rfl, hx⟩ := a
      have e1 := st.length
      obtain ⟨y, t3, t4, n', hy, hy'⟩ := (Gc r g1).get hH
      obtain ⟨v1, q1, c1⟩ := (Gc r g1).2 _ _ h1
      have c1' := c1
      obtain ⟨x1, _, _, _, rfl, _⟩ := c1'
      simp only [List.length_cons] at b1
      exact T.c_one r lv _ od _ _ x t1 t2 n y t3 t4 n' x1 g1 o hx h0 hy hy' q1 kd hl (by omega) (by omega) (by omega) fun c t5 t6 od' o' kd' => ih T _ _ _ od' (T.Gs _ _ g1) o'
        (.push (c1.mono fun _ h => .tail _ h) (.push ⟨c, t5, t6, 0, rfl, .head _⟩ (st.mono fun _ h => .tail _ h))) si kd' (by simp only [List.length_cons]; omega) (by omega) (by
            have := putD_length_le (PyData.int a₀) PyData.none D₀
            exact Nat.le_trans (Nat.add_le_add_right this _) (by omega))
end
end Mine
namespace Mine
open PySem.Spec PyProof.V
def FnAt (r : List (Addr × Obj)) (fvs : List Value) (k : Int) (a n : Int) : Prop := ∃ y t1 t2 n', fvs[k.toNat]? = some (.ref y) ∧ (y, tup [.int a t1, .int n t2] n') ∈ r
structure EvG (ma md : Addr) (SA : AreaA) (mdn : Nat) (sd : Addr) (SS : StoreA) (sdn : Nat) (nd : Addr) (SY : SymA) (ndn : Nat) (hvs : List Value) (nh : Nat) (H : List (Int × Int)) (tvs : List Value) (nt : Nat) (fvs : List Value) (nf : Nat) (r : List (Addr × Obj)) : Prop where
  g1 : (ma, instObj 704 md) ∈ r
  g2 : (md, dictOf (areaE SA) mdn) ∈ r
  g3 : (SA.st, instObj 423 sd) ∈ r
  g4 : (sd, dictOf (storeE SS) sdn) ∈ r
  g5 : (SA.sy, instObj 154 nd) ∈ r
  g6 : (nd, dictOf (symE SY) ndn) ∈ r
  g7 : (SS.hl, listOf hvs.toArray nh) ∈ r
  g8 : CellsAre r hvs H
  g9 : hvs.length ≤ 200000
  g10 : (SY.lt, listOf tvs.toArray nt) ∈ r
  g11 : tvs.length ≤ 200000
  g12 : (SY.lf, listOf fvs.toArray nf) ∈ r
  g13 : fvs.length ≤ 200000
  g14 : ∃ t, tvs[(3 : Int).toNat]? = some (.str (Str.ofString "-") t)
  g15 : ∃ t, tvs[(4 : Int).toNat]? = some (.str (Str.ofString "+") t)
  g16 : FnAt r fvs 12 3 1
  g17 : FnAt r fvs 13 3 2
  g18 : FnAt r fvs 14 4 2
theorem FnAt.mono {r r' : List (Addr × Obj)} {fvs : List Value} {k a n : Int} (h : FnAt r fvs k a n) (s : ∀ p ∈ r, p ∈ r') : FnAt r' fvs k a n := by
  obtain ⟨y, t1, t2, n', e, hm⟩ := h
  exact ⟨y, t1, t2, n', e, s _ hm⟩
theorem EvG.mono {ma md : Addr} {SA : AreaA} {mdn : Nat} {sd : Addr} {SS : StoreA} {sdn : Nat} {nd : Addr} {SY : SymA} {ndn : Nat} {hvs : List Value} {nh : Nat} {H : List (Int × Int)} {tvs : List Value} {nt : Nat} {fvs : List Value} {nf : Nat} {r r' : List (Addr × Obj)}
    (G : EvG ma md SA mdn sd SS sdn nd SY ndn hvs nh H tvs nt fvs nf r) (s : ∀ p ∈ r, p ∈ r') : EvG ma md SA mdn sd SS sdn nd SY ndn hvs nh H tvs nt fvs nf r' :=
  ⟨s _ G.g1, s _ G.g2, s _ G.g3, s _ G.g4, s _ G.g5, s _ G.g6, s _ G.g7, G.g8.mono s, G.g9, s _ G.g10, G.g11, s _ G.g12, G.g13, G.g14, G.g15, G.g16.mono s, G.g17.mono s, G.g18.mono s⟩
theorem fm {g h : Heap} {L : Addr} {m₁ m₀ : Str → Option Value} {stored : List Str} (F : Fr g L h m₁) (hm : ∀ z, stored.contains z = false → m₁ z = m₀ z) : Fr g L h (fun y => if stored.contains y then m₁ y else m₀ y) := by
  have e : (fun y => if stored.contains y then m₁ y else m₀ y) = m₁ := by
    funext y
    cases q : stored.contains y with
    | true => simp
    | false => simp [hm y q]
  rw [e]
  exact F
theorem allLt_all {d : Addr} : ∀ {l : List (Addr × Obj)}, AllLt d l → ∀ p ∈ l, p.1 < d
  | [], _, _, h => nomatch h
  | q :: r, ⟨h1, h2⟩, p, h => by
    rcases List.mem_cons.mp h with rfl | h
    · exact h1
    · exact allLt_all h2 p h
theorem news5 {h₀ h : Heap} {L : Addr} {all r : List (Addr × Obj)} {p1 p2 p3 p4 : Addr × Obj} (N : News h₀ L h all) (h1 : p1 ∈ all) (h2 : p2 ∈ all) (h3 : p3 ∈ all) (h4 : p4 ∈ all) (hr : ∀ p ∈ r, p ∈ all) : News h₀ L h (p1 :: p2 :: p3 :: p4 :: r) := by
  intro p hp
  simp only [List.mem_cons] at hp
  rcases hp with rfl | rfl | rfl | rfl | hp
  · exact N _ h1
  · exact N _ h2
  · exact N _ h3
  · exact N _ h4
  · exact N _ (hr _ hp)
theorem last_idx (l : List Value) (v : Value) : (l ++ [v])[((((l ++ [v]).length : Nat) : Int) - 1).toNat]? = some v := by
  have : ((((l ++ [v]).length : Nat) : Int) - 1).toNat = l.length := by rw [List.length_append]; simp
  rw [this]
  simp
section
variable {prog : Program} {w : World} {A : Around} {E : Value → Shared → Prop} {s : Shared} {h₀ : Heap} {L kn : Addr} {m : Str → Option Value} {news : List (Addr × Obj)} {od : Obj} {D : List (PyData × PyData)} {kvs : List (Int × Value)} {i : Int} {t : Tok}
theorem kn_in {b : Bool} {Q : Value → Shared → Prop} (N : News h₀ L s.heap news) (hm : (kn, od) ∈ news) (lo : (kn == sysModules) = false) (hd : od.IsDictOf (intKind prog w) kvs) (hf : FlatPairs PyData.int kvs D) (hl : (lookup (.int i) D).isSome = b)
    (h : Q (.bool b) { s with toks := s.toks + 1 }) : wpAny (model prog w) A (compareOp .In (.int i t) (.ref kn)) Q E s := in_intTab (TabAt.ofNews N hm lo hd hf) (hl ▸ h)
theorem kn_item {value slice : PySem.Expr} {z : Int} {Q : Value → Shared → Prop} (N : News h₀ L s.heap news) (hm : (kn, od) ∈ news) (lo : (kn == sysModules) = false) (hd : od.IsDictOf (intKind prog w) kvs) (hf : FlatPairs PyData.int kvs D) (hl : lookup (.int i) D = some (.int z))
    (h : ∀ t', Q (.int z t') { s with toks := s.toks + 1 })
    (hs : subscripted slice false (.ref kn) (.int i t) = operate [.ref kn, .int i t] (getItem (.ref kn) (.int i t))) (hg : ∀ r, letTemporaryGo value (.ref kn) r = pure ()) :
    wpAny (model prog w) A (subscriptTail value slice (.ref kn) (.int i t)) Q E s := item_intTab (TabAt.ofNews N hm lo hd hf) hl (fun v hv => by obtain ⟨t', rfl⟩ := Flat.int_inv hv; exact h t') hs hg
theorem kn_item0 {value slice : PySem.Expr} {Q : Value → Shared → Prop} (N : News h₀ L s.heap news) (hm : (kn, od) ∈ news) (lo : (kn == sysModules) = false) (hd : od.IsDictOf (intKind prog w) kvs) (hf : FlatPairs PyData.int kvs D) (hl : lookup (.int i) D = some .none)
    (h : Q .none { s with toks := s.toks + 1 })
    (hs : subscripted slice false (.ref kn) (.int i t) = operate [.ref kn, .int i t] (getItem (.ref kn) (.int i t))) (hg : ∀ r, letTemporaryGo value (.ref kn) r = pure ()) :
    wpAny (model prog w) A (subscriptTail value slice (.ref kn) (.int i t)) Q E s := item_intTab (TabAt.ofNews N hm lo hd hf) hl (fun v hv => by rw [Flat.none_inv hv]; exact h) hs hg
theorem kn_set {u : Obj → List (Addr × Obj)} {v : Value} {dv : PyData} {Q : Unit → Shared → Prop} (F : Fr h₀ L s.heap m) (N : News h₀ L s.heap news) (U : UpdF kn od news u) (hd : od.IsDictOf (intKind prog w) kvs) (hf : FlatPairs PyData.int kvs D) (hv : Flat v dv) (hz : D.length ≤ 100000)
    (h : ∀ h' o' kvs', Fr h₀ L h' m → News h₀ L h' (u o') → o'.IsDictOf (intKind prog w) kvs' → FlatPairs PyData.int kvs' (putD (.int i) dv D) → Q () { s with heap := h', toks := s.toks + 1 }) :
    wpAny (model prog w) A (setItem (.ref kn) (.int i t) v) Q E s :=
  setItem_K same_int (intKind_is _ _ _ _) hv F N U hd hf (fun h' o' F' N' a b => h h' o' _ F' N' a b) (by rw [PySem.sizeLine_eq]; omega)
end
end Mine
namespace Mine
open PySem.Calls Builtin Builtin.ObjectAttr
abbrev exc0 (C t : Addr) : Obj := { cls := .ref C, data := .fields #[.ref t, .none, .none, .none, .bool false, .none] }
abbrev exc1 (C dx t : Addr) : Obj := { cls := .ref C, dict := some dx, data := .fields #[.ref t, .none, .none, .none, .bool false, .none] }
section
variable {prog : Program} {w : World} {A : Around} {s : Shared} {K : Frag} {x C L : Addr} {h₀ : Heap} {m : Str → Option Value} {rest : List (Addr × Obj)} {R : Result → Shared → Prop}
/-- an exception's own dict, made by its first store -/
theorem osa_exc {t : Addr} {cd : ClassData} {name : Str} {tk : Tok} {v : Value} (F : Fr h₀ L s.heap m) (N : News h₀ L s.heap ((x, exc0 C t) :: rest)) (hx : ∀ p ∈ rest, p.1 ≠ x) (X : K.In s.heap)
    (hc : clsIn K C = some cd) (hr : ∀ self, refuseLoop self "__setattr__" cd.mro = pure ()) (hsub : mroIn K C (.type "object") = some true) (ht : takerIn K C name = some none) (hh : cd.hasDict = true)
    (h : ∀ dx h' key, Fr h₀ L h' m → News h₀ L h' ((dx, dictOf [⟨PyData.keyHash w.params name, .str name key, v⟩] 1) :: (x, exc1 C dx t) :: rest) → (∀ p ∈ (x, exc0 C t) :: rest, p.1 < dx) → R (.ok (.ret .none)) { s with heap := h', toks := s.toks + 1 }) :
    codeAny (model prog w) A (.call (.builtin "object.__setattr__") ⟨[.ref x, .str name tk, v], []⟩) R s := by
  have SF := PySem.F.store_object
  have hX := (N _ (.head _)).1
  have I : InstAt s.heap x (exc0 C t) C none := ⟨hX, rfl, rfl, trivial⟩
  have sub : Looks (model prog w) s.heap (isInstance (.ref x) (.type "object")) true := I.type.andThen (looks_mroIn X hsub)
  refine codeAny_call_builtin SF.slot.plain SF.entry (@check_slot (model prog w) _ _ s "object.__setattr__" "object" "__setattr__" (.ref x) [.str name tk, v] [] _ SF.kind SF.split sub (SF.args (.ref x) (.str name tk) v) ?_)
  obtain ⟨attr, ha, hr'⟩ := Option.bind_eq_some_iff.mp ht
  have hm : Looks (model prog w) s.heap (mroOf (.ref C)) cd.mro := (looks_clsIn X hc).andThen .now
  have L3 : Looks (model prog w) s.heap (storeTaker? attr) none := by
    cases attr with
    | none => exact .now
    | some a =>
      obtain ⟨b, hb, e⟩ := Option.map_eq_some_iff.mp hr'
      refine (looks_takesIn X hb).andThen ?_
      cases b
      · exact .now
      · cases e
  rw [osa_eq, refuse_eq]
  refine wpAny_bind (wpAny_bind (I.type.here (wpAny_bind (hm.here ?_))))
  rw [hr]
  refine wpAny_pure (wpAny_bind (I.type.here (wpAny_bind ((looks_findIn X ha).here (wpAny_bind (L3.here ?_))))))
  refine wpAny_bind (wpAny_pure (wpAny_bind (wpAny_bind (wpAny_loadPart hX (wpAny_bind ((looks_clsIn X hc).here ?_))))))
  rw [hh]
  have N1 : News h₀ L (s.heap.push { cls := .type "dict", data := .dict #[] }) ([(s.heap.objs.size, { cls := .type "dict", data := .dict #[] })] ++ (x, exc0 C t) :: rest) := N.push F _
  have hlt : ∀ p ∈ (x, exc0 C t) :: rest, p.1 < s.heap.objs.size := fun p hp => Heap.lt_size (N p hp).1
  have hxd : s.heap.objs.size ≠ x := Nat.ne_of_gt (hlt _ (.head _))
  obtain ⟨F2, N2⟩ := news_upd (f := fun o => { o with dict := some s.heap.objs.size }) (o' := exc1 C s.heap.objs.size t) (F.push _) N1 (fun p hp => by rw [List.mem_singleton.mp hp]; exact hxd) hx rfl rfl
  have N2' : News h₀ L ((s.heap.push { cls := .type "dict", data := .dict #[] }).update x fun o => { o with dict := some s.heap.objs.size }) ([] ++ (s.heap.objs.size, dictOf [] 0) :: (x, exc1 C s.heap.objs.size t) :: rest) := N2
  obtain ⟨F3, N3⟩ := news_upd (f := Obj.putName name (PyData.keyHash w.params name) (.str name s.toks) v) (o' := dictOf [⟨PyData.keyHash w.params name, .str name s.toks, v⟩] 1) F2 N2' (fun p hp => nomatch hp)
    (fun p hp => Nat.ne_of_lt (by
      rcases List.mem_cons.mp hp with rfl | hp
      · exact hlt (x, exc0 C t) (.head _)
      · exact hlt p (.tail _ hp))) (by rw [putName_dict]; rfl) rfl
  refine wpAny_bind (wpAny_alloc (wpAny_bind (wpAny_update (N1 _ (.tail _ (.head _))).1 ?_)))
  refine wpAny_pure (a := some s.heap.objs.size) (wpAny_bind (wpAny_pure (wpAny_bind ?_)))
  unfold nsSet
  refine wpAny_bind (wpAny_bind (wpAny_askSetting (wpAny_pure (wpAny_bind (wpAny_mkText (wpAny_bind (wpAny_loadPart (N2' _ (.head _)).1 ?_)))))))
  dsimp only
  rw [aRefKeyMayBeTheName_at, show (!(#[] : Array DictEntry).any (fun e => e.key.isStr name) && (#[] : Array DictEntry).any (fun e => e.refKey)) = false from by simp]
  refine wpAny_updatePart (N2' _ (.head _)).1 ?_
  refine wpAny_bind (wpAny_lookBehind (N3 _ (.head _)).1 (pastItsLine_dict (by rw [List.size_toArray, sizeLine_eq]; simp)) ?_)
  exact wpAny_pure (h _ _ _ F3 N3 hlt)
theorem exc_set {E : Value → Shared → Prop} {t : Addr} {cd : ClassData} {name : Str} {v : Value} {Q : Unit → Shared → Prop} (F : Fr h₀ L s.heap m) (X₀ : K.In h₀) (N : News h₀ L s.heap ((x, exc0 C t) :: rest)) (hx : ∀ p ∈ rest, p.1 ≠ x)
    (hs : findIn K (.ref C) "__setattr__" = some (some (.builtin "object.__setattr__"))) (hc : clsIn K C = some cd) (hr : ∀ self, refuseLoop self "__setattr__" cd.mro = pure ()) (hsub : mroIn K C (.type "object") = some true) (ht : takerIn K C name = some none) (hh : cd.hasDict = true)
    (h : ∀ dx h' key, Fr h₀ L h' m → News h₀ L h' ((dx, dictOf [⟨PyData.keyHash w.params name, .str name key, v⟩] 1) :: (x, exc1 C dx t) :: rest) → (∀ p ∈ (x, exc0 C t) :: rest, p.1 < dx) → Q () { s with heap := h', toks := s.toks + 2 }) :
    wpAny (model prog w) A (setAttr (.ref x) name v) Q E s :=
  set_plain (X₀.keeps F.keep) (ox := exc0 C t) (od := none) ⟨(N _ (.head _)).1, rfl, rfl, trivial⟩ hs
    (osa_exc (s := { s with toks := s.toks + 1 }) F N hx (X₀.keeps F.keep) hc hr hsub ht hh fun dx h' key F' N' l => h dx h' key F' N' l)
end
section
variable {prog : Program} {w : World} {A : Around} {E : Value → Shared → Prop} {h : Heap} {g : Array GenState} {d : Drawn} {t : Nat} {os : OsState}
variable {nm q : Str} {C N : Addr} {bs bm bmB : List Value} {hdct : Bool} {sn : List Str} {sub : List Value} {ab : Bool} {col : Option Bool} {dd : Option Addr} {k0 k1 k2 k3 k5 : Option Value} {B newId initId : String}
/-- an own exception class under an own one, with an __init__ of its own -/
theorem exc_tc (Fb : ExcBaseFacts B newId initId bmB) (T : OwnTail h bmB bm) {rest : List Value} {fI : Addr} {Q : Fin → Shared → Prop}
    (hC : h.get? C = some (excClassObj nm q C N bs bm hdct sn sub ab col dd k0 k1 k2 k3 k5 newId)) (hi : Looks (model prog w) h (typeLookup (.ref C) "__init__") (some (.ref fI))) (hb : ∀ self, Looks (model prog w) h (bindSpecial (.ref fI) self) (.ref fI, [self]))
    (hq : ∀ h' e, Heap.MadeExcOf h h' e (.ref C) rest → wpAny (model prog w) A (call (.ref fI) (.ref e :: rest)) (fun r s' => r = .none ∧ Q (.done (.ret (.ref e))) s') E ⟨h', g, d, t, os⟩) (hrest : rest.length ≤ sizeLine) :
    wpAny (model prog w) A (Builtin.«type.__call__» ⟨.ref C :: rest, []⟩) Q E ⟨h, g, d, t, os⟩ := by
  repeat (first | with_reducible refine wpAny_loadPart_at hC ?_ | with_reducible refine wpAny_madeBy_exc hC ?_ | wp_step)
  refine codeAny_call_builtin_code (Code.quiet_builtin _ Fb.quiet) (wpAny_check_new_subT Fb T hC ?_)
  refine codeAny_exc_new_subT Fb T hC ?_ hrest
  show wpAny _ _ _ _ _ _
  have k : ∀ b o, h.get? b = some o → ((h.push { cls := .type "tuple", data := .seq rest.toArray }).push { cls := .ref C, data := .fields #[.ref h.objs.size, .none, .none, .none, .bool false, .none] }).get? b = some o :=
    fun b o e => Heap.get?_push_of_some _ (Heap.get?_push_of_some _ e)
  have hC₁ := k _ _ hC
  have hget : ((h.push { cls := .type "tuple", data := .seq rest.toArray }).push
      { cls := .ref C, data := .fields #[.ref h.objs.size, .none, .none, .none, .bool false, .none] }).get? (h.objs.size + 1) = some
      { cls := .ref C, data := .fields #[.ref h.objs.size, .none, .none, .none, .bool false, .none] } := by heap_get
  have hcC : (Value.ref C :: bm).contains (.ref C) = true := by simp
  unfold isInstance
  repeat (first | with_reducible refine wpAny_loadPart_at hget ?_ | (with_reducible refine wpAny_isSubtype_exc hC₁ ?_; rw [hcC]) | wp_step)
  show wpAny _ _ (typeLookup (.ref C) _) _ _ _
  refine (hi.keeps k).at ?_
  refine wpAny_holding (wpAny_bind (((hb _).keeps k).at ?_))
  refine wpAny_bind (wpAny_mono (hq _ (h.objs.size + 1) ⟨k, Heap.get?_none_of_le (Nat.le_succ _), h.objs.size, hget, Heap.get?_none_of_le (Nat.le_refl _), ?_⟩) (fun r s' hr => ?_) fun _ _ x => x)
  · exact Heap.get?_push_of_some _ (Heap.get?_push_at rfl rfl)
  · obtain ⟨rfl, hQ⟩ := hr
    wp_walk
    exact hQ
theorem exc_call (Fb : ExcBaseFacts B newId initId bmB) (T : OwnTail h bmB bm) {rest : List Value} {fI : Addr} {Q : Value → Shared → Prop}
    (hC : h.get? C = some (excClassObj nm q C N bs bm hdct sn sub ab col dd k0 k1 k2 k3 k5 newId)) (hi : Looks (model prog w) h (typeLookup (.ref C) "__init__") (some (.ref fI))) (hb : ∀ self, Looks (model prog w) h (bindSpecial (.ref fI) self) (.ref fI, [self]))
    (hq : ∀ h' e, Heap.MadeExcOf h h' e (.ref C) rest →
      wpAny (model prog w) (A.under (.builtin "type.__call__" ⟨.ref C :: rest, []⟩)) (call (.ref fI) (.ref e :: rest)) (fun r s' => r = .none ∧ Q (.ref e) s') E ⟨h', g, d, t, os⟩) (hrest : rest.length ≤ sizeLine) :
    wpAny (model prog w) A (call (.ref C) rest) Q E ⟨h, g, d, t, os⟩ := by
  have f1 := tc_lookup
  have f2 := tc_bind (.ref C)
  have hT : (⟨h, g, d, t, os⟩ : Shared).TypeIs (.ref C) "type" := ⟨_, hC, rfl⟩
  refine wpAny_call (codeAny_of_tree ?_)
  show wpAny _ _ (callAny (.ref C) _) _ _ _
  repeat (any_goals (first | assumption | with_reducible refine wpAny_loadPart_at hC ?_ | wp_step))
  refine ⟨rfl, ?_⟩
  refine codeAny_call_builtin_at (Code.quiet_builtin _ (by decide +kernel)) entry_typeCall (wpAny_check_type_call_sub hC (exc_tc (hrest := hrest) Fb T hC hi hb fun h' e hm => ?_))
  exact hq h' e hm
end
theorem ns_of {K : Frag} {h : Heap} {a : Addr} {c : Value} {dd : Option Addr} {es : Array DictEntry} {n : Nat} {sl : Array (Option Value)} (X : K.In h) (e : K.lookup a = some ⟨c, dd, .dict es n, sl⟩) (hk : StrKeys es) : h.Ns a (nsFind es) :=
  ⟨_, es, n, X _ _ e, rfl, hk, fun _ => rfl⟩
section
variable {prog : Program} {w : World} {A : Around} {E : Value → Shared → Prop} {s : Shared} {K : Frag} {L : Addr} {h₀ : Heap} {m : Str → Option Value} {news : List (Addr × Obj)}
variable {nm q : Str} {C N' : Addr} {bs bm bmB : List Value} {hdct : Bool} {sn : List Str} {sub : List Value} {ab : Bool} {col : Option Bool} {dd : Option Addr} {k0 k1 k2 k3 k5 : Option Value} {B newId initId : String}
theorem exc_K (Fb : ExcBaseFacts B newId initId bmB) {rest : List Value} {fI : Addr} {Q : Value → Shared → Prop} (F : Fr h₀ L s.heap m) (N : News h₀ L s.heap news) (X₀ : K.In h₀) (T : OwnTail s.heap bmB bm)
    (hC : K.lookup C = some (excClassObj nm q C N' bs bm hdct sn sub ab col dd k0 k1 k2 k3 k5 newId)) (hi : findIn K (.ref C) "__init__" = some (some (.ref fI))) (hf : typeIn K (.ref fI) = some (.type "function")) (hrest : rest.length ≤ sizeLine)
    (hq : ∀ h' e t, Fr h₀ L h' m → News h₀ L h' ((e, exc0 C t) :: (t, tup rest 0) :: news) → (∀ p ∈ (t, tup rest 0) :: news, p.1 ≠ e) → (∀ p ∈ news, p.1 ≠ t) →
      wpAny (model prog w) (A.under (.builtin "type.__call__" ⟨.ref C :: rest, []⟩)) (call (.ref fI) (.ref e :: rest)) (fun r s' => r = .none ∧ Q (.ref e) s') E { s with heap := h' }) :
    wpAny (model prog w) A (call (.ref C) rest) Q E s := by
  obtain ⟨hh, g, d, t, os⟩ := s
  have X := X₀.keeps F.keep
  refine exc_call Fb T (X _ _ hC) (looks_findIn X hi) (fun self => bind_fn X self hf) (fun h' e hm => ?_) hrest
  obtain ⟨tt, he, htn, ht⟩ := hm.there
  have F' : Fr h₀ L h' m := F.keeps hm.keeps
  have fresh : ∀ a, hh.get? a = none → a ≠ L ∧ h₀.get? a = none := fun a ha => by
    obtain ⟨oL, _, _, hL, _⟩ := F.ns
    refine ⟨fun e => ?_, ?_⟩
    · rw [e] at ha
      have hL' : hh.get? L = some oL := hL
      rw [ha] at hL'; cases hL'
    · cases q : h₀.get? a with
      | none => rfl
      | some o =>
        have := F.keep _ _ q
        have this' : hh.get? a = some o := this
        rw [ha] at this'; cases this'
  have hte : tt ≠ e := fun q => by rw [q, he] at ht; cases ht
  refine hq h' e tt F' ?_ ?_ ?_
  · intro p hp
    rcases List.mem_cons.mp hp with rfl | hp
    · exact ⟨he, fresh _ hm.new⟩
    · rcases List.mem_cons.mp hp with rfl | hp
      · exact ⟨ht, fresh _ htn⟩
      · exact ⟨hm.keeps _ _ (N p hp).1, (N p hp).2⟩
  · intro p hp
    rcases List.mem_cons.mp hp with rfl | hp
    · exact hte
    · intro q
      have h1 := (N p hp).1
      rw [q] at h1
      have h2 : hh.get? e = some p.2 := h1
      rw [hm.new] at h2; cases h2
  · intro p hp q
    have h1 := (N p hp).1
    rw [q] at h1
    have h2 : hh.get? tt = some p.2 := h1
    rw [htn] at h2; cases h2
end
end Mine
namespace Mine
local macro_rules | `(tactic| walk_at "exec While") => `(tactic| (k_here; k_dflt (refine whl_start 1 ?_)))
local macro_rules | `(tactic| walk_at "ite") => `(tactic| (k_here; first | (refine ite_pos (by first | with_reducible assumption | (simp only [beq_iff_eq, bne_iff_ne, decide_eq_true_eq, ne_eq]; omega)) ?_; walk_say "MY PRUNE") | (refine ite_neg (by first | with_reducible assumption | (simp only [beq_iff_eq, bne_iff_ne, decide_eq_true_eq, ne_eq]; omega)) ?_; walk_say "MY PRUNE")))
local macro_rules | `(tactic| walk_at "subscriptTail") => `(tactic| (k_here; (with_reducible show wpAny _ _ (subscriptTail _ _ (Value.ref _) (Value.int _ _)) _ _ _); (with_unfolding_all refine' item_abs ?k1 ?k2 ?k3 ?k4 ?k5 ?_ ?k6; (case k1 => k_asm); (case k2 => k_mem); (case k3 => assumption); (case k4 => first | assumption | omega); (case k5 => assumption); (case k6 => with_unfolding_all rfl); k_whole); walk_say "MY ITEM"))
local macro_rules | `(tactic| walk_at "compareOp In str ref") => `(tactic| (k_here; k_dflt (refine' in_tupK ?F ?X ?l ?w ?b ?_; (case F => k_asm); (case X => k_asm); (case l => k_is); (case w => kde_strs); (case b => exact rfl); k_whole); walk_say "MY IN"))
local macro_rules | `(tactic| walk_at "call builtin:list.append") => `(tactic| (k_here; (with_reducible show wpAny _ _ (call (Value.builtin _) [Value.ref _, _]) _ _ _); k_dflt (refine' append_L ?k1 ?k2 ?k3 ?z ?_; (case k1 => k_asm); (case k2 => k_asm); (case k3 => k_upd); (case z => first | assumption | omega | (simp only [List.length_append, List.length_cons, List.length_nil]; omega)); k_whole); intro h' F' N'; (try k_sweep); walk_say "MY APPEND"))
local macro_rules | `(tactic| walk_at "call builtin:list.pop") => `(tactic| (k_here; (with_reducible show wpAny _ _ (call (Value.builtin _) [Value.ref _]) _ _ _); k_dflt (refine' pop_L ?k1 ?k2 ?k3 ?z ?_; (case k1 => k_asm); (case k2 => k_asm); (case k3 => k_upd); (case z => first | assumption | omega | (simp only [List.length_append, List.length_cons, List.length_nil]; omega)); k_whole); intro h' F' N'; (try k_sweep); walk_say "MY POP"))
local macro_rules | `(tactic| k_all) => `(tactic| assumption)
local macro_rules | `(tactic| k_mem) => `(tactic| first | with_reducible exact List.Mem.head _ | assumption | (refine' List.Mem.tail _ ?_; k_mem))
local macro_rules | `(tactic| walk_at "truthy ref") => `(tactic| (k_here; (with_reducible show wpAny _ _ (truthy (Value.ref _)) _ _ _); k_dflt (refine' truthy_L ?k1 ?k2 ?k3 ?k4 ?_; (case k1 => k_asm); (case k2 => k_mem); (case k3 => first | assumption | (simp only [List.length_append, List.length_cons, List.length_nil]; omega)); (case k4 => first | exact some_true _ _ | exact none_false); k_whole); walk_say "MY TRUTH"))
local macro_rules | `(tactic| walk_at "call builtin:len") => `(tactic| (k_here; (with_reducible show wpAny _ _ (call (Value.builtin "len") [Value.ref _]) _ _ _); k_dflt (refine' len_L ?k1 ?k2 ?k3 ?_; (case k1 => k_asm); (case k2 => k_mem); (case k3 => first | assumption | (simp only [List.length_append, List.length_cons, List.length_nil]; omega)); k_whole); walk_say "MY LEN"))
theorem deref_ok {w : World} {p : Program} {loose : List Str} {mean : ExcName → Option Value} {mg mb : Str → Option Value}
  {dp un : Nat} {gd : Option (List Code)} {cn : Str} {cs : Scope} {a : Addr} {ccd : Value} {cl : List (Str × Addr)} {outer : List Env} {A₀ : Around} {base h₀ : Heap} {L : Addr} {m : Str → Option Value} {news : List (Addr × Obj)} {s : Shared} {Q E : Value → Shared → Prop}
  {st : Addr} {c : Addr} {tag v : Int} {t1 t2 : Tok} {n : Nat}
  (B : Below A₀ base outer h₀) (F : Fr h₀ L s.heap m) (X : (hd.heap_39 w.params).In h₀) (N : News h₀ L s.heap news) (T : Top p loose mean mg mb h₀) (hk : cs.kind = .function)
  (hdp : dp + 1 < recursionLimit) (hun : un + 10 < cLine)
  (hc : (c, tup [.int tag t1, .int v t2] n) ∈ news) (h0 : tag ≠ 0) (h1 : tag ≠ 1)
  (ret : ∀ h' tk, Fr h₀ L h' m → News h₀ L h' news → Q (.ref c) { s with heap := h', toks := tk }) :
  wpAny (model PySem.Challenge.rw_rh0112_01.row.prog w) (ktrTop dp un gd cn cs L a ccd cl outer) (call (.ref 272) [.ref st, .ref c]) Q E s := by
  revert X; k_fill; intro X
  refine wpAny_call ?_
  k_dflt ktr_enter
  k_steps
  all_goals (first | (refine ret _ _ ?_ ?_ <;> k_asm) | w_report)

local macro_rules | `(tactic| walk_at "call ref") => `(tactic| (k_here; (with_reducible show wpAny _ _ (call (Value.ref 272) _) _ _ _); k_dflt (refine' deref_ok ?B ?F ?X ?N ?T ?hk ?hdp ?hun ?p0 ?p1 ?p2 ?_; (case B => k_asm); (case F => k_asm); (case X => k_asm); (case N => k_asm); (case T => k_asm); (case hk => first | exact rfl | k_asm); (case hdp => first | ((try simp only [depth_under_make, depth_under_kw, depth_in1, depth_deeper]); (try dsimp only [ktrTop]); omega) | ktr_room); (case hun => first | ((try simp only [units_in1, units_deeper, units_under_make, Around.mark_units]); (try dsimp only [ktrTop]); omega) | ktr_units); (case p0 => k_mem); (case p1 => (first | assumption | omega)); (case p2 => (first | assumption | omega)); k_whole); intro h' tk' F' N'; (try k_sweep); walk_say "USE deref_ok"))
theorem globalise_ok {w : World} {p : Program} {loose : List Str} {mean : ExcName → Option Value} {mg mb : Str → Option Value}
  {dp un : Nat} {gd : Option (List Code)} {cn : Str} {cs : Scope} {a : Addr} {ccd : Value} {cl : List (Str × Addr)} {outer : List Env} {A₀ : Around} {base h₀ : Heap} {L : Addr} {m : Str → Option Value} {news : List (Addr × Obj)} {s : Shared} {Q E : Value → Shared → Prop}
  {st sd : Addr} {S : StoreA} {sdn : Nat}{c : Addr} {tag v : Int} {t1 t2 : Tok} {n : Nat}
  (B : Below A₀ base outer h₀) (F : Fr h₀ L s.heap m) (X : (hd.heap_39 w.params).In h₀) (N : News h₀ L s.heap news) (T : Top p loose mean mg mb h₀) (hk : cs.kind = .function)
  (hdp : dp + 3 < recursionLimit) (hun : un + 30 < cLine)
  (hi : (st, instObj 423 sd) ∈ news) (hd : (sd, dictOf (storeE S) sdn) ∈ news) (hc : (c, tup [.int tag t1, .int v t2] n) ∈ news) (h0 : tag ≠ 0) (h1 : tag ≠ 1)
  (ret : ∀ h' tk, Fr h₀ L h' m → News h₀ L h' news → Q (.ref c) { s with heap := h', toks := tk }) :
  wpAny (model PySem.Challenge.rw_rh0112_01.row.prog w) (ktrTop dp un gd cn cs L a ccd cl outer) (call (.ref 300) [.ref st, .ref c]) Q E s := by
  revert X; k_fill; intro X
  refine wpAny_call ?_
  k_dflt ktr_enter
  k_steps
  all_goals (first | (refine ret _ _ ?_ ?_ <;> k_asm) | w_report)

end Mine
namespace Mine
local macro_rules | `(tactic| walk_at "exec While") => `(tactic| (k_here; k_dflt (refine whl_start 1 ?_)))
local macro_rules | `(tactic| walk_at "ite") => `(tactic| (k_here; first | (refine ite_pos (by first | with_reducible assumption | (simp only [beq_iff_eq, bne_iff_ne, decide_eq_true_eq, ne_eq]; omega)) ?_; walk_say "MY PRUNE") | (refine ite_neg (by first | with_reducible assumption | (simp only [beq_iff_eq, bne_iff_ne, decide_eq_true_eq, ne_eq]; omega)) ?_; walk_say "MY PRUNE")))
local macro_rules | `(tactic| walk_at "subscriptTail") => `(tactic| (k_here; (with_reducible show wpAny _ _ (subscriptTail _ _ (Value.ref _) (Value.int _ _)) _ _ _); (with_unfolding_all refine' item_abs ?k1 ?k2 ?k3 ?k4 ?k5 ?_ ?k6; (case k1 => k_asm); (case k2 => k_mem); (case k3 => assumption); (case k4 => first | assumption | omega); (case k5 => assumption); (case k6 => with_unfolding_all rfl); k_whole); walk_say "MY ITEM"))
local macro_rules | `(tactic| walk_at "compareOp In str ref") => `(tactic| (k_here; k_dflt (refine' in_tupK ?F ?X ?l ?w ?b ?_; (case F => k_asm); (case X => k_asm); (case l => k_is); (case w => kde_strs); (case b => exact rfl); k_whole); walk_say "MY IN"))
local macro_rules | `(tactic| walk_at "call builtin:list.append") => `(tactic| (k_here; (with_reducible show wpAny _ _ (call (Value.builtin _) [Value.ref _, _]) _ _ _); k_dflt (refine' append_L ?k1 ?k2 ?k3 ?z ?_; (case k1 => k_asm); (case k2 => k_asm); (case k3 => k_upd); (case z => first | assumption | omega | (simp only [List.length_append, List.length_cons, List.length_nil]; omega)); k_whole); intro h' F' N'; (try k_sweep); walk_say "MY APPEND"))
local macro_rules | `(tactic| walk_at "call builtin:list.pop") => `(tactic| (k_here; (with_reducible show wpAny _ _ (call (Value.builtin _) [Value.ref _]) _ _ _); k_dflt (refine' pop_L ?k1 ?k2 ?k3 ?z ?_; (case k1 => k_asm); (case k2 => k_asm); (case k3 => k_upd); (case z => first | assumption | omega | (simp only [List.length_append, List.length_cons, List.length_nil]; omega)); k_whole); intro h' F' N'; (try k_sweep); walk_say "MY POP"))
local macro_rules | `(tactic| k_all) => `(tactic| assumption)
local macro_rules | `(tactic| k_mem) => `(tactic| first | with_reducible exact List.Mem.head _ | assumption | (refine' List.Mem.tail _ ?_; k_mem))
local macro_rules | `(tactic| walk_at "truthy ref") => `(tactic| (k_here; (with_reducible show wpAny _ _ (truthy (Value.ref _)) _ _ _); k_dflt (refine' truthy_L ?k1 ?k2 ?k3 ?k4 ?_; (case k1 => k_asm); (case k2 => k_mem); (case k3 => first | assumption | (simp only [List.length_append, List.length_cons, List.length_nil]; omega)); (case k4 => first | exact some_true _ _ | exact none_false); k_whole); walk_say "MY TRUTH"))
local macro_rules | `(tactic| walk_at "call builtin:len") => `(tactic| (k_here; (with_reducible show wpAny _ _ (call (Value.builtin "len") [Value.ref _]) _ _ _); k_dflt (refine' len_L ?k1 ?k2 ?k3 ?_; (case k1 => k_asm); (case k2 => k_mem); (case k3 => first | assumption | (simp only [List.length_append, List.length_cons, List.length_nil]; omega)); k_whole); walk_say "MY LEN"))
theorem base_ok {w : World} {p : Program} {loose : List Str} {mean : ExcName → Option Value} {mg mb : Str → Option Value}
  {dp un : Nat} {gd : Option (List Code)} {cn : Str} {cs : Scope} {a : Addr} {ccd : Value} {cl : List (Str × Addr)} {outer : List Env} {A₀ : Around} {base h₀ : Heap} {L : Addr} {m : Str → Option Value} {news : List (Addr × Obj)} {s : Shared} {Q E : Value → Shared → Prop}
  {st sd : Addr} {S : StoreA} {sdn : Nat}{c : Addr} {tag v : Int} {t1 t2 : Tok} {n : Nat}
  (B : Below A₀ base outer h₀) (F : Fr h₀ L s.heap m) (X : (hd.heap_39 w.params).In h₀) (N : News h₀ L s.heap news) (T : Top p loose mean mg mb h₀) (hk : cs.kind = .function)
  (hdp : dp + 1 < recursionLimit) (hun : un + 10 < cLine)
  (hi : (st, instObj 423 sd) ∈ news) (hd : (sd, dictOf (storeE S) sdn) ∈ news) (hc : (c, tup [.int tag t1, .int v t2] n) ∈ news) (h3 : tag ≠ 3)
  (ret : ∀ h' tk t', Fr h₀ L h' m → News h₀ L h' news → Q (.int (v + 1) t') { s with heap := h', toks := tk }) :
  wpAny (model PySem.Challenge.rw_rh0112_01.row.prog w) (ktrTop dp un gd cn cs L a ccd cl outer) (call (.ref 349) [.ref st, .ref c]) Q E s := by
  revert X; k_fill; intro X
  refine wpAny_call ?_
  k_dflt ktr_enter
  k_steps
  all_goals (first | (refine ret _ _ _ ?_ ?_ <;> k_asm) | w_report)

local macro_rules | `(tactic| walk_at "call ref") => `(tactic| (k_here; (with_reducible show wpAny _ _ (call (Value.ref 349) _) _ _ _); k_dflt (refine' base_ok ?B ?F ?X ?N ?T ?hk ?hdp ?hun ?p0 ?p1 ?p2 ?p3 ?_; (case B => k_asm); (case F => k_asm); (case X => k_asm); (case N => k_asm); (case T => k_asm); (case hk => first | exact rfl | k_asm); (case hdp => first | ((try simp only [depth_under_make, depth_under_kw, depth_in1, depth_deeper]); (try dsimp only [ktrTop]); omega) | ktr_room); (case hun => first | ((try simp only [units_in1, units_deeper, units_under_make, Around.mark_units]); (try dsimp only [ktrTop]); omega) | ktr_units); (case p0 => k_mem); (case p1 => k_mem); (case p2 => k_mem); (case p3 => (first | assumption | omega)); k_whole); intro h' tk' t' F' N'; (try k_sweep); walk_say "USE base_ok"))
theorem arg_ok {w : World} {p : Program} {loose : List Str} {mean : ExcName → Option Value} {mg mb : Str → Option Value}
  {dp un : Nat} {gd : Option (List Code)} {cn : Str} {cs : Scope} {a : Addr} {ccd : Value} {cl : List (Str × Addr)} {outer : List Env} {A₀ : Around} {base h₀ : Heap} {L : Addr} {m : Str → Option Value} {news : List (Addr × Obj)} {s : Shared} {Q E : Value → Shared → Prop}
  {st sd : Addr} {S : StoreA} {sdn : Nat}{c : Addr} {tag v : Int} {t1 t2 : Tok} {n : Nat}{vs : List Value} {nh : Nat} {i : Int} {ti : Tok} {x : Addr}
  (B : Below A₀ base outer h₀) (F : Fr h₀ L s.heap m) (X : (hd.heap_39 w.params).In h₀) (N : News h₀ L s.heap news) (T : Top p loose mean mg mb h₀) (hk : cs.kind = .function)
  (hdp : dp + 3 < recursionLimit) (hun : un + 30 < cLine)
  (hi : (st, instObj 423 sd) ∈ news) (hd : (sd, dictOf (storeE S) sdn) ∈ news)(hh : (S.hl, listOf vs.toArray nh) ∈ news) (hb : vs.length ≤ 200000) (hc : (c, tup [.int tag t1, .int v t2] n) ∈ news) (h3 : tag ≠ 3) (h0 : 0 ≤ v + 1 + i - 1) (hx : vs[(v + 1 + i - 1).toNat]? = some (.ref x))
  (ret : ∀ h' tk, Fr h₀ L h' m → News h₀ L h' news → Q (.ref x) { s with heap := h', toks := tk }) :
  wpAny (model PySem.Challenge.rw_rh0112_01.row.prog w) (ktrTop dp un gd cn cs L a ccd cl outer) (call (.ref 356) [.ref st, .ref c, .int i ti]) Q E s := by
  revert X; k_fill; intro X
  refine wpAny_call ?_
  k_dflt ktr_enter
  k_steps
  all_goals (first | (refine ret _ _ ?_ ?_ <;> k_asm) | w_report)

end Mine
namespace Mine
local macro_rules | `(tactic| walk_at "exec While") => `(tactic| (k_here; k_dflt (refine whl_start 1 ?_)))
local macro_rules | `(tactic| walk_at "ite") => `(tactic| (k_here; first | (refine ite_pos (by first | with_reducible assumption | (simp only [beq_iff_eq, bne_iff_ne, decide_eq_true_eq, ne_eq]; omega)) ?_; walk_say "MY PRUNE") | (refine ite_neg (by first | with_reducible assumption | (simp only [beq_iff_eq, bne_iff_ne, decide_eq_true_eq, ne_eq]; omega)) ?_; walk_say "MY PRUNE")))
local macro_rules | `(tactic| walk_at "subscriptTail") => `(tactic| (k_here; (with_reducible show wpAny _ _ (subscriptTail _ _ (Value.ref _) (Value.int _ _)) _ _ _); (with_unfolding_all refine' item_abs ?k1 ?k2 ?k3 ?k4 ?k5 ?_ ?k6; (case k1 => k_asm); (case k2 => k_mem); (case k3 => assumption); (case k4 => first | assumption | omega); (case k5 => assumption); (case k6 => with_unfolding_all rfl); k_whole); walk_say "MY ITEM"))
local macro_rules | `(tactic| walk_at "compareOp In str ref") => `(tactic| (k_here; k_dflt (refine' in_tupK ?F ?X ?l ?w ?b ?_; (case F => k_asm); (case X => k_asm); (case l => k_is); (case w => kde_strs); (case b => exact rfl); k_whole); walk_say "MY IN"))
local macro_rules | `(tactic| walk_at "call builtin:list.append") => `(tactic| (k_here; (with_reducible show wpAny _ _ (call (Value.builtin _) [Value.ref _, _]) _ _ _); k_dflt (refine' append_L ?k1 ?k2 ?k3 ?z ?_; (case k1 => k_asm); (case k2 => k_asm); (case k3 => k_upd); (case z => first | assumption | omega | (simp only [List.length_append, List.length_cons, List.length_nil]; omega)); k_whole); intro h' F' N'; (try k_sweep); walk_say "MY APPEND"))
local macro_rules | `(tactic| walk_at "call builtin:list.pop") => `(tactic| (k_here; (with_reducible show wpAny _ _ (call (Value.builtin _) [Value.ref _]) _ _ _); k_dflt (refine' pop_L ?k1 ?k2 ?k3 ?z ?_; (case k1 => k_asm); (case k2 => k_asm); (case k3 => k_upd); (case z => first | assumption | omega | (simp only [List.length_append, List.length_cons, List.length_nil]; omega)); k_whole); intro h' F' N'; (try k_sweep); walk_say "MY POP"))
local macro_rules | `(tactic| k_all) => `(tactic| assumption)
local macro_rules | `(tactic| k_mem) => `(tactic| first | with_reducible exact List.Mem.head _ | assumption | (refine' List.Mem.tail _ ?_; k_mem))
local macro_rules | `(tactic| walk_at "truthy ref") => `(tactic| (k_here; (with_reducible show wpAny _ _ (truthy (Value.ref _)) _ _ _); k_dflt (refine' truthy_L ?k1 ?k2 ?k3 ?k4 ?_; (case k1 => k_asm); (case k2 => k_mem); (case k3 => first | assumption | (simp only [List.length_append, List.length_cons, List.length_nil]; omega)); (case k4 => first | exact some_true _ _ | exact none_false); k_whole); walk_say "MY TRUTH"))
local macro_rules | `(tactic| walk_at "call builtin:len") => `(tactic| (k_here; (with_reducible show wpAny _ _ (call (Value.builtin "len") [Value.ref _]) _ _ _); k_dflt (refine' len_L ?k1 ?k2 ?k3 ?_; (case k1 => k_asm); (case k2 => k_mem); (case k3 => first | assumption | (simp only [List.length_append, List.length_cons, List.length_nil]; omega)); k_whole); walk_say "MY LEN"))
theorem name_ok {w : World} {p : Program} {loose : List Str} {mean : ExcName → Option Value} {mg mb : Str → Option Value}
  {dp un : Nat} {gd : Option (List Code)} {cn : Str} {cs : Scope} {a : Addr} {ccd : Value} {cl : List (Str × Addr)} {outer : List Env} {A₀ : Around} {base h₀ : Heap} {L : Addr} {m : Str → Option Value} {news : List (Addr × Obj)} {s : Shared} {Q E : Value → Shared → Prop}
  {nm nd : Addr} {S : SymA} {ndn : Nat}{fvs : List Value} {nf : Nat}{f : Int} {tf : Tok} {y : Addr} {fa far : Int} {t1 t2 : Tok} {n : Nat}
  (B : Below A₀ base outer h₀) (F : Fr h₀ L s.heap m) (X : (hd.heap_39 w.params).In h₀) (N : News h₀ L s.heap news) (T : Top p loose mean mg mb h₀) (hk : cs.kind = .function)
  (hdp : dp + 1 < recursionLimit) (hun : un + 10 < cLine)
  (hi : (nm, instObj 154 nd) ∈ news) (hd : (nd, dictOf (symE S) ndn) ∈ news)(hf : (S.lf, listOf fvs.toArray nf) ∈ news) (hb : fvs.length ≤ 200000)(hx : fvs[f.toNat]? = some (.ref y)) (h0 : 0 ≤ f) (hy : (y, tup [.int fa t1, .int far t2] n) ∈ news)
  (ret : ∀ h' tk, Fr h₀ L h' m → News h₀ L h' news → Q (.int fa t1) { s with heap := h', toks := tk }) :
  wpAny (model PySem.Challenge.rw_rh0112_01.row.prog w) (ktrTop dp un gd cn cs L a ccd cl outer) (call (.ref 116) [.ref nm, .int f tf]) Q E s := by
  revert X; k_fill; intro X
  refine wpAny_call ?_
  k_dflt ktr_enter
  k_steps
  all_goals (first | (refine ret _ _ ?_ ?_ <;> k_asm) | w_report)

local macro_rules | `(tactic| walk_at "call ref") => `(tactic| (k_here; (with_reducible show wpAny _ _ (call (Value.ref 116) _) _ _ _); k_dflt (refine' name_ok ?B ?F ?X ?N ?T ?hk ?hdp ?hun ?p0 ?p1 ?p2 ?p3 ?p4 ?p5 ?p6 ?_; (case B => k_asm); (case F => k_asm); (case X => k_asm); (case N => k_asm); (case T => k_asm); (case hk => first | exact rfl | k_asm); (case hdp => first | ((try simp only [depth_under_make, depth_under_kw, depth_in1, depth_deeper]); (try dsimp only [ktrTop]); omega) | ktr_room); (case hun => first | ((try simp only [units_in1, units_deeper, units_under_make, Around.mark_units]); (try dsimp only [ktrTop]); omega) | ktr_units); (case p0 => k_mem); (case p1 => k_mem); (case p2 => k_mem); (case p3 => (first | assumption | omega)); (case p4 => assumption); (case p5 => (first | assumption | omega)); (case p6 => k_mem); k_whole); intro h' tk' F' N'; (try k_sweep); walk_say "USE name_ok"))
theorem arity_ok {w : World} {p : Program} {loose : List Str} {mean : ExcName → Option Value} {mg mb : Str → Option Value}
  {dp un : Nat} {gd : Option (List Code)} {cn : Str} {cs : Scope} {a : Addr} {ccd : Value} {cl : List (Str × Addr)} {outer : List Env} {A₀ : Around} {base h₀ : Heap} {L : Addr} {m : Str → Option Value} {news : List (Addr × Obj)} {s : Shared} {Q E : Value → Shared → Prop}
  {nm nd : Addr} {S : SymA} {ndn : Nat}{fvs : List Value} {nf : Nat}{f : Int} {tf : Tok} {y : Addr} {fa far : Int} {t1 t2 : Tok} {n : Nat}
  (B : Below A₀ base outer h₀) (F : Fr h₀ L s.heap m) (X : (hd.heap_39 w.params).In h₀) (N : News h₀ L s.heap news) (T : Top p loose mean mg mb h₀) (hk : cs.kind = .function)
  (hdp : dp + 1 < recursionLimit) (hun : un + 10 < cLine)
  (hi : (nm, instObj 154 nd) ∈ news) (hd : (nd, dictOf (symE S) ndn) ∈ news)(hf : (S.lf, listOf fvs.toArray nf) ∈ news) (hb : fvs.length ≤ 200000)(hx : fvs[f.toNat]? = some (.ref y)) (h0 : 0 ≤ f) (hy : (y, tup [.int fa t1, .int far t2] n) ∈ news)
  (ret : ∀ h' tk, Fr h₀ L h' m → News h₀ L h' news → Q (.int far t2) { s with heap := h', toks := tk }) :
  wpAny (model PySem.Challenge.rw_rh0112_01.row.prog w) (ktrTop dp un gd cn cs L a ccd cl outer) (call (.ref 123) [.ref nm, .int f tf]) Q E s := by
  revert X; k_fill; intro X
  refine wpAny_call ?_
  k_dflt ktr_enter
  k_steps
  all_goals (first | (refine ret _ _ ?_ ?_ <;> k_asm) | w_report)

local macro_rules | `(tactic| walk_at "call ref") => `(tactic| (k_here; (with_reducible show wpAny _ _ (call (Value.ref 123) _) _ _ _); k_dflt (refine' arity_ok ?B ?F ?X ?N ?T ?hk ?hdp ?hun ?p0 ?p1 ?p2 ?p3 ?p4 ?p5 ?p6 ?_; (case B => k_asm); (case F => k_asm); (case X => k_asm); (case N => k_asm); (case T => k_asm); (case hk => first | exact rfl | k_asm); (case hdp => first | ((try simp only [depth_under_make, depth_under_kw, depth_in1, depth_deeper]); (try dsimp only [ktrTop]); omega) | ktr_room); (case hun => first | ((try simp only [units_in1, units_deeper, units_under_make, Around.mark_units]); (try dsimp only [ktrTop]); omega) | ktr_units); (case p0 => k_mem); (case p1 => k_mem); (case p2 => k_mem); (case p3 => (first | assumption | omega)); (case p4 => assumption); (case p5 => (first | assumption | omega)); (case p6 => k_mem); k_whole); intro h' tk' F' N'; (try k_sweep); walk_say "USE arity_ok"))
theorem text_ok {w : World} {p : Program} {loose : List Str} {mean : ExcName → Option Value} {mg mb : Str → Option Value}
  {dp un : Nat} {gd : Option (List Code)} {cn : Str} {cs : Scope} {a : Addr} {ccd : Value} {cl : List (Str × Addr)} {outer : List Env} {A₀ : Around} {base h₀ : Heap} {L : Addr} {m : Str → Option Value} {news : List (Addr × Obj)} {s : Shared} {Q E : Value → Shared → Prop}
  {nm nd : Addr} {S : SymA} {ndn : Nat}{tvs : List Value} {nt : Nat}{f : Int} {tf : Tok} {x : Str} {t1 : Tok}
  (B : Below A₀ base outer h₀) (F : Fr h₀ L s.heap m) (X : (hd.heap_39 w.params).In h₀) (N : News h₀ L s.heap news) (T : Top p loose mean mg mb h₀) (hk : cs.kind = .function)
  (hdp : dp + 1 < recursionLimit) (hun : un + 10 < cLine)
  (hi : (nm, instObj 154 nd) ∈ news) (hd : (nd, dictOf (symE S) ndn) ∈ news)(ht : (S.lt, listOf tvs.toArray nt) ∈ news) (hb : tvs.length ≤ 200000) (hx : tvs[f.toNat]? = some (.str x t1)) (h0 : 0 ≤ f)
  (ret : ∀ h' tk, Fr h₀ L h' m → News h₀ L h' news → Q (.str x t1) { s with heap := h', toks := tk }) :
  wpAny (model PySem.Challenge.rw_rh0112_01.row.prog w) (ktrTop dp un gd cn cs L a ccd cl outer) (call (.ref 95) [.ref nm, .int f tf]) Q E s := by
  revert X; k_fill; intro X
  refine wpAny_call ?_
  k_dflt ktr_enter
  k_steps
  all_goals (first | (refine ret _ _ ?_ ?_ <;> k_asm) | w_report)

local macro_rules | `(tactic| walk_at "call ref") => `(tactic| (k_here; (with_reducible show wpAny _ _ (call (Value.ref 95) _) _ _ _); k_dflt (refine' text_ok ?B ?F ?X ?N ?T ?hk ?hdp ?hun ?p0 ?p1 ?p2 ?p3 ?p4 ?p5 ?_; (case B => k_asm); (case F => k_asm); (case X => k_asm); (case N => k_asm); (case T => k_asm); (case hk => first | exact rfl | k_asm); (case hdp => first | ((try simp only [depth_under_make, depth_under_kw, depth_in1, depth_deeper]); (try dsimp only [ktrTop]); omega) | ktr_room); (case hun => first | ((try simp only [units_in1, units_deeper, units_under_make, Around.mark_units]); (try dsimp only [ktrTop]); omega) | ktr_units); (case p0 => k_mem); (case p1 => k_mem); (case p2 => k_mem); (case p3 => (first | assumption | omega)); (case p4 => assumption); (case p5 => (first | assumption | omega)); k_whole); intro h' tk' F' N'; (try k_sweep); walk_say "USE text_ok"))
end Mine
namespace Mine
local macro_rules | `(tactic| walk_at "filler") => `(tactic| fail "filler")
local macro_rules | `(tactic| walk_at "exec While") => `(tactic| (k_here; k_dflt (refine whl_start 1 ?_)))
local macro_rules | `(tactic| walk_at "ite") => `(tactic| (k_here; first | (refine ite_pos (by first | with_reducible assumption | (simp only [beq_iff_eq, bne_iff_ne, decide_eq_true_eq, ne_eq]; omega)) ?_; walk_say "MY PRUNE") | (refine ite_neg (by first | with_reducible assumption | (simp only [beq_iff_eq, bne_iff_ne, decide_eq_true_eq, ne_eq]; omega)) ?_; walk_say "MY PRUNE")))
local macro_rules | `(tactic| walk_at "subscriptTail") => `(tactic| (k_here; (with_reducible show wpAny _ _ (subscriptTail _ _ (Value.ref _) (Value.int _ _)) _ _ _); (with_unfolding_all refine' item_abs ?k1 ?k2 ?k3 ?k4 ?k5 ?_ ?k6; (case k1 => k_asm); (case k2 => k_mem); (case k3 => assumption); (case k4 => first | assumption | omega); (case k5 => assumption); (case k6 => with_unfolding_all rfl); k_whole); walk_say "MY ITEM"))
local macro_rules | `(tactic| walk_at "compareOp In str ref") => `(tactic| (k_here; k_dflt (refine' in_tupK ?F ?X ?l ?w ?b ?_; (case F => k_asm); (case X => k_asm); (case l => k_is); (case w => kde_strs); (case b => exact rfl); k_whole); walk_say "MY IN"))
local macro_rules | `(tactic| walk_at "call builtin:list.append") => `(tactic| (k_here; (with_reducible show wpAny _ _ (call (Value.builtin _) [Value.ref _, _]) _ _ _); k_dflt (refine' append_L ?k1 ?k2 ?k3 ?z ?_; (case k1 => k_asm); (case k2 => k_asm); (case k3 => k_upd); (case z => first | assumption | omega | (simp only [List.length_append, List.length_cons, List.length_nil]; omega)); k_whole); intro h' F' N'; (try k_sweep); walk_say "MY APPEND"))
local macro_rules | `(tactic| walk_at "call builtin:list.pop") => `(tactic| (k_here; (with_reducible show wpAny _ _ (call (Value.builtin _) [Value.ref _]) _ _ _); k_dflt (refine' pop_L ?k1 ?k2 ?k3 ?z ?_; (case k1 => k_asm); (case k2 => k_asm); (case k3 => k_upd); (case z => first | assumption | omega | (simp only [List.length_append, List.length_cons, List.length_nil]; omega)); k_whole); intro h' F' N'; (try k_sweep); walk_say "MY POP"))
local macro_rules | `(tactic| k_all) => `(tactic| assumption)
local macro_rules | `(tactic| k_mem) => `(tactic| first | with_reducible exact List.Mem.head _ | assumption | (refine' List.Mem.tail _ ?_; k_mem))
local macro_rules | `(tactic| walk_at "truthy ref") => `(tactic| (k_here; (with_reducible show wpAny _ _ (truthy (Value.ref _)) _ _ _); k_dflt (refine' truthy_L ?k1 ?k2 ?k3 ?k4 ?_; (case k1 => k_asm); (case k2 => k_mem); (case k3 => first | assumption | (simp only [List.length_append, List.length_cons, List.length_nil]; omega)); (case k4 => first | exact some_true _ _ | exact none_false); k_whole); walk_say "MY TRUTH"))
local macro_rules | `(tactic| walk_at "call builtin:len") => `(tactic| (k_here; (with_reducible show wpAny _ _ (call (Value.builtin "len") [Value.ref _]) _ _ _); k_dflt (refine' len_L ?k1 ?k2 ?k3 ?_; (case k1 => k_asm); (case k2 => k_mem); (case k3 => first | assumption | (simp only [List.length_append, List.length_cons, List.length_nil]; omega)); k_whole); walk_say "MY LEN"))
local macro_rules | `(tactic| walk_at "call ref") => `(tactic| (k_here; (with_reducible show wpAny _ _ (call (Value.ref 116) _) _ _ _); k_dflt (refine' name_ok ?B ?F ?X ?N ?T ?hk ?hdp ?hun ?p0 ?p1 ?p2 ?p3 ?p4 ?p5 ?p6 ?_; (case B => k_asm); (case F => k_asm); (case X => k_asm); (case N => k_asm); (case T => k_asm); (case hk => first | exact rfl | k_asm); (case hdp => first | ((try simp only [depth_under_make, depth_under_kw, depth_in1, depth_deeper]); (try dsimp only [ktrTop]); omega) | ktr_room); (case hun => first | ((try simp only [units_in1, units_deeper, units_under_make, Around.mark_units]); (try dsimp only [ktrTop]); omega) | ktr_units); (case p0 => k_mem); (case p1 => k_mem); (case p2 => k_mem); (case p3 => (first | assumption | omega)); (case p4 => assumption); (case p5 => (first | assumption | omega)); (case p6 => k_mem); k_whole); intro h' tk' F' N'; (try k_sweep); walk_say "USE name_ok"))
local macro_rules | `(tactic| walk_at "call ref") => `(tactic| (k_here; (with_reducible show wpAny _ _ (call (Value.ref 123) _) _ _ _); k_dflt (refine' arity_ok ?B ?F ?X ?N ?T ?hk ?hdp ?hun ?p0 ?p1 ?p2 ?p3 ?p4 ?p5 ?p6 ?_; (case B => k_asm); (case F => k_asm); (case X => k_asm); (case N => k_asm); (case T => k_asm); (case hk => first | exact rfl | k_asm); (case hdp => first | ((try simp only [depth_under_make, depth_under_kw, depth_in1, depth_deeper]); (try dsimp only [ktrTop]); omega) | ktr_room); (case hun => first | ((try simp only [units_in1, units_deeper, units_under_make, Around.mark_units]); (try dsimp only [ktrTop]); omega) | ktr_units); (case p0 => k_mem); (case p1 => k_mem); (case p2 => k_mem); (case p3 => (first | assumption | omega)); (case p4 => assumption); (case p5 => (first | assumption | omega)); (case p6 => k_mem); k_whole); intro h' tk' F' N'; (try k_sweep); walk_say "USE arity_ok"))
local macro_rules | `(tactic| walk_at "call ref") => `(tactic| (k_here; (with_reducible show wpAny _ _ (call (Value.ref 95) _) _ _ _); k_dflt (refine' text_ok ?B ?F ?X ?N ?T ?hk ?hdp ?hun ?p0 ?p1 ?p2 ?p3 ?p4 ?p5 ?_; (case B => k_asm); (case F => k_asm); (case X => k_asm); (case N => k_asm); (case T => k_asm); (case hk => first | exact rfl | k_asm); (case hdp => first | ((try simp only [depth_under_make, depth_under_kw, depth_in1, depth_deeper]); (try dsimp only [ktrTop]); omega) | ktr_room); (case hun => first | ((try simp only [units_in1, units_deeper, units_under_make, Around.mark_units]); (try dsimp only [ktrTop]); omega) | ktr_units); (case p0 => k_mem); (case p1 => k_mem); (case p2 => k_mem); (case p3 => (first | assumption | omega)); (case p4 => assumption); (case p5 => (first | assumption | omega)); k_whole); intro h' tk' F' N'; (try k_sweep); walk_say "USE text_ok"))
theorem isev_ok {w : World} {p : Program} {loose : List Str} {mean : ExcName → Option Value} {mg mb : Str → Option Value}
  {dp un : Nat} {gd : Option (List Code)} {cn : Str} {cs : Scope} {a : Addr} {ccd : Value} {cl : List (Str × Addr)} {outer : List Env} {A₀ : Around} {base h₀ : Heap} {L : Addr} {m : Str → Option Value} {news : List (Addr × Obj)} {s : Shared} {Q E : Value → Shared → Prop}
  {x : Str} {tx tar : Tok} {ar : Int}
  (B : Below A₀ base outer h₀) (F : Fr h₀ L s.heap m) (X : (hd.heap_39 w.params).In h₀) (N : News h₀ L s.heap news) (T : Top p loose mean mg mb h₀) (hk : cs.kind = .function)
  (hdp : dp + 1 < recursionLimit) (hun : un + 10 < cLine)
  (hc : (x = Str.ofString "+" ∧ ar = 2) ∨ (x = Str.ofString "-" ∧ ar = 2) ∨ (x = Str.ofString "-" ∧ ar = 1))
  (ret : ∀ h' tk, Fr h₀ L h' m → News h₀ L h' news → Q (.bool true) { s with heap := h', toks := tk }) :
  wpAny (model PySem.Challenge.rw_rh0112_01.row.prog w) (ktrTop dp un gd cn cs L a ccd cl outer) (call (.ref 441) [.str x tx, .int ar tar]) Q E s := by
  revert X; k_fill; intro X
  rcases hc with ⟨rfl, rfl⟩ | ⟨rfl, rfl⟩ | ⟨rfl, rfl⟩
  all_goals (
    refine wpAny_call ?_
    k_dflt ktr_enter
    k_steps
    all_goals (first | (refine ret _ _ ?_ ?_ <;> k_asm) | w_report))

local macro_rules | `(tactic| walk_at "call ref") => `(tactic| (k_here; (with_reducible show wpAny _ _ (call (Value.ref 441) _) _ _ _); k_dflt (refine' isev_ok ?B ?F ?X ?N ?T ?hk ?hdp ?hun ?p0 ?_; (case B => k_asm); (case F => k_asm); (case X => k_asm); (case N => k_asm); (case T => k_asm); (case hk => first | exact rfl | k_asm); (case hdp => first | ((try simp only [depth_under_make, depth_under_kw, depth_in1, depth_deeper]); (try dsimp only [ktrTop]); omega) | ktr_room); (case hun => first | ((try simp only [units_in1, units_deeper, units_under_make, Around.mark_units]); (try dsimp only [ktrTop]); omega) | ktr_units); (case p0 => assumption); k_whole); intro h' tk' F' N'; (try k_sweep); walk_say "USE isev_ok"))
theorem checkev_ok {w : World} {p : Program} {loose : List Str} {mean : ExcName → Option Value} {mg mb : Str → Option Value}
  {dp un : Nat} {gd : Option (List Code)} {cn : Str} {cs : Scope} {a : Addr} {ccd : Value} {cl : List (Str × Addr)} {outer : List Env} {A₀ : Around} {base h₀ : Heap} {L : Addr} {m : Str → Option Value} {news : List (Addr × Obj)} {s : Shared} {Q E : Value → Shared → Prop}
  {nm nd : Addr} {S : SymA} {ndn : Nat}{fvs : List Value} {nf : Nat}{tvs : List Value} {nt : Nat}{f : Int} {tf : Tok} {y : Addr} {fa far : Int} {t1 t2 : Tok} {n : Nat}{x : Str} {tx : Tok}
  (B : Below A₀ base outer h₀) (F : Fr h₀ L s.heap m) (X : (hd.heap_39 w.params).In h₀) (N : News h₀ L s.heap news) (T : Top p loose mean mg mb h₀) (hk : cs.kind = .function)
  (hdp : dp + 3 < recursionLimit) (hun : un + 30 < cLine)
  (hi : (nm, instObj 154 nd) ∈ news) (hd : (nd, dictOf (symE S) ndn) ∈ news)(hf : (S.lf, listOf fvs.toArray nf) ∈ news) (hfb : fvs.length ≤ 200000)(ht : (S.lt, listOf tvs.toArray nt) ∈ news) (htb : tvs.length ≤ 200000)(hx : fvs[f.toNat]? = some (.ref y)) (h0 : 0 ≤ f) (hy : (y, tup [.int fa t1, .int far t2] n) ∈ news) (hx2 : tvs[fa.toNat]? = some (.str x tx)) (h1 : 0 ≤ fa) (hc : (x = Str.ofString "+" ∧ far = 2) ∨ (x = Str.ofString "-" ∧ far = 2) ∨ (x = Str.ofString "-" ∧ far = 1))
  (ret : ∀ h' tk, Fr h₀ L h' m → News h₀ L h' news → Q (.none) { s with heap := h', toks := tk }) :
  wpAny (model PySem.Challenge.rw_rh0112_01.row.prog w) (ktrTop dp un gd cn cs L a ccd cl outer) (call (.ref 448) [.ref nm, .int f tf]) Q E s := by
  revert X; k_fill; intro X
  refine wpAny_call ?_
  k_dflt ktr_enter
  k_steps
  all_goals (first | (refine ret _ _ ?_ ?_ <;> k_asm) | w_report)

end Mine
namespace Mine
local macro_rules | `(tactic| walk_at "exec While") => `(tactic| (k_here; k_dflt (refine whl_start 1 ?_)))
local macro_rules | `(tactic| walk_at "ite") => `(tactic| (k_here; first | (refine ite_pos (by first | with_reducible assumption | (simp only [beq_iff_eq, bne_iff_ne, decide_eq_true_eq, ne_eq]; omega)) ?_; walk_say "MY PRUNE") | (refine ite_neg (by first | with_reducible assumption | (simp only [beq_iff_eq, bne_iff_ne, decide_eq_true_eq, ne_eq]; omega)) ?_; walk_say "MY PRUNE")))
local macro_rules | `(tactic| walk_at "subscriptTail") => `(tactic| (k_here; (with_reducible show wpAny _ _ (subscriptTail _ _ (Value.ref _) (Value.int _ _)) _ _ _); (with_unfolding_all refine' item_abs ?k1 ?k2 ?k3 ?k4 ?k5 ?_ ?k6; (case k1 => k_asm); (case k2 => k_mem); (case k3 => assumption); (case k4 => first | assumption | omega); (case k5 => assumption); (case k6 => with_unfolding_all rfl); k_whole); walk_say "MY ITEM"))
local macro_rules | `(tactic| walk_at "compareOp In str ref") => `(tactic| (k_here; k_dflt (refine' in_tupK ?F ?X ?l ?w ?b ?_; (case F => k_asm); (case X => k_asm); (case l => k_is); (case w => kde_strs); (case b => exact rfl); k_whole); walk_say "MY IN"))
local macro_rules | `(tactic| walk_at "call builtin:list.append") => `(tactic| (k_here; (with_reducible show wpAny _ _ (call (Value.builtin _) [Value.ref _, _]) _ _ _); k_dflt (refine' append_L ?k1 ?k2 ?k3 ?z ?_; (case k1 => k_asm); (case k2 => k_asm); (case k3 => k_upd); (case z => first | assumption | omega | (simp only [List.length_append, List.length_cons, List.length_nil]; omega)); k_whole); intro h' F' N'; (try k_sweep); walk_say "MY APPEND"))
local macro_rules | `(tactic| walk_at "call builtin:list.pop") => `(tactic| (k_here; (with_reducible show wpAny _ _ (call (Value.builtin _) [Value.ref _]) _ _ _); k_dflt (refine' pop_L ?k1 ?k2 ?k3 ?z ?_; (case k1 => k_asm); (case k2 => k_asm); (case k3 => k_upd); (case z => first | assumption | omega | (simp only [List.length_append, List.length_cons, List.length_nil]; omega)); k_whole); intro h' F' N'; (try k_sweep); walk_say "MY POP"))
local macro_rules | `(tactic| k_all) => `(tactic| assumption)
local macro_rules | `(tactic| k_mem) => `(tactic| first | with_reducible exact List.Mem.head _ | assumption | (refine' List.Mem.tail _ ?_; k_mem))
local macro_rules | `(tactic| walk_at "truthy ref") => `(tactic| (k_here; (with_reducible show wpAny _ _ (truthy (Value.ref _)) _ _ _); k_dflt (refine' truthy_L ?k1 ?k2 ?k3 ?k4 ?_; (case k1 => k_asm); (case k2 => k_mem); (case k3 => first | assumption | (simp only [List.length_append, List.length_cons, List.length_nil]; omega)); (case k4 => first | exact some_true _ _ | exact none_false); k_whole); walk_say "MY TRUTH"))
local macro_rules | `(tactic| walk_at "call builtin:len") => `(tactic| (k_here; (with_reducible show wpAny _ _ (call (Value.builtin "len") [Value.ref _]) _ _ _); k_dflt (refine' len_L ?k1 ?k2 ?k3 ?_; (case k1 => k_asm); (case k2 => k_mem); (case k3 => first | assumption | (simp only [List.length_append, List.length_cons, List.length_nil]; omega)); k_whole); walk_say "MY LEN"))
local macro_rules | `(tactic| walk_at "call ref") => `(tactic| (k_here; (with_reducible show wpAny _ _ (call (Value.ref 116) _) _ _ _); k_dflt (refine' name_ok ?B ?F ?X ?N ?T ?hk ?hdp ?hun ?p0 ?p1 ?p2 ?p3 ?p4 ?p5 ?p6 ?_; (case B => k_asm); (case F => k_asm); (case X => k_asm); (case N => k_asm); (case T => k_asm); (case hk => first | exact rfl | k_asm); (case hdp => first | ((try simp only [depth_under_make, depth_under_kw, depth_in1, depth_deeper]); (try dsimp only [ktrTop]); omega) | ktr_room); (case hun => first | ((try simp only [units_in1, units_deeper, units_under_make, Around.mark_units]); (try dsimp only [ktrTop]); omega) | ktr_units); (case p0 => k_mem); (case p1 => k_mem); (case p2 => k_mem); (case p3 => (first | assumption | omega)); (case p4 => assumption); (case p5 => (first | assumption | omega)); (case p6 => k_mem); k_whole); intro h' tk' F' N'; (try k_sweep); walk_say "USE name_ok"))
local macro_rules | `(tactic| walk_at "call ref") => `(tactic| (k_here; (with_reducible show wpAny _ _ (call (Value.ref 123) _) _ _ _); k_dflt (refine' arity_ok ?B ?F ?X ?N ?T ?hk ?hdp ?hun ?p0 ?p1 ?p2 ?p3 ?p4 ?p5 ?p6 ?_; (case B => k_asm); (case F => k_asm); (case X => k_asm); (case N => k_asm); (case T => k_asm); (case hk => first | exact rfl | k_asm); (case hdp => first | ((try simp only [depth_under_make, depth_under_kw, depth_in1, depth_deeper]); (try dsimp only [ktrTop]); omega) | ktr_room); (case hun => first | ((try simp only [units_in1, units_deeper, units_under_make, Around.mark_units]); (try dsimp only [ktrTop]); omega) | ktr_units); (case p0 => k_mem); (case p1 => k_mem); (case p2 => k_mem); (case p3 => (first | assumption | omega)); (case p4 => assumption); (case p5 => (first | assumption | omega)); (case p6 => k_mem); k_whole); intro h' tk' F' N'; (try k_sweep); walk_say "USE arity_ok"))
local macro_rules | `(tactic| walk_at "call ref") => `(tactic| (k_here; (with_reducible show wpAny _ _ (call (Value.ref 95) _) _ _ _); k_dflt (refine' text_ok ?B ?F ?X ?N ?T ?hk ?hdp ?hun ?p0 ?p1 ?p2 ?p3 ?p4 ?p5 ?_; (case B => k_asm); (case F => k_asm); (case X => k_asm); (case N => k_asm); (case T => k_asm); (case hk => first | exact rfl | k_asm); (case hdp => first | ((try simp only [depth_under_make, depth_under_kw, depth_in1, depth_deeper]); (try dsimp only [ktrTop]); omega) | ktr_room); (case hun => first | ((try simp only [units_in1, units_deeper, units_under_make, Around.mark_units]); (try dsimp only [ktrTop]); omega) | ktr_units); (case p0 => k_mem); (case p1 => k_mem); (case p2 => k_mem); (case p3 => (first | assumption | omega)); (case p4 => assumption); (case p5 => (first | assumption | omega)); k_whole); intro h' tk' F' N'; (try k_sweep); walk_say "USE text_ok"))
theorem checksize_ok {w : World} {p : Program} {loose : List Str} {mean : ExcName → Option Value} {mg mb : Str → Option Value}
  {dp un : Nat} {gd : Option (List Code)} {cn : Str} {cs : Scope} {a : Addr} {ccd : Value} {cl : List (Str × Addr)} {outer : List Env} {A₀ : Around} {base h₀ : Heap} {L : Addr} {m : Str → Option Value} {news : List (Addr × Obj)} {s : Shared} {Q E : Value → Shared → Prop}
  {vsy : Value} {v mx : Int} {tv tm : Tok}
  (B : Below A₀ base outer h₀) (F : Fr h₀ L s.heap m) (X : (hd.heap_39 w.params).In h₀) (N : News h₀ L s.heap news) (T : Top p loose mean mg mb h₀) (hk : cs.kind = .function)
  (hdp : dp + 1 < recursionLimit) (hun : un + 10 < cLine)
  (hb : (Builtin.Int.intBits v : Int) ≤ mx)
  (ret : ∀ h' tk, Fr h₀ L h' m → News h₀ L h' news → Q (.int v tv) { s with heap := h', toks := tk }) :
  wpAny (model PySem.Challenge.rw_rh0112_01.row.prog w) (ktrTop dp un gd cn cs L a ccd cl outer) (call (.ref 455) [vsy, .int v tv, .int mx tm]) Q E s := by
  revert X; k_fill; intro X
  refine wpAny_call ?_
  k_dflt ktr_enter
  k_steps
  all_goals (first | (refine ret _ _ ?_ ?_ <;> k_asm) | w_report)

local macro_rules | `(tactic| walk_at "call ref") => `(tactic| (k_here; (with_reducible show wpAny _ _ (call (Value.ref 455) _) _ _ _); k_dflt (refine' checksize_ok ?B ?F ?X ?N ?T ?hk ?hdp ?hun ?p0 ?_; (case B => k_asm); (case F => k_asm); (case X => k_asm); (case N => k_asm); (case T => k_asm); (case hk => first | exact rfl | k_asm); (case hdp => first | ((try simp only [depth_under_make, depth_under_kw, depth_in1, depth_deeper]); (try dsimp only [ktrTop]); omega) | ktr_room); (case hun => first | ((try simp only [units_in1, units_deeper, units_under_make, Around.mark_units]); (try dsimp only [ktrTop]); omega) | ktr_units); (case p0 => (first | assumption | omega)); k_whole); intro h' tk' F' N'; (try k_sweep); walk_say "USE checksize_ok"))
theorem neg_ok {w : World} {p : Program} {loose : List Str} {mean : ExcName → Option Value} {mg mb : Str → Option Value}
  {dp un : Nat} {gd : Option (List Code)} {cn : Str} {cs : Scope} {a : Addr} {ccd : Value} {cl : List (Str × Addr)} {outer : List Env} {A₀ : Around} {base h₀ : Heap} {L : Addr} {m : Str → Option Value} {news : List (Addr × Obj)} {s : Shared} {Q E : Value → Shared → Prop}
  {vsy : Value} {v : Int} {tv ts : Tok}
  (B : Below A₀ base outer h₀) (F : Fr h₀ L s.heap m) (X : (hd.heap_39 w.params).In h₀) (N : News h₀ L s.heap news) (T : Top p loose mean mg mb h₀) (hk : cs.kind = .function)
  (hdp : dp + 1 < recursionLimit) (hun : un + 10 < cLine)
  (ret : ∀ h' tk t', Fr h₀ L h' m → News h₀ L h' news → Q (.int (-v) t') { s with heap := h', toks := tk }) :
  wpAny (model PySem.Challenge.rw_rh0112_01.row.prog w) (ktrTop dp un gd cn cs L a ccd cl outer) (call (.ref 511) [vsy, .str (Str.ofString "-") ts, .int v tv]) Q E s := by
  revert X; k_fill; intro X
  refine wpAny_call ?_
  k_dflt ktr_enter
  k_steps
  all_goals (first | (refine ret _ _ _ ?_ ?_ <;> k_asm) | w_report)

local macro_rules | `(tactic| walk_at "call ref") => `(tactic| (k_here; (with_reducible show wpAny _ _ (call (Value.ref 511) _) _ _ _); k_dflt (refine' neg_ok ?B ?F ?X ?N ?T ?hk ?hdp ?hun  ?_; (case B => k_asm); (case F => k_asm); (case X => k_asm); (case N => k_asm); (case T => k_asm); (case hk => first | exact rfl | k_asm); (case hdp => first | ((try simp only [depth_under_make, depth_under_kw, depth_in1, depth_deeper]); (try dsimp only [ktrTop]); omega) | ktr_room); (case hun => first | ((try simp only [units_in1, units_deeper, units_under_make, Around.mark_units]); (try dsimp only [ktrTop]); omega) | ktr_units);  k_whole); intro h' tk' t' F' N'; (try k_sweep); walk_say "USE neg_ok"))
theorem add_ok {w : World} {p : Program} {loose : List Str} {mean : ExcName → Option Value} {mg mb : Str → Option Value}
  {dp un : Nat} {gd : Option (List Code)} {cn : Str} {cs : Scope} {a : Addr} {ccd : Value} {cl : List (Str × Addr)} {outer : List Env} {A₀ : Around} {base h₀ : Heap} {L : Addr} {m : Str → Option Value} {news : List (Addr × Obj)} {s : Shared} {Q E : Value → Shared → Prop}
  {vsy mx : Value} {v v2 : Int} {tv tv2 ts : Tok}
  (B : Below A₀ base outer h₀) (F : Fr h₀ L s.heap m) (X : (hd.heap_39 w.params).In h₀) (N : News h₀ L s.heap news) (T : Top p loose mean mg mb h₀) (hk : cs.kind = .function)
  (hdp : dp + 1 < recursionLimit) (hun : un + 10 < cLine)
  (ret : ∀ h' tk t', Fr h₀ L h' m → News h₀ L h' news → Q (.int (v + v2) t') { s with heap := h', toks := tk }) :
  wpAny (model PySem.Challenge.rw_rh0112_01.row.prog w) (ktrTop dp un gd cn cs L a ccd cl outer) (call (.ref 532) [vsy, .str (Str.ofString "+") ts, .int v tv, .int v2 tv2, mx]) Q E s := by
  revert X; k_fill; intro X
  refine wpAny_call ?_
  k_dflt ktr_enter
  k_steps
  all_goals (first | (refine ret _ _ _ ?_ ?_ <;> k_asm) | w_report)

local macro_rules | `(tactic| walk_at "call ref") => `(tactic| (k_here; (with_reducible show wpAny _ _ (call (Value.ref 532) _) _ _ _); k_dflt (refine' add_ok ?B ?F ?X ?N ?T ?hk ?hdp ?hun  ?_; (case B => k_asm); (case F => k_asm); (case X => k_asm); (case N => k_asm); (case T => k_asm); (case hk => first | exact rfl | k_asm); (case hdp => first | ((try simp only [depth_under_make, depth_under_kw, depth_in1, depth_deeper]); (try dsimp only [ktrTop]); omega) | ktr_room); (case hun => first | ((try simp only [units_in1, units_deeper, units_under_make, Around.mark_units]); (try dsimp only [ktrTop]); omega) | ktr_units);  k_whole); intro h' tk' t' F' N'; (try k_sweep); walk_say "USE add_ok"))
theorem sub_ok {w : World} {p : Program} {loose : List Str} {mean : ExcName → Option Value} {mg mb : Str → Option Value}
  {dp un : Nat} {gd : Option (List Code)} {cn : Str} {cs : Scope} {a : Addr} {ccd : Value} {cl : List (Str × Addr)} {outer : List Env} {A₀ : Around} {base h₀ : Heap} {L : Addr} {m : Str → Option Value} {news : List (Addr × Obj)} {s : Shared} {Q E : Value → Shared → Prop}
  {vsy mx : Value} {v v2 : Int} {tv tv2 ts : Tok}
  (B : Below A₀ base outer h₀) (F : Fr h₀ L s.heap m) (X : (hd.heap_39 w.params).In h₀) (N : News h₀ L s.heap news) (T : Top p loose mean mg mb h₀) (hk : cs.kind = .function)
  (hdp : dp + 1 < recursionLimit) (hun : un + 10 < cLine)
  (ret : ∀ h' tk t', Fr h₀ L h' m → News h₀ L h' news → Q (.int (v - v2) t') { s with heap := h', toks := tk }) :
  wpAny (model PySem.Challenge.rw_rh0112_01.row.prog w) (ktrTop dp un gd cn cs L a ccd cl outer) (call (.ref 532) [vsy, .str (Str.ofString "-") ts, .int v tv, .int v2 tv2, mx]) Q E s := by
  revert X; k_fill; intro X
  refine wpAny_call ?_
  k_dflt ktr_enter
  k_steps
  all_goals (first | (refine ret _ _ _ ?_ ?_ <;> k_asm) | w_report)

local macro_rules | `(tactic| walk_at "call ref") => `(tactic| (k_here; (with_reducible show wpAny _ _ (call (Value.ref 532) _) _ _ _); k_dflt (refine' sub_ok ?B ?F ?X ?N ?T ?hk ?hdp ?hun  ?_; (case B => k_asm); (case F => k_asm); (case X => k_asm); (case N => k_asm); (case T => k_asm); (case hk => first | exact rfl | k_asm); (case hdp => first | ((try simp only [depth_under_make, depth_under_kw, depth_in1, depth_deeper]); (try dsimp only [ktrTop]); omega) | ktr_room); (case hun => first | ((try simp only [units_in1, units_deeper, units_under_make, Around.mark_units]); (try dsimp only [ktrTop]); omega) | ktr_units);  k_whole); intro h' tk' t' F' N'; (try k_sweep); walk_say "USE sub_ok"))
end Mine
namespace Mine
local macro_rules | `(tactic| walk_at "filler") => `(tactic| fail "filler")
local macro_rules | `(tactic| walk_at "exec While") => `(tactic| (k_here; k_dflt (refine whl_start 1 ?_)))
local macro_rules | `(tactic| walk_at "ite") => `(tactic| (k_here; first | (refine ite_pos (by first | with_reducible assumption | (simp only [beq_iff_eq, bne_iff_ne, decide_eq_true_eq, ne_eq]; omega)) ?_; walk_say "MY PRUNE") | (refine ite_neg (by first | with_reducible assumption | (simp only [beq_iff_eq, bne_iff_ne, decide_eq_true_eq, ne_eq]; omega)) ?_; walk_say "MY PRUNE")))
local macro_rules | `(tactic| walk_at "subscriptTail") => `(tactic| (k_here; (with_reducible show wpAny _ _ (subscriptTail _ _ (Value.ref _) (Value.int _ _)) _ _ _); (with_unfolding_all refine' item_abs ?k1 ?k2 ?k3 ?k4 ?k5 ?_ ?k6; (case k1 => k_asm); (case k2 => k_mem); (case k3 => assumption); (case k4 => first | assumption | omega); (case k5 => assumption); (case k6 => with_unfolding_all rfl); k_whole); walk_say "MY ITEM"))
local macro_rules | `(tactic| walk_at "compareOp In str ref") => `(tactic| (k_here; k_dflt (refine' in_tupK ?F ?X ?l ?w ?b ?_; (case F => k_asm); (case X => k_asm); (case l => k_is); (case w => kde_strs); (case b => exact rfl); k_whole); walk_say "MY IN"))
local macro_rules | `(tactic| walk_at "call builtin:list.append") => `(tactic| (k_here; (with_reducible show wpAny _ _ (call (Value.builtin _) [Value.ref _, _]) _ _ _); k_dflt (refine' append_L ?k1 ?k2 ?k3 ?z ?_; (case k1 => k_asm); (case k2 => k_asm); (case k3 => k_upd); (case z => first | assumption | omega | (simp only [List.length_append, List.length_cons, List.length_nil]; omega)); k_whole); intro h' F' N'; (try k_sweep); walk_say "MY APPEND"))
local macro_rules | `(tactic| walk_at "call builtin:list.pop") => `(tactic| (k_here; (with_reducible show wpAny _ _ (call (Value.builtin _) [Value.ref _]) _ _ _); k_dflt (refine' pop_L ?k1 ?k2 ?k3 ?z ?_; (case k1 => k_asm); (case k2 => k_asm); (case k3 => k_upd); (case z => first | assumption | omega | (simp only [List.length_append, List.length_cons, List.length_nil]; omega)); k_whole); intro h' F' N'; (try k_sweep); walk_say "MY POP"))
local macro_rules | `(tactic| k_all) => `(tactic| assumption)
local macro_rules | `(tactic| k_mem) => `(tactic| first | with_reducible exact List.Mem.head _ | assumption | (refine' List.Mem.tail _ ?_; k_mem))
local macro_rules | `(tactic| walk_at "truthy ref") => `(tactic| (k_here; (with_reducible show wpAny _ _ (truthy (Value.ref _)) _ _ _); k_dflt (refine' truthy_L ?k1 ?k2 ?k3 ?k4 ?_; (case k1 => k_asm); (case k2 => k_mem); (case k3 => first | assumption | (simp only [List.length_append, List.length_cons, List.length_nil]; omega)); (case k4 => first | exact some_true _ _ | exact none_false); k_whole); walk_say "MY TRUTH"))
local macro_rules | `(tactic| walk_at "call builtin:len") => `(tactic| (k_here; (with_reducible show wpAny _ _ (call (Value.builtin "len") [Value.ref _]) _ _ _); k_dflt (refine' len_L ?k1 ?k2 ?k3 ?_; (case k1 => k_asm); (case k2 => k_mem); (case k3 => first | assumption | (simp only [List.length_append, List.length_cons, List.length_nil]; omega)); k_whole); walk_say "MY LEN"))
local macro_rules | `(tactic| walk_at "call ref") => `(tactic| (k_here; (with_reducible show wpAny _ _ (call (Value.ref 116) _) _ _ _); k_dflt (refine' name_ok ?B ?F ?X ?N ?T ?hk ?hdp ?hun ?p0 ?p1 ?p2 ?p3 ?p4 ?p5 ?p6 ?_; (case B => k_asm); (case F => k_asm); (case X => k_asm); (case N => k_asm); (case T => k_asm); (case hk => first | exact rfl | k_asm); (case hdp => first | ((try simp only [depth_under_make, depth_under_kw, depth_in1, depth_deeper]); (try dsimp only [ktrTop]); omega) | ktr_room); (case hun => first | ((try simp only [units_in1, units_deeper, units_under_make, Around.mark_units]); (try dsimp only [ktrTop]); omega) | ktr_units); (case p0 => k_mem); (case p1 => k_mem); (case p2 => k_mem); (case p3 => (first | assumption | omega)); (case p4 => assumption); (case p5 => (first | assumption | omega)); (case p6 => k_mem); k_whole); intro h' tk' F' N'; (try k_sweep); walk_say "USE name_ok"))
local macro_rules | `(tactic| walk_at "call ref") => `(tactic| (k_here; (with_reducible show wpAny _ _ (call (Value.ref 123) _) _ _ _); k_dflt (refine' arity_ok ?B ?F ?X ?N ?T ?hk ?hdp ?hun ?p0 ?p1 ?p2 ?p3 ?p4 ?p5 ?p6 ?_; (case B => k_asm); (case F => k_asm); (case X => k_asm); (case N => k_asm); (case T => k_asm); (case hk => first | exact rfl | k_asm); (case hdp => first | ((try simp only [depth_under_make, depth_under_kw, depth_in1, depth_deeper]); (try dsimp only [ktrTop]); omega) | ktr_room); (case hun => first | ((try simp only [units_in1, units_deeper, units_under_make, Around.mark_units]); (try dsimp only [ktrTop]); omega) | ktr_units); (case p0 => k_mem); (case p1 => k_mem); (case p2 => k_mem); (case p3 => (first | assumption | omega)); (case p4 => assumption); (case p5 => (first | assumption | omega)); (case p6 => k_mem); k_whole); intro h' tk' F' N'; (try k_sweep); walk_say "USE arity_ok"))
local macro_rules | `(tactic| walk_at "call ref") => `(tactic| (k_here; (with_reducible show wpAny _ _ (call (Value.ref 95) _) _ _ _); k_dflt (refine' text_ok ?B ?F ?X ?N ?T ?hk ?hdp ?hun ?p0 ?p1 ?p2 ?p3 ?p4 ?p5 ?_; (case B => k_asm); (case F => k_asm); (case X => k_asm); (case N => k_asm); (case T => k_asm); (case hk => first | exact rfl | k_asm); (case hdp => first | ((try simp only [depth_under_make, depth_under_kw, depth_in1, depth_deeper]); (try dsimp only [ktrTop]); omega) | ktr_room); (case hun => first | ((try simp only [units_in1, units_deeper, units_under_make, Around.mark_units]); (try dsimp only [ktrTop]); omega) | ktr_units); (case p0 => k_mem); (case p1 => k_mem); (case p2 => k_mem); (case p3 => (first | assumption | omega)); (case p4 => assumption); (case p5 => (first | assumption | omega)); k_whole); intro h' tk' F' N'; (try k_sweep); walk_say "USE text_ok"))
local macro_rules | `(tactic| walk_at "call ref") => `(tactic| (k_here; (with_reducible show wpAny _ _ (call (Value.ref 455) _) _ _ _); k_dflt (refine' checksize_ok ?B ?F ?X ?N ?T ?hk ?hdp ?hun ?p0 ?_; (case B => k_asm); (case F => k_asm); (case X => k_asm); (case N => k_asm); (case T => k_asm); (case hk => first | exact rfl | k_asm); (case hdp => first | ((try simp only [depth_under_make, depth_under_kw, depth_in1, depth_deeper]); (try dsimp only [ktrTop]); omega) | ktr_room); (case hun => first | ((try simp only [units_in1, units_deeper, units_under_make, Around.mark_units]); (try dsimp only [ktrTop]); omega) | ktr_units); (case p0 => (first | assumption | omega)); k_whole); intro h' tk' F' N'; (try k_sweep); walk_say "USE checksize_ok"))
local macro_rules | `(tactic| walk_at "call ref") => `(tactic| (k_here; (with_reducible show wpAny _ _ (call (Value.ref 511) _) _ _ _); k_dflt (refine' neg_ok ?B ?F ?X ?N ?T ?hk ?hdp ?hun  ?_; (case B => k_asm); (case F => k_asm); (case X => k_asm); (case N => k_asm); (case T => k_asm); (case hk => first | exact rfl | k_asm); (case hdp => first | ((try simp only [depth_under_make, depth_under_kw, depth_in1, depth_deeper]); (try dsimp only [ktrTop]); omega) | ktr_room); (case hun => first | ((try simp only [units_in1, units_deeper, units_under_make, Around.mark_units]); (try dsimp only [ktrTop]); omega) | ktr_units);  k_whole); intro h' tk' t' F' N'; (try k_sweep); walk_say "USE neg_ok"))
local macro_rules | `(tactic| walk_at "call ref") => `(tactic| (k_here; (with_reducible show wpAny _ _ (call (Value.ref 532) _) _ _ _); k_dflt (refine' add_ok ?B ?F ?X ?N ?T ?hk ?hdp ?hun  ?_; (case B => k_asm); (case F => k_asm); (case X => k_asm); (case N => k_asm); (case T => k_asm); (case hk => first | exact rfl | k_asm); (case hdp => first | ((try simp only [depth_under_make, depth_under_kw, depth_in1, depth_deeper]); (try dsimp only [ktrTop]); omega) | ktr_room); (case hun => first | ((try simp only [units_in1, units_deeper, units_under_make, Around.mark_units]); (try dsimp only [ktrTop]); omega) | ktr_units);  k_whole); intro h' tk' t' F' N'; (try k_sweep); walk_say "USE add_ok"))
local macro_rules | `(tactic| walk_at "call ref") => `(tactic| (k_here; (with_reducible show wpAny _ _ (call (Value.ref 532) _) _ _ _); k_dflt (refine' sub_ok ?B ?F ?X ?N ?T ?hk ?hdp ?hun  ?_; (case B => k_asm); (case F => k_asm); (case X => k_asm); (case N => k_asm); (case T => k_asm); (case hk => first | exact rfl | k_asm); (case hdp => first | ((try simp only [depth_under_make, depth_under_kw, depth_in1, depth_deeper]); (try dsimp only [ktrTop]); omega) | ktr_room); (case hun => first | ((try simp only [units_in1, units_deeper, units_under_make, Around.mark_units]); (try dsimp only [ktrTop]); omega) | ktr_units);  k_whole); intro h' tk' t' F' N'; (try k_sweep); walk_say "USE sub_ok"))
theorem apf_add {w : World} {p : Program} {loose : List Str} {mean : ExcName → Option Value} {mg mb : Str → Option Value}
  {dp un : Nat} {gd : Option (List Code)} {cn : Str} {cs : Scope} {a : Addr} {ccd : Value} {cl : List (Str × Addr)} {outer : List Env} {A₀ : Around} {base h₀ : Heap} {L : Addr} {m : Str → Option Value} {s : Shared} {Q E : Value → Shared → Prop}
  {nm nd : Addr} {S : SymA} {ndn : Nat}{fvs : List Value} {nf : Nat}{tvs : List Value} {nt : Nat}{f : Int} {tf : Tok} {y : Addr} {fa : Int} {t1 t2 : Tok} {n : Nat}{tt : Tok}{va : Addr} {xs : List Value} {nv : Nat} {rest : List (Addr × Obj)} {tm : Tok} {i j : Int} {tx ty : Tok}
  (B : Below A₀ base outer h₀) (F : Fr h₀ L s.heap m) (X : (hd.heap_39 w.params).In h₀) (N : News h₀ L s.heap ((va, listOf ((xs ++ [Value.int i tx]) ++ [Value.int j ty]).toArray nv) :: rest)) (T : Top p loose mean mg mb h₀) (hk : cs.kind = .function)
  (hdp : dp + 3 < recursionLimit) (hun : un + 30 < cLine)
  (hi : (nm, instObj 154 nd) ∈ rest) (hd : (nd, dictOf (symE S) ndn) ∈ rest)(hf : (S.lf, listOf fvs.toArray nf) ∈ rest) (hfb : fvs.length ≤ 200000)(ht : (S.lt, listOf tvs.toArray nt) ∈ rest) (htb : tvs.length ≤ 200000)(hx : fvs[f.toNat]? = some (.ref y)) (h0 : 0 ≤ f) (hy : (y, tup [.int fa t1, .int 2 t2] n) ∈ rest) (hva : ∀ p ∈ rest, p.1 ≠ va) (hxs : xs.length ≤ 100000) (hx2 : tvs[fa.toNat]? = some (.str (Str.ofString "+") tt)) (h1 : 0 ≤ fa) (hbits : (Builtin.Int.intBits (i + j) : Int) ≤ 4096)
  (ret : ∀ h' tk t' nv', Fr h₀ L h' m → News h₀ L h' ((va, listOf (xs ++ [Value.int (i + j) t']).toArray nv') :: rest) → Q .none { s with heap := h', toks := tk }) :
  wpAny (model PySem.Challenge.rw_rh0112_01.row.prog w) (ktrTop dp un gd cn cs L a ccd cl outer) (call (.ref 539) [.ref nm, .int f tf, .ref va, .int 4096 tm]) Q E s := by
  revert X; k_fill; intro X
  refine wpAny_call ?_
  k_dflt ktr_enter
  k_steps
  all_goals (first | exact ret _ _ _ _ (by k_asm) (by k_asm) | w_report)

theorem apf_sub {w : World} {p : Program} {loose : List Str} {mean : ExcName → Option Value} {mg mb : Str → Option Value}
  {dp un : Nat} {gd : Option (List Code)} {cn : Str} {cs : Scope} {a : Addr} {ccd : Value} {cl : List (Str × Addr)} {outer : List Env} {A₀ : Around} {base h₀ : Heap} {L : Addr} {m : Str → Option Value} {s : Shared} {Q E : Value → Shared → Prop}
  {nm nd : Addr} {S : SymA} {ndn : Nat}{fvs : List Value} {nf : Nat}{tvs : List Value} {nt : Nat}{f : Int} {tf : Tok} {y : Addr} {fa : Int} {t1 t2 : Tok} {n : Nat}{tt : Tok}{va : Addr} {xs : List Value} {nv : Nat} {rest : List (Addr × Obj)} {tm : Tok} {i j : Int} {tx ty : Tok}
  (B : Below A₀ base outer h₀) (F : Fr h₀ L s.heap m) (X : (hd.heap_39 w.params).In h₀) (N : News h₀ L s.heap ((va, listOf ((xs ++ [Value.int i tx]) ++ [Value.int j ty]).toArray nv) :: rest)) (T : Top p loose mean mg mb h₀) (hk : cs.kind = .function)
  (hdp : dp + 3 < recursionLimit) (hun : un + 30 < cLine)
  (hi : (nm, instObj 154 nd) ∈ rest) (hd : (nd, dictOf (symE S) ndn) ∈ rest)(hf : (S.lf, listOf fvs.toArray nf) ∈ rest) (hfb : fvs.length ≤ 200000)(ht : (S.lt, listOf tvs.toArray nt) ∈ rest) (htb : tvs.length ≤ 200000)(hx : fvs[f.toNat]? = some (.ref y)) (h0 : 0 ≤ f) (hy : (y, tup [.int fa t1, .int 2 t2] n) ∈ rest) (hva : ∀ p ∈ rest, p.1 ≠ va) (hxs : xs.length ≤ 100000) (hx2 : tvs[fa.toNat]? = some (.str (Str.ofString "-") tt)) (h1 : 0 ≤ fa) (hbits : (Builtin.Int.intBits (i - j) : Int) ≤ 4096)
  (ret : ∀ h' tk t' nv', Fr h₀ L h' m → News h₀ L h' ((va, listOf (xs ++ [Value.int (i - j) t']).toArray nv') :: rest) → Q .none { s with heap := h', toks := tk }) :
  wpAny (model PySem.Challenge.rw_rh0112_01.row.prog w) (ktrTop dp un gd cn cs L a ccd cl outer) (call (.ref 539) [.ref nm, .int f tf, .ref va, .int 4096 tm]) Q E s := by
  revert X; k_fill; intro X
  refine wpAny_call ?_
  k_dflt ktr_enter
  k_steps
  all_goals (first | exact ret _ _ _ _ (by k_asm) (by k_asm) | w_report)

theorem apf_neg {w : World} {p : Program} {loose : List Str} {mean : ExcName → Option Value} {mg mb : Str → Option Value}
  {dp un : Nat} {gd : Option (List Code)} {cn : Str} {cs : Scope} {a : Addr} {ccd : Value} {cl : List (Str × Addr)} {outer : List Env} {A₀ : Around} {base h₀ : Heap} {L : Addr} {m : Str → Option Value} {s : Shared} {Q E : Value → Shared → Prop}
  {nm nd : Addr} {S : SymA} {ndn : Nat}{fvs : List Value} {nf : Nat}{tvs : List Value} {nt : Nat}{f : Int} {tf : Tok} {y : Addr} {fa : Int} {t1 t2 : Tok} {n : Nat}{tt : Tok}{va : Addr} {xs : List Value} {nv : Nat} {rest : List (Addr × Obj)} {tm : Tok} {j : Int} {ty : Tok}
  (B : Below A₀ base outer h₀) (F : Fr h₀ L s.heap m) (X : (hd.heap_39 w.params).In h₀) (N : News h₀ L s.heap ((va, listOf (xs ++ [Value.int j ty]).toArray nv) :: rest)) (T : Top p loose mean mg mb h₀) (hk : cs.kind = .function)
  (hdp : dp + 3 < recursionLimit) (hun : un + 30 < cLine)
  (hi : (nm, instObj 154 nd) ∈ rest) (hd : (nd, dictOf (symE S) ndn) ∈ rest)(hf : (S.lf, listOf fvs.toArray nf) ∈ rest) (hfb : fvs.length ≤ 200000)(ht : (S.lt, listOf tvs.toArray nt) ∈ rest) (htb : tvs.length ≤ 200000)(hx : fvs[f.toNat]? = some (.ref y)) (h0 : 0 ≤ f) (hy : (y, tup [.int fa t1, .int 1 t2] n) ∈ rest) (hva : ∀ p ∈ rest, p.1 ≠ va) (hxs : xs.length ≤ 100000) (hx2 : tvs[fa.toNat]? = some (.str (Str.ofString "-") tt)) (h1 : 0 ≤ fa) (hbits : (Builtin.Int.intBits (-j) : Int) ≤ 4096)
  (ret : ∀ h' tk t' nv', Fr h₀ L h' m → News h₀ L h' ((va, listOf (xs ++ [Value.int (-j) t']).toArray nv') :: rest) → Q .none { s with heap := h', toks := tk }) :
  wpAny (model PySem.Challenge.rw_rh0112_01.row.prog w) (ktrTop dp un gd cn cs L a ccd cl outer) (call (.ref 539) [.ref nm, .int f tf, .ref va, .int 4096 tm]) Q E s := by
  revert X; k_fill; intro X
  refine wpAny_call ?_
  k_dflt ktr_enter
  k_steps
  all_goals (first | exact ret _ _ _ _ (by k_asm) (by k_asm) | w_report)

end Mine
namespace Mine
local macro_rules | `(tactic| walk_at "exec While") => `(tactic| (k_here; k_dflt (refine whl_start 1 ?_)))
local macro_rules | `(tactic| walk_at "ite") => `(tactic| (k_here; first | (refine ite_pos (by first | with_reducible assumption | (simp only [beq_iff_eq, bne_iff_ne, decide_eq_true_eq, ne_eq]; omega)) ?_; walk_say "MY PRUNE") | (refine ite_neg (by first | with_reducible assumption | (simp only [beq_iff_eq, bne_iff_ne, decide_eq_true_eq, ne_eq]; omega)) ?_; walk_say "MY PRUNE")))
local macro_rules | `(tactic| walk_at "subscriptTail") => `(tactic| (k_here; (with_reducible show wpAny _ _ (subscriptTail _ _ (Value.ref _) (Value.int _ _)) _ _ _); (with_unfolding_all refine' item_abs ?k1 ?k2 ?k3 ?k4 ?k5 ?_ ?k6; (case k1 => k_asm); (case k2 => k_mem); (case k3 => assumption); (case k4 => first | assumption | omega); (case k5 => assumption); (case k6 => with_unfolding_all rfl); k_whole); walk_say "MY ITEM"))
local macro_rules | `(tactic| walk_at "compareOp In str ref") => `(tactic| (k_here; k_dflt (refine' in_tupK ?F ?X ?l ?w ?b ?_; (case F => k_asm); (case X => k_asm); (case l => k_is); (case w => kde_strs); (case b => exact rfl); k_whole); walk_say "MY IN"))
local macro_rules | `(tactic| walk_at "call builtin:list.append") => `(tactic| (k_here; (with_reducible show wpAny _ _ (call (Value.builtin _) [Value.ref _, _]) _ _ _); k_dflt (refine' append_L ?k1 ?k2 ?k3 ?z ?_; (case k1 => k_asm); (case k2 => k_asm); (case k3 => k_upd); (case z => first | assumption | omega | (simp only [List.length_append, List.length_cons, List.length_nil]; omega)); k_whole); intro h' F' N'; (try k_sweep); walk_say "MY APPEND"))
local macro_rules | `(tactic| walk_at "call builtin:list.pop") => `(tactic| (k_here; (with_reducible show wpAny _ _ (call (Value.builtin _) [Value.ref _]) _ _ _); k_dflt (refine' pop_L ?k1 ?k2 ?k3 ?z ?_; (case k1 => k_asm); (case k2 => k_asm); (case k3 => k_upd); (case z => first | assumption | omega | (simp only [List.length_append, List.length_cons, List.length_nil]; omega)); k_whole); intro h' F' N'; (try k_sweep); walk_say "MY POP"))
local macro_rules | `(tactic| k_all) => `(tactic| assumption)
local macro_rules | `(tactic| k_mem) => `(tactic| first | with_reducible exact List.Mem.head _ | assumption | (refine' List.Mem.tail _ ?_; k_mem))
local macro_rules | `(tactic| walk_at "truthy ref") => `(tactic| (k_here; (with_reducible show wpAny _ _ (truthy (Value.ref _)) _ _ _); k_dflt (refine' truthy_L ?k1 ?k2 ?k3 ?k4 ?_; (case k1 => k_asm); (case k2 => k_mem); (case k3 => first | assumption | (simp only [List.length_append, List.length_cons, List.length_nil]; omega)); (case k4 => first | exact some_true _ _ | exact none_false); k_whole); walk_say "MY TRUTH"))
local macro_rules | `(tactic| walk_at "call builtin:len") => `(tactic| (k_here; (with_reducible show wpAny _ _ (call (Value.builtin "len") [Value.ref _]) _ _ _); k_dflt (refine' len_L ?k1 ?k2 ?k3 ?_; (case k1 => k_asm); (case k2 => k_mem); (case k3 => first | assumption | (simp only [List.length_append, List.length_cons, List.length_nil]; omega)); k_whole); walk_say "MY LEN"))
theorem functorof_ok {w : World} {p : Program} {loose : List Str} {mean : ExcName → Option Value} {mg mb : Str → Option Value}
  {dp un : Nat} {gd : Option (List Code)} {cn : Str} {cs : Scope} {a : Addr} {ccd : Value} {cl : List (Str × Addr)} {outer : List Env} {A₀ : Around} {base h₀ : Heap} {L : Addr} {m : Str → Option Value} {news : List (Addr × Obj)} {s : Shared} {Q E : Value → Shared → Prop}
  {st sd : Addr} {S : StoreA} {sdn : Nat} {c : Addr} {v : Int} {t1 t2 : Tok} {n : Nat}{hvs : List Value} {nh : Nat} {y : Addr} {f : Int} {t3 t4 : Tok} {n' : Nat}
  (B : Below A₀ base outer h₀) (F : Fr h₀ L s.heap m) (X : (hd.heap_39 w.params).In h₀) (N : News h₀ L s.heap news) (T : Top p loose mean mg mb h₀) (hk : cs.kind = .function)
  (hdp : dp + 1 < recursionLimit) (hun : un + 10 < cLine)
  (hi : (st, instObj 423 sd) ∈ news) (hd : (sd, dictOf (storeE S) sdn) ∈ news)(hh : (S.hl, listOf hvs.toArray nh) ∈ news) (hb : hvs.length ≤ 200000) (hc : (c, tup [.int 2 t1, .int v t2] n) ∈ news) (h0 : 0 ≤ v) (hx : hvs[v.toNat]? = some (.ref y)) (hy : (y, tup [.int 6 t3, .int f t4] n') ∈ news)
  (ret : ∀ h' tk, Fr h₀ L h' m → News h₀ L h' news → Q (.int f t4) { s with heap := h', toks := tk }) :
  wpAny (model PySem.Challenge.rw_rh0112_01.row.prog w) (ktrTop dp un gd cn cs L a ccd cl outer) (call (.ref 335) [.ref st, .ref c]) Q E s := by
  revert X; k_fill; intro X
  refine wpAny_call ?_
  k_dflt ktr_enter
  k_steps
  all_goals (first | (refine ret _ _ ?_ ?_ <;> k_asm) | w_report)

end Mine
namespace Mine
local macro_rules | `(tactic| walk_at "exec While") => `(tactic| (k_here; k_dflt (refine whl_start 1 ?_)))
local macro_rules | `(tactic| walk_at "ite") => `(tactic| (k_here; first | (refine ite_pos (by first | with_reducible assumption | (simp only [beq_iff_eq, bne_iff_ne, decide_eq_true_eq, ne_eq]; omega)) ?_; walk_say "MY PRUNE") | (refine ite_neg (by first | with_reducible assumption | (simp only [beq_iff_eq, bne_iff_ne, decide_eq_true_eq, ne_eq]; omega)) ?_; walk_say "MY PRUNE")))
local macro_rules | `(tactic| walk_at "subscriptTail") => `(tactic| (k_here; (with_reducible show wpAny _ _ (subscriptTail _ _ (Value.ref _) (Value.int _ _)) _ _ _); (with_unfolding_all refine' item_abs ?k1 ?k2 ?k3 ?k4 ?k5 ?_ ?k6; (case k1 => k_asm); (case k2 => k_mem); (case k3 => assumption); (case k4 => first | assumption | omega); (case k5 => assumption); (case k6 => with_unfolding_all rfl); k_whole); walk_say "MY ITEM"))
local macro_rules | `(tactic| walk_at "compareOp In str ref") => `(tactic| (k_here; k_dflt (refine' in_tupK ?F ?X ?l ?w ?b ?_; (case F => k_asm); (case X => k_asm); (case l => k_is); (case w => kde_strs); (case b => exact rfl); k_whole); walk_say "MY IN"))
local macro_rules | `(tactic| walk_at "call builtin:list.append") => `(tactic| (k_here; (with_reducible show wpAny _ _ (call (Value.builtin _) [Value.ref _, _]) _ _ _); k_dflt (refine' append_L ?k1 ?k2 ?k3 ?z ?_; (case k1 => k_asm); (case k2 => k_asm); (case k3 => k_upd); (case z => first | assumption | omega | (simp only [List.length_append, List.length_cons, List.length_nil]; omega)); k_whole); intro h' F' N'; (try k_sweep); walk_say "MY APPEND"))
local macro_rules | `(tactic| walk_at "call builtin:list.pop") => `(tactic| (k_here; (with_reducible show wpAny _ _ (call (Value.builtin _) [Value.ref _]) _ _ _); k_dflt (refine' pop_L ?k1 ?k2 ?k3 ?z ?_; (case k1 => k_asm); (case k2 => k_asm); (case k3 => k_upd); (case z => first | assumption | omega | (simp only [List.length_append, List.length_cons, List.length_nil]; omega)); k_whole); intro h' F' N'; (try k_sweep); walk_say "MY POP"))
local macro_rules | `(tactic| k_all) => `(tactic| assumption)
local macro_rules | `(tactic| k_mem) => `(tactic| first | with_reducible exact List.Mem.head _ | assumption | (refine' List.Mem.tail _ ?_; k_mem))
local macro_rules | `(tactic| walk_at "truthy ref") => `(tactic| (k_here; (with_reducible show wpAny _ _ (truthy (Value.ref _)) _ _ _); k_dflt (refine' truthy_L ?k1 ?k2 ?k3 ?k4 ?_; (case k1 => k_asm); (case k2 => k_mem); (case k3 => first | assumption | (simp only [List.length_append, List.length_cons, List.length_nil]; omega)); (case k4 => first | exact some_true _ _ | exact none_false); k_whole); walk_say "MY TRUTH"))
local macro_rules | `(tactic| walk_at "call builtin:len") => `(tactic| (k_here; (with_reducible show wpAny _ _ (call (Value.builtin "len") [Value.ref _]) _ _ _); k_dflt (refine' len_L ?k1 ?k2 ?k3 ?_; (case k1 => k_asm); (case k2 => k_mem); (case k3 => first | assumption | (simp only [List.length_append, List.length_cons, List.length_nil]; omega)); k_whole); walk_say "MY LEN"))
local macro_rules | `(tactic| walk_at "setAttr ref") => `(tactic| (k_here; k_dflt (refine' exc_set (t := _) ?F ?X ?N ?hx ?hs ?hc ?hr ?hsub ?ht ?hh ?_; (case F => k_asm); (case X => k_asm); (case N => k_asm); (case hx => assumption); (case hs => k_is); (case hc => k_is); (case hr => (intro self; rw [refuseLoop_ref, refuseLoop_ref]; exact PySem.F.store_Exception.passes self)); (case hsub => k_is); (case ht => k_is); (case hh => rfl); k_whole); intro dx' h' key' F' N' l1; (try k_sweep); walk_say "EXC SET"))
theorem news_drop3 {h₀ h : Heap} {L : Addr} {a b c : Addr × Obj} {r : List (Addr × Obj)} (N : News h₀ L h (a :: b :: c :: r)) : News h₀ L h (a :: b :: r) := fun p hp => N p (by
  simp only [List.mem_cons] at hp ⊢
  rcases hp with hp | hp | hp
  · exact .inl hp
  · exact .inr (.inl hp)
  · exact .inr (.inr (.inr hp)))
theorem prolog_ok {w : World} {p : Program} {loose : List Str} {mean : ExcName → Option Value} {mg mb : Str → Option Value}
  {dp un : Nat} {gd : Option (List Code)} {cn : Str} {cs : Scope} {a : Addr} {ccd : Value} {cl : List (Str × Addr)} {outer : List Env} {A₀ : Around} {base h₀ : Heap} {L : Addr} {m : Str → Option Value} {news : List (Addr × Obj)} {s : Shared} {Q E : Value → Shared → Prop}
  {ball : Addr}
  (B : Below A₀ base outer h₀) (F : Fr h₀ L s.heap m) (X : (hd.heap_39 w.params).In h₀) (N : News h₀ L s.heap news) (T : Top p loose mean mg mb h₀) (hk : cs.kind = .function)
  (hdp : dp + 3 < recursionLimit) (hun : un + 30 < cLine)
  (ret : ∀ h' tk e dx t hsh key, Fr h₀ L h' m → News h₀ L h' ((dx, dictOf [⟨hsh, .str (Str.ofString "ball") key, .ref ball⟩] 1) :: (e, exc1 51 dx t) :: news) → (∀ p ∈ news, p.1 ≠ e ∧ p.1 ≠ dx) → dx ≠ e → Q (.ref e) { s with heap := h', toks := tk }) :
  wpAny (model PySem.Challenge.rw_rh0112_01.row.prog w) (ktrTop dp un gd cn cs L a ccd cl outer) (call (.ref 51) [.ref ball]) Q E s := by
  revert X; k_fill; intro X
  refine' exc_K PySem.F.excBase_Exception F N X (.own (A := 31) ?hA ?hN ?hni .base) ?hC ?hi ?hf (by rw [PySem.sizeLine_eq]; simp) (fun h' e t F' N' l1 l2 => ?body)
  case hC => k_is
  case hi => k_is
  case hf => k_is
  case hA => exact (X.keeps F.keep) _ _ (by k_is)
  case hN => exact ns_of (X.keeps F.keep) (by k_is) (by intro z hz; have hz := Array.mem_toList_iff.mpr hz; simp only [List.mem_cons, List.not_mem_nil, or_false] at hz; rcases hz with rfl | rfl | rfl | rfl | rfl <;> exact ⟨_, _, rfl⟩)
  case hni => rfl
  case body =>
    clear F N
    refine wpAny_call ?_
    k_dflt ktr_enter
    k_steps
    rename_i ll kF kN _ _
    have hte : t ≠ e := l1 (t, tup [Value.ref ball] 0) (.head _)
    exact ret _ _ e _ t _ _ kF (news_drop3 kN) (fun p hp => ⟨l1 p (.tail _ hp), Nat.ne_of_lt (ll p (.tail _ (.tail _ hp)))⟩) (Nat.ne_of_gt (ll _ (.head _)))

end Mine
namespace Mine
open PySem.Spec PyProof.V
/-- no list, no dict, no iterator -/
def Fixed (x : Obj) : Prop := x.cls = .type "tuple" ∨ ∃ c, x.cls = .ref c
theorem Fixed.tup {vs : List Value} {n : Nat} : Fixed (tup vs n) := .inl rfl
theorem not_fixed {x : Obj} {c : String} (h : x.cls = .type c) (hc : c ≠ "tuple") : ¬ Fixed x := by
  rintro (e | ⟨_, e⟩)
  · rw [h] at e; injection e with e; exact hc e
  · rw [h] at e; cases e
/-- the ledger after a change at some addresses -/
structure Keep (ds : List Addr) (r r' : List (Addr × Obj)) : Prop where
  ne : ∀ a x, (a, x) ∈ r → a ∉ ds → (a, x) ∈ r'
  cl : ∀ a x, (a, x) ∈ r → Fixed x → (a, x) ∈ r'
theorem Keep.any {ds : List Addr} {r r' : List (Addr × Obj)} (k : Keep ds r r') (a : Addr) (x : Obj) (h : (a, x) ∈ r) (c : Fixed x ∨ a ∉ ds) : (a, x) ∈ r' := c.elim (k.cl a x h) (k.ne a x h)
theorem Keep.refl (ds : List Addr) (r : List (Addr × Obj)) : Keep ds r r := ⟨fun _ _ h _ => h, fun _ _ h _ => h⟩
theorem Keep.cons (ds : List Addr) (r : List (Addr × Obj)) (p : Addr × Obj) : Keep ds r (p :: r) := ⟨fun _ _ h _ => .tail _ h, fun _ _ h _ => .tail _ h⟩
theorem Keep.trans {ds : List Addr} {r r' r'' : List (Addr × Obj)} (a : Keep ds r r') (b : Keep ds r' r'') : Keep ds r r'' :=
  ⟨fun _ _ h n => b.ne _ _ (a.ne _ _ h n) n, fun _ _ h n => b.cl _ _ (a.cl _ _ h n) n⟩
theorem Keep.wide {ds ds' : List Addr} {r r' : List (Addr × Obj)} (a : Keep ds r r') (s : ∀ d ∈ ds, d ∈ ds') : Keep ds' r r' := ⟨fun _ _ h n => a.ne _ _ h fun q => n (s _ q), a.cl⟩
theorem lt_at {r : List (Addr × Obj)} {a d : Addr} {o : Obj} (h : ∀ p ∈ r, p.1 < d) (hm : (a, o) ∈ r) : a ≠ d := Nat.ne_of_lt (h _ hm)
theorem off_at {r : List (Addr × Obj)} {I d : Addr} {o : Obj} (h : ∀ p ∈ r, p.1 ≠ I) (hm : (d, o) ∈ r) : I ≠ d := fun e => h _ hm e.symm
def offL (d : Addr) (r : List (Addr × Obj)) : List (Addr × Obj) := r.filter fun p => !(p.1 == d)
theorem offL_ne {d : Addr} {r : List (Addr × Obj)} : ∀ p ∈ offL d r, p.1 ≠ d := fun p hp => by simpa using (List.mem_filter.mp hp).2
theorem N_split {h₀ h : Heap} {L d : Addr} {o : Obj} {r : List (Addr × Obj)} (N : News h₀ L h r) (hm : (d, o) ∈ r) : News h₀ L h ((d, o) :: offL d r) := fun p hp => by
  rcases List.mem_cons.mp hp with rfl | hp
  · exact N _ hm
  · exact N _ (List.mem_filter.mp hp).1
theorem keep_offN {h₀ h : Heap} {L d : Addr} {o : Obj} {r : List (Addr × Obj)} (N : News h₀ L h r) (hm : (d, o) ∈ r) (ho : ¬ Fixed o) : Keep [d] r (offL d r) := by
  refine ⟨fun a x h n => List.mem_filter.mpr ⟨h, by simpa using n⟩, fun a x h n1 => List.mem_filter.mpr ⟨h, ?_⟩⟩
  simp only [Bool.not_eq_true', beq_eq_false_iff_ne]
  rintro rfl
  obtain rfl : x = o := Option.some.inj ((N.get h).symm.trans (N.get hm))
  exact ho n1
theorem keep_off {h₀ h : Heap} {L d : Addr} {o o' : Obj} {r : List (Addr × Obj)} (N : News h₀ L h r) (hm : (d, o) ∈ r) (ho : o.cls = .type "list" ∨ o.cls = .type "dict") : Keep [d] r ((d, o') :: offL d r) :=
  (keep_offN N hm (by rcases ho with e | e <;> exact not_fixed e (by decide))).trans ((Keep.cons [] _ _).wide (by simp))
def idx {α : Type} [DecidableEq α] (x : α) : List α → Option Nat
  | [] => none
  | y :: l => if y = x then some 0 else (idx x l).map (· + 1)
theorem idx_snoc {α : Type} [DecidableEq α] (x y : α) : ∀ l : List α, idx x (l ++ [y]) = (idx x l).or (if y = x then some l.length else none)
  | [] => by simp [idx]
  | z :: l => by
    simp only [List.cons_append, idx, idx_snoc x y l]
    by_cases h : z = x
    · simp [h]
    · simp only [h, if_false, List.length_cons]
      cases idx x l <;> by_cases h2 : y = x <;> simp [h2]
theorem idx_get {α : Type} [DecidableEq α] {x : α} : ∀ {l : List α} {n : Nat}, idx x l = some n → l[n]? = some x
  | y :: l, n, h => by
    simp only [idx] at h
    split at h
    · cases h; simpa using ‹y = x›
    · cases e : idx x l with
      | none => rw [e] at h; cases h
      | some m => rw [e] at h; cases h; simpa using idx_get e
structure SymSt (prog : Program) (w : World) (r : List (Addr × Obj)) (nm nd : Addr) (S : SymA) (ndn : Nat) (ts : List Str) (fs : List (Int × Int)) : Prop where
  i : (nm, instObj 154 nd) ∈ r
  d : (nd, dictOf (symE S) ndn) ∈ r
  t : ∃ tvs nt, (S.lt, listOf tvs.toArray nt) ∈ r ∧ StrsAre tvs ts
  a : ∃ od kvs D, (S.da, od) ∈ r ∧ od.IsDictOf (strKind prog w) kvs ∧ FlatPairs PyData.str kvs D ∧ (∀ x, PySem.Spec.lookup (.str x) D = (idx x ts).map fun n => PyData.int n) ∧ D.length ≤ ts.length ∧ (S.da == sysModules) = false
  f : ∃ fvs nf, (S.lf, listOf fvs.toArray nf) ∈ r ∧ CellsAre r fvs fs
  g : ∃ D, PyProof.Rows.TupTab (intKind prog w) PyData.int r S.df D ∧ (∀ a n, PySem.Spec.lookup (.tuple [.int a, .int n]) D = (idx (a, n) fs).map fun n => PyData.int n) ∧ D.length ≤ fs.length
  n0 : S.lt ≠ S.da
  n1 : S.lt ≠ S.lf
  n2 : S.lt ≠ S.df
  n3 : S.lt ≠ nd
  n4 : S.da ≠ S.lf
  n5 : S.da ≠ S.df
  n6 : S.da ≠ nd
  n7 : S.lf ≠ S.df
  n8 : S.lf ≠ nd
  n9 : S.df ≠ nd
  z1 : ts.length ≤ 1000
  z2 : fs.length ≤ 1000
abbrev symAt (S : SymA) : List Addr := [S.lt, S.da, S.lf, S.df]
section
variable {prog : Program} {w : World} {A : Around} {E : Value → Shared → Prop} {s : Shared} {h₀ : Heap} {L d : Addr} {m : Str → Option Value} {news : List (Addr × Obj)}
theorem append_M {l : List Value} {n : Nat} {x : Value} {Q : Value → Shared → Prop} (F : Fr h₀ L s.heap m) (N : News h₀ L s.heap news) (hm : (d, listOf l.toArray n) ∈ news) (hz : l.length ≤ 200000)
    (h : ∀ h' r', Fr h₀ L h' m → News h₀ L h' r' → (d, listOf (l ++ [x]).toArray (n + 1)) ∈ r' → Keep [d] news r' → Q .none { s with heap := h' }) : wpAny (model prog w) A (call (.builtin "list.append") [.ref d, x]) Q E s :=
  append_L F (N_split N hm) (.head offL_ne) hz fun h' F' N' => h h' _ F' N' (.head _) (keep_off N hm (.inl rfl))
theorem sget_M {od : Obj} {kvs : List (Str × Value)} {D : List (PyData × PyData)} {x : Str} {t u : Tok} {i : Int} {Q : Value → Shared → Prop} (N : News h₀ L s.heap news) (hm : (d, od) ∈ news) (lo : (d == sysModules) = false) (hd : od.IsDictOf (strKind prog w) kvs) (hf : FlatPairs PyData.str kvs D)
    (hg : (PySem.Spec.lookup (.str x) D).getD (.int (-1)) = .int i) (h : ∀ t', Q (.int i t') { s with toks := s.toks + 1 }) : wpAny (model prog w) A (call (.builtin "dict.get") [.ref d, .str x t, .int (-1) u]) Q E s :=
  PyProof.Rows.call_get2_strTab (TabAt.ofNews N hm lo hd hf) (Flat.int _ _) fun v hv => by rw [hg] at hv; obtain ⟨t', rfl⟩ := Flat.int_inv hv; exact h t'
theorem smeth_M {od : Obj} {kvs : List (Str × Value)} {D : List (PyData × PyData)} {pl : Sem Bool} {Q : Value × List Value → Shared → Prop} (N : News h₀ L s.heap news) (hm : (d, od) ∈ news) (lo : (d == sysModules) = false) (hd : od.IsDictOf (strKind prog w) kvs) (hf : FlatPairs PyData.str kvs D)
    (h : Q (.builtin "dict.get", [.ref d]) s) : wpAny (model prog w) A (getMethod (.ref d) "get" pl) Q E s := PyProof.Rows.getMethod_strTab_get (TabAt.ofNews N hm lo hd hf) h
theorem is_dict_cls {K : Type} [DecidableEq K] {knd : KeyKind prog w K} {o : Obj} {kvs : List (K × Value)} (h : o.IsDictOf knd kvs) : o.cls = .type "dict" := by
  obtain ⟨es, ep, hc, _⟩ := h
  exact hc.1
theorem sset_M {od : Obj} {kvs : List (Str × Value)} {D : List (PyData × PyData)} {x : Str} {t u : Tok} {i : Int} {Q : Unit → Shared → Prop} (F : Fr h₀ L s.heap m) (N : News h₀ L s.heap news) (hm : (d, od) ∈ news) (hd : od.IsDictOf (strKind prog w) kvs) (hf : FlatPairs PyData.str kvs D) (hz : D.length ≤ 100000)
    (h : ∀ h' r' o' kvs', Fr h₀ L h' m → News h₀ L h' r' → (d, o') ∈ r' → o'.IsDictOf (strKind prog w) kvs' → FlatPairs PyData.str kvs' (putD (.str x) (.int i) D) → Keep [d] news r' → Q () { s with heap := h', toks := s.toks + 1 }) :
    wpAny (model prog w) A (setItem (.ref d) (.str x t) (.int i u)) Q E s :=
  setItem_K same_str (strKind_is _ _ _ _) (Flat.int _ _) F (N_split N hm) (.head offL_ne) hd hf (fun h' o' F' N' a b => h h' _ o' _ F' N' (.head _) a b (keep_off N hm (.inr (is_dict_cls hd)))) (by rw [PySem.sizeLine_eq]; omega)
theorem key2 {a n : Int} {t1 t2 : Tok} (prog : Program) (w : World) : PyProof.Rows.TupKeyObj (intKind prog w) [a, n] (tup [.int a t1, .int n t2] 0) := .made (.cons (intKind_is _ _ _ _) (.cons (intKind_is _ _ _ _) .nil))
theorem tmeth_M {D : List (PyData × PyData)} {pl : Sem Bool} {Q : Value × List Value → Shared → Prop} (N : News h₀ L s.heap news) (T : PyProof.Rows.TupTab (intKind prog w) PyData.int news d D)
    (h : Q (.builtin "dict.get", [.ref d]) s) : wpAny (model prog w) A (getMethod (.ref d) "get" pl) Q E s := PyProof.Rows.getMethod_tupTab_get N T h
theorem tget_M {D : List (PyData × PyData)} {k : Addr} {a n : Int} {t1 t2 u : Tok} {i : Int} {Q : Value → Shared → Prop} (hu : A.units + 1 < cLine) (N : News h₀ L s.heap news) (T : PyProof.Rows.TupTab (intKind prog w) PyData.int news d D) (hk : (k, tup [.int a t1, .int n t2] 0) ∈ news)
    (hg : (PySem.Spec.lookup (.tuple [.int a, .int n]) D).getD (.int (-1)) = .int i) (h : ∀ t', Q (.int i t') { s with toks := s.toks + 3 }) : wpAny (model prog w) A (call (.builtin "dict.get") [.ref d, .ref k, .int (-1) u]) Q E s :=
  PyProof.Rows.call_get2_tupTab_eq (ks := [a, n]) same_int hu N T hk (key2 prog w) (Flat.int _ _) hg fun v hv => by obtain ⟨t', rfl⟩ := Flat.int_inv hv; exact h t'
theorem tset_M {D : List (PyData × PyData)} {k : Addr} {a n : Int} {t1 t2 u : Tok} {i : Int} {Q : Unit → Shared → Prop} (hu : A.units + 1 < cLine) (F : Fr h₀ L s.heap m) (N : News h₀ L s.heap news) (T : PyProof.Rows.TupTab (intKind prog w) PyData.int news d D) (hk : (k, tup [.int a t1, .int n t2] 0) ∈ news) (hz : D.length ≤ 100000)
    (h : ∀ h' r', Fr h₀ L h' m → News h₀ L h' r' → PyProof.Rows.TupTab (intKind prog w) PyData.int r' d (putD (.tuple [.int a, .int n]) (.int i) D) → Keep [d] news r' → Q () { s with heap := h', toks := s.toks + 3 }) :
    wpAny (model prog w) A (setItem (.ref d) (.ref k) (.int i u)) Q E s := by
  refine PyProof.Rows.setItem_tupTab (ks := [a, n]) (ok := tup [.int a t1, .int n t2] 0) same_int hu (Flat.int _ _) F N T hk (key2 prog w) (fun h' r' F' N' T' _ kp => h h' r' F' N' T' ⟨fun b x hb n => kp _ hb (by simpa using n), fun b x hb n2 => kp _ hb ?_⟩) (by rw [PySem.sizeLine_eq]; omega)
  rintro rfl
  obtain ⟨_, o, es, ep, xs, hm, hc, _⟩ := T
  obtain rfl : x = o := Option.some.inj ((N.get hb).symm.trans (N.get hm))
  exact not_fixed hc.1 (by decide) n2
theorem tupTab_keep {D : List (PyData × PyData)} {ds : List Addr} {r r' : List (Addr × Obj)} (T : PyProof.Rows.TupTab (intKind prog w) PyData.int r d D) (k : Keep ds r r') (hd : d ∉ ds) : PyProof.Rows.TupTab (intKind prog w) PyData.int r' d D := by
  obtain ⟨lo, o, es, ep, xs, hm, hc, hdt, he, hn, hk, hf⟩ := T
  refine ⟨lo, o, es, ep, xs, k.ne _ _ hm hd, hc, hdt, he, hn, fun x hx => ?_, hf⟩
  obtain ⟨ok, hmk, t⟩ := hk x hx
  exact ⟨ok, k.cl _ _ hmk (.inl t.1), t⟩
theorem cellsAre_keep {vs : List Value} {H : List (Int × Int)} {ds : List Addr} {r r' : List (Addr × Obj)} (C : CellsAre r vs H) (k : Keep ds r r') : CellsAre r' vs H := by
  refine ⟨C.1, fun i c hc => ?_⟩
  obtain ⟨v, e, x, t1, t2, n, e2, hm⟩ := C.2 i c hc
  exact ⟨v, e, x, t1, t2, n, e2, k.cl _ _ hm .tup⟩
theorem SymSt.keep {nm nd : Addr} {S : SymA} {ndn : Nat} {ts : List Str} {fs : List (Int × Int)} {ds : List Addr} {r r' : List (Addr × Obj)} (h : SymSt prog w r nm nd S ndn ts fs) (k : Keep ds r r') (hd : ∀ d ∈ [S.lt, S.da, S.lf, S.df, nd], d ∉ ds) : SymSt prog w r' nm nd S ndn ts fs := by
  obtain ⟨hi, hdd, ⟨tvs, nt, ht, hts⟩, ⟨od, kvs, D, hod, hod1, hod2, hlk, hDl, hlo⟩, ⟨fvs, nf, hf, hfs⟩, ⟨D2, hT, hlk2, hDl2⟩, n0, n1, n2, n3, n4, n5, n6, n7, n8, n9, z1, z2⟩ := h
  have e1 := hd S.lt (by simp)
  have e2 := hd S.da (by simp)
  have e3 := hd S.lf (by simp)
  have e4 := hd S.df (by simp)
  have e5 := hd nd (by simp)
  exact ⟨k.cl _ _ hi (.inr ⟨_, rfl⟩), k.ne _ _ hdd e5, ⟨tvs, nt, k.ne _ _ ht e1, hts⟩, ⟨od, kvs, D, k.ne _ _ hod e2, hod1, hod2, hlk, hDl, hlo⟩, ⟨fvs, nf, k.ne _ _ hf e3, cellsAre_keep hfs k⟩,
    ⟨D2, tupTab_keep hT k e4, hlk2, hDl2⟩, n0, n1, n2, n3, n4, n5, n6, n7, n8, n9, z1, z2⟩
theorem SymSt.keep1 {nm nd z : Addr} {S : SymA} {ndn : Nat} {ts : List Str} {fs : List (Int × Int)} {r r' : List (Addr × Obj)} (h : SymSt prog w r nm nd S ndn ts fs) (k : Keep [z] r r') (h1 : S.lt ≠ z) (h2 : S.da ≠ z) (h3 : S.lf ≠ z) (h4 : S.df ≠ z) (h5 : nd ≠ z) : SymSt prog w r' nm nd S ndn ts fs :=
  h.keep k fun d hd => by
    simp only [List.mem_cons, List.not_mem_nil, or_false] at hd ⊢
    rcases hd with rfl | rfl | rfl | rfl | rfl
    · exact h1
    · exact h2
    · exact h3
    · exact h4
    · exact h5
/-- another address than those of the Symbols' own objects -/
def OffS (S : SymA) (nd z : Addr) : Prop := z ∉ [S.lt, S.da, S.lf, S.df, nd]
theorem OffS.sym {S : SymA} {nd z : Addr} (h : OffS S nd z) : z ∉ symAt S := fun q => h (by
  simp only [symAt, List.mem_cons, List.not_mem_nil, or_false] at q ⊢
  rcases q with q | q | q | q
  · exact .inl q
  · exact .inr (.inl q)
  · exact .inr (.inr (.inl q))
  · exact .inr (.inr (.inr (.inl q))))
theorem OffS.nd {S : SymA} {nd z : Addr} (h : OffS S nd z) : nd ∉ [z] := fun q => h (by
  rw [List.mem_singleton.mp q]; simp)
theorem SymSt.keepO {nm nd z : Addr} {S : SymA} {ndn : Nat} {ts : List Str} {fs : List (Int × Int)} {r r' : List (Addr × Obj)} (h : SymSt prog w r nm nd S ndn ts fs) (k : Keep [z] r r') (o : OffS S nd z) : SymSt prog w r' nm nd S ndn ts fs :=
  h.keep k fun d hd q => o (by rw [List.mem_singleton.mp q] at hd; exact hd)
theorem SymSt.mem4 {nm nd : Addr} {S : SymA} {ndn : Nat} {ts : List Str} {fs : List (Int × Int)} {r : List (Addr × Obj)} (h : SymSt prog w r nm nd S ndn ts fs) : ∃ o1 o2 o3 o4, (S.lt, o1) ∈ r ∧ (S.da, o2) ∈ r ∧ (S.lf, o3) ∈ r ∧ (S.df, o4) ∈ r := by
  obtain ⟨tvs, nt, ht, _⟩ := h.t
  obtain ⟨od, _, _, ha, _⟩ := h.a
  obtain ⟨fvs, nf, hf, _⟩ := h.f
  obtain ⟨_, ⟨_, o, _, _, _, hg, _⟩, _⟩ := h.g
  exact ⟨_, _, _, _, ht, ha, hf, hg⟩
theorem cellsAre_snoc {r : List (Addr × Obj)} {vs : List Value} {H : List (Int × Int)} {k : Addr} {a n : Int} {t1 t2 : Tok} {z : Nat} (h : CellsAre r vs H) (hm : (k, tup [.int a t1, .int n t2] z) ∈ r) : CellsAre r (vs ++ [.ref k]) (H ++ [(a, n)]) := by
  refine ⟨by simp [h.1], fun i c hc => ?_⟩
  by_cases e : i < H.length
  · rw [List.getElem?_append_left e] at hc
    obtain ⟨v, q1, q2⟩ := h.2 i c hc
    exact ⟨v, by rw [List.getElem?_append_left (by rw [h.1]; exact e)]; exact q1, q2⟩
  · rw [List.getElem?_append_right (by omega)] at hc
    have e2 : i - H.length = 0 := by
      have := (List.getElem?_eq_some_iff.mp hc).1
      simp at this; omega
    rw [e2] at hc
    simp only [List.getElem?_cons_zero, Option.some.injEq] at hc
    subst hc
    refine ⟨.ref k, ?_, k, t1, t2, z, rfl, hm⟩
    rw [List.getElem?_append_right (by rw [h.1]; omega), h.1, e2]
    rfl
def intern {α : Type} [DecidableEq α] (x : α) (l : List α) : Int × List α := match idx x l with
  | some i => (i, l)
  | none => (l.length, l ++ [x])
theorem SymSt.offNew {z nm nd : Addr} {S : SymA} {ndn : Nat} {ts : List Str} {fs : List (Int × Int)} {r : List (Addr × Obj)} (l : ∀ p ∈ r, p.1 < z) (h : SymSt prog w r nm nd S ndn ts fs) : OffS S nd z := by
  obtain ⟨o1, o2, o3, o4, h1, h2, h3, h4⟩ := h.mem4
  intro q
  simp only [List.mem_cons, List.not_mem_nil, or_false] at q
  rcases q with q | q | q | q | q
  · exact absurd (l _ h1) (q ▸ Nat.lt_irrefl _)
  · exact absurd (l _ h2) (q ▸ Nat.lt_irrefl _)
  · exact absurd (l _ h3) (q ▸ Nat.lt_irrefl _)
  · exact absurd (l _ h4) (q ▸ Nat.lt_irrefl _)
  · exact absurd (l _ h.d) (q ▸ Nat.lt_irrefl _)
end
end Mine
namespace Mine
open PySem.Spec PyProof.V
section
variable {prog : Program} {w : World} {A : Around} {E : Value → Shared → Prop} {s : Shared} {env : Env} {h₀ : Heap} {x : Str} {body : List Stmt} {Q : Flow → Shared → Prop}
theorem UnrEnd.introM {L I : Addr} {it : Obj} {rest : (Str → Option Value) → List (Addr × Obj) → Prop} {s₁ : Shared} {h' : Heap} {tk : Nat} {m' : Str → Option Value} {r' : List (Addr × Obj)} (F : Fr h₀ L h' m') (N : News h₀ L h' r')
    (hI : (I, it) ∈ r') (r : rest m' (offL I r')) : UnrEnd h₀ L s₁ I it rest { s₁ with heap := h', toks := tk } :=
  ⟨h', tk, m', _, rfl, F, N_split N hI, offL_ne, r⟩
theorem UnrEnd.introM2 {L I : Addr} {it : Obj} {rest : (Str → Option Value) → List (Addr × Obj) → Prop} {s₁ : Shared} {h' : Heap} {tk : Nat} {m' : Str → Option Value} {r' : List (Addr × Obj)} (F : Fr h₀ L h' m') (N : News h₀ L h' r')
    (hI : (I, it) ∈ r') (hf : ¬ Fixed it) (r : ∀ q, Keep [I] r' q → (∀ p ∈ q, p.1 ≠ I) → rest m' q) : UnrEnd h₀ L s₁ I it rest { s₁ with heap := h', toks := tk } :=
  ⟨h', tk, m', _, rfl, F, N_split N hI, offL_ne, r _ (keep_offN N hI hf) offL_ne⟩
theorem seq_core {I ax : Addr} {lo : Obj} {vs : List Value} {St : Nat → Heap → Prop} {hI : Heap} {m₀ : Str → Option Value} {news : List (Addr × Obj)} (Inv : List Value → (Str → Option Value) → List (Addr × Obj) → Prop)
    (W : Walks prog w A I [I, ax] [I] vs.length (fun i v => vs.toArray[i]? = some v) St) (hIL : env.locals ≠ I) (haxL : env.locals ≠ ax) (hnew : h₀.get? I = none) (hoffI : ∀ p ∈ news, p.1 ≠ I)
    (hst0 : St 0 hI) (hstI : ∀ i h, St i h → ∃ it, h.get? I = some it ∧ ¬ Fixed it)
    (F : Fr h₀ env.locals hI m₀) (N : News h₀ env.locals hI news) (hm : (ax, lo) ∈ news) (h0 : Inv vs m₀ news)
    (turn : ∀ v rest r it h tk (m₁ : Str → Option Value), Inv (v :: rest) m₁ r → (ax, lo) ∈ r → (∀ p ∈ r, p.1 ≠ I) → ¬ Fixed it → Fr h₀ env.locals h (fun y => if y = x then some v else m₁ y) → News h₀ env.locals h ((I, it) :: r) →
      wpAny (model prog w) A (execs body env) (UnrPost h₀ env.locals { s with heap := h, toks := tk } I it (fun m' n' => (ax, lo) ∈ n' ∧ Inv rest m' n') Q) E { s with heap := h, toks := tk })
    (done : ∀ r h tk (m₁ : Str → Option Value), Inv [] m₁ r → Fr h₀ env.locals h m₁ → News h₀ env.locals h r → Q .next { s with heap := h, toks := tk }) :
    LoopAtV prog w A h₀ env x body Q E (.ref I) { s with heap := hI } := by
  let J : Nat → (Str → Option Value) → List (Addr × Obj) → Prop := fun i m₁ news₁ => (ax, lo) ∈ news₁ ∧ Inv (vs.drop i) m₁ news₁
  refine ⟨I, _, _, vs.length, _, _, m₀, news, J, rfl, W, ?_, ?_, ?_, hst0, F, N, ⟨hm, by rw [List.drop_zero]; exact h0⟩, ?_, ?_⟩
  · intro hmm
    rcases List.mem_cons.mp hmm with e | hmm
    · exact hIL e
    · exact haxL (List.mem_singleton.mp hmm)
  · intro b hb
    rw [List.mem_singleton.mp hb]
    exact hnew
  · intro p hp hI
    exact hoffI p hp (List.mem_singleton.mp hI)
  · rintro i v m₁ news₁ s₁ own ⟨hh', tk', rfl⟩ hin hP ⟨hmem₁, hJ⟩ hoff hown hget hall hst F₁ N₁
    obtain ⟨it, hit, hif⟩ := hstI _ _ hst
    have hmemI := hall I (List.mem_cons_self ..) hnew _ hit
    have hdrop : vs.drop i = v :: vs.drop (i + 1) := by
      have hlt' : i < vs.length := hin
      have hv : vs[i]? = some v := by simpa using hP
      rw [List.drop_eq_getElem_cons hlt']
      congr 1
      exact Option.some.inj ((List.getElem?_eq_getElem hlt').symm.trans hv)
    rw [hdrop] at hJ
    have N₂ : News h₀ env.locals hh' ((I, it) :: news₁) := fun p hp => by
      rcases List.mem_cons.mp hp with rfl | hp
      · exact N₁ _ (List.mem_append_left _ hmemI)
      · exact N₁ _ (List.mem_append_right _ hp)
    refine wpAny_mono (turn v _ news₁ it hh' tk' m₁ hJ hmem₁ (fun p hp hI => hoff p hp (List.mem_singleton.mpr hI)) hif F₁ N₂) (fun f s₂ p => ?_) fun _ _ e => e
    have fin : UnrEnd h₀ env.locals { s with heap := hh', toks := tk' } I it (fun m' n' => (ax, lo) ∈ n' ∧ Inv (vs.drop (i + 1)) m' n') s₂ →
        LoopStepU h₀ env.locals [I] own (J (i + 1)) { s with heap := hh', toks := tk' } .next s₂ := by
      rintro ⟨h', tk, m', news', e, F', N', ho, hmm, r1⟩
      refine ⟨rfl, h', tk, m', news', e, F', fun p hp => ?_, fun p hp hI => ho p hp (List.mem_singleton.mp hI), hmm, r1⟩
      rcases List.mem_append.mp hp with hp | hp
      · have h2 : hh'.get? p.1 = some p.2 := hget p hp
        rcases List.mem_cons.mp (hown p hp) with h1 | h1
        · have h3 : p = (I, it) := by
            rw [h1, hit] at h2
            exact Prod.ext h1 (Option.some.inj h2).symm
          rw [h3]; exact N' _ (List.mem_cons_self ..)
        · have h1' : p.1 = ax := List.mem_singleton.mp h1
          have h3 : p = (ax, lo) := by
            rw [h1', (N₁ _ (List.mem_append_right _ hmem₁)).1] at h2
            exact Prod.ext h1' (Option.some.inj h2).symm
          rw [h3]; exact N' _ (List.mem_cons_of_mem _ hmm)
      · exact N' _ (List.mem_cons_of_mem _ hp)
    cases f with
    | ret v => exact .ret p
    | brk => exact .brk p
    | next => exact .next (fin p)
    | cont => exact .cont (fin p)
  · rintro h' tk m' news' F' N' _ ⟨_, hJ⟩
    have z : vs.drop vs.length = [] := List.drop_length
    rw [z] at hJ
    exact done news' h' tk m' hJ F' N'
theorem allLt_at {r : List (Addr × Obj)} {a d : Addr} {o : Obj} (h : AllLt d r) (hm : (a, o) ∈ r) : a ≠ d := Nat.ne_of_lt (aux r h _ hm)
where aux : ∀ l : List (Addr × Obj), AllLt d l → ∀ p ∈ l, p.1 < d
  | [], _, _, h => nomatch h
  | q :: r, ⟨h1, h2⟩, p, h => by
    rcases List.mem_cons.mp h with rfl | h
    · exact h1
    · exact aux r h2 p h
/-- turn by turn -/
def SeqRest (prog : Program) (w : World) (A : Around) (E : Value → Shared → Prop) (h₀ : Heap) (env : Env) (x : Str) (body : List Stmt) (Q : Flow → Shared → Prop) (s : Shared) (I : Addr) (lp : Addr × Obj) : List Value → (Str → Option Value) → List (Addr × Obj) → Prop
  | [], m, news => ∀ h tk, Fr h₀ env.locals h m → News h₀ env.locals h news → Q .next { s with heap := h, toks := tk }
  | v :: r, m, news => ∀ it h tk, (∀ p ∈ news, p.1 ≠ I) → ¬ Fixed it → Fr h₀ env.locals h (fun y => if y = x then some v else m y) → News h₀ env.locals h ((I, it) :: news) →
      wpAny (model prog w) A (execs body env) (UnrPost h₀ env.locals { s with heap := h, toks := tk } I it (fun m' n' => lp ∈ n' ∧ SeqRest prog w A E h₀ env x body Q s I lp r m' n') Q) E { s with heap := h, toks := tk }
theorem SeqRest.zero {I : Addr} {lp : Addr × Obj} {m : Str → Option Value} {news : List (Addr × Obj)} (h : ∀ h tk, Fr h₀ env.locals h m → News h₀ env.locals h news → Q .next { s with heap := h, toks := tk }) :
    SeqRest prog w A E h₀ env x body Q s I lp [] m news := h
theorem SeqRest.succ {I : Addr} {lp : Addr × Obj} {v : Value} {r : List Value} {m : Str → Option Value} {news : List (Addr × Obj)}
    (h : ∀ it h tk, (∀ p ∈ news, p.1 ≠ I) → ¬ Fixed it → Fr h₀ env.locals h (fun y => if y = x then some v else m y) → News h₀ env.locals h ((I, it) :: news) →
      wpAny (model prog w) A (execs body env) (UnrPost h₀ env.locals { s with heap := h, toks := tk } I it (fun m' n' => lp ∈ n' ∧ SeqRest prog w A E h₀ env x body Q s I lp r m' n') Q) E { s with heap := h, toks := tk }) :
    SeqRest prog w A E h₀ env x body Q s I lp (v :: r) m news := h
theorem iter_tupU {ax : Addr} {vs : List Value} {n : Nat} {m₀ : Str → Option Value} {news : List (Addr × Obj)}
    (hh : A.handled = none) (F : Fr h₀ env.locals s.heap m₀) (N : News h₀ env.locals s.heap news) (hm : (ax, tup vs n) ∈ news)
    (rest : ∀ I : Addr, (∀ p ∈ news, p.1 < I) → SeqRest prog w A E h₀ env x body Q s I (ax, tup vs n) vs m₀ news) :
    wpAny (model prog w) A (pyIter (.ref ax)) (fun it s₂ => LoopAtV prog w A h₀ env x body Q E it s₂) E s := by
  have hax := N _ hm
  have hl : s.heap.IsTuple ax vs.toArray := ⟨_, hax.1, rfl, n, rfl⟩
  have hlt : ax < s.heap.objs.size := Heap.lt_size hax.1
  have hne : ax ≠ s.heap.objs.size := Nat.ne_of_lt hlt
  refine wpAny_pyIter_tuple hl ?_
  have W := Walks.tuple (prog := prog) (w := w) hh s.heap.objs.size ax hne vs.toArray
  have hlen : vs.toArray.size = vs.length := by simp
  rw [hlen] at W
  exact seq_core (fun l m r => SeqRest prog w A E h₀ env x body Q s s.heap.objs.size (ax, tup vs n) l m r) W (fun e => absurd F.ns.lt (e ▸ Nat.lt_irrefl _)) (fun e => hax.2.1 e.symm) (next_is_new F) (fun p hp e => absurd (Heap.lt_size (N p hp).1) (e ▸ Nat.lt_irrefl _))
    ⟨⟨_, Heap.get?_push_size _ rfl, rfl, rfl⟩, hl.at fun o e => Heap.get?_push_of_some _ e⟩ (fun i h st => let ⟨it, hit, hic, _⟩ := st.1; ⟨it, hit, not_fixed hic (by decide)⟩) (F.push _) (fun p hp => ⟨Heap.get?_push_of_some _ (N p hp).1, (N p hp).2⟩) hm (rest _ fun p hp => Heap.lt_size (N p hp).1)
    (fun v rest r it h tk m₁ hr _ ho hf F N => hr it h tk ho hf F N) (fun r h tk m₁ hr F N => hr h tk F N)
theorem iter_lstU {ax : Addr} {vs : List Value} {n : Nat} {m₀ : Str → Option Value} {news : List (Addr × Obj)}
    (hh : A.handled = none) (F : Fr h₀ env.locals s.heap m₀) (N : News h₀ env.locals s.heap news) (hm : (ax, listOf vs.toArray n) ∈ news)
    (rest : ∀ I : Addr, (∀ p ∈ news, p.1 < I) → SeqRest prog w A E h₀ env x body Q s I (ax, listOf vs.toArray n) vs m₀ news) :
    wpAny (model prog w) A (pyIter (.ref ax)) (fun it s₂ => LoopAtV prog w A h₀ env x body Q E it s₂) E s := by
  have hax := N _ hm
  have hl : s.heap.IsList ax vs.toArray := ⟨_, hax.1, rfl, n, rfl⟩
  have hlt : ax < s.heap.objs.size := Heap.lt_size hax.1
  have hne : ax ≠ s.heap.objs.size := Nat.ne_of_lt hlt
  refine wpAny_pyIter_list hl ?_
  have W := Walks.list (prog := prog) (w := w) hh s.heap.objs.size ax hne vs.toArray
  have hlen : vs.toArray.size = vs.length := by simp
  rw [hlen] at W
  exact seq_core (fun l m r => SeqRest prog w A E h₀ env x body Q s s.heap.objs.size (ax, listOf vs.toArray n) l m r) W (fun e => absurd F.ns.lt (e ▸ Nat.lt_irrefl _)) (fun e => hax.2.1 e.symm) (next_is_new F) (fun p hp e => absurd (Heap.lt_size (N p hp).1) (e ▸ Nat.lt_irrefl _))
    ⟨⟨_, Heap.get?_push_size _ rfl, rfl, rfl⟩, hl.at fun o e => Heap.get?_push_of_some _ e⟩ (fun i h st => let ⟨it, hit, hic, _⟩ := st.1; ⟨it, hit, not_fixed hic (by decide)⟩) (F.push _) (fun p hp => ⟨Heap.get?_push_of_some _ (N p hp).1, (N p hp).2⟩) hm (rest _ fun p hp => Heap.lt_size (N p hp).1)
    (fun v rest r it h tk m₁ hr _ ho hf F N => hr it h tk ho hf F N) (fun r h tk m₁ hr F N => hr h tk F N)
theorem seq_stored {I : Addr} {lp : Addr × Obj} {m₀ : Str → Option Value} (stored : List Str) (Inv : List Value → List (Addr × Obj) → Prop)
    (turn : ∀ v rest r it h tk (u : Str → Option Value), Inv (v :: rest) r → lp ∈ r → (∀ p ∈ r, p.1 ≠ I) → ¬ Fixed it → Fr h₀ env.locals h (fun y => if y = x then some v else if stored.contains y then u y else m₀ y) → News h₀ env.locals h ((I, it) :: r) →
      wpAny (model prog w) A (execs body env) (UnrPost h₀ env.locals { s with heap := h, toks := tk } I it (fun m' n' => lp ∈ n' ∧ Inv rest n' ∧ ∀ y, y ≠ x → stored.contains y = false → m' y = m₀ y) Q) E { s with heap := h, toks := tk })
    (done : ∀ r h tk (u : Str → Option Value), Inv [] r → Fr h₀ env.locals h (fun y => if y = x then u y else if stored.contains y then u y else m₀ y) → News h₀ env.locals h r → Q .next { s with heap := h, toks := tk }) :
    ∀ vs m r, lp ∈ r → Inv vs r → (∀ y, y ≠ x → stored.contains y = false → m y = m₀ y) → SeqRest prog w A E h₀ env x body Q s I lp vs m r
  | [], m, r, _, hI, hm => fun h tk F N => done r h tk m hI (by
      have e : (fun y => if y = x then m y else if stored.contains y then m y else m₀ y) = m := by
        funext y
        by_cases h1 : y = x
        · simp [h1]
        · simp only [if_neg h1]
          cases h2 : stored.contains y with
          | true => simp
          | false => simp only [Bool.false_eq_true, if_false]; exact (hm y h1 h2).symm
      rw [e]; exact F) N
  | v :: rest, m, r, hl, hI, hm => fun it h tk ho hf F N => by
      have e : (fun y => if y = x then some v else m y) = fun y => if y = x then some v else if stored.contains y then m y else m₀ y := by
        funext y
        by_cases h1 : y = x
        · simp [h1]
        · simp only [if_neg h1]
          cases h2 : stored.contains y with
          | true => simp
          | false => simp only [Bool.false_eq_true, if_false]; exact hm y h1 h2
      rw [e] at F
      refine wpAny_mono (turn v rest r it h tk m hI hl ho hf F N) (fun f s₂ p => ?_) fun _ _ e => e
      have up : UnrEnd h₀ env.locals { s with heap := h, toks := tk } I it (fun m' n' => lp ∈ n' ∧ Inv rest n' ∧ ∀ y, y ≠ x → stored.contains y = false → m' y = m₀ y) s₂ →
          UnrEnd h₀ env.locals { s with heap := h, toks := tk } I it (fun m' n' => lp ∈ n' ∧ SeqRest prog w A E h₀ env x body Q s I lp rest m' n') s₂ := by
        rintro ⟨h', tk', m', n', e, F', N', o', a, b, c⟩
        exact ⟨h', tk', m', n', e, F', N', o', a, seq_stored stored Inv turn done rest m' n' a b c⟩
      cases f with
      | ret v => exact p
      | brk => exact p
      | next => exact up p
      | cont => exact up p
end
end Mine
namespace Mine
open PySem.Spec PyProof.V
def RTs (r : List (Addr × Obj)) (vs : List Value) (ds : List PyData) : Prop := ∃ sub : List (Addr × Obj), (∀ p ∈ sub, p ∈ r ∧ Fixed p.2) ∧ ∀ h : Heap, (∀ p ∈ sub, h.get? p.1 = some p.2) → ReadsAll h vs ds []
/-- the value reads as this datum, by tuples of the ledger alone -/
def RT (r : List (Addr × Obj)) (v : Value) (d : PyData) : Prop := ∃ sub : List (Addr × Obj), (∀ p ∈ sub, p ∈ r ∧ Fixed p.2) ∧ ∀ h : Heap, (∀ p ∈ sub, h.get? p.1 = some p.2) → Reads h v d []
/-- the dict of a PrologError whose ball's formal term reads as d -/
def BallAt (r : List (Addr × Obj)) (dx : Addr) (d : PyData) : Prop :=
  ∃ hsh key b n v0 v1 q nq g v2, (dx, dictOf [⟨hsh, .str (Str.ofString "ball") key, .ref b⟩] 1) ∈ r ∧ (b, tup [v0, v1, .ref q] n) ∈ r ∧ (q, tup [.ref g, v2] nq) ∈ r ∧ RT r (.ref g) d
section
variable {r r' : List (Addr × Obj)} {v : Value} {d : PyData} {vs : List Value} {ds : List PyData}
theorem RT.int (i : Int) (t : Tok) : RT r (.int i t) (.int i) := ⟨[], (fun _ h => nomatch h), fun _ _ => .int _ _⟩
theorem RT.str (x : Str) (t : Tok) : RT r (.str x t) (.str x) := ⟨[], (fun _ h => nomatch h), fun _ _ => .str _ _⟩
theorem RTs.nil : RTs r [] [] := ⟨[], (fun _ h => nomatch h), fun _ _ => .nil⟩
theorem RTs.cons (a : RT r v d) (b : RTs r vs ds) : RTs r (v :: vs) (d :: ds) := by
  obtain ⟨s1, k1, f1⟩ := a
  obtain ⟨s2, k2, f2⟩ := b
  refine ⟨s1 ++ s2, fun p hp => ?_, fun h hh => ?_⟩
  · rcases List.mem_append.mp hp with hp | hp
    · exact k1 p hp
    · exact k2 p hp
  · exact PyProof.Rows.readsAll_cons_val (f1 h fun p hp => hh p (List.mem_append_left _ hp)) (f2 h fun p hp => hh p (List.mem_append_right _ hp))
theorem RT.tup {x : Addr} {n : Nat} (hm : (x, tup vs n) ∈ r) (a : RTs r vs ds) : RT r (.ref x) (.tuple ds) := by
  obtain ⟨s1, k1, f1⟩ := a
  refine ⟨(x, Mine.tup vs n) :: s1, fun p hp => ?_, fun h hh => ?_⟩
  · rcases List.mem_cons.mp hp with rfl | hp
    · exact ⟨hm, .tup⟩
    · exact k1 p hp
  · exact PyProof.Rows.reads_tuple_at (hh _ (.head _)) rfl rfl (f1 h fun p hp => hh p (.tail _ hp))
theorem RT.keep {ks : List Addr} (a : RT r v d) (k : Keep ks r r') : RT r' v d := by
  obtain ⟨s1, k1, f1⟩ := a
  exact ⟨s1, fun p hp => ⟨k.cl _ _ (k1 p hp).1 (k1 p hp).2, (k1 p hp).2⟩, f1⟩
theorem RT.sub (a : RT r v d) (k : ∀ p ∈ r, p ∈ r') : RT r' v d := by
  obtain ⟨s1, k1, f1⟩ := a
  exact ⟨s1, fun p hp => ⟨k _ (k1 p hp).1, (k1 p hp).2⟩, f1⟩
theorem RT.reads {h₀ h : Heap} {L : Addr} (a : RT r v d) (N : News h₀ L h r) : Reads h v d [] := by
  obtain ⟨s1, k1, f1⟩ := a
  exact f1 h fun p hp => (N p (k1 p hp).1).1
theorem Keep.stepNew {ks : List Addr} {z : Addr} {r'' : List (Addr × Obj)} (a : Keep ks r r') (b : Keep [z] r' r'') (c : ∀ p ∈ r, p.1 ≠ z) : Keep ks r r'' :=
  ⟨fun x o h n => b.ne _ _ (a.ne _ _ h n) (by simpa using c _ h), fun x o h n => b.cl _ _ (a.cl _ _ h n) n⟩
theorem Keep.stepCons {ks : List Addr} {p : Addr × Obj} (a : Keep ks r r') : Keep ks r (p :: r') := ⟨fun _ _ h n => .tail _ (a.ne _ _ h n), fun _ _ h n => .tail _ (a.cl _ _ h n)⟩
theorem off_sub {z : Addr} (h : ∀ p ∈ r', p.1 ≠ z) (s : ∀ p ∈ r, p ∈ r') : ∀ p ∈ r, p.1 ≠ z := fun p hp => h p (s p hp)
theorem off_lt {z : Addr} (h : ∀ p ∈ r, p.1 < z) : ∀ p ∈ r, p.1 ≠ z := fun p hp => Nat.ne_of_lt (h p hp)
theorem off_allLt {z : Addr} (h : AllLt z r) : ∀ p ∈ r, p.1 ≠ z := fun p hp => Nat.ne_of_lt (allLt_at.aux r h p hp)
theorem tuple_M {prog : Program} {w : World} {A : Around} {E : Value → Shared → Prop} {s : Shared} {h₀ : Heap} {L t : Addr} {n : Nat} {Q : Value → Shared → Prop} (N : News h₀ L s.heap r) (hm : (t, Mine.tup vs n) ∈ r) (h : Q (.ref t) s) : wpAny (model prog w) A (call (.type "tuple") [.ref t]) Q E s :=
  call_tuple_same (items := vs.toArray) ⟨_, (N _ hm).1, rfl, n, rfl⟩ h
theorem news_swap {h₀ h : Heap} {L : Addr} {a b : Addr × Obj} (N : News h₀ L h (a :: b :: r)) : News h₀ L h (b :: a :: r) := fun p hp => N p (by
  simp only [List.mem_cons] at hp ⊢
  rcases hp with hp | hp | hp
  · exact .inr (.inl hp)
  · exact .inl hp
  · exact .inr (.inr hp))
theorem SymSt.fresh {prog : Program} {w : World} {nm nd : Addr} {S : SymA} {ndn n1 n2 : Nat} {od od2 : Obj} (hi : (nm, instObj 154 nd) ∈ r) (hd : (nd, dictOf (symE S) ndn) ∈ r) (ht : (S.lt, listOf #[] n1) ∈ r) (ha : (S.da, od) ∈ r) (ha1 : od.IsDictOf (strKind prog w) []) (lo : (S.da == sysModules) = false)
    (hf : (S.lf, listOf #[] n2) ∈ r) (hg : (S.df, od2) ∈ r) (hg1 : od2.IsDictOf (intKind prog w) []) (lo2 : (S.df == sysModules) = false) (h1 : nd < S.lt) (h2 : S.lt < S.da) (h3 : S.da < S.lf) (h4 : S.lf < S.df) : SymSt prog w r nm nd S ndn [] [] := by
  have a1 : @LT.lt Nat _ nd S.lt := h1
  have a2 : @LT.lt Nat _ S.lt S.da := h2
  have a3 : @LT.lt Nat _ S.da S.lf := h3
  have a4 : @LT.lt Nat _ S.lf S.df := h4
  refine ⟨hi, hd, ⟨[], n1, ht, .nil⟩, ⟨od, [], [], ha, ha1, .nil, fun _ => rfl, Nat.le_refl _, lo⟩, ⟨[], n2, hf, rfl, fun k c h => by simp at h⟩, ⟨[], PyProof.Rows.TupTab.ofEmpty hg lo2 hg1, fun _ _ => rfl, Nat.le_refl _⟩,
    Nat.ne_of_lt a2, Nat.ne_of_lt (Nat.lt_trans a2 a3), Nat.ne_of_lt (Nat.lt_trans a2 (Nat.lt_trans a3 a4)), Nat.ne_of_gt a1, Nat.ne_of_lt a3, Nat.ne_of_lt (Nat.lt_trans a3 a4), Nat.ne_of_gt (Nat.lt_trans a1 a2), Nat.ne_of_lt a4, Nat.ne_of_gt (Nat.lt_trans a1 (Nat.lt_trans a2 a3)), Nat.ne_of_gt (Nat.lt_trans a1 (Nat.lt_trans a2 (Nat.lt_trans a3 a4))), by simp, by simp⟩
abbrev symAof (a0 a1 a2 a3 : Int) (k0 k1 k2 k3 : Tok) (lt da lf df : Addr) : SymA := ⟨fun i => match i with | 0 => a0 | 1 => a1 | 2 => a2 | _ => a3, fun i => match i with | 0 => k0 | 1 => k1 | 2 => k2 | _ => k3, lt, da, lf, df⟩
theorem symA_of {a0 a1 a2 a3 : Int} {k0 k1 k2 k3 : Tok} {d lt da lf df : Addr} {n : Nat} (h : (d, dictOf [⟨a0, .str (Str.ofString "texts") k0, .ref lt⟩, ⟨a1, .str (Str.ofString "atom_numbers") k1, .ref da⟩, ⟨a2, .str (Str.ofString "functors") k2, .ref lf⟩, ⟨a3, .str (Str.ofString "functor_numbers") k3, .ref df⟩] n) ∈ r) :
    (d, dictOf (symE (symAof a0 a1 a2 a3 k0 k1 k2 k3 lt da lf df)) n) ∈ r := h
theorem SymSt.offNe {prog : Program} {w : World} {z nm nd : Addr} {S : SymA} {ndn : Nat} {ts : List Str} {fs : List (Int × Int)} (h : SymSt prog w r nm nd S ndn ts fs) (l : ∀ p ∈ r, p.1 ≠ z) : OffS S nd z := by
  obtain ⟨o1, o2, o3, o4, h1, h2, h3, h4⟩ := h.mem4
  intro q
  simp only [List.mem_cons, List.not_mem_nil, or_false] at q
  rcases q with q | q | q | q | q
  · exact l _ h1 q.symm
  · exact l _ h2 q.symm
  · exact l _ h3 q.symm
  · exact l _ h4 q.symm
  · exact l _ h.d q.symm
end
end Mine
namespace Mine
local macro_rules | `(tactic| walk_at "exec While") => `(tactic| (k_here; k_dflt (refine whl_start 1 ?_)))
local macro_rules | `(tactic| walk_at "ite") => `(tactic| (k_here; first | (refine ite_pos (by first | with_reducible assumption | (simp only [beq_iff_eq, bne_iff_ne, decide_eq_true_eq, ne_eq]; omega)) ?_; walk_say "MY PRUNE") | (refine ite_neg (by first | with_reducible assumption | (simp only [beq_iff_eq, bne_iff_ne, decide_eq_true_eq, ne_eq]; omega)) ?_; walk_say "MY PRUNE")))
local macro_rules | `(tactic| walk_at "subscriptTail") => `(tactic| (k_here; (with_reducible show wpAny _ _ (subscriptTail _ _ (Value.ref _) (Value.int _ _)) _ _ _); (with_unfolding_all refine' item_abs ?k1 ?k2 ?k3 ?k4 ?k5 ?_ ?k6; (case k1 => k_asm); (case k2 => k_mem); (case k3 => assumption); (case k4 => first | assumption | omega); (case k5 => assumption); (case k6 => with_unfolding_all rfl); k_whole); walk_say "MY ITEM"))
local macro_rules | `(tactic| walk_at "compareOp In str ref") => `(tactic| (k_here; k_dflt (refine' in_tupK ?F ?X ?l ?w ?b ?_; (case F => k_asm); (case X => k_asm); (case l => k_is); (case w => kde_strs); (case b => exact rfl); k_whole); walk_say "MY IN"))
local macro_rules | `(tactic| walk_at "call builtin:list.append") => `(tactic| (k_here; (with_reducible show wpAny _ _ (call (Value.builtin _) [Value.ref _, _]) _ _ _); k_dflt (refine' append_L ?k1 ?k2 ?k3 ?z ?_; (case k1 => k_asm); (case k2 => k_asm); (case k3 => k_upd); (case z => first | assumption | omega | (simp only [List.length_append, List.length_cons, List.length_nil]; omega)); k_whole); intro h' F' N'; (try k_sweep); walk_say "MY APPEND"))
local macro_rules | `(tactic| walk_at "call builtin:list.pop") => `(tactic| (k_here; (with_reducible show wpAny _ _ (call (Value.builtin _) [Value.ref _]) _ _ _); k_dflt (refine' pop_L ?k1 ?k2 ?k3 ?z ?_; (case k1 => k_asm); (case k2 => k_asm); (case k3 => k_upd); (case z => first | assumption | omega | (simp only [List.length_append, List.length_cons, List.length_nil]; omega)); k_whole); intro h' F' N'; (try k_sweep); walk_say "MY POP"))
local macro_rules | `(tactic| k_all) => `(tactic| assumption)
local macro_rules | `(tactic| k_mem) => `(tactic| first | with_reducible exact List.Mem.head _ | assumption | (refine' List.Mem.tail _ ?_; k_mem))
local macro_rules | `(tactic| walk_at "truthy ref") => `(tactic| (k_here; (with_reducible show wpAny _ _ (truthy (Value.ref _)) _ _ _); k_dflt (refine' truthy_L ?k1 ?k2 ?k3 ?k4 ?_; (case k1 => k_asm); (case k2 => k_mem); (case k3 => first | assumption | (simp only [List.length_append, List.length_cons, List.length_nil]; omega)); (case k4 => first | exact some_true _ _ | exact none_false); k_whole); walk_say "MY TRUTH"))
local macro_rules | `(tactic| walk_at "call builtin:len") => `(tactic| (k_here; (with_reducible show wpAny _ _ (call (Value.builtin "len") [Value.ref _]) _ _ _); k_dflt (refine' len_L ?k1 ?k2 ?k3 ?_; (case k1 => k_asm); (case k2 => k_mem); (case k3 => first | assumption | (simp only [List.length_append, List.length_cons, List.length_nil]; omega)); k_whole); walk_say "MY LEN"))
local macro_rules | `(tactic| k_mem) => `(tactic| first | with_reducible exact List.mem_cons_self | with_reducible assumption | exact List.Mem.head _ | with_reducible exact SymSt.i (by with_reducible assumption) | with_reducible exact SymSt.d (by with_reducible assumption) | ((with_reducible refine' Keep.any ?kmk _ _ ?kma ?kmb); (case kmk => (with_reducible assumption)); (case kma => k_mem); (case kmb => first | exact .inl (.inl rfl) | exact .inl (.inr ⟨_, rfl⟩) | (refine Or.inr ?_; walk_at "my notin"))) | ((with_reducible refine' List.mem_cons_of_mem _ ?_); k_mem) | assumption | fail "my mem")
local macro_rules | `(tactic| walk_at "my ne0") => `(tactic| first | with_reducible assumption | with_reducible exact Ne.symm (by with_reducible assumption) | k_ne | (exact Ne.symm (by k_ne)) | exact lt_at (by with_reducible assumption) (by with_reducible assumption) | exact Ne.symm (lt_at (by with_reducible assumption) (by with_reducible assumption)) | exact off_at (by with_reducible assumption) (by with_reducible assumption) | exact Ne.symm (off_at (by with_reducible assumption) (by with_reducible assumption)) | fail "my ne0")
local macro_rules | `(tactic| walk_at "my notin") => `(tactic| first | with_reducible assumption | with_reducible exact OffS.sym (by with_reducible assumption) | with_reducible exact OffS.nd (by with_reducible assumption) | (simp only [List.mem_cons, List.not_mem_nil, or_false, not_or]; (repeat' (refine And.intro ?_ ?_)) <;> walk_at "my ne0"))
local macro_rules | `(tactic| walk_at "my sym") => `(tactic| first | with_reducible assumption | (refine' SymSt.keep ?ks1 (.cons [] _ _) (by simp); (case ks1 => walk_at "my sym")) | (refine' SymSt.keep (ds := []) ?ks1 ?ks2 (fun _ _ => List.not_mem_nil); (case ks2 => with_reducible assumption); (case ks1 => walk_at "my sym")) | (refine' SymSt.keepO ?ks1 ?ks2 ?ks3; (case ks2 => with_reducible assumption); (case ks3 => with_reducible assumption); (case ks1 => walk_at "my sym")) | fail "my sym")
local macro_rules | `(tactic| walk_at "my tab") => `(tactic| first | assumption | (refine' PyProof.Rows.TupTab.cons ?kt _; (case kt => walk_at "my tab")) | (refine' tupTab_keep ?kt1 ?kt0 ?kt2; (case kt0 => assumption); (case kt1 => walk_at "my tab"); (case kt2 => walk_at "my notin")) | fail "my tab")
local macro_rules | `(tactic| walk_at "call builtin:list.append") => `(tactic| (k_here; (with_reducible show wpAny _ _ (call (Value.builtin _) [Value.ref _, _]) _ _ _); k_dflt (refine' append_M ?k1 ?k2 ?k3 ?z ?_; (case k1 => k_asm); (case k2 => k_asm); (case k3 => k_mem); (case z => first | assumption | omega | (simp only [List.length_append, List.length_cons, List.length_nil]; omega)); k_whole); intro h' r' F' N' hin kp; (try k_sweep); walk_say "M APPEND"))
local macro_rules | `(tactic| walk_at "getMethod ref") => `(tactic| (k_here; (with_reducible show wpAny _ _ (getMethod (Value.ref _) "get" _) _ _ _); k_dflt (first | (refine' smeth_M ?k1 ?k2 ?k3 ?k4 ?k5 ?_; (case k1 => k_asm); (case k2 => k_mem); (case k4 => assumption); (case k5 => assumption); (case k3 => assumption); k_whole) | (refine' tmeth_M ?k1 ?k2 ?_; (case k1 => k_asm); (case k2 => walk_at "my tab"); k_whole)); walk_say "M METH"))
local macro_rules | `(tactic| walk_at "call builtin:dict.get") => `(tactic| (k_here; k_dflt (first | (refine' sget_M ?k1 ?k2 ?k3 ?k4 ?k5 ?k6 ?_; (case k1 => k_asm); (case k2 => k_mem); (case k4 => assumption); (case k5 => assumption); (case k3 => assumption); (case k6 => assumption); k_whole) | (refine' tget_M ?k1 ?k2 ?k3 ?k4 ?k5 ?_; (case k2 => k_asm); (case k3 => walk_at "my tab"); (case k4 => k_mem); (case k5 => assumption); (case k1 => walk_at "my units"); k_whole)); intro t'; walk_say "M GET"))
local macro_rules | `(tactic| walk_at "my units") => `(tactic| ((try simp only [units_in1, units_deeper, units_under_make, Around.mark_units]); (try dsimp only [ktrTop]); (try simp only [units_in1, units_deeper, units_under_make, Around.mark_units]); omega))
local macro_rules | `(tactic| walk_at "setItem ref str") => `(tactic| (k_here; k_dflt (refine' sset_M ?F ?N ?m ?d ?f ?z ?_; (case F => k_asm); (case N => k_asm); (case m => k_mem); (case d => assumption); (case f => assumption); (case z => first | assumption | omega); k_whole); intro h' r' o' kvs' F' N' hin hd' hf' kp; (try k_sweep); walk_say "M SET"))
local macro_rules | `(tactic| walk_at "setItem ref ref") => `(tactic| (k_here; k_dflt (refine' tset_M ?u ?F ?N ?T ?m ?z ?_; (case F => k_asm); (case N => k_asm); (case T => walk_at "my tab"); (case m => k_mem); (case z => first | assumption | omega); (case u => walk_at "my units"); k_whole); intro h' r' F' N' hT' kp; (try k_sweep); walk_say "M TSET"))
theorem atom_hit {w : World} {p : Program} {loose : List Str} {mean : ExcName → Option Value} {mg mb : Str → Option Value}
  {dp un : Nat} {gd : Option (List Code)} {cn : Str} {cs : Scope} {a : Addr} {ccd : Value} {cl : List (Str × Addr)} {outer : List Env} {A₀ : Around} {base h₀ : Heap} {L : Addr} {m : Str → Option Value} {news : List (Addr × Obj)} {s : Shared} {Q E : Value → Shared → Prop}
  {nm nd : Addr} {S : SymA} {ndn : Nat} {ts : List Str} {fs : List (Int × Int)}{x : Str} {tx : Tok} {i : Nat}
  (B : Below A₀ base outer h₀) (F : Fr h₀ L s.heap m) (X : (hd.heap_39 w.params).In h₀) (N : News h₀ L s.heap news) (T : Top p loose mean mg mb h₀) (hk : cs.kind = .function)
  (hdp : dp + 3 < recursionLimit) (hun : un + 30 < cLine)
  (hS : SymSt PySem.Challenge.rw_rh0112_01.row.prog w news nm nd S ndn ts fs) (hl : idx x ts = some i)
  (ret : ∀ h' tk t', Fr h₀ L h' m → News h₀ L h' news → Q (.int i t') { s with heap := h', toks := tk }) :
  wpAny (model PySem.Challenge.rw_rh0112_01.row.prog w) (ktrTop dp un gd cn cs L a ccd cl outer) (call (.ref 88) [.ref nm, .str x tx]) Q E s := by
  revert X; k_fill; intro X
  have hS0 := hS
  obtain ⟨hi, hd, ⟨tvs, nt, ht, hts⟩, ⟨od, kvs, D, hod, hod1, hod2, hlk, hDl, hlo⟩, ⟨fvs, nf, hf, hfs⟩, ⟨D2, hT, hlk2, hDl2⟩, n0, n1, n2, n3, n4, n5, n6, n7, n8, n9, z1, z2⟩ := hS
  have htl := hts.length
  have hfl := hfs.1
  have b1 : tvs.length ≤ 200000 := by omega
  have b2 : fvs.length ≤ 200000 := by omega
  have hg : (PySem.Spec.lookup (.str x) D).getD (.int (-1)) = .int (i : Int) := by rw [hlk, hl]; rfl
  refine wpAny_call ?_
  k_dflt ktr_enter
  k_steps
  all_goals (first | exact ret _ _ _ (by k_asm) (by k_asm) | w_report)

theorem atom_new {w : World} {p : Program} {loose : List Str} {mean : ExcName → Option Value} {mg mb : Str → Option Value}
  {dp un : Nat} {gd : Option (List Code)} {cn : Str} {cs : Scope} {a : Addr} {ccd : Value} {cl : List (Str × Addr)} {outer : List Env} {A₀ : Around} {base h₀ : Heap} {L : Addr} {m : Str → Option Value} {news : List (Addr × Obj)} {s : Shared} {Q E : Value → Shared → Prop}
  {nm nd : Addr} {S : SymA} {ndn : Nat} {ts : List Str} {fs : List (Int × Int)}{x : Str} {tx : Tok}
  (B : Below A₀ base outer h₀) (F : Fr h₀ L s.heap m) (X : (hd.heap_39 w.params).In h₀) (N : News h₀ L s.heap news) (T : Top p loose mean mg mb h₀) (hk : cs.kind = .function)
  (hdp : dp + 3 < recursionLimit) (hun : un + 30 < cLine)
  (hS : SymSt PySem.Challenge.rw_rh0112_01.row.prog w news nm nd S ndn ts fs) (hl : idx x ts = none) (hz : ts.length < 1000)
  (ret : ∀ h' tk t' r', Fr h₀ L h' m → News h₀ L h' r' → SymSt PySem.Challenge.rw_rh0112_01.row.prog w r' nm nd S ndn (ts ++ [x]) fs → Keep (symAt S) news r' → Q (.int ts.length t') { s with heap := h', toks := tk }) :
  wpAny (model PySem.Challenge.rw_rh0112_01.row.prog w) (ktrTop dp un gd cn cs L a ccd cl outer) (call (.ref 88) [.ref nm, .str x tx]) Q E s := by
  revert X; k_fill; intro X
  have hS0 := hS
  obtain ⟨hi, hd, ⟨tvs, nt, ht, hts⟩, ⟨od, kvs, D, hod, hod1, hod2, hlk, hDl, hlo⟩, ⟨fvs, nf, hf, hfs⟩, ⟨D2, hT, hlk2, hDl2⟩, n0, n1, n2, n3, n4, n5, n6, n7, n8, n9, z1, z2⟩ := hS
  have htl := hts.length
  have hfl := hfs.1
  have b1 : tvs.length ≤ 200000 := by omega
  have b2 : fvs.length ≤ 200000 := by omega
  have hg : (PySem.Spec.lookup (.str x) D).getD (.int (-1)) = .int (-1) := by rw [hlk, hl]; rfl
  have hDz : D.length ≤ 100000 := by omega
  refine wpAny_call ?_
  k_dflt ktr_enter
  k_steps
  trace_state
  rename Keep [S.lt] news _ => k1
  rename Keep [S.da] _ _ => k2
  rename Obj.IsDictOf _ _ _ => q1
  rename PyProof.V.FlatPairs _ _ _ => q2
  rw [htl]
  refine' ret _ _ _ _ (by k_asm) (by k_asm) ?S ((k1.wide (by simp)).trans (k2.wide (by simp)))
  refine ⟨by k_mem, by k_mem, ⟨_, _, by k_mem, strsAre_append hts (.cons x tx .nil)⟩, ⟨_, _, _, by assumption, q1, q2, ?_, ?_, hlo⟩, ⟨fvs, nf, by k_mem, cellsAre_keep (cellsAre_keep hfs k1) k2⟩, ⟨D2, by walk_at "my tab", hlk2, hDl2⟩, n0, n1, n2, n3, n4, n5, n6, n7, n8, n9, by simp only [List.length_append, List.length_cons, List.length_nil]; omega, z2⟩
  · intro z
    rw [PyProof.Rows.lookup_putD_str, idx_snoc, hlk, htl]
    by_cases e : z = x
    · subst e; rw [if_pos rfl, hl]; simp
    · rw [if_neg e, if_neg (fun q => e q.symm)]; simp
  · have := PyProof.V.putD_length_le (PyData.str x) (PyData.int tvs.length) D
    rw [List.length_append, List.length_singleton]
    exact Nat.le_trans this (Nat.add_le_add_right hDl 1)

theorem atom_ok {w : World} {p : Program} {loose : List Str} {mean : ExcName → Option Value} {mg mb : Str → Option Value}
  {dp un : Nat} {gd : Option (List Code)} {cn : Str} {cs : Scope} {a : Addr} {ccd : Value} {cl : List (Str × Addr)} {outer : List Env} {A₀ : Around} {base h₀ : Heap} {L : Addr} {m : Str → Option Value} {news : List (Addr × Obj)} {s : Shared} {Q E : Value → Shared → Prop}
  {nm nd : Addr} {S : SymA} {ndn : Nat} {ts : List Str} {fs : List (Int × Int)}{x : Str} {tx : Tok} {i : Int} {ts' : List Str}
  (B : Below A₀ base outer h₀) (F : Fr h₀ L s.heap m) (X : (hd.heap_39 w.params).In h₀) (N : News h₀ L s.heap news) (T : Top p loose mean mg mb h₀) (hk : cs.kind = .function)
  (hdp : dp + 3 < recursionLimit) (hun : un + 30 < cLine)
  (hS : SymSt PySem.Challenge.rw_rh0112_01.row.prog w news nm nd S ndn ts fs) (hp : intern x ts = (i, ts')) (hz : ts.length < 1000)
  (ret : ∀ h' tk t' r', Fr h₀ L h' m → News h₀ L h' r' → SymSt PySem.Challenge.rw_rh0112_01.row.prog w r' nm nd S ndn ts' fs → Keep (symAt S) news r' → Q (.int i t') { s with heap := h', toks := tk }) :
  wpAny (model PySem.Challenge.rw_rh0112_01.row.prog w) (ktrTop dp un gd cn cs L a ccd cl outer) (call (.ref 88) [.ref nm, .str x tx]) Q E s := by
  cases hi : idx x ts with
  | some i => 
    simp only [intern, hi, Prod.mk.injEq] at hp
    obtain ⟨rfl, rfl⟩ := hp
    exact atom_hit B F X N T hk hdp hun hS hi fun h' tk t' F' N' => ret _ _ _ _ F' N' hS (.refl _ _)
  | none =>
    simp only [intern, hi, Prod.mk.injEq] at hp
    obtain ⟨rfl, rfl⟩ := hp
    exact atom_new B F X N T hk hdp hun hS hi hz ret

theorem functor_hit {w : World} {p : Program} {loose : List Str} {mean : ExcName → Option Value} {mg mb : Str → Option Value}
  {dp un : Nat} {gd : Option (List Code)} {cn : Str} {cs : Scope} {a : Addr} {ccd : Value} {cl : List (Str × Addr)} {outer : List Env} {A₀ : Around} {base h₀ : Heap} {L : Addr} {m : Str → Option Value} {news : List (Addr × Obj)} {s : Shared} {Q E : Value → Shared → Prop}
  {nm nd : Addr} {S : SymA} {ndn : Nat} {ts : List Str} {fs : List (Int × Int)}{a₀ n : Int} {ta tn : Tok}{i : Nat}
  (B : Below A₀ base outer h₀) (F : Fr h₀ L s.heap m) (X : (hd.heap_39 w.params).In h₀) (N : News h₀ L s.heap news) (T : Top p loose mean mg mb h₀) (hk : cs.kind = .function)
  (hdp : dp + 3 < recursionLimit) (hun : un + 30 < cLine)
  (hS : SymSt PySem.Challenge.rw_rh0112_01.row.prog w news nm nd S ndn ts fs) (hl : idx (a₀, n) fs = some i)
  (ret : ∀ h' tk t' r', Fr h₀ L h' m → News h₀ L h' r' → SymSt PySem.Challenge.rw_rh0112_01.row.prog w r' nm nd S ndn ts fs → Keep (symAt S) news r' → Q (.int i t') { s with heap := h', toks := tk }) :
  wpAny (model PySem.Challenge.rw_rh0112_01.row.prog w) (ktrTop dp un gd cn cs L a ccd cl outer) (call (.ref 102) [.ref nm, .int a₀ ta, .int n tn]) Q E s := by
  revert X; k_fill; intro X
  have hS0 := hS
  obtain ⟨hi, hd, ⟨tvs, nt, ht, hts⟩, ⟨od, kvs, D, hod, hod1, hod2, hlk, hDl, hlo⟩, ⟨fvs, nf, hf, hfs⟩, ⟨D2, hT, hlk2, hDl2⟩, n0, n1, n2, n3, n4, n5, n6, n7, n8, n9, z1, z2⟩ := hS
  have htl := hts.length
  have hfl := hfs.1
  have b1 : tvs.length ≤ 200000 := by omega
  have b2 : fvs.length ≤ 200000 := by omega
  have hg : (PySem.Spec.lookup (.tuple [.int a₀, .int n]) D2).getD (.int (-1)) = .int (i : Int) := by rw [hlk2, hl]; rfl
  refine wpAny_call ?_
  k_dflt ktr_enter
  k_steps
  exact ret _ _ _ _ (by k_asm) (by k_asm) (hS0.keep (.cons [] _ _) (by simp)) (.cons _ _ _)

theorem functor_new {w : World} {p : Program} {loose : List Str} {mean : ExcName → Option Value} {mg mb : Str → Option Value}
  {dp un : Nat} {gd : Option (List Code)} {cn : Str} {cs : Scope} {a : Addr} {ccd : Value} {cl : List (Str × Addr)} {outer : List Env} {A₀ : Around} {base h₀ : Heap} {L : Addr} {m : Str → Option Value} {news : List (Addr × Obj)} {s : Shared} {Q E : Value → Shared → Prop}
  {nm nd : Addr} {S : SymA} {ndn : Nat} {ts : List Str} {fs : List (Int × Int)}{a₀ n : Int} {ta tn : Tok}
  (B : Below A₀ base outer h₀) (F : Fr h₀ L s.heap m) (X : (hd.heap_39 w.params).In h₀) (N : News h₀ L s.heap news) (T : Top p loose mean mg mb h₀) (hk : cs.kind = .function)
  (hdp : dp + 3 < recursionLimit) (hun : un + 30 < cLine)
  (hS : SymSt PySem.Challenge.rw_rh0112_01.row.prog w news nm nd S ndn ts fs) (hl : idx (a₀, n) fs = none) (hz : fs.length < 1000)
  (ret : ∀ h' tk t' r', Fr h₀ L h' m → News h₀ L h' r' → SymSt PySem.Challenge.rw_rh0112_01.row.prog w r' nm nd S ndn ts (fs ++ [(a₀, n)]) → Keep (symAt S) news r' → Q (.int fs.length t') { s with heap := h', toks := tk }) :
  wpAny (model PySem.Challenge.rw_rh0112_01.row.prog w) (ktrTop dp un gd cn cs L a ccd cl outer) (call (.ref 102) [.ref nm, .int a₀ ta, .int n tn]) Q E s := by
  revert X; k_fill; intro X
  have hS0 := hS
  obtain ⟨hi, hd, ⟨tvs, nt, ht, hts⟩, ⟨od, kvs, D, hod, hod1, hod2, hlk, hDl, hlo⟩, ⟨fvs, nf, hf, hfs⟩, ⟨D2, hT, hlk2, hDl2⟩, n0, n1, n2, n3, n4, n5, n6, n7, n8, n9, z1, z2⟩ := hS
  have htl := hts.length
  have hfl := hfs.1
  have b1 : tvs.length ≤ 200000 := by omega
  have b2 : fvs.length ≤ 200000 := by omega
  have hg : (PySem.Spec.lookup (.tuple [.int a₀, .int n]) D2).getD (.int (-1)) = .int (-1) := by rw [hlk2, hl]; rfl
  have hDz : D2.length ≤ 100000 := by omega
  refine wpAny_call ?_
  k_dflt ktr_enter
  k_steps
  rename Keep [S.lf] _ _ => k1
  rename Keep [S.df] _ _ => k2
  rename PyProof.Rows.TupTab _ _ _ _ _ => q1
  rw [hfl]
  rename PyProof.V.FlatPairs _ _ _ => hod2
  refine' ret _ _ _ _ (by k_asm) (by k_asm) ?S ((((Keep.cons [] news _).wide (ds' := symAt S) (by simp)).trans (k1.wide (ds' := symAt S) (by simp))).trans (k2.wide (ds' := symAt S) (by simp)))
  refine ⟨by k_mem, by k_mem, ⟨tvs, _, by k_mem, hts⟩, ⟨od, kvs, D, by k_mem, hod1, hod2, hlk, hDl, hlo⟩, ⟨_, _, by k_mem, cellsAre_snoc (cellsAre_keep (cellsAre_keep (cellsAre_keep hfs (.cons [] _ _)) k1) k2) (by k_mem)⟩, ⟨_, q1, ?_, ?_⟩, n0, n1, n2, n3, n4, n5, n6, n7, n8, n9, z1, by simp only [List.length_append, List.length_cons, List.length_nil]; omega⟩
  · intro b c
    have e0 := PyProof.Rows.lookup_putK (enc := PyProof.Rows.encTuple PyData.int) (PyProof.Rows.keyEnc_tuple PyProof.V.keyEnc_int) [b, c] [a₀, n] (PyData.int fvs.length) D2
    refine e0.trans ?_
    rw [idx_snoc]
    by_cases e : (b, c) = (a₀, n)
    · cases e; rw [if_pos rfl, hl]; simp [hfl]
    · rw [if_neg (fun q => e (by simp only [List.cons.injEq, and_true] at q; exact Prod.ext q.1 q.2)), if_neg (fun q => e q.symm)]; simp only [Option.or_none]; exact hlk2 b c
  · have := PyProof.V.putD_length_le (PyData.tuple [.int a₀, .int n]) (PyData.int fvs.length) D2
    rw [List.length_append, List.length_singleton]
    exact Nat.le_trans this (Nat.add_le_add_right hDl2 1)

theorem functor_ok {w : World} {p : Program} {loose : List Str} {mean : ExcName → Option Value} {mg mb : Str → Option Value}
  {dp un : Nat} {gd : Option (List Code)} {cn : Str} {cs : Scope} {a : Addr} {ccd : Value} {cl : List (Str × Addr)} {outer : List Env} {A₀ : Around} {base h₀ : Heap} {L : Addr} {m : Str → Option Value} {news : List (Addr × Obj)} {s : Shared} {Q E : Value → Shared → Prop}
  {nm nd : Addr} {S : SymA} {ndn : Nat} {ts : List Str} {fs : List (Int × Int)}{a₀ n : Int} {ta tn : Tok}{i : Int} {fs' : List (Int × Int)}
  (B : Below A₀ base outer h₀) (F : Fr h₀ L s.heap m) (X : (hd.heap_39 w.params).In h₀) (N : News h₀ L s.heap news) (T : Top p loose mean mg mb h₀) (hk : cs.kind = .function)
  (hdp : dp + 3 < recursionLimit) (hun : un + 30 < cLine)
  (hS : SymSt PySem.Challenge.rw_rh0112_01.row.prog w news nm nd S ndn ts fs) (hp : intern (a₀, n) fs = (i, fs')) (hz : fs.length < 1000)
  (ret : ∀ h' tk t' r', Fr h₀ L h' m → News h₀ L h' r' → SymSt PySem.Challenge.rw_rh0112_01.row.prog w r' nm nd S ndn ts fs' → Keep (symAt S) news r' → Q (.int i t') { s with heap := h', toks := tk }) :
  wpAny (model PySem.Challenge.rw_rh0112_01.row.prog w) (ktrTop dp un gd cn cs L a ccd cl outer) (call (.ref 102) [.ref nm, .int a₀ ta, .int n tn]) Q E s := by
  cases hi : idx (a₀, n) fs with
  | some i => 
    simp only [intern, hi, Prod.mk.injEq] at hp
    obtain ⟨rfl, rfl⟩ := hp
    exact functor_hit B F X N T hk hdp hun hS hi ret
  | none =>
    simp only [intern, hi, Prod.mk.injEq] at hp
    obtain ⟨rfl, rfl⟩ := hp
    exact functor_new B F X N T hk hdp hun hS hi hz ret

end Mine
namespace Mine
local macro_rules | `(tactic| walk_at "exec While") => `(tactic| (k_here; k_dflt (refine whl_start 1 ?_)))
local macro_rules | `(tactic| walk_at "ite") => `(tactic| (k_here; first | (refine ite_pos (by first | with_reducible assumption | (simp only [beq_iff_eq, bne_iff_ne, decide_eq_true_eq, ne_eq]; omega)) ?_; walk_say "MY PRUNE") | (refine ite_neg (by first | with_reducible assumption | (simp only [beq_iff_eq, bne_iff_ne, decide_eq_true_eq, ne_eq]; omega)) ?_; walk_say "MY PRUNE")))
local macro_rules | `(tactic| walk_at "subscriptTail") => `(tactic| (k_here; (with_reducible show wpAny _ _ (subscriptTail _ _ (Value.ref _) (Value.int _ _)) _ _ _); (with_unfolding_all refine' item_abs ?k1 ?k2 ?k3 ?k4 ?k5 ?_ ?k6; (case k1 => k_asm); (case k2 => k_mem); (case k3 => assumption); (case k4 => first | assumption | omega); (case k5 => assumption); (case k6 => with_unfolding_all rfl); k_whole); walk_say "MY ITEM"))
local macro_rules | `(tactic| walk_at "compareOp In str ref") => `(tactic| (k_here; k_dflt (refine' in_tupK ?F ?X ?l ?w ?b ?_; (case F => k_asm); (case X => k_asm); (case l => k_is); (case w => kde_strs); (case b => exact rfl); k_whole); walk_say "MY IN"))
local macro_rules | `(tactic| walk_at "call builtin:list.append") => `(tactic| (k_here; (with_reducible show wpAny _ _ (call (Value.builtin _) [Value.ref _, _]) _ _ _); k_dflt (refine' append_L ?k1 ?k2 ?k3 ?z ?_; (case k1 => k_asm); (case k2 => k_asm); (case k3 => k_upd); (case z => first | assumption | omega | (simp only [List.length_append, List.length_cons, List.length_nil]; omega)); k_whole); intro h' F' N'; (try k_sweep); walk_say "MY APPEND"))
local macro_rules | `(tactic| walk_at "call builtin:list.pop") => `(tactic| (k_here; (with_reducible show wpAny _ _ (call (Value.builtin _) [Value.ref _]) _ _ _); k_dflt (refine' pop_L ?k1 ?k2 ?k3 ?z ?_; (case k1 => k_asm); (case k2 => k_asm); (case k3 => k_upd); (case z => first | assumption | omega | (simp only [List.length_append, List.length_cons, List.length_nil]; omega)); k_whole); intro h' F' N'; (try k_sweep); walk_say "MY POP"))
local macro_rules | `(tactic| k_all) => `(tactic| assumption)
local macro_rules | `(tactic| k_mem) => `(tactic| first | with_reducible exact List.Mem.head _ | assumption | (refine' List.Mem.tail _ ?_; k_mem))
local macro_rules | `(tactic| walk_at "truthy ref") => `(tactic| (k_here; (with_reducible show wpAny _ _ (truthy (Value.ref _)) _ _ _); k_dflt (refine' truthy_L ?k1 ?k2 ?k3 ?k4 ?_; (case k1 => k_asm); (case k2 => k_mem); (case k3 => first | assumption | (simp only [List.length_append, List.length_cons, List.length_nil]; omega)); (case k4 => first | exact some_true _ _ | exact none_false); k_whole); walk_say "MY TRUTH"))
local macro_rules | `(tactic| walk_at "call builtin:len") => `(tactic| (k_here; (with_reducible show wpAny _ _ (call (Value.builtin "len") [Value.ref _]) _ _ _); k_dflt (refine' len_L ?k1 ?k2 ?k3 ?_; (case k1 => k_asm); (case k2 => k_mem); (case k3 => first | assumption | (simp only [List.length_append, List.length_cons, List.length_nil]; omega)); k_whole); walk_say "MY LEN"))
local macro_rules | `(tactic| k_mem) => `(tactic| first | with_reducible exact List.mem_cons_self | with_reducible assumption | exact List.Mem.head _ | with_reducible exact SymSt.i (by with_reducible assumption) | with_reducible exact SymSt.d (by with_reducible assumption) | ((with_reducible refine' Keep.any ?kmk _ _ ?kma ?kmb); (case kmk => (with_reducible assumption)); (case kma => k_mem); (case kmb => first | exact .inl (.inl rfl) | exact .inl (.inr ⟨_, rfl⟩) | (refine Or.inr ?_; walk_at "my notin"))) | ((with_reducible refine' List.mem_cons_of_mem _ ?_); k_mem) | assumption | fail "my mem")
local macro_rules | `(tactic| walk_at "my ne0") => `(tactic| first | with_reducible assumption | with_reducible exact Ne.symm (by with_reducible assumption) | k_ne | (exact Ne.symm (by k_ne)) | exact lt_at (by with_reducible assumption) (by with_reducible assumption) | exact Ne.symm (lt_at (by with_reducible assumption) (by with_reducible assumption)) | exact off_at (by with_reducible assumption) (by with_reducible assumption) | exact Ne.symm (off_at (by with_reducible assumption) (by with_reducible assumption)) | fail "my ne0")
local macro_rules | `(tactic| walk_at "my notin") => `(tactic| first | with_reducible assumption | with_reducible exact OffS.sym (by with_reducible assumption) | with_reducible exact OffS.nd (by with_reducible assumption) | (simp only [List.mem_cons, List.not_mem_nil, or_false, not_or]; (repeat' (refine And.intro ?_ ?_)) <;> walk_at "my ne0"))
local macro_rules | `(tactic| walk_at "my sym") => `(tactic| first | with_reducible assumption | (refine' SymSt.keep ?ks1 (.cons [] _ _) (by simp); (case ks1 => walk_at "my sym")) | (refine' SymSt.keep (ds := []) ?ks1 ?ks2 (fun _ _ => List.not_mem_nil); (case ks2 => with_reducible assumption); (case ks1 => walk_at "my sym")) | (refine' SymSt.keepO ?ks1 ?ks2 ?ks3; (case ks2 => with_reducible assumption); (case ks3 => with_reducible assumption); (case ks1 => walk_at "my sym")) | fail "my sym")
local macro_rules | `(tactic| walk_at "my tab") => `(tactic| first | assumption | (refine' PyProof.Rows.TupTab.cons ?kt _; (case kt => walk_at "my tab")) | (refine' tupTab_keep ?kt1 ?kt0 ?kt2; (case kt0 => assumption); (case kt1 => walk_at "my tab"); (case kt2 => walk_at "my notin")) | fail "my tab")
local macro_rules | `(tactic| walk_at "call builtin:list.append") => `(tactic| (k_here; (with_reducible show wpAny _ _ (call (Value.builtin _) [Value.ref _, _]) _ _ _); k_dflt (refine' append_M ?k1 ?k2 ?k3 ?z ?_; (case k1 => k_asm); (case k2 => k_asm); (case k3 => k_mem); (case z => first | assumption | omega | (simp only [List.length_append, List.length_cons, List.length_nil]; omega)); k_whole); intro h' r' F' N' hin kp; (try k_sweep); walk_say "M APPEND"))
local macro_rules | `(tactic| walk_at "getMethod ref") => `(tactic| (k_here; (with_reducible show wpAny _ _ (getMethod (Value.ref _) "get" _) _ _ _); k_dflt (first | (refine' smeth_M ?k1 ?k2 ?k3 ?k4 ?k5 ?_; (case k1 => k_asm); (case k2 => k_mem); (case k4 => assumption); (case k5 => assumption); (case k3 => assumption); k_whole) | (refine' tmeth_M ?k1 ?k2 ?_; (case k1 => k_asm); (case k2 => walk_at "my tab"); k_whole)); walk_say "M METH"))
local macro_rules | `(tactic| walk_at "call builtin:dict.get") => `(tactic| (k_here; k_dflt (first | (refine' sget_M ?k1 ?k2 ?k3 ?k4 ?k5 ?k6 ?_; (case k1 => k_asm); (case k2 => k_mem); (case k4 => assumption); (case k5 => assumption); (case k3 => assumption); (case k6 => assumption); k_whole) | (refine' tget_M ?k1 ?k2 ?k3 ?k4 ?k5 ?_; (case k2 => k_asm); (case k3 => walk_at "my tab"); (case k4 => k_mem); (case k5 => assumption); (case k1 => walk_at "my units"); k_whole)); intro t'; walk_say "M GET"))
local macro_rules | `(tactic| walk_at "my units") => `(tactic| ((try simp only [units_in1, units_deeper, units_under_make, Around.mark_units]); (try dsimp only [ktrTop]); (try simp only [units_in1, units_deeper, units_under_make, Around.mark_units]); omega))
local macro_rules | `(tactic| walk_at "setItem ref str") => `(tactic| (k_here; k_dflt (refine' sset_M ?F ?N ?m ?d ?f ?z ?_; (case F => k_asm); (case N => k_asm); (case m => k_mem); (case d => assumption); (case f => assumption); (case z => first | assumption | omega); k_whole); intro h' r' o' kvs' F' N' hin hd' hf' kp; (try k_sweep); walk_say "M SET"))
local macro_rules | `(tactic| walk_at "setItem ref ref") => `(tactic| (k_here; k_dflt (refine' tset_M ?u ?F ?N ?T ?m ?z ?_; (case F => k_asm); (case N => k_asm); (case T => walk_at "my tab"); (case m => k_mem); (case z => first | assumption | omega); (case u => walk_at "my units"); k_whole); intro h' r' F' N' hT' kp; (try k_sweep); walk_say "M TSET"))
local macro_rules | `(tactic| walk_at "exec For") => `(tactic| (k_here; (with_reducible show wpAny _ _ (exec (Stmt.For (Expr.Name _ _) _ _ [] _) _) _ _ _); (rename Fr _ _ _ _ => lF'); (with_unfolding_all refine' For_invVF lF' ?k1 ?k2 ?_; (case k1 => exact rfl); (case k2 => exact rfl); k_whole); walk_say "MY FOR"))
local macro_rules | `(tactic| walk_at "exec For Name Name cons nil") => `(tactic| (k_here; (rename Fr _ _ _ _ => lF'); (with_unfolding_all refine' For_invVF lF' ?k1 ?k2 ?_; (case k1 => exact rfl); (case k2 => exact rfl); k_whole); walk_say "MY FOR"))
local macro_rules | `(tactic| walk_at "exec For Name Call cons nil") => `(tactic| (k_here; (rename Fr _ _ _ _ => lF'); (with_unfolding_all refine' For_invVF lF' ?k1 ?k2 ?_; (case k1 => exact rfl); (case k2 => exact rfl); k_whole); walk_say "MY FOR"))
local macro_rules | `(tactic| walk_at "pyIter ref") => `(tactic| (k_here; (with_reducible show wpAny _ _ (pyIter (Value.ref _)) (fun it s₂ => LoopAtV _ _ _ _ _ _ _ _ _ it s₂) _ _); k_dflt (first | (refine' iter_tupU ?h ?F ?N ?m ?_; (case h => with_unfolding_all rfl); (case F => k_asm); (case N => k_asm); (case m => k_mem); k_whole) | (refine' iter_lstU ?h ?F ?N ?m ?_; (case h => with_unfolding_all rfl); (case F => k_asm); (case N => k_asm); (case m => k_mem); k_whole)); intro i' l1; (try (have hoff := SymSt.offNew l1 (by walk_at "my sym"))); (try k_lt l1); walk_say "MY ITER"))
local macro_rules | `(tactic| walk_at "SeqRest") => `(tactic| (with_unfolding_all first | (refine SeqRest.succ (fun it' h' tk' o' f' F' N' => ?_)) | (refine SeqRest.zero (fun h' tk' F' N' => ?_))))
local macro_rules | `(tactic| walk_at "UnrEnd") => `(tactic| (refine' UnrEnd.introM2 ?F ?N ?hI ?hf ?_; (case F => k_asm); (case N => k_asm); (case hI => k_mem); (case hf => assumption); intro q' kq' oq'; refine ⟨by k_mem, ?_⟩; walk_say "MY UNREND"))
local macro_rules | `(tactic| walk_at "find lt") => `(tactic| first | assumption | exact And.right (by assumption) | exact And.right (And.right (by assumption)) | exact And.right (And.right (And.right (by assumption))) | fail "find lt")
local macro_rules | `(tactic| walk_at "newList") => `(tactic| (k_here; k_dflt (refine' newList_K ?k1 ?k2 ?_; (case k1 => k_asm); (case k2 => k_asm); k_whole); intro l' h' F' N' l1; (try (have hoff := SymSt.offNew l1 (by walk_at "my sym"))); (try k_lt l1); (try k_sweep); walk_say "MY NEWLIST"))
local macro_rules | `(tactic| walk_at "call ref") => `(tactic| (k_here; (with_reducible show wpAny _ _ (call (Value.ref 88) _) _ _ _); k_dflt (refine' atom_ok ?B ?F ?X ?N ?T ?hk ?hdp ?hun ?p0 ?p1 ?p2 ?_; (case B => k_asm); (case F => k_asm); (case X => k_asm); (case N => k_asm); (case T => k_asm); (case hk => first | exact rfl | k_asm); (case hdp => first | ((try simp only [depth_under_make, depth_under_kw, depth_in1, depth_deeper]); (try dsimp only [ktrTop]); omega) | ktr_room); (case hun => first | ((try simp only [units_in1, units_deeper, units_under_make, Around.mark_units]); (try dsimp only [ktrTop]); omega) | ktr_units); (case p0 => walk_at "my sym"); (case p1 => (first | assumption | (with_unfolding_all rfl))); (case p2 => (first | assumption | omega | (simp only [List.length_append, List.length_cons, List.length_nil]; omega))); k_whole); intro h' tk' t' r' F' N' hS' kp; (try k_sweep); walk_say "USE atom_ok"))
local macro_rules | `(tactic| walk_at "call ref") => `(tactic| (k_here; (with_reducible show wpAny _ _ (call (Value.ref 102) _) _ _ _); k_dflt (refine' functor_ok ?B ?F ?X ?N ?T ?hk ?hdp ?hun ?p0 ?p1 ?p2 ?_; (case B => k_asm); (case F => k_asm); (case X => k_asm); (case N => k_asm); (case T => k_asm); (case hk => first | exact rfl | k_asm); (case hdp => first | ((try simp only [depth_under_make, depth_under_kw, depth_in1, depth_deeper]); (try dsimp only [ktrTop]); omega) | ktr_room); (case hun => first | ((try simp only [units_in1, units_deeper, units_under_make, Around.mark_units]); (try dsimp only [ktrTop]); omega) | ktr_units); (case p0 => walk_at "my sym"); (case p1 => (first | assumption | (with_unfolding_all rfl))); (case p2 => (first | assumption | omega | (simp only [List.length_append, List.length_cons, List.length_nil]; omega))); k_whole); intro h' tk' t' r' F' N' hS' kp; (try k_sweep); walk_say "USE functor_ok"))
theorem func_ok {w : World} {p : Program} {loose : List Str} {mean : ExcName → Option Value} {mg mb : Str → Option Value}
  {dp un : Nat} {gd : Option (List Code)} {cn : Str} {cs : Scope} {a : Addr} {ccd : Value} {cl : List (Str × Addr)} {outer : List Env} {A₀ : Around} {base h₀ : Heap} {L : Addr} {m : Str → Option Value} {news : List (Addr × Obj)} {s : Shared} {Q E : Value → Shared → Prop}
  {nm nd : Addr} {S : SymA} {ndn : Nat} {ts : List Str} {fs : List (Int × Int)}{x : Str} {tx tn : Tok} {b n i : Int} {ts' : List Str} {fs' : List (Int × Int)}
  (B : Below A₀ base outer h₀) (F : Fr h₀ L s.heap m) (X : (hd.heap_39 w.params).In h₀) (N : News h₀ L s.heap news) (T : Top p loose mean mg mb h₀) (hk : cs.kind = .function)
  (hdp : dp + 6 < recursionLimit) (hun : un + 60 < cLine)
  (hS : SymSt PySem.Challenge.rw_rh0112_01.row.prog w news nm nd S ndn ts fs) (hp : intern x ts = (b, ts')) (hp2 : intern (b, n) fs = (i, fs')) (hz : ts.length < 1000) (hz2 : fs.length < 1000)
  (ret : ∀ h' tk t' r', Fr h₀ L h' m → News h₀ L h' r' → SymSt PySem.Challenge.rw_rh0112_01.row.prog w r' nm nd S ndn ts' fs' → Keep (symAt S) news r' → Q (.int i t') { s with heap := h', toks := tk }) :
  wpAny (model PySem.Challenge.rw_rh0112_01.row.prog w) (ktrTop dp un gd cn cs L a ccd cl outer) (call (.ref 109) [.ref nm, .str x tx, .int n tn]) Q E s := by
  revert X; k_fill; intro X
  have hi := hS.i
  have hd := hS.d
  refine wpAny_call ?_
  k_dflt ktr_enter
  k_steps
  rename Keep _ news _ => k1
  rename Keep _ _ _ => k2
  exact ret _ _ _ _ (by k_asm) (by k_asm) (by assumption) (k1.trans k2)

end Mine
namespace Mine
local macro_rules | `(tactic| walk_at "exec While") => `(tactic| (k_here; k_dflt (refine whl_start 1 ?_)))
local macro_rules | `(tactic| walk_at "ite") => `(tactic| (k_here; first | (refine ite_pos (by first | with_reducible assumption | (simp only [beq_iff_eq, bne_iff_ne, decide_eq_true_eq, ne_eq]; omega)) ?_; walk_say "MY PRUNE") | (refine ite_neg (by first | with_reducible assumption | (simp only [beq_iff_eq, bne_iff_ne, decide_eq_true_eq, ne_eq]; omega)) ?_; walk_say "MY PRUNE")))
local macro_rules | `(tactic| walk_at "subscriptTail") => `(tactic| (k_here; (with_reducible show wpAny _ _ (subscriptTail _ _ (Value.ref _) (Value.int _ _)) _ _ _); (with_unfolding_all refine' item_abs ?k1 ?k2 ?k3 ?k4 ?k5 ?_ ?k6; (case k1 => k_asm); (case k2 => k_mem); (case k3 => assumption); (case k4 => first | assumption | omega); (case k5 => assumption); (case k6 => with_unfolding_all rfl); k_whole); walk_say "MY ITEM"))
local macro_rules | `(tactic| walk_at "compareOp In str ref") => `(tactic| (k_here; k_dflt (refine' in_tupK ?F ?X ?l ?w ?b ?_; (case F => k_asm); (case X => k_asm); (case l => k_is); (case w => kde_strs); (case b => exact rfl); k_whole); walk_say "MY IN"))
local macro_rules | `(tactic| walk_at "call builtin:list.append") => `(tactic| (k_here; (with_reducible show wpAny _ _ (call (Value.builtin _) [Value.ref _, _]) _ _ _); k_dflt (refine' append_L ?k1 ?k2 ?k3 ?z ?_; (case k1 => k_asm); (case k2 => k_asm); (case k3 => k_upd); (case z => first | assumption | omega | (simp only [List.length_append, List.length_cons, List.length_nil]; omega)); k_whole); intro h' F' N'; (try k_sweep); walk_say "MY APPEND"))
local macro_rules | `(tactic| walk_at "call builtin:list.pop") => `(tactic| (k_here; (with_reducible show wpAny _ _ (call (Value.builtin _) [Value.ref _]) _ _ _); k_dflt (refine' pop_L ?k1 ?k2 ?k3 ?z ?_; (case k1 => k_asm); (case k2 => k_asm); (case k3 => k_upd); (case z => first | assumption | omega | (simp only [List.length_append, List.length_cons, List.length_nil]; omega)); k_whole); intro h' F' N'; (try k_sweep); walk_say "MY POP"))
local macro_rules | `(tactic| k_all) => `(tactic| assumption)
local macro_rules | `(tactic| k_mem) => `(tactic| first | with_reducible exact List.Mem.head _ | assumption | (refine' List.Mem.tail _ ?_; k_mem))
local macro_rules | `(tactic| walk_at "truthy ref") => `(tactic| (k_here; (with_reducible show wpAny _ _ (truthy (Value.ref _)) _ _ _); k_dflt (refine' truthy_L ?k1 ?k2 ?k3 ?k4 ?_; (case k1 => k_asm); (case k2 => k_mem); (case k3 => first | assumption | (simp only [List.length_append, List.length_cons, List.length_nil]; omega)); (case k4 => first | exact some_true _ _ | exact none_false); k_whole); walk_say "MY TRUTH"))
local macro_rules | `(tactic| walk_at "call builtin:len") => `(tactic| (k_here; (with_reducible show wpAny _ _ (call (Value.builtin "len") [Value.ref _]) _ _ _); k_dflt (refine' len_L ?k1 ?k2 ?k3 ?_; (case k1 => k_asm); (case k2 => k_mem); (case k3 => first | assumption | (simp only [List.length_append, List.length_cons, List.length_nil]; omega)); k_whole); walk_say "MY LEN"))
local macro_rules | `(tactic| k_mem) => `(tactic| first | with_reducible exact List.mem_cons_self | with_reducible assumption | exact List.Mem.head _ | with_reducible exact SymSt.i (by with_reducible assumption) | with_reducible exact SymSt.d (by with_reducible assumption) | ((with_reducible refine' Keep.any ?kmk _ _ ?kma ?kmb); (case kmk => (with_reducible assumption)); (case kma => k_mem); (case kmb => first | exact .inl (.inl rfl) | exact .inl (.inr ⟨_, rfl⟩) | (refine Or.inr ?_; walk_at "my notin"))) | ((with_reducible refine' List.mem_cons_of_mem _ ?_); k_mem) | assumption | fail "my mem")
local macro_rules | `(tactic| walk_at "my ne0") => `(tactic| first | with_reducible assumption | with_reducible exact Ne.symm (by with_reducible assumption) | k_ne | (exact Ne.symm (by k_ne)) | exact lt_at (by with_reducible assumption) (by with_reducible assumption) | exact Ne.symm (lt_at (by with_reducible assumption) (by with_reducible assumption)) | exact off_at (by with_reducible assumption) (by with_reducible assumption) | exact Ne.symm (off_at (by with_reducible assumption) (by with_reducible assumption)) | fail "my ne0")
local macro_rules | `(tactic| walk_at "my notin") => `(tactic| first | with_reducible assumption | with_reducible exact OffS.sym (by with_reducible assumption) | with_reducible exact OffS.nd (by with_reducible assumption) | (simp only [List.mem_cons, List.not_mem_nil, or_false, not_or]; (repeat' (refine And.intro ?_ ?_)) <;> walk_at "my ne0"))
local macro_rules | `(tactic| walk_at "my sym") => `(tactic| first | with_reducible assumption | (refine' SymSt.keep ?ks1 (.cons [] _ _) (by simp); (case ks1 => walk_at "my sym")) | (refine' SymSt.keep (ds := []) ?ks1 ?ks2 (fun _ _ => List.not_mem_nil); (case ks2 => with_reducible assumption); (case ks1 => walk_at "my sym")) | (refine' SymSt.keepO ?ks1 ?ks2 ?ks3; (case ks2 => with_reducible assumption); (case ks3 => with_reducible assumption); (case ks1 => walk_at "my sym")) | fail "my sym")
local macro_rules | `(tactic| walk_at "my tab") => `(tactic| first | assumption | (refine' PyProof.Rows.TupTab.cons ?kt _; (case kt => walk_at "my tab")) | (refine' tupTab_keep ?kt1 ?kt0 ?kt2; (case kt0 => assumption); (case kt1 => walk_at "my tab"); (case kt2 => walk_at "my notin")) | fail "my tab")
local macro_rules | `(tactic| walk_at "call builtin:list.append") => `(tactic| (k_here; (with_reducible show wpAny _ _ (call (Value.builtin _) [Value.ref _, _]) _ _ _); k_dflt (refine' append_M ?k1 ?k2 ?k3 ?z ?_; (case k1 => k_asm); (case k2 => k_asm); (case k3 => k_mem); (case z => first | assumption | omega | (simp only [List.length_append, List.length_cons, List.length_nil]; omega)); k_whole); intro h' r' F' N' hin kp; (try k_sweep); walk_say "M APPEND"))
local macro_rules | `(tactic| walk_at "getMethod ref") => `(tactic| (k_here; (with_reducible show wpAny _ _ (getMethod (Value.ref _) "get" _) _ _ _); k_dflt (first | (refine' smeth_M ?k1 ?k2 ?k3 ?k4 ?k5 ?_; (case k1 => k_asm); (case k2 => k_mem); (case k4 => assumption); (case k5 => assumption); (case k3 => assumption); k_whole) | (refine' tmeth_M ?k1 ?k2 ?_; (case k1 => k_asm); (case k2 => walk_at "my tab"); k_whole)); walk_say "M METH"))
local macro_rules | `(tactic| walk_at "call builtin:dict.get") => `(tactic| (k_here; k_dflt (first | (refine' sget_M ?k1 ?k2 ?k3 ?k4 ?k5 ?k6 ?_; (case k1 => k_asm); (case k2 => k_mem); (case k4 => assumption); (case k5 => assumption); (case k3 => assumption); (case k6 => assumption); k_whole) | (refine' tget_M ?k1 ?k2 ?k3 ?k4 ?k5 ?_; (case k2 => k_asm); (case k3 => walk_at "my tab"); (case k4 => k_mem); (case k5 => assumption); (case k1 => walk_at "my units"); k_whole)); intro t'; walk_say "M GET"))
local macro_rules | `(tactic| walk_at "my units") => `(tactic| ((try simp only [units_in1, units_deeper, units_under_make, Around.mark_units]); (try dsimp only [ktrTop]); (try simp only [units_in1, units_deeper, units_under_make, Around.mark_units]); omega))
local macro_rules | `(tactic| walk_at "setItem ref str") => `(tactic| (k_here; k_dflt (refine' sset_M ?F ?N ?m ?d ?f ?z ?_; (case F => k_asm); (case N => k_asm); (case m => k_mem); (case d => assumption); (case f => assumption); (case z => first | assumption | omega); k_whole); intro h' r' o' kvs' F' N' hin hd' hf' kp; (try k_sweep); walk_say "M SET"))
local macro_rules | `(tactic| walk_at "setItem ref ref") => `(tactic| (k_here; k_dflt (refine' tset_M ?u ?F ?N ?T ?m ?z ?_; (case F => k_asm); (case N => k_asm); (case T => walk_at "my tab"); (case m => k_mem); (case z => first | assumption | omega); (case u => walk_at "my units"); k_whole); intro h' r' F' N' hT' kp; (try k_sweep); walk_say "M TSET"))
local macro_rules | `(tactic| walk_at "exec For") => `(tactic| (k_here; (with_reducible show wpAny _ _ (exec (Stmt.For (Expr.Name _ _) _ _ [] _) _) _ _ _); (rename Fr _ _ _ _ => lF'); (with_unfolding_all refine' For_invVF lF' ?k1 ?k2 ?_; (case k1 => exact rfl); (case k2 => exact rfl); k_whole); walk_say "MY FOR"))
local macro_rules | `(tactic| walk_at "exec For Name Name cons nil") => `(tactic| (k_here; (rename Fr _ _ _ _ => lF'); (with_unfolding_all refine' For_invVF lF' ?k1 ?k2 ?_; (case k1 => exact rfl); (case k2 => exact rfl); k_whole); walk_say "MY FOR"))
local macro_rules | `(tactic| walk_at "exec For Name Call cons nil") => `(tactic| (k_here; (rename Fr _ _ _ _ => lF'); (with_unfolding_all refine' For_invVF lF' ?k1 ?k2 ?_; (case k1 => exact rfl); (case k2 => exact rfl); k_whole); walk_say "MY FOR"))
local macro_rules | `(tactic| walk_at "pyIter ref") => `(tactic| (k_here; (with_reducible show wpAny _ _ (pyIter (Value.ref _)) (fun it s₂ => LoopAtV _ _ _ _ _ _ _ _ _ it s₂) _ _); k_dflt (first | (refine' iter_tupU ?h ?F ?N ?m ?_; (case h => with_unfolding_all rfl); (case F => k_asm); (case N => k_asm); (case m => k_mem); k_whole) | (refine' iter_lstU ?h ?F ?N ?m ?_; (case h => with_unfolding_all rfl); (case F => k_asm); (case N => k_asm); (case m => k_mem); k_whole)); intro i' l1; (try (have hoff := SymSt.offNew l1 (by walk_at "my sym"))); (try k_lt l1); walk_say "MY ITER"))
local macro_rules | `(tactic| walk_at "SeqRest") => `(tactic| (with_unfolding_all first | (refine SeqRest.succ (fun it' h' tk' o' f' F' N' => ?_)) | (refine SeqRest.zero (fun h' tk' F' N' => ?_))))
local macro_rules | `(tactic| walk_at "UnrEnd") => `(tactic| (refine' UnrEnd.introM2 ?F ?N ?hI ?hf ?_; (case F => k_asm); (case N => k_asm); (case hI => k_mem); (case hf => assumption); intro q' kq' oq'; refine ⟨by k_mem, ?_⟩; walk_say "MY UNREND"))
local macro_rules | `(tactic| walk_at "find lt") => `(tactic| first | assumption | exact And.right (by assumption) | exact And.right (And.right (by assumption)) | exact And.right (And.right (And.right (by assumption))) | fail "find lt")
local macro_rules | `(tactic| walk_at "newList") => `(tactic| (k_here; k_dflt (refine' newList_K ?k1 ?k2 ?_; (case k1 => k_asm); (case k2 => k_asm); k_whole); intro l' h' F' N' l1; (try (have hoff := SymSt.offNew l1 (by walk_at "my sym"))); (try k_lt l1); (try k_sweep); walk_say "MY NEWLIST"))
local macro_rules | `(tactic| walk_at "my rt") => `(tactic| first | assumption | with_reducible exact RT.int _ _ | with_reducible exact RT.str _ _ | (refine' RT.tup ?rta ?rtb; (case rta => k_mem); (case rtb => walk_at "my rts")) | (refine' RT.sub ?rta (fun _ h => List.mem_cons_of_mem _ h); (case rta => walk_at "my rt")) | (refine' RT.keep ?rta ?rtb; (case rtb => with_reducible assumption); (case rta => walk_at "my rt")) | fail "my rt")
local macro_rules | `(tactic| walk_at "my rts") => `(tactic| first | exact RTs.nil | (refine' RTs.cons ?rsa ?rsb; (case rsa => walk_at "my rt"); (case rsb => walk_at "my rts")) | fail "my rts")
local macro_rules | `(tactic| walk_at "my keep") => `(tactic| first | with_reducible assumption | exact Keep.refl _ _ | (with_reducible refine' Keep.stepCons ?kpa; (case kpa => walk_at "my keep")) | ((with_reducible refine' Keep.trans ?kpa ?kpb); (case kpb => (with_reducible assumption)); (case kpa => walk_at "my keep")) | ((refine' Keep.trans ?kpa (Keep.wide (ds := []) ?kpb (fun _ h => nomatch h))); (case kpb => (with_reducible assumption)); (case kpa => walk_at "my keep")) | ((with_reducible refine' Keep.stepNew ?kpa ?kpb ?kpc); (case kpb => (with_reducible assumption)); (case kpc => walk_at "my off"); (case kpa => walk_at "my keep")) | fail "my keep")
local macro_rules | `(tactic| walk_at "my off") => `(tactic| first | assumption | exact off_lt (by assumption) | (refine' off_sub ?ofa ?ofb; (case ofa => assumption); (case ofb => (intro p hp; repeat (first | exact hp | refine List.mem_cons_of_mem _ ?_)))) | (refine' off_allLt ?ofa; (case ofa => walk_at "find lt")) | fail "my off")
local macro_rules | `(tactic| walk_at "call type:tuple") => `(tactic| (k_here; (with_reducible show wpAny _ _ (call (Value.type _) [Value.ref _]) _ _ _); k_dflt (refine' tuple_M ?k1 ?k2 ?_; (case k1 => k_asm); (case k2 => k_mem); k_whole); walk_say "MY TUPLE"))
local macro_rules | `(tactic| walk_at "call ref") => `(tactic| (k_here; (with_reducible show wpAny _ _ (call (Value.ref 88) _) _ _ _); k_dflt (refine' atom_ok ?B ?F ?X ?N ?T ?hk ?hdp ?hun ?p0 ?p1 ?p2 ?_; (case B => k_asm); (case F => k_asm); (case X => k_asm); (case N => k_asm); (case T => k_asm); (case hk => first | exact rfl | k_asm); (case hdp => first | ((try simp only [depth_under_make, depth_under_kw, depth_in1, depth_deeper]); (try dsimp only [ktrTop]); omega) | ktr_room); (case hun => first | ((try simp only [units_in1, units_deeper, units_under_make, Around.mark_units]); (try dsimp only [ktrTop]); omega) | ktr_units); (case p0 => walk_at "my sym"); (case p1 => (first | assumption | (with_unfolding_all rfl))); (case p2 => (first | assumption | omega | (simp only [List.length_append, List.length_cons, List.length_nil]; omega))); k_whole); intro h' tk' t' r' F' N' hS' kp; (try k_sweep); walk_say "USE atom_ok"))
local macro_rules | `(tactic| walk_at "call ref") => `(tactic| (k_here; (with_reducible show wpAny _ _ (call (Value.ref 102) _) _ _ _); k_dflt (refine' functor_ok ?B ?F ?X ?N ?T ?hk ?hdp ?hun ?p0 ?p1 ?p2 ?_; (case B => k_asm); (case F => k_asm); (case X => k_asm); (case N => k_asm); (case T => k_asm); (case hk => first | exact rfl | k_asm); (case hdp => first | ((try simp only [depth_under_make, depth_under_kw, depth_in1, depth_deeper]); (try dsimp only [ktrTop]); omega) | ktr_room); (case hun => first | ((try simp only [units_in1, units_deeper, units_under_make, Around.mark_units]); (try dsimp only [ktrTop]); omega) | ktr_units); (case p0 => walk_at "my sym"); (case p1 => (first | assumption | (with_unfolding_all rfl))); (case p2 => (first | assumption | omega | (simp only [List.length_append, List.length_cons, List.length_nil]; omega))); k_whole); intro h' tk' t' r' F' N' hS' kp; (try k_sweep); walk_say "USE functor_ok"))
local macro_rules | `(tactic| walk_at "call ref") => `(tactic| (k_here; (with_reducible show wpAny _ _ (call (Value.ref 109) _) _ _ _); k_dflt (refine' func_ok ?B ?F ?X ?N ?T ?hk ?hdp ?hun ?p0 ?p1 ?p2 ?p3 ?p4 ?_; (case B => k_asm); (case F => k_asm); (case X => k_asm); (case N => k_asm); (case T => k_asm); (case hk => first | exact rfl | k_asm); (case hdp => first | ((try simp only [depth_under_make, depth_under_kw, depth_in1, depth_deeper]); (try dsimp only [ktrTop]); omega) | ktr_room); (case hun => first | ((try simp only [units_in1, units_deeper, units_under_make, Around.mark_units]); (try dsimp only [ktrTop]); omega) | ktr_units); (case p0 => walk_at "my sym"); (case p1 => (first | assumption | (with_unfolding_all rfl))); (case p2 => (first | assumption | (with_unfolding_all rfl))); (case p3 => (first | assumption | omega)); (case p4 => (first | assumption | omega)); k_whole); intro h' tk' t' r' F' N' hS' kp; (try k_sweep); walk_say "USE func_ok"))
theorem formal1 {w : World} {p : Program} {loose : List Str} {mean : ExcName → Option Value} {mg mb : Str → Option Value}
  {dp un : Nat} {gd : Option (List Code)} {cn : Str} {cs : Scope} {a : Addr} {ccd : Value} {cl : List (Str × Addr)} {outer : List Env} {A₀ : Around} {base h₀ : Heap} {L : Addr} {m : Str → Option Value} {news : List (Addr × Obj)} {s : Shared} {Q E : Value → Shared → Prop}
  {nm nd : Addr} {S : SymA} {ndn : Nat} {ts : List Str} {fs : List (Int × Int)}{x y : Str} {tx ty : Tok} {pa : Addr} {b i f : Int} {ts1 ts2 : List Str} {fs' : List (Int × Int)}
  (B : Below A₀ base outer h₀) (F : Fr h₀ L s.heap m) (X : (hd.heap_39 w.params).In h₀) (N : News h₀ L s.heap news) (T : Top p loose mean mg mb h₀) (hk : cs.kind = .function)
  (hdp : dp + 8 < recursionLimit) (hun : un + 80 < cLine)
  (hS : SymSt PySem.Challenge.rw_rh0112_01.row.prog w news nm nd S ndn ts fs) (hpa : (pa, tup [.str x tx] 0) ∈ news) (hp : intern x ts = (i, ts1)) (hp2 : intern y ts1 = (b, ts2)) (hp3 : intern (b, 1) fs = (f, fs')) (hz : ts.length < 900) (hz1 : ts1.length < 950) (hz2 : fs.length < 1000)
  (ret : ∀ h' tk g r', Fr h₀ L h' m → News h₀ L h' r' → SymSt PySem.Challenge.rw_rh0112_01.row.prog w r' nm nd S ndn ts2 fs' → Keep (symAt S) news r' → RT r' (.ref g) (.tuple [.str (Str.ofString "s"), .int f, .tuple [.tuple [.str (Str.ofString "a"), .int i]]]) → Q (.ref g) { s with heap := h', toks := tk }) :
  wpAny (model PySem.Challenge.rw_rh0112_01.row.prog w) (ktrTop dp un gd cn cs L a ccd cl outer) (call (.ref 193) [.ref nm, .str y ty, .ref pa]) Q E s := by
  revert X; k_fill; intro X
  have hi := hS.i
  have hd := hS.d
  obtain ⟨so1, so2, so3, so4, hm1, hm2, hm3, hm4⟩ := hS.mem4
  refine wpAny_call ?_
  k_dflt ktr_enter
  k_steps
  exact ret _ _ _ _ (by k_asm) (by k_asm) (by walk_at "my sym") (by walk_at "my keep") (by walk_at "my rt")

theorem formal2 {w : World} {p : Program} {loose : List Str} {mean : ExcName → Option Value} {mg mb : Str → Option Value}
  {dp un : Nat} {gd : Option (List Code)} {cn : Str} {cs : Scope} {a : Addr} {ccd : Value} {cl : List (Str × Addr)} {outer : List Env} {A₀ : Around} {base h₀ : Heap} {L : Addr} {m : Str → Option Value} {news : List (Addr × Obj)} {s : Shared} {Q E : Value → Shared → Prop}
  {nm nd : Addr} {S : SymA} {ndn : Nat} {ts : List Str} {fs : List (Int × Int)}{x y : Str} {tx ty : Tok} {pa : Addr} {b i f : Int} {pb : Addr} {dcul : PyData} {cvs : List Value} {cn9 : Nat} {ts1 ts2 : List Str} {fs' : List (Int × Int)}
  (B : Below A₀ base outer h₀) (F : Fr h₀ L s.heap m) (X : (hd.heap_39 w.params).In h₀) (N : News h₀ L s.heap news) (T : Top p loose mean mg mb h₀) (hk : cs.kind = .function)
  (hdp : dp + 8 < recursionLimit) (hun : un + 80 < cLine)
  (hS : SymSt PySem.Challenge.rw_rh0112_01.row.prog w news nm nd S ndn ts fs) (hpa : (pa, tup [.str x tx, .ref pb] 0) ∈ news) (hrt : RT news (.ref pb) dcul) (hpb : (pb, tup cvs cn9) ∈ news) (hp : intern x ts = (i, ts1)) (hp2 : intern y ts1 = (b, ts2)) (hp3 : intern (b, 2) fs = (f, fs')) (hz : ts.length < 900) (hz1 : ts1.length < 950) (hz2 : fs.length < 1000)
  (ret : ∀ h' tk g r', Fr h₀ L h' m → News h₀ L h' r' → SymSt PySem.Challenge.rw_rh0112_01.row.prog w r' nm nd S ndn ts2 fs' → Keep (symAt S) news r' → RT r' (.ref g) (.tuple [.str (Str.ofString "s"), .int f, .tuple [.tuple [.str (Str.ofString "a"), .int i], dcul]]) → Q (.ref g) { s with heap := h', toks := tk }) :
  wpAny (model PySem.Challenge.rw_rh0112_01.row.prog w) (ktrTop dp un gd cn cs L a ccd cl outer) (call (.ref 193) [.ref nm, .str y ty, .ref pa]) Q E s := by
  revert X; k_fill; intro X
  have hi := hS.i
  have hd := hS.d
  obtain ⟨so1, so2, so3, so4, hm1, hm2, hm3, hm4⟩ := hS.mem4
  refine wpAny_call ?_
  k_dflt ktr_enter
  k_steps
  exact ret _ _ _ _ (by k_asm) (by k_asm) (by walk_at "my sym") (by walk_at "my keep") (by walk_at "my rt")

end Mine
namespace Mine
local macro_rules | `(tactic| walk_at "exec While") => `(tactic| (k_here; k_dflt (refine whl_start 1 ?_)))
local macro_rules | `(tactic| walk_at "ite") => `(tactic| (k_here; first | (refine ite_pos (by first | with_reducible assumption | (simp only [beq_iff_eq, bne_iff_ne, decide_eq_true_eq, ne_eq]; omega)) ?_; walk_say "MY PRUNE") | (refine ite_neg (by first | with_reducible assumption | (simp only [beq_iff_eq, bne_iff_ne, decide_eq_true_eq, ne_eq]; omega)) ?_; walk_say "MY PRUNE")))
local macro_rules | `(tactic| walk_at "subscriptTail") => `(tactic| (k_here; (with_reducible show wpAny _ _ (subscriptTail _ _ (Value.ref _) (Value.int _ _)) _ _ _); (with_unfolding_all refine' item_abs ?k1 ?k2 ?k3 ?k4 ?k5 ?_ ?k6; (case k1 => k_asm); (case k2 => k_mem); (case k3 => assumption); (case k4 => first | assumption | omega); (case k5 => assumption); (case k6 => with_unfolding_all rfl); k_whole); walk_say "MY ITEM"))
local macro_rules | `(tactic| walk_at "compareOp In str ref") => `(tactic| (k_here; k_dflt (refine' in_tupK ?F ?X ?l ?w ?b ?_; (case F => k_asm); (case X => k_asm); (case l => k_is); (case w => kde_strs); (case b => exact rfl); k_whole); walk_say "MY IN"))
local macro_rules | `(tactic| walk_at "call builtin:list.append") => `(tactic| (k_here; (with_reducible show wpAny _ _ (call (Value.builtin _) [Value.ref _, _]) _ _ _); k_dflt (refine' append_L ?k1 ?k2 ?k3 ?z ?_; (case k1 => k_asm); (case k2 => k_asm); (case k3 => k_upd); (case z => first | assumption | omega | (simp only [List.length_append, List.length_cons, List.length_nil]; omega)); k_whole); intro h' F' N'; (try k_sweep); walk_say "MY APPEND"))
local macro_rules | `(tactic| walk_at "call builtin:list.pop") => `(tactic| (k_here; (with_reducible show wpAny _ _ (call (Value.builtin _) [Value.ref _]) _ _ _); k_dflt (refine' pop_L ?k1 ?k2 ?k3 ?z ?_; (case k1 => k_asm); (case k2 => k_asm); (case k3 => k_upd); (case z => first | assumption | omega | (simp only [List.length_append, List.length_cons, List.length_nil]; omega)); k_whole); intro h' F' N'; (try k_sweep); walk_say "MY POP"))
local macro_rules | `(tactic| k_all) => `(tactic| assumption)
local macro_rules | `(tactic| k_mem) => `(tactic| first | with_reducible exact List.Mem.head _ | assumption | (refine' List.Mem.tail _ ?_; k_mem))
local macro_rules | `(tactic| walk_at "truthy ref") => `(tactic| (k_here; (with_reducible show wpAny _ _ (truthy (Value.ref _)) _ _ _); k_dflt (refine' truthy_L ?k1 ?k2 ?k3 ?k4 ?_; (case k1 => k_asm); (case k2 => k_mem); (case k3 => first | assumption | (simp only [List.length_append, List.length_cons, List.length_nil]; omega)); (case k4 => first | exact some_true _ _ | exact none_false); k_whole); walk_say "MY TRUTH"))
local macro_rules | `(tactic| walk_at "call builtin:len") => `(tactic| (k_here; (with_reducible show wpAny _ _ (call (Value.builtin "len") [Value.ref _]) _ _ _); k_dflt (refine' len_L ?k1 ?k2 ?k3 ?_; (case k1 => k_asm); (case k2 => k_mem); (case k3 => first | assumption | (simp only [List.length_append, List.length_cons, List.length_nil]; omega)); k_whole); walk_say "MY LEN"))
local macro_rules | `(tactic| k_mem) => `(tactic| first | with_reducible exact List.mem_cons_self | with_reducible assumption | exact List.Mem.head _ | with_reducible exact SymSt.i (by with_reducible assumption) | with_reducible exact SymSt.d (by with_reducible assumption) | ((with_reducible refine' Keep.any ?kmk _ _ ?kma ?kmb); (case kmk => (with_reducible assumption)); (case kma => k_mem); (case kmb => first | exact .inl (.inl rfl) | exact .inl (.inr ⟨_, rfl⟩) | (refine Or.inr ?_; walk_at "my notin"))) | ((with_reducible refine' List.mem_cons_of_mem _ ?_); k_mem) | assumption | fail "my mem")
local macro_rules | `(tactic| walk_at "my ne0") => `(tactic| first | with_reducible assumption | with_reducible exact Ne.symm (by with_reducible assumption) | k_ne | (exact Ne.symm (by k_ne)) | exact lt_at (by with_reducible assumption) (by with_reducible assumption) | exact Ne.symm (lt_at (by with_reducible assumption) (by with_reducible assumption)) | exact off_at (by with_reducible assumption) (by with_reducible assumption) | exact Ne.symm (off_at (by with_reducible assumption) (by with_reducible assumption)) | fail "my ne0")
local macro_rules | `(tactic| walk_at "my notin") => `(tactic| first | with_reducible assumption | with_reducible exact OffS.sym (by with_reducible assumption) | with_reducible exact OffS.nd (by with_reducible assumption) | (simp only [List.mem_cons, List.not_mem_nil, or_false, not_or]; (repeat' (refine And.intro ?_ ?_)) <;> walk_at "my ne0"))
local macro_rules | `(tactic| walk_at "my sym") => `(tactic| first | with_reducible assumption | (refine' SymSt.keep ?ks1 (.cons [] _ _) (by simp); (case ks1 => walk_at "my sym")) | (refine' SymSt.keep (ds := []) ?ks1 ?ks2 (fun _ _ => List.not_mem_nil); (case ks2 => with_reducible assumption); (case ks1 => walk_at "my sym")) | (refine' SymSt.keepO ?ks1 ?ks2 ?ks3; (case ks2 => with_reducible assumption); (case ks3 => with_reducible assumption); (case ks1 => walk_at "my sym")) | fail "my sym")
local macro_rules | `(tactic| walk_at "my tab") => `(tactic| first | assumption | (refine' PyProof.Rows.TupTab.cons ?kt _; (case kt => walk_at "my tab")) | (refine' tupTab_keep ?kt1 ?kt0 ?kt2; (case kt0 => assumption); (case kt1 => walk_at "my tab"); (case kt2 => walk_at "my notin")) | fail "my tab")
local macro_rules | `(tactic| walk_at "call builtin:list.append") => `(tactic| (k_here; (with_reducible show wpAny _ _ (call (Value.builtin _) [Value.ref _, _]) _ _ _); k_dflt (refine' append_M ?k1 ?k2 ?k3 ?z ?_; (case k1 => k_asm); (case k2 => k_asm); (case k3 => k_mem); (case z => first | assumption | omega | (simp only [List.length_append, List.length_cons, List.length_nil]; omega)); k_whole); intro h' r' F' N' hin kp; (try k_sweep); walk_say "M APPEND"))
local macro_rules | `(tactic| walk_at "getMethod ref") => `(tactic| (k_here; (with_reducible show wpAny _ _ (getMethod (Value.ref _) "get" _) _ _ _); k_dflt (first | (refine' smeth_M ?k1 ?k2 ?k3 ?k4 ?k5 ?_; (case k1 => k_asm); (case k2 => k_mem); (case k4 => assumption); (case k5 => assumption); (case k3 => assumption); k_whole) | (refine' tmeth_M ?k1 ?k2 ?_; (case k1 => k_asm); (case k2 => walk_at "my tab"); k_whole)); walk_say "M METH"))
local macro_rules | `(tactic| walk_at "call builtin:dict.get") => `(tactic| (k_here; k_dflt (first | (refine' sget_M ?k1 ?k2 ?k3 ?k4 ?k5 ?k6 ?_; (case k1 => k_asm); (case k2 => k_mem); (case k4 => assumption); (case k5 => assumption); (case k3 => assumption); (case k6 => assumption); k_whole) | (refine' tget_M ?k1 ?k2 ?k3 ?k4 ?k5 ?_; (case k2 => k_asm); (case k3 => walk_at "my tab"); (case k4 => k_mem); (case k5 => assumption); (case k1 => walk_at "my units"); k_whole)); intro t'; walk_say "M GET"))
local macro_rules | `(tactic| walk_at "my units") => `(tactic| ((try simp only [units_in1, units_deeper, units_under_make, Around.mark_units]); (try dsimp only [ktrTop]); (try simp only [units_in1, units_deeper, units_under_make, Around.mark_units]); omega))
local macro_rules | `(tactic| walk_at "setItem ref str") => `(tactic| (k_here; k_dflt (refine' sset_M ?F ?N ?m ?d ?f ?z ?_; (case F => k_asm); (case N => k_asm); (case m => k_mem); (case d => assumption); (case f => assumption); (case z => first | assumption | omega); k_whole); intro h' r' o' kvs' F' N' hin hd' hf' kp; (try k_sweep); walk_say "M SET"))
local macro_rules | `(tactic| walk_at "setItem ref ref") => `(tactic| (k_here; k_dflt (refine' tset_M ?u ?F ?N ?T ?m ?z ?_; (case F => k_asm); (case N => k_asm); (case T => walk_at "my tab"); (case m => k_mem); (case z => first | assumption | omega); (case u => walk_at "my units"); k_whole); intro h' r' F' N' hT' kp; (try k_sweep); walk_say "M TSET"))
local macro_rules | `(tactic| walk_at "exec For") => `(tactic| (k_here; (with_reducible show wpAny _ _ (exec (Stmt.For (Expr.Name _ _) _ _ [] _) _) _ _ _); (rename Fr _ _ _ _ => lF'); (with_unfolding_all refine' For_invVF lF' ?k1 ?k2 ?_; (case k1 => exact rfl); (case k2 => exact rfl); k_whole); walk_say "MY FOR"))
local macro_rules | `(tactic| walk_at "exec For Name Name cons nil") => `(tactic| (k_here; (rename Fr _ _ _ _ => lF'); (with_unfolding_all refine' For_invVF lF' ?k1 ?k2 ?_; (case k1 => exact rfl); (case k2 => exact rfl); k_whole); walk_say "MY FOR"))
local macro_rules | `(tactic| walk_at "exec For Name Call cons nil") => `(tactic| (k_here; (rename Fr _ _ _ _ => lF'); (with_unfolding_all refine' For_invVF lF' ?k1 ?k2 ?_; (case k1 => exact rfl); (case k2 => exact rfl); k_whole); walk_say "MY FOR"))
local macro_rules | `(tactic| walk_at "pyIter ref") => `(tactic| (k_here; (with_reducible show wpAny _ _ (pyIter (Value.ref _)) (fun it s₂ => LoopAtV _ _ _ _ _ _ _ _ _ it s₂) _ _); k_dflt (first | (refine' iter_tupU ?h ?F ?N ?m ?_; (case h => with_unfolding_all rfl); (case F => k_asm); (case N => k_asm); (case m => k_mem); k_whole) | (refine' iter_lstU ?h ?F ?N ?m ?_; (case h => with_unfolding_all rfl); (case F => k_asm); (case N => k_asm); (case m => k_mem); k_whole)); intro i' l1; (try (have hoff := SymSt.offNew l1 (by walk_at "my sym"))); (try k_lt l1); walk_say "MY ITER"))
local macro_rules | `(tactic| walk_at "SeqRest") => `(tactic| (with_unfolding_all first | (refine SeqRest.succ (fun it' h' tk' o' f' F' N' => ?_)) | (refine SeqRest.zero (fun h' tk' F' N' => ?_))))
local macro_rules | `(tactic| walk_at "UnrEnd") => `(tactic| (refine' UnrEnd.introM2 ?F ?N ?hI ?hf ?_; (case F => k_asm); (case N => k_asm); (case hI => k_mem); (case hf => assumption); intro q' kq' oq'; refine ⟨by k_mem, ?_⟩; walk_say "MY UNREND"))
local macro_rules | `(tactic| walk_at "find lt") => `(tactic| first | assumption | exact And.right (by assumption) | exact And.right (And.right (by assumption)) | exact And.right (And.right (And.right (by assumption))) | fail "find lt")
local macro_rules | `(tactic| walk_at "newList") => `(tactic| (k_here; k_dflt (refine' newList_K ?k1 ?k2 ?_; (case k1 => k_asm); (case k2 => k_asm); k_whole); intro l' h' F' N' l1; (try (have hoff := SymSt.offNew l1 (by walk_at "my sym"))); (try k_lt l1); (try k_sweep); walk_say "MY NEWLIST"))
local macro_rules | `(tactic| walk_at "my rt") => `(tactic| first | assumption | with_reducible exact RT.int _ _ | with_reducible exact RT.str _ _ | (refine' RT.tup ?rta ?rtb; (case rta => k_mem); (case rtb => walk_at "my rts")) | (refine' RT.sub ?rta (fun _ h => List.mem_cons_of_mem _ h); (case rta => walk_at "my rt")) | (refine' RT.keep ?rta ?rtb; (case rtb => with_reducible assumption); (case rta => walk_at "my rt")) | fail "my rt")
local macro_rules | `(tactic| walk_at "my rts") => `(tactic| first | exact RTs.nil | (refine' RTs.cons ?rsa ?rsb; (case rsa => walk_at "my rt"); (case rsb => walk_at "my rts")) | fail "my rts")
local macro_rules | `(tactic| walk_at "my keep") => `(tactic| first | with_reducible assumption | exact Keep.refl _ _ | (with_reducible refine' Keep.stepCons ?kpa; (case kpa => walk_at "my keep")) | ((with_reducible refine' Keep.trans ?kpa ?kpb); (case kpb => (with_reducible assumption)); (case kpa => walk_at "my keep")) | ((refine' Keep.trans ?kpa (Keep.wide (ds := []) ?kpb (fun _ h => nomatch h))); (case kpb => (with_reducible assumption)); (case kpa => walk_at "my keep")) | ((with_reducible refine' Keep.stepNew ?kpa ?kpb ?kpc); (case kpb => (with_reducible assumption)); (case kpc => walk_at "my off"); (case kpa => walk_at "my keep")) | fail "my keep")
local macro_rules | `(tactic| walk_at "my off") => `(tactic| first | assumption | exact off_lt (by assumption) | (refine' off_sub ?ofa ?ofb; (case ofa => assumption); (case ofb => (intro p hp; repeat (first | exact hp | refine List.mem_cons_of_mem _ ?_)))) | (refine' off_allLt ?ofa; (case ofa => walk_at "find lt")) | fail "my off")
local macro_rules | `(tactic| walk_at "call type:tuple") => `(tactic| (k_here; (with_reducible show wpAny _ _ (call (Value.type _) [Value.ref _]) _ _ _); k_dflt (refine' tuple_M ?k1 ?k2 ?_; (case k1 => k_asm); (case k2 => k_mem); k_whole); walk_say "MY TUPLE"))
local macro_rules | `(tactic| walk_at "call ref") => `(tactic| (k_here; (with_reducible show wpAny _ _ (call (Value.ref 51) _) _ _ _); k_dflt (refine' prolog_ok ?B ?F ?X ?N ?T ?hk ?hdp ?hun  ?_; (case B => k_asm); (case F => k_asm); (case X => k_asm); (case N => k_asm); (case T => k_asm); (case hk => first | exact rfl | k_asm); (case hdp => first | ((try simp only [depth_under_make, depth_under_kw, depth_in1, depth_deeper]); (try dsimp only [ktrTop]); omega) | ktr_room); (case hun => first | ((try simp only [units_in1, units_deeper, units_under_make, Around.mark_units]); (try dsimp only [ktrTop]); omega) | ktr_units);  k_whole); intro h' tk' e dx t hsh key F' N' l1 l2; (try k_sweep); walk_say "USE prolog_ok"))
theorem sys_ok {w : World} {p : Program} {loose : List Str} {mean : ExcName → Option Value} {mg mb : Str → Option Value}
  {dp un : Nat} {gd : Option (List Code)} {cn : Str} {cs : Scope} {a : Addr} {ccd : Value} {cl : List (Str × Addr)} {outer : List Env} {A₀ : Around} {base h₀ : Heap} {L : Addr} {m : Str → Option Value} {news : List (Addr × Obj)} {s : Shared} {Q E : Value → Shared → Prop}
  {g : Addr} {d : PyData}
  (B : Below A₀ base outer h₀) (F : Fr h₀ L s.heap m) (X : (hd.heap_39 w.params).In h₀) (N : News h₀ L s.heap news) (T : Top p loose mean mg mb h₀) (hk : cs.kind = .function)
  (hdp : dp + 8 < recursionLimit) (hun : un + 80 < cLine)
  (hrt : RT news (.ref g) d)
  (ret : ∀ h' tk e dx t r', Fr h₀ L h' m → News h₀ L h' ((e, exc1 51 dx t) :: r') → (∀ p ∈ r', p.1 ≠ e) → Keep [] news r' → BallAt r' dx d → Q (.ref e) { s with heap := h', toks := tk }) :
  wpAny (model PySem.Challenge.rw_rh0112_01.row.prog w) (ktrTop dp un gd cn cs L a ccd cl outer) (call (.ref 186) [.ref g]) Q E s := by
  revert X; k_fill; intro X
  refine wpAny_call ?_
  k_dflt ktr_enter
  k_steps
  rename_i hl1 hne kF nE _ _
  refine ret _ _ _ _ _ _ (by k_asm) (news_swap nE) ?_ (by walk_at "my keep") ⟨_, _, _, _, _, _, _, _, _, _, .head _, by k_mem, by k_mem, by walk_at "my rt"⟩
  intro p hp
  rcases List.mem_cons.mp hp with rfl | hp
  · exact hne
  · exact (hl1 p hp).1

end Mine
namespace Mine
local macro_rules | `(tactic| walk_at "exec While") => `(tactic| (k_here; k_dflt (refine whl_start 1 ?_)))
local macro_rules | `(tactic| walk_at "ite") => `(tactic| (k_here; first | (refine ite_pos (by first | with_reducible assumption | (simp only [beq_iff_eq, bne_iff_ne, decide_eq_true_eq, ne_eq]; omega)) ?_; walk_say "MY PRUNE") | (refine ite_neg (by first | with_reducible assumption | (simp only [beq_iff_eq, bne_iff_ne, decide_eq_true_eq, ne_eq]; omega)) ?_; walk_say "MY PRUNE")))
local macro_rules | `(tactic| walk_at "subscriptTail") => `(tactic| (k_here; (with_reducible show wpAny _ _ (subscriptTail _ _ (Value.ref _) (Value.int _ _)) _ _ _); (with_unfolding_all refine' item_abs ?k1 ?k2 ?k3 ?k4 ?k5 ?_ ?k6; (case k1 => k_asm); (case k2 => k_mem); (case k3 => assumption); (case k4 => first | assumption | omega); (case k5 => assumption); (case k6 => with_unfolding_all rfl); k_whole); walk_say "MY ITEM"))
local macro_rules | `(tactic| walk_at "compareOp In str ref") => `(tactic| (k_here; k_dflt (refine' in_tupK ?F ?X ?l ?w ?b ?_; (case F => k_asm); (case X => k_asm); (case l => k_is); (case w => kde_strs); (case b => exact rfl); k_whole); walk_say "MY IN"))
local macro_rules | `(tactic| walk_at "call builtin:list.append") => `(tactic| (k_here; (with_reducible show wpAny _ _ (call (Value.builtin _) [Value.ref _, _]) _ _ _); k_dflt (refine' append_L ?k1 ?k2 ?k3 ?z ?_; (case k1 => k_asm); (case k2 => k_asm); (case k3 => k_upd); (case z => first | assumption | omega | (simp only [List.length_append, List.length_cons, List.length_nil]; omega)); k_whole); intro h' F' N'; (try k_sweep); walk_say "MY APPEND"))
local macro_rules | `(tactic| walk_at "call builtin:list.pop") => `(tactic| (k_here; (with_reducible show wpAny _ _ (call (Value.builtin _) [Value.ref _]) _ _ _); k_dflt (refine' pop_L ?k1 ?k2 ?k3 ?z ?_; (case k1 => k_asm); (case k2 => k_asm); (case k3 => k_upd); (case z => first | assumption | omega | (simp only [List.length_append, List.length_cons, List.length_nil]; omega)); k_whole); intro h' F' N'; (try k_sweep); walk_say "MY POP"))
local macro_rules | `(tactic| k_all) => `(tactic| assumption)
local macro_rules | `(tactic| k_mem) => `(tactic| first | with_reducible exact List.Mem.head _ | assumption | (refine' List.Mem.tail _ ?_; k_mem))
local macro_rules | `(tactic| walk_at "truthy ref") => `(tactic| (k_here; (with_reducible show wpAny _ _ (truthy (Value.ref _)) _ _ _); k_dflt (refine' truthy_L ?k1 ?k2 ?k3 ?k4 ?_; (case k1 => k_asm); (case k2 => k_mem); (case k3 => first | assumption | (simp only [List.length_append, List.length_cons, List.length_nil]; omega)); (case k4 => first | exact some_true _ _ | exact none_false); k_whole); walk_say "MY TRUTH"))
local macro_rules | `(tactic| walk_at "call builtin:len") => `(tactic| (k_here; (with_reducible show wpAny _ _ (call (Value.builtin "len") [Value.ref _]) _ _ _); k_dflt (refine' len_L ?k1 ?k2 ?k3 ?_; (case k1 => k_asm); (case k2 => k_mem); (case k3 => first | assumption | (simp only [List.length_append, List.length_cons, List.length_nil]; omega)); k_whole); walk_say "MY LEN"))
local macro_rules | `(tactic| k_mem) => `(tactic| first | with_reducible exact List.mem_cons_self | with_reducible assumption | exact List.Mem.head _ | with_reducible exact SymSt.i (by with_reducible assumption) | with_reducible exact SymSt.d (by with_reducible assumption) | ((with_reducible refine' Keep.any ?kmk _ _ ?kma ?kmb); (case kmk => (with_reducible assumption)); (case kma => k_mem); (case kmb => first | exact .inl (.inl rfl) | exact .inl (.inr ⟨_, rfl⟩) | (refine Or.inr ?_; walk_at "my notin"))) | ((with_reducible refine' List.mem_cons_of_mem _ ?_); k_mem) | assumption | fail "my mem")
local macro_rules | `(tactic| walk_at "my ne0") => `(tactic| first | with_reducible assumption | with_reducible exact Ne.symm (by with_reducible assumption) | k_ne | (exact Ne.symm (by k_ne)) | exact lt_at (by with_reducible assumption) (by with_reducible assumption) | exact Ne.symm (lt_at (by with_reducible assumption) (by with_reducible assumption)) | exact off_at (by with_reducible assumption) (by with_reducible assumption) | exact Ne.symm (off_at (by with_reducible assumption) (by with_reducible assumption)) | fail "my ne0")
local macro_rules | `(tactic| walk_at "my notin") => `(tactic| first | with_reducible assumption | with_reducible exact OffS.sym (by with_reducible assumption) | with_reducible exact OffS.nd (by with_reducible assumption) | (simp only [List.mem_cons, List.not_mem_nil, or_false, not_or]; (repeat' (refine And.intro ?_ ?_)) <;> walk_at "my ne0"))
local macro_rules | `(tactic| walk_at "my sym") => `(tactic| first | with_reducible assumption | (refine' SymSt.keep ?ks1 (.cons [] _ _) (by simp); (case ks1 => walk_at "my sym")) | (refine' SymSt.keep (ds := []) ?ks1 ?ks2 (fun _ _ => List.not_mem_nil); (case ks2 => with_reducible assumption); (case ks1 => walk_at "my sym")) | (refine' SymSt.keepO ?ks1 ?ks2 ?ks3; (case ks2 => with_reducible assumption); (case ks3 => with_reducible assumption); (case ks1 => walk_at "my sym")) | fail "my sym")
local macro_rules | `(tactic| walk_at "my tab") => `(tactic| first | assumption | (refine' PyProof.Rows.TupTab.cons ?kt _; (case kt => walk_at "my tab")) | (refine' tupTab_keep ?kt1 ?kt0 ?kt2; (case kt0 => assumption); (case kt1 => walk_at "my tab"); (case kt2 => walk_at "my notin")) | fail "my tab")
local macro_rules | `(tactic| walk_at "call builtin:list.append") => `(tactic| (k_here; (with_reducible show wpAny _ _ (call (Value.builtin _) [Value.ref _, _]) _ _ _); k_dflt (refine' append_M ?k1 ?k2 ?k3 ?z ?_; (case k1 => k_asm); (case k2 => k_asm); (case k3 => k_mem); (case z => first | assumption | omega | (simp only [List.length_append, List.length_cons, List.length_nil]; omega)); k_whole); intro h' r' F' N' hin kp; (try k_sweep); walk_say "M APPEND"))
local macro_rules | `(tactic| walk_at "getMethod ref") => `(tactic| (k_here; (with_reducible show wpAny _ _ (getMethod (Value.ref _) "get" _) _ _ _); k_dflt (first | (refine' smeth_M ?k1 ?k2 ?k3 ?k4 ?k5 ?_; (case k1 => k_asm); (case k2 => k_mem); (case k4 => assumption); (case k5 => assumption); (case k3 => assumption); k_whole) | (refine' tmeth_M ?k1 ?k2 ?_; (case k1 => k_asm); (case k2 => walk_at "my tab"); k_whole)); walk_say "M METH"))
local macro_rules | `(tactic| walk_at "call builtin:dict.get") => `(tactic| (k_here; k_dflt (first | (refine' sget_M ?k1 ?k2 ?k3 ?k4 ?k5 ?k6 ?_; (case k1 => k_asm); (case k2 => k_mem); (case k4 => assumption); (case k5 => assumption); (case k3 => assumption); (case k6 => assumption); k_whole) | (refine' tget_M ?k1 ?k2 ?k3 ?k4 ?k5 ?_; (case k2 => k_asm); (case k3 => walk_at "my tab"); (case k4 => k_mem); (case k5 => assumption); (case k1 => walk_at "my units"); k_whole)); intro t'; walk_say "M GET"))
local macro_rules | `(tactic| walk_at "my units") => `(tactic| ((try simp only [units_in1, units_deeper, units_under_make, Around.mark_units]); (try dsimp only [ktrTop]); (try simp only [units_in1, units_deeper, units_under_make, Around.mark_units]); omega))
local macro_rules | `(tactic| walk_at "setItem ref str") => `(tactic| (k_here; k_dflt (refine' sset_M ?F ?N ?m ?d ?f ?z ?_; (case F => k_asm); (case N => k_asm); (case m => k_mem); (case d => assumption); (case f => assumption); (case z => first | assumption | omega); k_whole); intro h' r' o' kvs' F' N' hin hd' hf' kp; (try k_sweep); walk_say "M SET"))
local macro_rules | `(tactic| walk_at "setItem ref ref") => `(tactic| (k_here; k_dflt (refine' tset_M ?u ?F ?N ?T ?m ?z ?_; (case F => k_asm); (case N => k_asm); (case T => walk_at "my tab"); (case m => k_mem); (case z => first | assumption | omega); (case u => walk_at "my units"); k_whole); intro h' r' F' N' hT' kp; (try k_sweep); walk_say "M TSET"))
local macro_rules | `(tactic| walk_at "exec For") => `(tactic| (k_here; (with_reducible show wpAny _ _ (exec (Stmt.For (Expr.Name _ _) _ _ [] _) _) _ _ _); (rename Fr _ _ _ _ => lF'); (with_unfolding_all refine' For_invVF lF' ?k1 ?k2 ?_; (case k1 => exact rfl); (case k2 => exact rfl); k_whole); walk_say "MY FOR"))
local macro_rules | `(tactic| walk_at "exec For Name Name cons nil") => `(tactic| (k_here; (rename Fr _ _ _ _ => lF'); (with_unfolding_all refine' For_invVF lF' ?k1 ?k2 ?_; (case k1 => exact rfl); (case k2 => exact rfl); k_whole); walk_say "MY FOR"))
local macro_rules | `(tactic| walk_at "exec For Name Call cons nil") => `(tactic| (k_here; (rename Fr _ _ _ _ => lF'); (with_unfolding_all refine' For_invVF lF' ?k1 ?k2 ?_; (case k1 => exact rfl); (case k2 => exact rfl); k_whole); walk_say "MY FOR"))
local macro_rules | `(tactic| walk_at "pyIter ref") => `(tactic| (k_here; (with_reducible show wpAny _ _ (pyIter (Value.ref _)) (fun it s₂ => LoopAtV _ _ _ _ _ _ _ _ _ it s₂) _ _); k_dflt (first | (refine' iter_tupU ?h ?F ?N ?m ?_; (case h => with_unfolding_all rfl); (case F => k_asm); (case N => k_asm); (case m => k_mem); k_whole) | (refine' iter_lstU ?h ?F ?N ?m ?_; (case h => with_unfolding_all rfl); (case F => k_asm); (case N => k_asm); (case m => k_mem); k_whole)); intro i' l1; (try (have hoff := SymSt.offNew l1 (by walk_at "my sym"))); (try k_lt l1); walk_say "MY ITER"))
local macro_rules | `(tactic| walk_at "SeqRest") => `(tactic| (with_unfolding_all first | (refine SeqRest.succ (fun it' h' tk' o' f' F' N' => ?_)) | (refine SeqRest.zero (fun h' tk' F' N' => ?_))))
local macro_rules | `(tactic| walk_at "UnrEnd") => `(tactic| (refine' UnrEnd.introM2 ?F ?N ?hI ?hf ?_; (case F => k_asm); (case N => k_asm); (case hI => k_mem); (case hf => assumption); intro q' kq' oq'; refine ⟨by k_mem, ?_⟩; walk_say "MY UNREND"))
local macro_rules | `(tactic| walk_at "find lt") => `(tactic| first | assumption | exact And.right (by assumption) | exact And.right (And.right (by assumption)) | exact And.right (And.right (And.right (by assumption))) | fail "find lt")
local macro_rules | `(tactic| walk_at "newList") => `(tactic| (k_here; k_dflt (refine' newList_K ?k1 ?k2 ?_; (case k1 => k_asm); (case k2 => k_asm); k_whole); intro l' h' F' N' l1; (try (have hoff := SymSt.offNew l1 (by walk_at "my sym"))); (try k_lt l1); (try k_sweep); walk_say "MY NEWLIST"))
local macro_rules | `(tactic| walk_at "my rt") => `(tactic| first | assumption | with_reducible exact RT.int _ _ | with_reducible exact RT.str _ _ | (refine' RT.tup ?rta ?rtb; (case rta => k_mem); (case rtb => walk_at "my rts")) | (refine' RT.sub ?rta (fun _ h => List.mem_cons_of_mem _ h); (case rta => walk_at "my rt")) | (refine' RT.keep ?rta ?rtb; (case rtb => with_reducible assumption); (case rta => walk_at "my rt")) | fail "my rt")
local macro_rules | `(tactic| walk_at "my rts") => `(tactic| first | exact RTs.nil | (refine' RTs.cons ?rsa ?rsb; (case rsa => walk_at "my rt"); (case rsb => walk_at "my rts")) | fail "my rts")
local macro_rules | `(tactic| walk_at "my keep") => `(tactic| first | with_reducible assumption | exact Keep.refl _ _ | (with_reducible refine' Keep.stepCons ?kpa; (case kpa => walk_at "my keep")) | ((with_reducible refine' Keep.trans ?kpa ?kpb); (case kpb => (with_reducible assumption)); (case kpa => walk_at "my keep")) | ((refine' Keep.trans ?kpa (Keep.wide (ds := []) ?kpb (fun _ h => nomatch h))); (case kpb => (with_reducible assumption)); (case kpa => walk_at "my keep")) | ((with_reducible refine' Keep.stepNew ?kpa ?kpb ?kpc); (case kpb => (with_reducible assumption)); (case kpc => walk_at "my off"); (case kpa => walk_at "my keep")) | fail "my keep")
local macro_rules | `(tactic| walk_at "my off") => `(tactic| first | assumption | exact off_lt (by assumption) | (refine' off_sub ?ofa ?ofb; (case ofa => assumption); (case ofb => (intro p hp; repeat (first | exact hp | refine List.mem_cons_of_mem _ ?_)))) | (refine' off_allLt ?ofa; (case ofa => walk_at "find lt")) | fail "my off")
local macro_rules | `(tactic| walk_at "call type:tuple") => `(tactic| (k_here; (with_reducible show wpAny _ _ (call (Value.type _) [Value.ref _]) _ _ _); k_dflt (refine' tuple_M ?k1 ?k2 ?_; (case k1 => k_asm); (case k2 => k_mem); k_whole); walk_say "MY TUPLE"))
local macro_rules | `(tactic| walk_at "call ref") => `(tactic| (k_here; (with_reducible show wpAny _ _ (call (Value.ref 88) _) _ _ _); k_dflt (refine' atom_ok ?B ?F ?X ?N ?T ?hk ?hdp ?hun ?p0 ?p1 ?p2 ?_; (case B => k_asm); (case F => k_asm); (case X => k_asm); (case N => k_asm); (case T => k_asm); (case hk => first | exact rfl | k_asm); (case hdp => first | ((try simp only [depth_under_make, depth_under_kw, depth_in1, depth_deeper]); (try dsimp only [ktrTop]); omega) | ktr_room); (case hun => first | ((try simp only [units_in1, units_deeper, units_under_make, Around.mark_units]); (try dsimp only [ktrTop]); omega) | ktr_units); (case p0 => walk_at "my sym"); (case p1 => (first | assumption | (with_unfolding_all rfl))); (case p2 => (first | assumption | omega | (simp only [List.length_append, List.length_cons, List.length_nil]; omega))); k_whole); intro h' tk' t' r' F' N' hS' kp; (try k_sweep); walk_say "USE atom_ok"))
local macro_rules | `(tactic| walk_at "call ref") => `(tactic| (k_here; (with_reducible show wpAny _ _ (call (Value.ref 102) _) _ _ _); k_dflt (refine' functor_ok ?B ?F ?X ?N ?T ?hk ?hdp ?hun ?p0 ?p1 ?p2 ?_; (case B => k_asm); (case F => k_asm); (case X => k_asm); (case N => k_asm); (case T => k_asm); (case hk => first | exact rfl | k_asm); (case hdp => first | ((try simp only [depth_under_make, depth_under_kw, depth_in1, depth_deeper]); (try dsimp only [ktrTop]); omega) | ktr_room); (case hun => first | ((try simp only [units_in1, units_deeper, units_under_make, Around.mark_units]); (try dsimp only [ktrTop]); omega) | ktr_units); (case p0 => walk_at "my sym"); (case p1 => (first | assumption | (with_unfolding_all rfl))); (case p2 => (first | assumption | omega | (simp only [List.length_append, List.length_cons, List.length_nil]; omega))); k_whole); intro h' tk' t' r' F' N' hS' kp; (try k_sweep); walk_say "USE functor_ok"))
local macro_rules | `(tactic| walk_at "call ref") => `(tactic| (k_here; (with_reducible show wpAny _ _ (call (Value.ref 109) _) _ _ _); k_dflt (refine' func_ok ?B ?F ?X ?N ?T ?hk ?hdp ?hun ?p0 ?p1 ?p2 ?p3 ?p4 ?_; (case B => k_asm); (case F => k_asm); (case X => k_asm); (case N => k_asm); (case T => k_asm); (case hk => first | exact rfl | k_asm); (case hdp => first | ((try simp only [depth_under_make, depth_under_kw, depth_in1, depth_deeper]); (try dsimp only [ktrTop]); omega) | ktr_room); (case hun => first | ((try simp only [units_in1, units_deeper, units_under_make, Around.mark_units]); (try dsimp only [ktrTop]); omega) | ktr_units); (case p0 => walk_at "my sym"); (case p1 => (first | assumption | (with_unfolding_all rfl))); (case p2 => (first | assumption | (with_unfolding_all rfl))); (case p3 => (first | assumption | omega)); (case p4 => (first | assumption | omega)); k_whole); intro h' tk' t' r' F' N' hS' kp; (try k_sweep); walk_say "USE func_ok"))
local macro_rules | `(tactic| walk_at "call ref") => `(tactic| (k_here; (with_reducible show wpAny _ _ (call (Value.ref 193) _) _ _ _); k_dflt (refine' formal1 ?B ?F ?X ?N ?T ?hk ?hdp ?hun ?p0 ?p1 ?p2 ?p3 ?p4 ?p5 ?p6 ?p7 ?_; (case B => k_asm); (case F => k_asm); (case X => k_asm); (case N => k_asm); (case T => k_asm); (case hk => first | exact rfl | k_asm); (case hdp => first | ((try simp only [depth_under_make, depth_under_kw, depth_in1, depth_deeper]); (try dsimp only [ktrTop]); omega) | ktr_room); (case hun => first | ((try simp only [units_in1, units_deeper, units_under_make, Around.mark_units]); (try dsimp only [ktrTop]); omega) | ktr_units); (case p0 => walk_at "my sym"); (case p1 => k_mem); (case p2 => (first | assumption | (with_unfolding_all rfl))); (case p3 => (first | assumption | (with_unfolding_all rfl))); (case p4 => (first | assumption | (with_unfolding_all rfl))); (case p5 => (first | assumption | omega)); (case p6 => (first | assumption | omega)); (case p7 => (first | assumption | omega)); k_whole); intro h' tk' g r' F' N' hS' kp hrt; (try k_sweep); walk_say "USE formal1"))
local macro_rules | `(tactic| walk_at "call ref") => `(tactic| (k_here; (with_reducible show wpAny _ _ (call (Value.ref 193) _) _ _ _); k_dflt (refine' formal2 ?B ?F ?X ?N ?T ?hk ?hdp ?hun ?p0 ?p1 ?p2 ?p3 ?p4 ?p5 ?p6 ?p7 ?p8 ?p9 ?_; (case B => k_asm); (case F => k_asm); (case X => k_asm); (case N => k_asm); (case T => k_asm); (case hk => first | exact rfl | k_asm); (case hdp => first | ((try simp only [depth_under_make, depth_under_kw, depth_in1, depth_deeper]); (try dsimp only [ktrTop]); omega) | ktr_room); (case hun => first | ((try simp only [units_in1, units_deeper, units_under_make, Around.mark_units]); (try dsimp only [ktrTop]); omega) | ktr_units); (case p0 => walk_at "my sym"); (case p1 => k_mem); (case p2 => walk_at "my rt"); (case p3 => k_mem); (case p4 => (first | assumption | (with_unfolding_all rfl))); (case p5 => (first | assumption | (with_unfolding_all rfl))); (case p6 => (first | assumption | (with_unfolding_all rfl))); (case p7 => (first | assumption | omega)); (case p8 => (first | assumption | omega)); (case p9 => (first | assumption | omega)); k_whole); intro h' tk' g r' F' N' hS' kp hrt; (try k_sweep); walk_say "USE formal2"))
local macro_rules | `(tactic| walk_at "call ref") => `(tactic| (k_here; (with_reducible show wpAny _ _ (call (Value.ref 186) _) _ _ _); k_dflt (refine' sys_ok ?B ?F ?X ?N ?T ?hk ?hdp ?hun ?p0 ?_; (case B => k_asm); (case F => k_asm); (case X => k_asm); (case N => k_asm); (case T => k_asm); (case hk => first | exact rfl | k_asm); (case hdp => first | ((try simp only [depth_under_make, depth_under_kw, depth_in1, depth_deeper]); (try dsimp only [ktrTop]); omega) | ktr_room); (case hun => first | ((try simp only [units_in1, units_deeper, units_under_make, Around.mark_units]); (try dsimp only [ktrTop]); omega) | ktr_units); (case p0 => walk_at "my rt"); k_whole); intro h' tk' e dx t r' F' N' he kp hb; (try k_sweep); walk_say "USE sys_ok"))
theorem resource_ok {w : World} {p : Program} {loose : List Str} {mean : ExcName → Option Value} {mg mb : Str → Option Value}
  {dp un : Nat} {gd : Option (List Code)} {cn : Str} {cs : Scope} {a : Addr} {ccd : Value} {cl : List (Str × Addr)} {outer : List Env} {A₀ : Around} {base h₀ : Heap} {L : Addr} {m : Str → Option Value} {news : List (Addr × Obj)} {s : Shared} {Q E : Value → Shared → Prop}
  {nm nd : Addr} {S : SymA} {ndn : Nat} {ts : List Str} {fs : List (Int × Int)}{tx : Tok} {b i f : Int} {ts1 ts2 : List Str} {fs' : List (Int × Int)}
  (B : Below A₀ base outer h₀) (F : Fr h₀ L s.heap m) (X : (hd.heap_39 w.params).In h₀) (N : News h₀ L s.heap news) (T : Top p loose mean mg mb h₀) (hk : cs.kind = .function)
  (hdp : dp + 15 < recursionLimit) (hun : un + 150 < cLine)
  (hS : SymSt PySem.Challenge.rw_rh0112_01.row.prog w news nm nd S ndn ts fs) (hp : intern (Str.ofString "memory") ts = (i, ts1)) (hp2 : intern (Str.ofString "resource_error") ts1 = (b, ts2)) (hp3 : intern (b, 1) fs = (f, fs')) (hz : ts.length < 900) (hz1 : ts1.length < 950) (hz2 : fs.length < 1000)
  (ret : ∀ h' tk e dx t r', Fr h₀ L h' m → News h₀ L h' ((e, exc1 51 dx t) :: r') → (∀ p ∈ r', p.1 ≠ e) → SymSt PySem.Challenge.rw_rh0112_01.row.prog w r' nm nd S ndn ts2 fs' → Keep (symAt S) news r' → BallAt r' dx (.tuple [.str (Str.ofString "s"), .int f, .tuple [.tuple [.str (Str.ofString "a"), .int i]]]) → Q (.ref e) { s with heap := h', toks := tk }) :
  wpAny (model PySem.Challenge.rw_rh0112_01.row.prog w) (ktrTop dp un gd cn cs L a ccd cl outer) (call (.ref 221) [.ref nm, .str (Str.ofString "memory") tx]) Q E s := by
  revert X; k_fill; intro X
  have hi := hS.i
  have hd := hS.d
  obtain ⟨so1, so2, so3, so4, hm1, hm2, hm3, hm4⟩ := hS.mem4
  refine wpAny_call ?_
  k_dflt ktr_enter
  k_steps
  rename BallAt _ _ _ => hbE
  rename News h₀ _ _ _ => nE
  exact ret _ _ _ _ _ _ (by k_asm) nE (by assumption) (by walk_at "my sym") (by walk_at "my keep") hbE

end Mine
namespace Mine
local macro_rules | `(tactic| walk_at "exec While") => `(tactic| (k_here; k_dflt (refine whl_start 1 ?_)))
local macro_rules | `(tactic| walk_at "ite") => `(tactic| (k_here; first | (refine ite_pos (by first | with_reducible assumption | (simp only [beq_iff_eq, bne_iff_ne, decide_eq_true_eq, ne_eq]; omega)) ?_; walk_say "MY PRUNE") | (refine ite_neg (by first | with_reducible assumption | (simp only [beq_iff_eq, bne_iff_ne, decide_eq_true_eq, ne_eq]; omega)) ?_; walk_say "MY PRUNE")))
local macro_rules | `(tactic| walk_at "subscriptTail") => `(tactic| (k_here; (with_reducible show wpAny _ _ (subscriptTail _ _ (Value.ref _) (Value.int _ _)) _ _ _); (with_unfolding_all refine' item_abs ?k1 ?k2 ?k3 ?k4 ?k5 ?_ ?k6; (case k1 => k_asm); (case k2 => k_mem); (case k3 => assumption); (case k4 => first | assumption | omega); (case k5 => assumption); (case k6 => with_unfolding_all rfl); k_whole); walk_say "MY ITEM"))
local macro_rules | `(tactic| walk_at "compareOp In str ref") => `(tactic| (k_here; k_dflt (refine' in_tupK ?F ?X ?l ?w ?b ?_; (case F => k_asm); (case X => k_asm); (case l => k_is); (case w => kde_strs); (case b => exact rfl); k_whole); walk_say "MY IN"))
local macro_rules | `(tactic| walk_at "call builtin:list.append") => `(tactic| (k_here; (with_reducible show wpAny _ _ (call (Value.builtin _) [Value.ref _, _]) _ _ _); k_dflt (refine' append_L ?k1 ?k2 ?k3 ?z ?_; (case k1 => k_asm); (case k2 => k_asm); (case k3 => k_upd); (case z => first | assumption | omega | (simp only [List.length_append, List.length_cons, List.length_nil]; omega)); k_whole); intro h' F' N'; (try k_sweep); walk_say "MY APPEND"))
local macro_rules | `(tactic| walk_at "call builtin:list.pop") => `(tactic| (k_here; (with_reducible show wpAny _ _ (call (Value.builtin _) [Value.ref _]) _ _ _); k_dflt (refine' pop_L ?k1 ?k2 ?k3 ?z ?_; (case k1 => k_asm); (case k2 => k_asm); (case k3 => k_upd); (case z => first | assumption | omega | (simp only [List.length_append, List.length_cons, List.length_nil]; omega)); k_whole); intro h' F' N'; (try k_sweep); walk_say "MY POP"))
local macro_rules | `(tactic| k_all) => `(tactic| assumption)
local macro_rules | `(tactic| k_mem) => `(tactic| first | with_reducible exact List.Mem.head _ | assumption | (refine' List.Mem.tail _ ?_; k_mem))
local macro_rules | `(tactic| walk_at "truthy ref") => `(tactic| (k_here; (with_reducible show wpAny _ _ (truthy (Value.ref _)) _ _ _); k_dflt (refine' truthy_L ?k1 ?k2 ?k3 ?k4 ?_; (case k1 => k_asm); (case k2 => k_mem); (case k3 => first | assumption | (simp only [List.length_append, List.length_cons, List.length_nil]; omega)); (case k4 => first | exact some_true _ _ | exact none_false); k_whole); walk_say "MY TRUTH"))
local macro_rules | `(tactic| walk_at "call builtin:len") => `(tactic| (k_here; (with_reducible show wpAny _ _ (call (Value.builtin "len") [Value.ref _]) _ _ _); k_dflt (refine' len_L ?k1 ?k2 ?k3 ?_; (case k1 => k_asm); (case k2 => k_mem); (case k3 => first | assumption | (simp only [List.length_append, List.length_cons, List.length_nil]; omega)); k_whole); walk_say "MY LEN"))
local macro_rules | `(tactic| k_mem) => `(tactic| first | with_reducible exact List.mem_cons_self | with_reducible assumption | exact List.Mem.head _ | with_reducible exact SymSt.i (by with_reducible assumption) | with_reducible exact SymSt.d (by with_reducible assumption) | ((with_reducible refine' Keep.any ?kmk _ _ ?kma ?kmb); (case kmk => (with_reducible assumption)); (case kma => k_mem); (case kmb => first | exact .inl (.inl rfl) | exact .inl (.inr ⟨_, rfl⟩) | (refine Or.inr ?_; walk_at "my notin"))) | ((with_reducible refine' List.mem_cons_of_mem _ ?_); k_mem) | assumption | fail "my mem")
local macro_rules | `(tactic| walk_at "my ne0") => `(tactic| first | with_reducible assumption | with_reducible exact Ne.symm (by with_reducible assumption) | k_ne | (exact Ne.symm (by k_ne)) | exact lt_at (by with_reducible assumption) (by with_reducible assumption) | exact Ne.symm (lt_at (by with_reducible assumption) (by with_reducible assumption)) | exact off_at (by with_reducible assumption) (by with_reducible assumption) | exact Ne.symm (off_at (by with_reducible assumption) (by with_reducible assumption)) | fail "my ne0")
local macro_rules | `(tactic| walk_at "my notin") => `(tactic| first | with_reducible assumption | with_reducible exact OffS.sym (by with_reducible assumption) | with_reducible exact OffS.nd (by with_reducible assumption) | (simp only [List.mem_cons, List.not_mem_nil, or_false, not_or]; (repeat' (refine And.intro ?_ ?_)) <;> walk_at "my ne0"))
local macro_rules | `(tactic| walk_at "my sym") => `(tactic| first | with_reducible assumption | (refine' SymSt.keep ?ks1 (.cons [] _ _) (by simp); (case ks1 => walk_at "my sym")) | (refine' SymSt.keep (ds := []) ?ks1 ?ks2 (fun _ _ => List.not_mem_nil); (case ks2 => with_reducible assumption); (case ks1 => walk_at "my sym")) | (refine' SymSt.keepO ?ks1 ?ks2 ?ks3; (case ks2 => with_reducible assumption); (case ks3 => with_reducible assumption); (case ks1 => walk_at "my sym")) | fail "my sym")
local macro_rules | `(tactic| walk_at "my tab") => `(tactic| first | assumption | (refine' PyProof.Rows.TupTab.cons ?kt _; (case kt => walk_at "my tab")) | (refine' tupTab_keep ?kt1 ?kt0 ?kt2; (case kt0 => assumption); (case kt1 => walk_at "my tab"); (case kt2 => walk_at "my notin")) | fail "my tab")
local macro_rules | `(tactic| walk_at "call builtin:list.append") => `(tactic| (k_here; (with_reducible show wpAny _ _ (call (Value.builtin _) [Value.ref _, _]) _ _ _); k_dflt (refine' append_M ?k1 ?k2 ?k3 ?z ?_; (case k1 => k_asm); (case k2 => k_asm); (case k3 => k_mem); (case z => first | assumption | omega | (simp only [List.length_append, List.length_cons, List.length_nil]; omega)); k_whole); intro h' r' F' N' hin kp; (try k_sweep); walk_say "M APPEND"))
local macro_rules | `(tactic| walk_at "getMethod ref") => `(tactic| (k_here; (with_reducible show wpAny _ _ (getMethod (Value.ref _) "get" _) _ _ _); k_dflt (first | (refine' smeth_M ?k1 ?k2 ?k3 ?k4 ?k5 ?_; (case k1 => k_asm); (case k2 => k_mem); (case k4 => assumption); (case k5 => assumption); (case k3 => assumption); k_whole) | (refine' tmeth_M ?k1 ?k2 ?_; (case k1 => k_asm); (case k2 => walk_at "my tab"); k_whole)); walk_say "M METH"))
local macro_rules | `(tactic| walk_at "call builtin:dict.get") => `(tactic| (k_here; k_dflt (first | (refine' sget_M ?k1 ?k2 ?k3 ?k4 ?k5 ?k6 ?_; (case k1 => k_asm); (case k2 => k_mem); (case k4 => assumption); (case k5 => assumption); (case k3 => assumption); (case k6 => assumption); k_whole) | (refine' tget_M ?k1 ?k2 ?k3 ?k4 ?k5 ?_; (case k2 => k_asm); (case k3 => walk_at "my tab"); (case k4 => k_mem); (case k5 => assumption); (case k1 => walk_at "my units"); k_whole)); intro t'; walk_say "M GET"))
local macro_rules | `(tactic| walk_at "my units") => `(tactic| ((try simp only [units_in1, units_deeper, units_under_make, Around.mark_units]); (try dsimp only [ktrTop]); (try simp only [units_in1, units_deeper, units_under_make, Around.mark_units]); omega))
local macro_rules | `(tactic| walk_at "setItem ref str") => `(tactic| (k_here; k_dflt (refine' sset_M ?F ?N ?m ?d ?f ?z ?_; (case F => k_asm); (case N => k_asm); (case m => k_mem); (case d => assumption); (case f => assumption); (case z => first | assumption | omega); k_whole); intro h' r' o' kvs' F' N' hin hd' hf' kp; (try k_sweep); walk_say "M SET"))
local macro_rules | `(tactic| walk_at "setItem ref ref") => `(tactic| (k_here; k_dflt (refine' tset_M ?u ?F ?N ?T ?m ?z ?_; (case F => k_asm); (case N => k_asm); (case T => walk_at "my tab"); (case m => k_mem); (case z => first | assumption | omega); (case u => walk_at "my units"); k_whole); intro h' r' F' N' hT' kp; (try k_sweep); walk_say "M TSET"))
local macro_rules | `(tactic| walk_at "exec For") => `(tactic| (k_here; (with_reducible show wpAny _ _ (exec (Stmt.For (Expr.Name _ _) _ _ [] _) _) _ _ _); (rename Fr _ _ _ _ => lF'); (with_unfolding_all refine' For_invVF lF' ?k1 ?k2 ?_; (case k1 => exact rfl); (case k2 => exact rfl); k_whole); walk_say "MY FOR"))
local macro_rules | `(tactic| walk_at "exec For Name Name cons nil") => `(tactic| (k_here; (rename Fr _ _ _ _ => lF'); (with_unfolding_all refine' For_invVF lF' ?k1 ?k2 ?_; (case k1 => exact rfl); (case k2 => exact rfl); k_whole); walk_say "MY FOR"))
local macro_rules | `(tactic| walk_at "exec For Name Call cons nil") => `(tactic| (k_here; (rename Fr _ _ _ _ => lF'); (with_unfolding_all refine' For_invVF lF' ?k1 ?k2 ?_; (case k1 => exact rfl); (case k2 => exact rfl); k_whole); walk_say "MY FOR"))
local macro_rules | `(tactic| walk_at "pyIter ref") => `(tactic| (k_here; (with_reducible show wpAny _ _ (pyIter (Value.ref _)) (fun it s₂ => LoopAtV _ _ _ _ _ _ _ _ _ it s₂) _ _); k_dflt (first | (refine' iter_tupU ?h ?F ?N ?m ?_; (case h => with_unfolding_all rfl); (case F => k_asm); (case N => k_asm); (case m => k_mem); k_whole) | (refine' iter_lstU ?h ?F ?N ?m ?_; (case h => with_unfolding_all rfl); (case F => k_asm); (case N => k_asm); (case m => k_mem); k_whole)); intro i' l1; (try (have hoff := SymSt.offNew l1 (by walk_at "my sym"))); (try k_lt l1); walk_say "MY ITER"))
local macro_rules | `(tactic| walk_at "SeqRest") => `(tactic| (with_unfolding_all first | (refine SeqRest.succ (fun it' h' tk' o' f' F' N' => ?_)) | (refine SeqRest.zero (fun h' tk' F' N' => ?_))))
local macro_rules | `(tactic| walk_at "UnrEnd") => `(tactic| (refine' UnrEnd.introM2 ?F ?N ?hI ?hf ?_; (case F => k_asm); (case N => k_asm); (case hI => k_mem); (case hf => assumption); intro q' kq' oq'; refine ⟨by k_mem, ?_⟩; walk_say "MY UNREND"))
local macro_rules | `(tactic| walk_at "find lt") => `(tactic| first | assumption | exact And.right (by assumption) | exact And.right (And.right (by assumption)) | exact And.right (And.right (And.right (by assumption))) | fail "find lt")
local macro_rules | `(tactic| walk_at "newList") => `(tactic| (k_here; k_dflt (refine' newList_K ?k1 ?k2 ?_; (case k1 => k_asm); (case k2 => k_asm); k_whole); intro l' h' F' N' l1; (try (have hoff := SymSt.offNew l1 (by walk_at "my sym"))); (try k_lt l1); (try k_sweep); walk_say "MY NEWLIST"))
local macro_rules | `(tactic| walk_at "my rt") => `(tactic| first | assumption | with_reducible exact RT.int _ _ | with_reducible exact RT.str _ _ | (refine' RT.tup ?rta ?rtb; (case rta => k_mem); (case rtb => walk_at "my rts")) | (refine' RT.sub ?rta (fun _ h => List.mem_cons_of_mem _ h); (case rta => walk_at "my rt")) | (refine' RT.keep ?rta ?rtb; (case rtb => with_reducible assumption); (case rta => walk_at "my rt")) | fail "my rt")
local macro_rules | `(tactic| walk_at "my rts") => `(tactic| first | exact RTs.nil | (refine' RTs.cons ?rsa ?rsb; (case rsa => walk_at "my rt"); (case rsb => walk_at "my rts")) | fail "my rts")
local macro_rules | `(tactic| walk_at "my keep") => `(tactic| first | with_reducible assumption | exact Keep.refl _ _ | (with_reducible refine' Keep.stepCons ?kpa; (case kpa => walk_at "my keep")) | ((with_reducible refine' Keep.trans ?kpa ?kpb); (case kpb => (with_reducible assumption)); (case kpa => walk_at "my keep")) | ((refine' Keep.trans ?kpa (Keep.wide (ds := []) ?kpb (fun _ h => nomatch h))); (case kpb => (with_reducible assumption)); (case kpa => walk_at "my keep")) | ((with_reducible refine' Keep.stepNew ?kpa ?kpb ?kpc); (case kpb => (with_reducible assumption)); (case kpc => walk_at "my off"); (case kpa => walk_at "my keep")) | fail "my keep")
local macro_rules | `(tactic| walk_at "my off") => `(tactic| first | assumption | exact off_lt (by assumption) | (refine' off_sub ?ofa ?ofb; (case ofa => assumption); (case ofb => (intro p hp; repeat (first | exact hp | refine List.mem_cons_of_mem _ ?_)))) | (refine' off_allLt ?ofa; (case ofa => walk_at "find lt")) | fail "my off")
local macro_rules | `(tactic| walk_at "call type:tuple") => `(tactic| (k_here; (with_reducible show wpAny _ _ (call (Value.type _) [Value.ref _]) _ _ _); k_dflt (refine' tuple_M ?k1 ?k2 ?_; (case k1 => k_asm); (case k2 => k_mem); k_whole); walk_say "MY TUPLE"))
theorem atomt_ok {w : World} {p : Program} {loose : List Str} {mean : ExcName → Option Value} {mg mb : Str → Option Value}
  {dp un : Nat} {gd : Option (List Code)} {cn : Str} {cs : Scope} {a : Addr} {ccd : Value} {cl : List (Str × Addr)} {outer : List Env} {A₀ : Around} {base h₀ : Heap} {L : Addr} {m : Str → Option Value} {news : List (Addr × Obj)} {s : Shared} {Q E : Value → Shared → Prop}
  {n : Int} {tn : Tok}
  (B : Below A₀ base outer h₀) (F : Fr h₀ L s.heap m) (X : (hd.heap_39 w.params).In h₀) (N : News h₀ L s.heap news) (T : Top p loose mean mg mb h₀) (hk : cs.kind = .function)
  (hdp : dp + 1 < recursionLimit) (hun : un + 10 < cLine)
  (ret : ∀ h' tk y t1 t2, Fr h₀ L h' m → News h₀ L h' ((y, tup [.str (Str.ofString "a") t1, .int n t2] 0) :: news) → Q (.ref y) { s with heap := h', toks := tk }) :
  wpAny (model PySem.Challenge.rw_rh0112_01.row.prog w) (ktrTop dp un gd cn cs L a ccd cl outer) (call (.ref 165) [.int n tn]) Q E s := by
  revert X; k_fill; intro X
  refine wpAny_call ?_
  k_dflt ktr_enter
  k_steps
  exact ret _ _ _ _ _ (by k_asm) (by k_asm)

theorem integert_ok {w : World} {p : Program} {loose : List Str} {mean : ExcName → Option Value} {mg mb : Str → Option Value}
  {dp un : Nat} {gd : Option (List Code)} {cn : Str} {cs : Scope} {a : Addr} {ccd : Value} {cl : List (Str × Addr)} {outer : List Env} {A₀ : Around} {base h₀ : Heap} {L : Addr} {m : Str → Option Value} {news : List (Addr × Obj)} {s : Shared} {Q E : Value → Shared → Prop}
  {n : Int} {tn : Tok}
  (B : Below A₀ base outer h₀) (F : Fr h₀ L s.heap m) (X : (hd.heap_39 w.params).In h₀) (N : News h₀ L s.heap news) (T : Top p loose mean mg mb h₀) (hk : cs.kind = .function)
  (hdp : dp + 1 < recursionLimit) (hun : un + 10 < cLine)
  (ret : ∀ h' tk y t1 t2, Fr h₀ L h' m → News h₀ L h' ((y, tup [.str (Str.ofString "i") t1, .int n t2] 0) :: news) → Q (.ref y) { s with heap := h', toks := tk }) :
  wpAny (model PySem.Challenge.rw_rh0112_01.row.prog w) (ktrTop dp un gd cn cs L a ccd cl outer) (call (.ref 172) [.int n tn]) Q E s := by
  revert X; k_fill; intro X
  refine wpAny_call ?_
  k_dflt ktr_enter
  k_steps
  exact ret _ _ _ _ _ (by k_asm) (by k_asm)

theorem struct_ok {w : World} {p : Program} {loose : List Str} {mean : ExcName → Option Value} {mg mb : Str → Option Value}
  {dp un : Nat} {gd : Option (List Code)} {cn : Str} {cs : Scope} {a : Addr} {ccd : Value} {cl : List (Str × Addr)} {outer : List Env} {A₀ : Around} {base h₀ : Heap} {L : Addr} {m : Str → Option Value} {news : List (Addr × Obj)} {s : Shared} {Q E : Value → Shared → Prop}
  {n : Int} {tn : Tok} {g : Addr} {gvs : List Value} {gn : Nat}
  (B : Below A₀ base outer h₀) (F : Fr h₀ L s.heap m) (X : (hd.heap_39 w.params).In h₀) (N : News h₀ L s.heap news) (T : Top p loose mean mg mb h₀) (hk : cs.kind = .function)
  (hdp : dp + 2 < recursionLimit) (hun : un + 20 < cLine)
  (hg : (g, tup gvs gn) ∈ news)
  (ret : ∀ h' tk y t1 t2, Fr h₀ L h' m → News h₀ L h' ((y, tup [.str (Str.ofString "s") t1, .int n t2, .ref g] 0) :: news) → Q (.ref y) { s with heap := h', toks := tk }) :
  wpAny (model PySem.Challenge.rw_rh0112_01.row.prog w) (ktrTop dp un gd cn cs L a ccd cl outer) (call (.ref 179) [.int n tn, .ref g]) Q E s := by
  revert X; k_fill; intro X
  refine wpAny_call ?_
  k_dflt ktr_enter
  k_steps
  exact ret _ _ _ _ _ (by k_asm) (by k_asm)

end Mine
namespace Mine
local macro_rules | `(tactic| walk_at "exec While") => `(tactic| (k_here; k_dflt (refine whl_start 1 ?_)))
local macro_rules | `(tactic| walk_at "ite") => `(tactic| (k_here; first | (refine ite_pos (by first | with_reducible assumption | (simp only [beq_iff_eq, bne_iff_ne, decide_eq_true_eq, ne_eq]; omega)) ?_; walk_say "MY PRUNE") | (refine ite_neg (by first | with_reducible assumption | (simp only [beq_iff_eq, bne_iff_ne, decide_eq_true_eq, ne_eq]; omega)) ?_; walk_say "MY PRUNE")))
local macro_rules | `(tactic| walk_at "subscriptTail") => `(tactic| (k_here; (with_reducible show wpAny _ _ (subscriptTail _ _ (Value.ref _) (Value.int _ _)) _ _ _); (with_unfolding_all refine' item_abs ?k1 ?k2 ?k3 ?k4 ?k5 ?_ ?k6; (case k1 => k_asm); (case k2 => k_mem); (case k3 => assumption); (case k4 => first | assumption | omega); (case k5 => assumption); (case k6 => with_unfolding_all rfl); k_whole); walk_say "MY ITEM"))
local macro_rules | `(tactic| walk_at "compareOp In str ref") => `(tactic| (k_here; k_dflt (refine' in_tupK ?F ?X ?l ?w ?b ?_; (case F => k_asm); (case X => k_asm); (case l => k_is); (case w => kde_strs); (case b => exact rfl); k_whole); walk_say "MY IN"))
local macro_rules | `(tactic| walk_at "call builtin:list.append") => `(tactic| (k_here; (with_reducible show wpAny _ _ (call (Value.builtin _) [Value.ref _, _]) _ _ _); k_dflt (refine' append_L ?k1 ?k2 ?k3 ?z ?_; (case k1 => k_asm); (case k2 => k_asm); (case k3 => k_upd); (case z => first | assumption | omega | (simp only [List.length_append, List.length_cons, List.length_nil]; omega)); k_whole); intro h' F' N'; (try k_sweep); walk_say "MY APPEND"))
local macro_rules | `(tactic| walk_at "call builtin:list.pop") => `(tactic| (k_here; (with_reducible show wpAny _ _ (call (Value.builtin _) [Value.ref _]) _ _ _); k_dflt (refine' pop_L ?k1 ?k2 ?k3 ?z ?_; (case k1 => k_asm); (case k2 => k_asm); (case k3 => k_upd); (case z => first | assumption | omega | (simp only [List.length_append, List.length_cons, List.length_nil]; omega)); k_whole); intro h' F' N'; (try k_sweep); walk_say "MY POP"))
local macro_rules | `(tactic| k_all) => `(tactic| assumption)
local macro_rules | `(tactic| k_mem) => `(tactic| first | with_reducible exact List.Mem.head _ | assumption | (refine' List.Mem.tail _ ?_; k_mem))
local macro_rules | `(tactic| walk_at "truthy ref") => `(tactic| (k_here; (with_reducible show wpAny _ _ (truthy (Value.ref _)) _ _ _); k_dflt (refine' truthy_L ?k1 ?k2 ?k3 ?k4 ?_; (case k1 => k_asm); (case k2 => k_mem); (case k3 => first | assumption | (simp only [List.length_append, List.length_cons, List.length_nil]; omega)); (case k4 => first | exact some_true _ _ | exact none_false); k_whole); walk_say "MY TRUTH"))
local macro_rules | `(tactic| walk_at "call builtin:len") => `(tactic| (k_here; (with_reducible show wpAny _ _ (call (Value.builtin "len") [Value.ref _]) _ _ _); k_dflt (refine' len_L ?k1 ?k2 ?k3 ?_; (case k1 => k_asm); (case k2 => k_mem); (case k3 => first | assumption | (simp only [List.length_append, List.length_cons, List.length_nil]; omega)); k_whole); walk_say "MY LEN"))
local macro_rules | `(tactic| k_mem) => `(tactic| first | with_reducible exact List.mem_cons_self | with_reducible assumption | exact List.Mem.head _ | with_reducible exact SymSt.i (by with_reducible assumption) | with_reducible exact SymSt.d (by with_reducible assumption) | ((with_reducible refine' Keep.any ?kmk _ _ ?kma ?kmb); (case kmk => (with_reducible assumption)); (case kma => k_mem); (case kmb => first | exact .inl (.inl rfl) | exact .inl (.inr ⟨_, rfl⟩) | (refine Or.inr ?_; walk_at "my notin"))) | ((with_reducible refine' List.mem_cons_of_mem _ ?_); k_mem) | assumption | fail "my mem")
local macro_rules | `(tactic| walk_at "my ne0") => `(tactic| first | with_reducible assumption | with_reducible exact Ne.symm (by with_reducible assumption) | k_ne | (exact Ne.symm (by k_ne)) | exact lt_at (by with_reducible assumption) (by with_reducible assumption) | exact Ne.symm (lt_at (by with_reducible assumption) (by with_reducible assumption)) | exact off_at (by with_reducible assumption) (by with_reducible assumption) | exact Ne.symm (off_at (by with_reducible assumption) (by with_reducible assumption)) | fail "my ne0")
local macro_rules | `(tactic| walk_at "my notin") => `(tactic| first | with_reducible assumption | with_reducible exact OffS.sym (by with_reducible assumption) | with_reducible exact OffS.nd (by with_reducible assumption) | (simp only [List.mem_cons, List.not_mem_nil, or_false, not_or]; (repeat' (refine And.intro ?_ ?_)) <;> walk_at "my ne0"))
local macro_rules | `(tactic| walk_at "my sym") => `(tactic| first | with_reducible assumption | (refine' SymSt.keep ?ks1 (.cons [] _ _) (by simp); (case ks1 => walk_at "my sym")) | (refine' SymSt.keep (ds := []) ?ks1 ?ks2 (fun _ _ => List.not_mem_nil); (case ks2 => with_reducible assumption); (case ks1 => walk_at "my sym")) | (refine' SymSt.keepO ?ks1 ?ks2 ?ks3; (case ks2 => with_reducible assumption); (case ks3 => with_reducible assumption); (case ks1 => walk_at "my sym")) | fail "my sym")
local macro_rules | `(tactic| walk_at "my tab") => `(tactic| first | assumption | (refine' PyProof.Rows.TupTab.cons ?kt _; (case kt => walk_at "my tab")) | (refine' tupTab_keep ?kt1 ?kt0 ?kt2; (case kt0 => assumption); (case kt1 => walk_at "my tab"); (case kt2 => walk_at "my notin")) | fail "my tab")
local macro_rules | `(tactic| walk_at "call builtin:list.append") => `(tactic| (k_here; (with_reducible show wpAny _ _ (call (Value.builtin _) [Value.ref _, _]) _ _ _); k_dflt (refine' append_M ?k1 ?k2 ?k3 ?z ?_; (case k1 => k_asm); (case k2 => k_asm); (case k3 => k_mem); (case z => first | assumption | omega | (simp only [List.length_append, List.length_cons, List.length_nil]; omega)); k_whole); intro h' r' F' N' hin kp; (try k_sweep); walk_say "M APPEND"))
local macro_rules | `(tactic| walk_at "getMethod ref") => `(tactic| (k_here; (with_reducible show wpAny _ _ (getMethod (Value.ref _) "get" _) _ _ _); k_dflt (first | (refine' smeth_M ?k1 ?k2 ?k3 ?k4 ?k5 ?_; (case k1 => k_asm); (case k2 => k_mem); (case k4 => assumption); (case k5 => assumption); (case k3 => assumption); k_whole) | (refine' tmeth_M ?k1 ?k2 ?_; (case k1 => k_asm); (case k2 => walk_at "my tab"); k_whole)); walk_say "M METH"))
local macro_rules | `(tactic| walk_at "call builtin:dict.get") => `(tactic| (k_here; k_dflt (first | (refine' sget_M ?k1 ?k2 ?k3 ?k4 ?k5 ?k6 ?_; (case k1 => k_asm); (case k2 => k_mem); (case k4 => assumption); (case k5 => assumption); (case k3 => assumption); (case k6 => assumption); k_whole) | (refine' tget_M ?k1 ?k2 ?k3 ?k4 ?k5 ?_; (case k2 => k_asm); (case k3 => walk_at "my tab"); (case k4 => k_mem); (case k5 => assumption); (case k1 => walk_at "my units"); k_whole)); intro t'; walk_say "M GET"))
local macro_rules | `(tactic| walk_at "my units") => `(tactic| ((try simp only [units_in1, units_deeper, units_under_make, Around.mark_units]); (try dsimp only [ktrTop]); (try simp only [units_in1, units_deeper, units_under_make, Around.mark_units]); omega))
local macro_rules | `(tactic| walk_at "setItem ref str") => `(tactic| (k_here; k_dflt (refine' sset_M ?F ?N ?m ?d ?f ?z ?_; (case F => k_asm); (case N => k_asm); (case m => k_mem); (case d => assumption); (case f => assumption); (case z => first | assumption | omega); k_whole); intro h' r' o' kvs' F' N' hin hd' hf' kp; (try k_sweep); walk_say "M SET"))
local macro_rules | `(tactic| walk_at "setItem ref ref") => `(tactic| (k_here; k_dflt (refine' tset_M ?u ?F ?N ?T ?m ?z ?_; (case F => k_asm); (case N => k_asm); (case T => walk_at "my tab"); (case m => k_mem); (case z => first | assumption | omega); (case u => walk_at "my units"); k_whole); intro h' r' F' N' hT' kp; (try k_sweep); walk_say "M TSET"))
local macro_rules | `(tactic| walk_at "exec For") => `(tactic| (k_here; (with_reducible show wpAny _ _ (exec (Stmt.For (Expr.Name _ _) _ _ [] _) _) _ _ _); (rename Fr _ _ _ _ => lF'); (with_unfolding_all refine' For_invVF lF' ?k1 ?k2 ?_; (case k1 => exact rfl); (case k2 => exact rfl); k_whole); walk_say "MY FOR"))
local macro_rules | `(tactic| walk_at "exec For Name Name cons nil") => `(tactic| (k_here; (rename Fr _ _ _ _ => lF'); (with_unfolding_all refine' For_invVF lF' ?k1 ?k2 ?_; (case k1 => exact rfl); (case k2 => exact rfl); k_whole); walk_say "MY FOR"))
local macro_rules | `(tactic| walk_at "exec For Name Call cons nil") => `(tactic| (k_here; (rename Fr _ _ _ _ => lF'); (with_unfolding_all refine' For_invVF lF' ?k1 ?k2 ?_; (case k1 => exact rfl); (case k2 => exact rfl); k_whole); walk_say "MY FOR"))
local macro_rules | `(tactic| walk_at "pyIter ref") => `(tactic| (k_here; (with_reducible show wpAny _ _ (pyIter (Value.ref _)) (fun it s₂ => LoopAtV _ _ _ _ _ _ _ _ _ it s₂) _ _); k_dflt (first | (refine' iter_tupU ?h ?F ?N ?m ?_; (case h => with_unfolding_all rfl); (case F => k_asm); (case N => k_asm); (case m => k_mem); k_whole) | (refine' iter_lstU ?h ?F ?N ?m ?_; (case h => with_unfolding_all rfl); (case F => k_asm); (case N => k_asm); (case m => k_mem); k_whole)); intro i' l1; (try (have hoff := SymSt.offNew l1 (by walk_at "my sym"))); (try k_lt l1); walk_say "MY ITER"))
local macro_rules | `(tactic| walk_at "SeqRest") => `(tactic| (with_unfolding_all first | (refine SeqRest.succ (fun it' h' tk' o' f' F' N' => ?_)) | (refine SeqRest.zero (fun h' tk' F' N' => ?_))))
local macro_rules | `(tactic| walk_at "UnrEnd") => `(tactic| (refine' UnrEnd.introM2 ?F ?N ?hI ?hf ?_; (case F => k_asm); (case N => k_asm); (case hI => k_mem); (case hf => assumption); intro q' kq' oq'; refine ⟨by k_mem, ?_⟩; walk_say "MY UNREND"))
local macro_rules | `(tactic| walk_at "find lt") => `(tactic| first | assumption | exact And.right (by assumption) | exact And.right (And.right (by assumption)) | exact And.right (And.right (And.right (by assumption))) | fail "find lt")
local macro_rules | `(tactic| walk_at "newList") => `(tactic| (k_here; k_dflt (refine' newList_K ?k1 ?k2 ?_; (case k1 => k_asm); (case k2 => k_asm); k_whole); intro l' h' F' N' l1; (try (have hoff := SymSt.offNew l1 (by walk_at "my sym"))); (try k_lt l1); (try k_sweep); walk_say "MY NEWLIST"))
local macro_rules | `(tactic| walk_at "my rt") => `(tactic| first | assumption | with_reducible exact RT.int _ _ | with_reducible exact RT.str _ _ | (refine' RT.tup ?rta ?rtb; (case rta => k_mem); (case rtb => walk_at "my rts")) | (refine' RT.sub ?rta (fun _ h => List.mem_cons_of_mem _ h); (case rta => walk_at "my rt")) | (refine' RT.keep ?rta ?rtb; (case rtb => with_reducible assumption); (case rta => walk_at "my rt")) | fail "my rt")
local macro_rules | `(tactic| walk_at "my rts") => `(tactic| first | exact RTs.nil | (refine' RTs.cons ?rsa ?rsb; (case rsa => walk_at "my rt"); (case rsb => walk_at "my rts")) | fail "my rts")
local macro_rules | `(tactic| walk_at "my keep") => `(tactic| first | with_reducible assumption | exact Keep.refl _ _ | (with_reducible refine' Keep.stepCons ?kpa; (case kpa => walk_at "my keep")) | ((with_reducible refine' Keep.trans ?kpa ?kpb); (case kpb => (with_reducible assumption)); (case kpa => walk_at "my keep")) | ((refine' Keep.trans ?kpa (Keep.wide (ds := []) ?kpb (fun _ h => nomatch h))); (case kpb => (with_reducible assumption)); (case kpa => walk_at "my keep")) | ((with_reducible refine' Keep.stepNew ?kpa ?kpb ?kpc); (case kpb => (with_reducible assumption)); (case kpc => walk_at "my off"); (case kpa => walk_at "my keep")) | fail "my keep")
local macro_rules | `(tactic| walk_at "my off") => `(tactic| first | assumption | exact off_lt (by assumption) | (refine' off_sub ?ofa ?ofb; (case ofa => assumption); (case ofb => (intro p hp; repeat (first | exact hp | refine List.mem_cons_of_mem _ ?_)))) | (refine' off_allLt ?ofa; (case ofa => walk_at "find lt")) | fail "my off")
local macro_rules | `(tactic| walk_at "call type:tuple") => `(tactic| (k_here; (with_reducible show wpAny _ _ (call (Value.type _) [Value.ref _]) _ _ _); k_dflt (refine' tuple_M ?k1 ?k2 ?_; (case k1 => k_asm); (case k2 => k_mem); k_whole); walk_say "MY TUPLE"))
local macro_rules | `(tactic| walk_at "call ref") => `(tactic| (k_here; (with_reducible show wpAny _ _ (call (Value.ref 88) _) _ _ _); k_dflt (refine' atom_ok ?B ?F ?X ?N ?T ?hk ?hdp ?hun ?p0 ?p1 ?p2 ?_; (case B => k_asm); (case F => k_asm); (case X => k_asm); (case N => k_asm); (case T => k_asm); (case hk => first | exact rfl | k_asm); (case hdp => first | ((try simp only [depth_under_make, depth_under_kw, depth_in1, depth_deeper]); (try dsimp only [ktrTop]); omega) | ktr_room); (case hun => first | ((try simp only [units_in1, units_deeper, units_under_make, Around.mark_units]); (try dsimp only [ktrTop]); omega) | ktr_units); (case p0 => walk_at "my sym"); (case p1 => (first | assumption | (with_unfolding_all rfl))); (case p2 => (first | assumption | omega | (simp only [List.length_append, List.length_cons, List.length_nil]; omega))); k_whole); intro h' tk' t' r' F' N' hS' kp; (try k_sweep); walk_say "USE atom_ok"))
local macro_rules | `(tactic| walk_at "call ref") => `(tactic| (k_here; (with_reducible show wpAny _ _ (call (Value.ref 102) _) _ _ _); k_dflt (refine' functor_ok ?B ?F ?X ?N ?T ?hk ?hdp ?hun ?p0 ?p1 ?p2 ?_; (case B => k_asm); (case F => k_asm); (case X => k_asm); (case N => k_asm); (case T => k_asm); (case hk => first | exact rfl | k_asm); (case hdp => first | ((try simp only [depth_under_make, depth_under_kw, depth_in1, depth_deeper]); (try dsimp only [ktrTop]); omega) | ktr_room); (case hun => first | ((try simp only [units_in1, units_deeper, units_under_make, Around.mark_units]); (try dsimp only [ktrTop]); omega) | ktr_units); (case p0 => walk_at "my sym"); (case p1 => (first | assumption | (with_unfolding_all rfl))); (case p2 => (first | assumption | omega | (simp only [List.length_append, List.length_cons, List.length_nil]; omega))); k_whole); intro h' tk' t' r' F' N' hS' kp; (try k_sweep); walk_say "USE functor_ok"))
local macro_rules | `(tactic| walk_at "call ref") => `(tactic| (k_here; (with_reducible show wpAny _ _ (call (Value.ref 109) _) _ _ _); k_dflt (refine' func_ok ?B ?F ?X ?N ?T ?hk ?hdp ?hun ?p0 ?p1 ?p2 ?p3 ?p4 ?_; (case B => k_asm); (case F => k_asm); (case X => k_asm); (case N => k_asm); (case T => k_asm); (case hk => first | exact rfl | k_asm); (case hdp => first | ((try simp only [depth_under_make, depth_under_kw, depth_in1, depth_deeper]); (try dsimp only [ktrTop]); omega) | ktr_room); (case hun => first | ((try simp only [units_in1, units_deeper, units_under_make, Around.mark_units]); (try dsimp only [ktrTop]); omega) | ktr_units); (case p0 => walk_at "my sym"); (case p1 => (first | assumption | (with_unfolding_all rfl))); (case p2 => (first | assumption | (with_unfolding_all rfl))); (case p3 => (first | assumption | omega)); (case p4 => (first | assumption | omega)); k_whole); intro h' tk' t' r' F' N' hS' kp; (try k_sweep); walk_say "USE func_ok"))
local macro_rules | `(tactic| walk_at "call ref") => `(tactic| (k_here; (with_reducible show wpAny _ _ (call (Value.ref 193) _) _ _ _); k_dflt (refine' formal1 ?B ?F ?X ?N ?T ?hk ?hdp ?hun ?p0 ?p1 ?p2 ?p3 ?p4 ?p5 ?p6 ?p7 ?_; (case B => k_asm); (case F => k_asm); (case X => k_asm); (case N => k_asm); (case T => k_asm); (case hk => first | exact rfl | k_asm); (case hdp => first | ((try simp only [depth_under_make, depth_under_kw, depth_in1, depth_deeper]); (try dsimp only [ktrTop]); omega) | ktr_room); (case hun => first | ((try simp only [units_in1, units_deeper, units_under_make, Around.mark_units]); (try dsimp only [ktrTop]); omega) | ktr_units); (case p0 => walk_at "my sym"); (case p1 => k_mem); (case p2 => (first | assumption | (with_unfolding_all rfl))); (case p3 => (first | assumption | (with_unfolding_all rfl))); (case p4 => (first | assumption | (with_unfolding_all rfl))); (case p5 => (first | assumption | omega)); (case p6 => (first | assumption | omega)); (case p7 => (first | assumption | omega)); k_whole); intro h' tk' g r' F' N' hS' kp hrt; (try k_sweep); walk_say "USE formal1"))
local macro_rules | `(tactic| walk_at "call ref") => `(tactic| (k_here; (with_reducible show wpAny _ _ (call (Value.ref 193) _) _ _ _); k_dflt (refine' formal2 ?B ?F ?X ?N ?T ?hk ?hdp ?hun ?p0 ?p1 ?p2 ?p3 ?p4 ?p5 ?p6 ?p7 ?p8 ?p9 ?_; (case B => k_asm); (case F => k_asm); (case X => k_asm); (case N => k_asm); (case T => k_asm); (case hk => first | exact rfl | k_asm); (case hdp => first | ((try simp only [depth_under_make, depth_under_kw, depth_in1, depth_deeper]); (try dsimp only [ktrTop]); omega) | ktr_room); (case hun => first | ((try simp only [units_in1, units_deeper, units_under_make, Around.mark_units]); (try dsimp only [ktrTop]); omega) | ktr_units); (case p0 => walk_at "my sym"); (case p1 => k_mem); (case p2 => walk_at "my rt"); (case p3 => k_mem); (case p4 => (first | assumption | (with_unfolding_all rfl))); (case p5 => (first | assumption | (with_unfolding_all rfl))); (case p6 => (first | assumption | (with_unfolding_all rfl))); (case p7 => (first | assumption | omega)); (case p8 => (first | assumption | omega)); (case p9 => (first | assumption | omega)); k_whole); intro h' tk' g r' F' N' hS' kp hrt; (try k_sweep); walk_say "USE formal2"))
local macro_rules | `(tactic| walk_at "call ref") => `(tactic| (k_here; (with_reducible show wpAny _ _ (call (Value.ref 186) _) _ _ _); k_dflt (refine' sys_ok ?B ?F ?X ?N ?T ?hk ?hdp ?hun ?p0 ?_; (case B => k_asm); (case F => k_asm); (case X => k_asm); (case N => k_asm); (case T => k_asm); (case hk => first | exact rfl | k_asm); (case hdp => first | ((try simp only [depth_under_make, depth_under_kw, depth_in1, depth_deeper]); (try dsimp only [ktrTop]); omega) | ktr_room); (case hun => first | ((try simp only [units_in1, units_deeper, units_under_make, Around.mark_units]); (try dsimp only [ktrTop]); omega) | ktr_units); (case p0 => walk_at "my rt"); k_whole); intro h' tk' e dx t r' F' N' he kp hb; (try k_sweep); walk_say "USE sys_ok"))
theorem typeerr_ok {w : World} {p : Program} {loose : List Str} {mean : ExcName → Option Value} {mg mb : Str → Option Value}
  {dp un : Nat} {gd : Option (List Code)} {cn : Str} {cs : Scope} {a : Addr} {ccd : Value} {cl : List (Str × Addr)} {outer : List Env} {A₀ : Around} {base h₀ : Heap} {L : Addr} {m : Str → Option Value} {news : List (Addr × Obj)} {s : Shared} {Q E : Value → Shared → Prop}
  {nm nd : Addr} {S : SymA} {ndn : Nat} {ts : List Str} {fs : List (Int × Int)}{cu : Addr} {dcul : PyData} {cvs : List Value} {cn9 : Nat} {tx : Tok} {b i f : Int} {ts1 ts2 : List Str} {fs' : List (Int × Int)}
  (B : Below A₀ base outer h₀) (F : Fr h₀ L s.heap m) (X : (hd.heap_39 w.params).In h₀) (N : News h₀ L s.heap news) (T : Top p loose mean mg mb h₀) (hk : cs.kind = .function)
  (hdp : dp + 15 < recursionLimit) (hun : un + 150 < cLine)
  (hS : SymSt PySem.Challenge.rw_rh0112_01.row.prog w news nm nd S ndn ts fs) (hcu : (cu, tup cvs cn9) ∈ news) (hrt : RT news (.ref cu) dcul) (hp : intern (Str.ofString "evaluable") ts = (i, ts1)) (hp2 : intern (Str.ofString "type_error") ts1 = (b, ts2)) (hp3 : intern (b, 2) fs = (f, fs')) (hz : ts.length < 900) (hz1 : ts1.length < 950) (hz2 : fs.length < 1000)
  (ret : ∀ h' tk e dx t r', Fr h₀ L h' m → News h₀ L h' ((e, exc1 51 dx t) :: r') → (∀ p ∈ r', p.1 ≠ e) → SymSt PySem.Challenge.rw_rh0112_01.row.prog w r' nm nd S ndn ts2 fs' → Keep (symAt S) news r' → BallAt r' dx (.tuple [.str (Str.ofString "s"), .int f, .tuple [.tuple [.str (Str.ofString "a"), .int i], dcul]]) → Q (.ref e) { s with heap := h', toks := tk }) :
  wpAny (model PySem.Challenge.rw_rh0112_01.row.prog w) (ktrTop dp un gd cn cs L a ccd cl outer) (call (.ref 207) [.ref nm, .str (Str.ofString "evaluable") tx, .ref cu]) Q E s := by
  revert X; k_fill; intro X
  have hi := hS.i
  have hd := hS.d
  obtain ⟨so1, so2, so3, so4, hm1, hm2, hm3, hm4⟩ := hS.mem4
  refine wpAny_call ?_
  k_dflt ktr_enter
  k_steps
  rename BallAt _ _ _ => hbE
  rename News h₀ _ _ _ => nE
  exact ret _ _ _ _ _ _ (by k_asm) nE (by assumption) (by walk_at "my sym") (by walk_at "my keep") hbE

end Mine
namespace Mine
local macro_rules | `(tactic| walk_at "exec While") => `(tactic| (k_here; k_dflt (refine whl_start 1 ?_)))
local macro_rules | `(tactic| walk_at "ite") => `(tactic| (k_here; first | (refine ite_pos (by first | with_reducible assumption | (simp only [beq_iff_eq, bne_iff_ne, decide_eq_true_eq, ne_eq]; omega)) ?_; walk_say "MY PRUNE") | (refine ite_neg (by first | with_reducible assumption | (simp only [beq_iff_eq, bne_iff_ne, decide_eq_true_eq, ne_eq]; omega)) ?_; walk_say "MY PRUNE")))
local macro_rules | `(tactic| walk_at "subscriptTail") => `(tactic| (k_here; (with_reducible show wpAny _ _ (subscriptTail _ _ (Value.ref _) (Value.int _ _)) _ _ _); (with_unfolding_all refine' item_abs ?k1 ?k2 ?k3 ?k4 ?k5 ?_ ?k6; (case k1 => k_asm); (case k2 => k_mem); (case k3 => assumption); (case k4 => first | assumption | omega); (case k5 => assumption); (case k6 => with_unfolding_all rfl); k_whole); walk_say "MY ITEM"))
local macro_rules | `(tactic| walk_at "compareOp In str ref") => `(tactic| (k_here; k_dflt (refine' in_tupK ?F ?X ?l ?w ?b ?_; (case F => k_asm); (case X => k_asm); (case l => k_is); (case w => kde_strs); (case b => exact rfl); k_whole); walk_say "MY IN"))
local macro_rules | `(tactic| walk_at "call builtin:list.append") => `(tactic| (k_here; (with_reducible show wpAny _ _ (call (Value.builtin _) [Value.ref _, _]) _ _ _); k_dflt (refine' append_L ?k1 ?k2 ?k3 ?z ?_; (case k1 => k_asm); (case k2 => k_asm); (case k3 => k_upd); (case z => first | assumption | omega | (simp only [List.length_append, List.length_cons, List.length_nil]; omega)); k_whole); intro h' F' N'; (try k_sweep); walk_say "MY APPEND"))
local macro_rules | `(tactic| walk_at "call builtin:list.pop") => `(tactic| (k_here; (with_reducible show wpAny _ _ (call (Value.builtin _) [Value.ref _]) _ _ _); k_dflt (refine' pop_L ?k1 ?k2 ?k3 ?z ?_; (case k1 => k_asm); (case k2 => k_asm); (case k3 => k_upd); (case z => first | assumption | omega | (simp only [List.length_append, List.length_cons, List.length_nil]; omega)); k_whole); intro h' F' N'; (try k_sweep); walk_say "MY POP"))
local macro_rules | `(tactic| k_all) => `(tactic| assumption)
local macro_rules | `(tactic| k_mem) => `(tactic| first | with_reducible exact List.Mem.head _ | assumption | (refine' List.Mem.tail _ ?_; k_mem))
local macro_rules | `(tactic| walk_at "truthy ref") => `(tactic| (k_here; (with_reducible show wpAny _ _ (truthy (Value.ref _)) _ _ _); k_dflt (refine' truthy_L ?k1 ?k2 ?k3 ?k4 ?_; (case k1 => k_asm); (case k2 => k_mem); (case k3 => first | assumption | (simp only [List.length_append, List.length_cons, List.length_nil]; omega)); (case k4 => first | exact some_true _ _ | exact none_false); k_whole); walk_say "MY TRUTH"))
local macro_rules | `(tactic| walk_at "call builtin:len") => `(tactic| (k_here; (with_reducible show wpAny _ _ (call (Value.builtin "len") [Value.ref _]) _ _ _); k_dflt (refine' len_L ?k1 ?k2 ?k3 ?_; (case k1 => k_asm); (case k2 => k_mem); (case k3 => first | assumption | (simp only [List.length_append, List.length_cons, List.length_nil]; omega)); k_whole); walk_say "MY LEN"))
local macro_rules | `(tactic| k_mem) => `(tactic| first | with_reducible exact List.mem_cons_self | with_reducible assumption | exact List.Mem.head _ | with_reducible exact SymSt.i (by with_reducible assumption) | with_reducible exact SymSt.d (by with_reducible assumption) | ((with_reducible refine' Keep.any ?kmk _ _ ?kma ?kmb); (case kmk => (with_reducible assumption)); (case kma => k_mem); (case kmb => first | exact .inl (.inl rfl) | exact .inl (.inr ⟨_, rfl⟩) | (refine Or.inr ?_; walk_at "my notin"))) | ((with_reducible refine' List.mem_cons_of_mem _ ?_); k_mem) | assumption | fail "my mem")
local macro_rules | `(tactic| walk_at "my ne0") => `(tactic| first | with_reducible assumption | with_reducible exact Ne.symm (by with_reducible assumption) | k_ne | (exact Ne.symm (by k_ne)) | exact lt_at (by with_reducible assumption) (by with_reducible assumption) | exact Ne.symm (lt_at (by with_reducible assumption) (by with_reducible assumption)) | exact off_at (by with_reducible assumption) (by with_reducible assumption) | exact Ne.symm (off_at (by with_reducible assumption) (by with_reducible assumption)) | fail "my ne0")
local macro_rules | `(tactic| walk_at "my notin") => `(tactic| first | with_reducible assumption | with_reducible exact OffS.sym (by with_reducible assumption) | with_reducible exact OffS.nd (by with_reducible assumption) | (simp only [List.mem_cons, List.not_mem_nil, or_false, not_or]; (repeat' (refine And.intro ?_ ?_)) <;> walk_at "my ne0"))
local macro_rules | `(tactic| walk_at "my sym") => `(tactic| first | with_reducible assumption | (refine' SymSt.keep ?ks1 (.cons [] _ _) (by simp); (case ks1 => walk_at "my sym")) | (refine' SymSt.keep (ds := []) ?ks1 ?ks2 (fun _ _ => List.not_mem_nil); (case ks2 => with_reducible assumption); (case ks1 => walk_at "my sym")) | (refine' SymSt.keepO ?ks1 ?ks2 ?ks3; (case ks2 => with_reducible assumption); (case ks3 => with_reducible assumption); (case ks1 => walk_at "my sym")) | fail "my sym")
local macro_rules | `(tactic| walk_at "my tab") => `(tactic| first | assumption | (refine' PyProof.Rows.TupTab.cons ?kt _; (case kt => walk_at "my tab")) | (refine' tupTab_keep ?kt1 ?kt0 ?kt2; (case kt0 => assumption); (case kt1 => walk_at "my tab"); (case kt2 => walk_at "my notin")) | fail "my tab")
local macro_rules | `(tactic| walk_at "call builtin:list.append") => `(tactic| (k_here; (with_reducible show wpAny _ _ (call (Value.builtin _) [Value.ref _, _]) _ _ _); k_dflt (refine' append_M ?k1 ?k2 ?k3 ?z ?_; (case k1 => k_asm); (case k2 => k_asm); (case k3 => k_mem); (case z => first | assumption | omega | (simp only [List.length_append, List.length_cons, List.length_nil]; omega)); k_whole); intro h' r' F' N' hin kp; (try k_sweep); walk_say "M APPEND"))
local macro_rules | `(tactic| walk_at "getMethod ref") => `(tactic| (k_here; (with_reducible show wpAny _ _ (getMethod (Value.ref _) "get" _) _ _ _); k_dflt (first | (refine' smeth_M ?k1 ?k2 ?k3 ?k4 ?k5 ?_; (case k1 => k_asm); (case k2 => k_mem); (case k4 => assumption); (case k5 => assumption); (case k3 => assumption); k_whole) | (refine' tmeth_M ?k1 ?k2 ?_; (case k1 => k_asm); (case k2 => walk_at "my tab"); k_whole)); walk_say "M METH"))
local macro_rules | `(tactic| walk_at "call builtin:dict.get") => `(tactic| (k_here; k_dflt (first | (refine' sget_M ?k1 ?k2 ?k3 ?k4 ?k5 ?k6 ?_; (case k1 => k_asm); (case k2 => k_mem); (case k4 => assumption); (case k5 => assumption); (case k3 => assumption); (case k6 => assumption); k_whole) | (refine' tget_M ?k1 ?k2 ?k3 ?k4 ?k5 ?_; (case k2 => k_asm); (case k3 => walk_at "my tab"); (case k4 => k_mem); (case k5 => assumption); (case k1 => walk_at "my units"); k_whole)); intro t'; walk_say "M GET"))
local macro_rules | `(tactic| walk_at "my units") => `(tactic| ((try simp only [units_in1, units_deeper, units_under_make, Around.mark_units]); (try dsimp only [ktrTop]); (try simp only [units_in1, units_deeper, units_under_make, Around.mark_units]); omega))
local macro_rules | `(tactic| walk_at "setItem ref str") => `(tactic| (k_here; k_dflt (refine' sset_M ?F ?N ?m ?d ?f ?z ?_; (case F => k_asm); (case N => k_asm); (case m => k_mem); (case d => assumption); (case f => assumption); (case z => first | assumption | omega); k_whole); intro h' r' o' kvs' F' N' hin hd' hf' kp; (try k_sweep); walk_say "M SET"))
local macro_rules | `(tactic| walk_at "setItem ref ref") => `(tactic| (k_here; k_dflt (refine' tset_M ?u ?F ?N ?T ?m ?z ?_; (case F => k_asm); (case N => k_asm); (case T => walk_at "my tab"); (case m => k_mem); (case z => first | assumption | omega); (case u => walk_at "my units"); k_whole); intro h' r' F' N' hT' kp; (try k_sweep); walk_say "M TSET"))
local macro_rules | `(tactic| walk_at "exec For") => `(tactic| (k_here; (with_reducible show wpAny _ _ (exec (Stmt.For (Expr.Name _ _) _ _ [] _) _) _ _ _); (rename Fr _ _ _ _ => lF'); (with_unfolding_all refine' For_invVF lF' ?k1 ?k2 ?_; (case k1 => exact rfl); (case k2 => exact rfl); k_whole); walk_say "MY FOR"))
local macro_rules | `(tactic| walk_at "exec For Name Name cons nil") => `(tactic| (k_here; (rename Fr _ _ _ _ => lF'); (with_unfolding_all refine' For_invVF lF' ?k1 ?k2 ?_; (case k1 => exact rfl); (case k2 => exact rfl); k_whole); walk_say "MY FOR"))
local macro_rules | `(tactic| walk_at "exec For Name Call cons nil") => `(tactic| (k_here; (rename Fr _ _ _ _ => lF'); (with_unfolding_all refine' For_invVF lF' ?k1 ?k2 ?_; (case k1 => exact rfl); (case k2 => exact rfl); k_whole); walk_say "MY FOR"))
local macro_rules | `(tactic| walk_at "pyIter ref") => `(tactic| (k_here; (with_reducible show wpAny _ _ (pyIter (Value.ref _)) (fun it s₂ => LoopAtV _ _ _ _ _ _ _ _ _ it s₂) _ _); k_dflt (first | (refine' iter_tupU ?h ?F ?N ?m ?_; (case h => with_unfolding_all rfl); (case F => k_asm); (case N => k_asm); (case m => k_mem); k_whole) | (refine' iter_lstU ?h ?F ?N ?m ?_; (case h => with_unfolding_all rfl); (case F => k_asm); (case N => k_asm); (case m => k_mem); k_whole)); intro i' l1; (try (have hoff := SymSt.offNew l1 (by walk_at "my sym"))); (try k_lt l1); walk_say "MY ITER"))
local macro_rules | `(tactic| walk_at "SeqRest") => `(tactic| (with_unfolding_all first | (refine SeqRest.succ (fun it' h' tk' o' f' F' N' => ?_)) | (refine SeqRest.zero (fun h' tk' F' N' => ?_))))
local macro_rules | `(tactic| walk_at "UnrEnd") => `(tactic| (refine' UnrEnd.introM2 ?F ?N ?hI ?hf ?_; (case F => k_asm); (case N => k_asm); (case hI => k_mem); (case hf => assumption); intro q' kq' oq'; refine ⟨by k_mem, ?_⟩; walk_say "MY UNREND"))
local macro_rules | `(tactic| walk_at "find lt") => `(tactic| first | assumption | exact And.right (by assumption) | exact And.right (And.right (by assumption)) | exact And.right (And.right (And.right (by assumption))) | fail "find lt")
local macro_rules | `(tactic| walk_at "newList") => `(tactic| (k_here; k_dflt (refine' newList_K ?k1 ?k2 ?_; (case k1 => k_asm); (case k2 => k_asm); k_whole); intro l' h' F' N' l1; (try (have hoff := SymSt.offNew l1 (by walk_at "my sym"))); (try k_lt l1); (try k_sweep); walk_say "MY NEWLIST"))
local macro_rules | `(tactic| walk_at "my rt") => `(tactic| first | assumption | with_reducible exact RT.int _ _ | with_reducible exact RT.str _ _ | (refine' RT.tup ?rta ?rtb; (case rta => k_mem); (case rtb => walk_at "my rts")) | (refine' RT.sub ?rta (fun _ h => List.mem_cons_of_mem _ h); (case rta => walk_at "my rt")) | (refine' RT.keep ?rta ?rtb; (case rtb => with_reducible assumption); (case rta => walk_at "my rt")) | fail "my rt")
local macro_rules | `(tactic| walk_at "my rts") => `(tactic| first | exact RTs.nil | (refine' RTs.cons ?rsa ?rsb; (case rsa => walk_at "my rt"); (case rsb => walk_at "my rts")) | fail "my rts")
local macro_rules | `(tactic| walk_at "my keep") => `(tactic| first | with_reducible assumption | exact Keep.refl _ _ | (with_reducible refine' Keep.stepCons ?kpa; (case kpa => walk_at "my keep")) | ((with_reducible refine' Keep.trans ?kpa ?kpb); (case kpb => (with_reducible assumption)); (case kpa => walk_at "my keep")) | ((refine' Keep.trans ?kpa (Keep.wide (ds := []) ?kpb (fun _ h => nomatch h))); (case kpb => (with_reducible assumption)); (case kpa => walk_at "my keep")) | ((with_reducible refine' Keep.stepNew ?kpa ?kpb ?kpc); (case kpb => (with_reducible assumption)); (case kpc => walk_at "my off"); (case kpa => walk_at "my keep")) | fail "my keep")
local macro_rules | `(tactic| walk_at "my off") => `(tactic| first | assumption | exact off_lt (by assumption) | (refine' off_sub ?ofa ?ofb; (case ofa => assumption); (case ofb => (intro p hp; repeat (first | exact hp | refine List.mem_cons_of_mem _ ?_)))) | (refine' off_allLt ?ofa; (case ofa => walk_at "find lt")) | fail "my off")
local macro_rules | `(tactic| walk_at "call type:tuple") => `(tactic| (k_here; (with_reducible show wpAny _ _ (call (Value.type _) [Value.ref _]) _ _ _); k_dflt (refine' tuple_M ?k1 ?k2 ?_; (case k1 => k_asm); (case k2 => k_mem); k_whole); walk_say "MY TUPLE"))
local macro_rules | `(tactic| walk_at "call ref") => `(tactic| (k_here; (with_reducible show wpAny _ _ (call (Value.ref 88) _) _ _ _); k_dflt (refine' atom_ok ?B ?F ?X ?N ?T ?hk ?hdp ?hun ?p0 ?p1 ?p2 ?_; (case B => k_asm); (case F => k_asm); (case X => k_asm); (case N => k_asm); (case T => k_asm); (case hk => first | exact rfl | k_asm); (case hdp => first | ((try simp only [depth_under_make, depth_under_kw, depth_in1, depth_deeper]); (try dsimp only [ktrTop]); omega) | ktr_room); (case hun => first | ((try simp only [units_in1, units_deeper, units_under_make, Around.mark_units]); (try dsimp only [ktrTop]); omega) | ktr_units); (case p0 => walk_at "my sym"); (case p1 => (first | assumption | (with_unfolding_all rfl))); (case p2 => (first | assumption | omega | (simp only [List.length_append, List.length_cons, List.length_nil]; omega))); k_whole); intro h' tk' t' r' F' N' hS' kp; (try k_sweep); walk_say "USE atom_ok"))
local macro_rules | `(tactic| walk_at "call ref") => `(tactic| (k_here; (with_reducible show wpAny _ _ (call (Value.ref 102) _) _ _ _); k_dflt (refine' functor_ok ?B ?F ?X ?N ?T ?hk ?hdp ?hun ?p0 ?p1 ?p2 ?_; (case B => k_asm); (case F => k_asm); (case X => k_asm); (case N => k_asm); (case T => k_asm); (case hk => first | exact rfl | k_asm); (case hdp => first | ((try simp only [depth_under_make, depth_under_kw, depth_in1, depth_deeper]); (try dsimp only [ktrTop]); omega) | ktr_room); (case hun => first | ((try simp only [units_in1, units_deeper, units_under_make, Around.mark_units]); (try dsimp only [ktrTop]); omega) | ktr_units); (case p0 => walk_at "my sym"); (case p1 => (first | assumption | (with_unfolding_all rfl))); (case p2 => (first | assumption | omega | (simp only [List.length_append, List.length_cons, List.length_nil]; omega))); k_whole); intro h' tk' t' r' F' N' hS' kp; (try k_sweep); walk_say "USE functor_ok"))
local macro_rules | `(tactic| walk_at "call ref") => `(tactic| (k_here; (with_reducible show wpAny _ _ (call (Value.ref 109) _) _ _ _); k_dflt (refine' func_ok ?B ?F ?X ?N ?T ?hk ?hdp ?hun ?p0 ?p1 ?p2 ?p3 ?p4 ?_; (case B => k_asm); (case F => k_asm); (case X => k_asm); (case N => k_asm); (case T => k_asm); (case hk => first | exact rfl | k_asm); (case hdp => first | ((try simp only [depth_under_make, depth_under_kw, depth_in1, depth_deeper]); (try dsimp only [ktrTop]); omega) | ktr_room); (case hun => first | ((try simp only [units_in1, units_deeper, units_under_make, Around.mark_units]); (try dsimp only [ktrTop]); omega) | ktr_units); (case p0 => walk_at "my sym"); (case p1 => (first | assumption | (with_unfolding_all rfl))); (case p2 => (first | assumption | (with_unfolding_all rfl))); (case p3 => (first | assumption | omega)); (case p4 => (first | assumption | omega)); k_whole); intro h' tk' t' r' F' N' hS' kp; (try k_sweep); walk_say "USE func_ok"))
local macro_rules | `(tactic| walk_at "call ref") => `(tactic| (k_here; (with_reducible show wpAny _ _ (call (Value.ref 193) _) _ _ _); k_dflt (refine' formal1 ?B ?F ?X ?N ?T ?hk ?hdp ?hun ?p0 ?p1 ?p2 ?p3 ?p4 ?p5 ?p6 ?p7 ?_; (case B => k_asm); (case F => k_asm); (case X => k_asm); (case N => k_asm); (case T => k_asm); (case hk => first | exact rfl | k_asm); (case hdp => first | ((try simp only [depth_under_make, depth_under_kw, depth_in1, depth_deeper]); (try dsimp only [ktrTop]); omega) | ktr_room); (case hun => first | ((try simp only [units_in1, units_deeper, units_under_make, Around.mark_units]); (try dsimp only [ktrTop]); omega) | ktr_units); (case p0 => walk_at "my sym"); (case p1 => k_mem); (case p2 => (first | assumption | (with_unfolding_all rfl))); (case p3 => (first | assumption | (with_unfolding_all rfl))); (case p4 => (first | assumption | (with_unfolding_all rfl))); (case p5 => (first | assumption | omega)); (case p6 => (first | assumption | omega)); (case p7 => (first | assumption | omega)); k_whole); intro h' tk' g r' F' N' hS' kp hrt; (try k_sweep); walk_say "USE formal1"))
local macro_rules | `(tactic| walk_at "call ref") => `(tactic| (k_here; (with_reducible show wpAny _ _ (call (Value.ref 193) _) _ _ _); k_dflt (refine' formal2 ?B ?F ?X ?N ?T ?hk ?hdp ?hun ?p0 ?p1 ?p2 ?p3 ?p4 ?p5 ?p6 ?p7 ?p8 ?p9 ?_; (case B => k_asm); (case F => k_asm); (case X => k_asm); (case N => k_asm); (case T => k_asm); (case hk => first | exact rfl | k_asm); (case hdp => first | ((try simp only [depth_under_make, depth_under_kw, depth_in1, depth_deeper]); (try dsimp only [ktrTop]); omega) | ktr_room); (case hun => first | ((try simp only [units_in1, units_deeper, units_under_make, Around.mark_units]); (try dsimp only [ktrTop]); omega) | ktr_units); (case p0 => walk_at "my sym"); (case p1 => k_mem); (case p2 => walk_at "my rt"); (case p3 => k_mem); (case p4 => (first | assumption | (with_unfolding_all rfl))); (case p5 => (first | assumption | (with_unfolding_all rfl))); (case p6 => (first | assumption | (with_unfolding_all rfl))); (case p7 => (first | assumption | omega)); (case p8 => (first | assumption | omega)); (case p9 => (first | assumption | omega)); k_whole); intro h' tk' g r' F' N' hS' kp hrt; (try k_sweep); walk_say "USE formal2"))
local macro_rules | `(tactic| walk_at "call ref") => `(tactic| (k_here; (with_reducible show wpAny _ _ (call (Value.ref 186) _) _ _ _); k_dflt (refine' sys_ok ?B ?F ?X ?N ?T ?hk ?hdp ?hun ?p0 ?_; (case B => k_asm); (case F => k_asm); (case X => k_asm); (case N => k_asm); (case T => k_asm); (case hk => first | exact rfl | k_asm); (case hdp => first | ((try simp only [depth_under_make, depth_under_kw, depth_in1, depth_deeper]); (try dsimp only [ktrTop]); omega) | ktr_room); (case hun => first | ((try simp only [units_in1, units_deeper, units_under_make, Around.mark_units]); (try dsimp only [ktrTop]); omega) | ktr_units); (case p0 => walk_at "my rt"); k_whole); intro h' tk' e dx t r' F' N' he kp hb; (try k_sweep); walk_say "USE sys_ok"))
local macro_rules | `(tactic| walk_at "call ref") => `(tactic| (k_here; (with_reducible show wpAny _ _ (call (Value.ref 165) _) _ _ _); k_dflt (refine' atomt_ok ?B ?F ?X ?N ?T ?hk ?hdp ?hun  ?_; (case B => k_asm); (case F => k_asm); (case X => k_asm); (case N => k_asm); (case T => k_asm); (case hk => first | exact rfl | k_asm); (case hdp => first | ((try simp only [depth_under_make, depth_under_kw, depth_in1, depth_deeper]); (try dsimp only [ktrTop]); omega) | ktr_room); (case hun => first | ((try simp only [units_in1, units_deeper, units_under_make, Around.mark_units]); (try dsimp only [ktrTop]); omega) | ktr_units);  k_whole); intro h' tk' y t1 t2 F' N'; (try k_sweep); walk_say "USE atomt_ok"))
local macro_rules | `(tactic| walk_at "call ref") => `(tactic| (k_here; (with_reducible show wpAny _ _ (call (Value.ref 172) _) _ _ _); k_dflt (refine' integert_ok ?B ?F ?X ?N ?T ?hk ?hdp ?hun  ?_; (case B => k_asm); (case F => k_asm); (case X => k_asm); (case N => k_asm); (case T => k_asm); (case hk => first | exact rfl | k_asm); (case hdp => first | ((try simp only [depth_under_make, depth_under_kw, depth_in1, depth_deeper]); (try dsimp only [ktrTop]); omega) | ktr_room); (case hun => first | ((try simp only [units_in1, units_deeper, units_under_make, Around.mark_units]); (try dsimp only [ktrTop]); omega) | ktr_units);  k_whole); intro h' tk' y t1 t2 F' N'; (try k_sweep); walk_say "USE integert_ok"))
local macro_rules | `(tactic| walk_at "call ref") => `(tactic| (k_here; (with_reducible show wpAny _ _ (call (Value.ref 179) _) _ _ _); k_dflt (refine' struct_ok ?B ?F ?X ?N ?T ?hk ?hdp ?hun ?p0 ?_; (case B => k_asm); (case F => k_asm); (case X => k_asm); (case N => k_asm); (case T => k_asm); (case hk => first | exact rfl | k_asm); (case hdp => first | ((try simp only [depth_under_make, depth_under_kw, depth_in1, depth_deeper]); (try dsimp only [ktrTop]); omega) | ktr_room); (case hun => first | ((try simp only [units_in1, units_deeper, units_under_make, Around.mark_units]); (try dsimp only [ktrTop]); omega) | ktr_units); (case p0 => k_mem); k_whole); intro h' tk' y t1 t2 F' N'; (try k_sweep); walk_say "USE struct_ok"))
local macro_rules | `(tactic| walk_at "call ref") => `(tactic| (k_here; (with_reducible show wpAny _ _ (call (Value.ref 207) _) _ _ _); k_dflt (refine' typeerr_ok ?B ?F ?X ?N ?T ?hk ?hdp ?hun ?p0 ?p1 ?p2 ?p3 ?p4 ?p5 ?p6 ?p7 ?p8 ?_; (case B => k_asm); (case F => k_asm); (case X => k_asm); (case N => k_asm); (case T => k_asm); (case hk => first | exact rfl | k_asm); (case hdp => first | ((try simp only [depth_under_make, depth_under_kw, depth_in1, depth_deeper]); (try dsimp only [ktrTop]); omega) | ktr_room); (case hun => first | ((try simp only [units_in1, units_deeper, units_under_make, Around.mark_units]); (try dsimp only [ktrTop]); omega) | ktr_units); (case p0 => walk_at "my sym"); (case p1 => k_mem); (case p2 => walk_at "my rt"); (case p3 => assumption); (case p4 => assumption); (case p5 => assumption); (case p6 => (first | assumption | omega)); (case p7 => (first | assumption | omega)); (case p8 => (first | assumption | omega)); k_whole); intro h' tk' e dx t r' F' N' he hS' kp hb; (try k_sweep); walk_say "USE typeerr_ok"))
theorem notev_ok {w : World} {p : Program} {loose : List Str} {mean : ExcName → Option Value} {mg mb : Str → Option Value}
  {dp un : Nat} {gd : Option (List Code)} {cn : Str} {cs : Scope} {a : Addr} {ccd : Value} {cl : List (Str × Addr)} {outer : List Env} {A₀ : Around} {base h₀ : Heap} {L : Addr} {m : Str → Option Value} {news : List (Addr × Obj)} {s : Shared} {Q E : Value → Shared → Prop}
  {nm nd : Addr} {S : SymA} {ndn : Nat} {ts : List Str} {fs : List (Int × Int)}{ta tn : Tok} {b i f : Int} {ts1 ts2 : List Str} {fs' : List (Int × Int)}
  (B : Below A₀ base outer h₀) (F : Fr h₀ L s.heap m) (X : (hd.heap_39 w.params).In h₀) (N : News h₀ L s.heap news) (T : Top p loose mean mg mb h₀) (hk : cs.kind = .function)
  (hdp : dp + 20 < recursionLimit) (hun : un + 200 < cLine)
  (hS : SymSt PySem.Challenge.rw_rh0112_01.row.prog w news nm nd S ndn ts fs) (hp : intern (Str.ofString "evaluable") ts = (i, ts1)) (hp2 : intern (Str.ofString "type_error") ts1 = (b, ts2)) (hp3 : intern (b, 2) fs = (f, fs')) (hz : ts.length < 900) (hz1 : ts1.length < 950) (hz2 : fs.length < 1000)
  (ret : ∀ h' tk e dx t r', Fr h₀ L h' m → News h₀ L h' ((e, exc1 51 dx t) :: r') → (∀ p ∈ r', p.1 ≠ e) → SymSt PySem.Challenge.rw_rh0112_01.row.prog w r' nm nd S ndn ts2 fs' → Keep (symAt S) news r' → BallAt r' dx (.tuple [.str (Str.ofString "s"), .int f, .tuple [.tuple [.str (Str.ofString "a"), .int i], .tuple [.str (Str.ofString "s"), .int 15, .tuple [.tuple [.str (Str.ofString "a"), .int 1], .tuple [.str (Str.ofString "i"), .int 2]]]]]) → Q (.ref e) { s with heap := h', toks := tk }) :
  wpAny (model PySem.Challenge.rw_rh0112_01.row.prog w) (ktrTop dp un gd cn cs L a ccd cl outer) (call (.ref 434) [.ref nm, .int 1 ta, .int 2 tn]) Q E s := by
  revert X; k_fill; intro X
  have hi := hS.i
  have hd := hS.d
  obtain ⟨so1, so2, so3, so4, hm1, hm2, hm3, hm4⟩ := hS.mem4
  refine wpAny_call ?_
  k_dflt ktr_enter
  k_steps
  rename BallAt _ _ _ => hbE
  rename News h₀ _ _ _ => nE
  exact ret _ _ _ _ _ _ (by k_asm) nE (by assumption) (by walk_at "my sym") (by walk_at "my keep") hbE

end Mine
namespace Mine
local macro_rules | `(tactic| walk_at "exec While") => `(tactic| (k_here; k_dflt (refine whl_start 1 ?_)))
local macro_rules | `(tactic| walk_at "ite") => `(tactic| (k_here; first | (refine ite_pos (by first | with_reducible assumption | (simp only [beq_iff_eq, bne_iff_ne, decide_eq_true_eq, ne_eq]; omega)) ?_; walk_say "MY PRUNE") | (refine ite_neg (by first | with_reducible assumption | (simp only [beq_iff_eq, bne_iff_ne, decide_eq_true_eq, ne_eq]; omega)) ?_; walk_say "MY PRUNE")))
local macro_rules | `(tactic| walk_at "subscriptTail") => `(tactic| (k_here; (with_reducible show wpAny _ _ (subscriptTail _ _ (Value.ref _) (Value.int _ _)) _ _ _); (with_unfolding_all refine' item_abs ?k1 ?k2 ?k3 ?k4 ?k5 ?_ ?k6; (case k1 => k_asm); (case k2 => k_mem); (case k3 => assumption); (case k4 => first | assumption | omega); (case k5 => assumption); (case k6 => with_unfolding_all rfl); k_whole); walk_say "MY ITEM"))
local macro_rules | `(tactic| walk_at "compareOp In str ref") => `(tactic| (k_here; k_dflt (refine' in_tupK ?F ?X ?l ?w ?b ?_; (case F => k_asm); (case X => k_asm); (case l => k_is); (case w => kde_strs); (case b => exact rfl); k_whole); walk_say "MY IN"))
local macro_rules | `(tactic| walk_at "call builtin:list.append") => `(tactic| (k_here; (with_reducible show wpAny _ _ (call (Value.builtin _) [Value.ref _, _]) _ _ _); k_dflt (refine' append_L ?k1 ?k2 ?k3 ?z ?_; (case k1 => k_asm); (case k2 => k_asm); (case k3 => k_upd); (case z => first | assumption | omega | (simp only [List.length_append, List.length_cons, List.length_nil]; omega)); k_whole); intro h' F' N'; (try k_sweep); walk_say "MY APPEND"))
local macro_rules | `(tactic| walk_at "call builtin:list.pop") => `(tactic| (k_here; (with_reducible show wpAny _ _ (call (Value.builtin _) [Value.ref _]) _ _ _); k_dflt (refine' pop_L ?k1 ?k2 ?k3 ?z ?_; (case k1 => k_asm); (case k2 => k_asm); (case k3 => k_upd); (case z => first | assumption | omega | (simp only [List.length_append, List.length_cons, List.length_nil]; omega)); k_whole); intro h' F' N'; (try k_sweep); walk_say "MY POP"))
local macro_rules | `(tactic| k_all) => `(tactic| assumption)
local macro_rules | `(tactic| k_mem) => `(tactic| first | with_reducible exact List.Mem.head _ | assumption | (refine' List.Mem.tail _ ?_; k_mem))
local macro_rules | `(tactic| walk_at "truthy ref") => `(tactic| (k_here; (with_reducible show wpAny _ _ (truthy (Value.ref _)) _ _ _); k_dflt (refine' truthy_L ?k1 ?k2 ?k3 ?k4 ?_; (case k1 => k_asm); (case k2 => k_mem); (case k3 => first | assumption | (simp only [List.length_append, List.length_cons, List.length_nil]; omega)); (case k4 => first | exact some_true _ _ | exact none_false); k_whole); walk_say "MY TRUTH"))
local macro_rules | `(tactic| walk_at "call builtin:len") => `(tactic| (k_here; (with_reducible show wpAny _ _ (call (Value.builtin "len") [Value.ref _]) _ _ _); k_dflt (refine' len_L ?k1 ?k2 ?k3 ?_; (case k1 => k_asm); (case k2 => k_mem); (case k3 => first | assumption | (simp only [List.length_append, List.length_cons, List.length_nil]; omega)); k_whole); walk_say "MY LEN"))
local macro_rules | `(tactic| k_mem) => `(tactic| first | with_reducible exact List.mem_cons_self | with_reducible assumption | exact List.Mem.head _ | with_reducible exact SymSt.i (by with_reducible assumption) | with_reducible exact SymSt.d (by with_reducible assumption) | ((with_reducible refine' Keep.any ?kmk _ _ ?kma ?kmb); (case kmk => (with_reducible assumption)); (case kma => k_mem); (case kmb => first | exact .inl (.inl rfl) | exact .inl (.inr ⟨_, rfl⟩) | (refine Or.inr ?_; walk_at "my notin"))) | ((with_reducible refine' List.mem_cons_of_mem _ ?_); k_mem) | assumption | fail "my mem")
local macro_rules | `(tactic| walk_at "my ne0") => `(tactic| first | with_reducible assumption | with_reducible exact Ne.symm (by with_reducible assumption) | k_ne | (exact Ne.symm (by k_ne)) | exact lt_at (by with_reducible assumption) (by with_reducible assumption) | exact Ne.symm (lt_at (by with_reducible assumption) (by with_reducible assumption)) | exact off_at (by with_reducible assumption) (by with_reducible assumption) | exact Ne.symm (off_at (by with_reducible assumption) (by with_reducible assumption)) | fail "my ne0")
local macro_rules | `(tactic| walk_at "my notin") => `(tactic| first | with_reducible assumption | with_reducible exact OffS.sym (by with_reducible assumption) | with_reducible exact OffS.nd (by with_reducible assumption) | (simp only [List.mem_cons, List.not_mem_nil, or_false, not_or]; (repeat' (refine And.intro ?_ ?_)) <;> walk_at "my ne0"))
local macro_rules | `(tactic| walk_at "my sym") => `(tactic| first | with_reducible assumption | (refine' SymSt.keep ?ks1 (.cons [] _ _) (by simp); (case ks1 => walk_at "my sym")) | (refine' SymSt.keep (ds := []) ?ks1 ?ks2 (fun _ _ => List.not_mem_nil); (case ks2 => with_reducible assumption); (case ks1 => walk_at "my sym")) | (refine' SymSt.keepO ?ks1 ?ks2 ?ks3; (case ks2 => with_reducible assumption); (case ks3 => with_reducible assumption); (case ks1 => walk_at "my sym")) | fail "my sym")
local macro_rules | `(tactic| walk_at "my tab") => `(tactic| first | assumption | (refine' PyProof.Rows.TupTab.cons ?kt _; (case kt => walk_at "my tab")) | (refine' tupTab_keep ?kt1 ?kt0 ?kt2; (case kt0 => assumption); (case kt1 => walk_at "my tab"); (case kt2 => walk_at "my notin")) | fail "my tab")
local macro_rules | `(tactic| walk_at "call builtin:list.append") => `(tactic| (k_here; (with_reducible show wpAny _ _ (call (Value.builtin _) [Value.ref _, _]) _ _ _); k_dflt (refine' append_M ?k1 ?k2 ?k3 ?z ?_; (case k1 => k_asm); (case k2 => k_asm); (case k3 => k_mem); (case z => first | assumption | omega | (simp only [List.length_append, List.length_cons, List.length_nil]; omega)); k_whole); intro h' r' F' N' hin kp; (try k_sweep); walk_say "M APPEND"))
local macro_rules | `(tactic| walk_at "getMethod ref") => `(tactic| (k_here; (with_reducible show wpAny _ _ (getMethod (Value.ref _) "get" _) _ _ _); k_dflt (first | (refine' smeth_M ?k1 ?k2 ?k3 ?k4 ?k5 ?_; (case k1 => k_asm); (case k2 => k_mem); (case k4 => assumption); (case k5 => assumption); (case k3 => assumption); k_whole) | (refine' tmeth_M ?k1 ?k2 ?_; (case k1 => k_asm); (case k2 => walk_at "my tab"); k_whole)); walk_say "M METH"))
local macro_rules | `(tactic| walk_at "call builtin:dict.get") => `(tactic| (k_here; k_dflt (first | (refine' sget_M ?k1 ?k2 ?k3 ?k4 ?k5 ?k6 ?_; (case k1 => k_asm); (case k2 => k_mem); (case k4 => assumption); (case k5 => assumption); (case k3 => assumption); (case k6 => assumption); k_whole) | (refine' tget_M ?k1 ?k2 ?k3 ?k4 ?k5 ?_; (case k2 => k_asm); (case k3 => walk_at "my tab"); (case k4 => k_mem); (case k5 => assumption); (case k1 => walk_at "my units"); k_whole)); intro t'; walk_say "M GET"))
local macro_rules | `(tactic| walk_at "my units") => `(tactic| ((try simp only [units_in1, units_deeper, units_under_make, Around.mark_units]); (try dsimp only [ktrTop]); (try simp only [units_in1, units_deeper, units_under_make, Around.mark_units]); omega))
local macro_rules | `(tactic| walk_at "setItem ref str") => `(tactic| (k_here; k_dflt (refine' sset_M ?F ?N ?m ?d ?f ?z ?_; (case F => k_asm); (case N => k_asm); (case m => k_mem); (case d => assumption); (case f => assumption); (case z => first | assumption | omega); k_whole); intro h' r' o' kvs' F' N' hin hd' hf' kp; (try k_sweep); walk_say "M SET"))
local macro_rules | `(tactic| walk_at "setItem ref ref") => `(tactic| (k_here; k_dflt (refine' tset_M ?u ?F ?N ?T ?m ?z ?_; (case F => k_asm); (case N => k_asm); (case T => walk_at "my tab"); (case m => k_mem); (case z => first | assumption | omega); (case u => walk_at "my units"); k_whole); intro h' r' F' N' hT' kp; (try k_sweep); walk_say "M TSET"))
local macro_rules | `(tactic| walk_at "exec For") => `(tactic| (k_here; (with_reducible show wpAny _ _ (exec (Stmt.For (Expr.Name _ _) _ _ [] _) _) _ _ _); (rename Fr _ _ _ _ => lF'); (with_unfolding_all refine' For_invVF lF' ?k1 ?k2 ?_; (case k1 => exact rfl); (case k2 => exact rfl); k_whole); walk_say "MY FOR"))
local macro_rules | `(tactic| walk_at "exec For Name Name cons nil") => `(tactic| (k_here; (rename Fr _ _ _ _ => lF'); (with_unfolding_all refine' For_invVF lF' ?k1 ?k2 ?_; (case k1 => exact rfl); (case k2 => exact rfl); k_whole); walk_say "MY FOR"))
local macro_rules | `(tactic| walk_at "exec For Name Call cons nil") => `(tactic| (k_here; (rename Fr _ _ _ _ => lF'); (with_unfolding_all refine' For_invVF lF' ?k1 ?k2 ?_; (case k1 => exact rfl); (case k2 => exact rfl); k_whole); walk_say "MY FOR"))
local macro_rules | `(tactic| walk_at "pyIter ref") => `(tactic| (k_here; (with_reducible show wpAny _ _ (pyIter (Value.ref _)) (fun it s₂ => LoopAtV _ _ _ _ _ _ _ _ _ it s₂) _ _); k_dflt (first | (refine' iter_tupU ?h ?F ?N ?m ?_; (case h => with_unfolding_all rfl); (case F => k_asm); (case N => k_asm); (case m => k_mem); k_whole) | (refine' iter_lstU ?h ?F ?N ?m ?_; (case h => with_unfolding_all rfl); (case F => k_asm); (case N => k_asm); (case m => k_mem); k_whole)); intro i' l1; (try (have hoff := SymSt.offNew l1 (by walk_at "my sym"))); (try k_lt l1); walk_say "MY ITER"))
local macro_rules | `(tactic| walk_at "SeqRest") => `(tactic| (with_unfolding_all first | (refine SeqRest.succ (fun it' h' tk' o' f' F' N' => ?_)) | (refine SeqRest.zero (fun h' tk' F' N' => ?_))))
local macro_rules | `(tactic| walk_at "UnrEnd") => `(tactic| (refine' UnrEnd.introM2 ?F ?N ?hI ?hf ?_; (case F => k_asm); (case N => k_asm); (case hI => k_mem); (case hf => assumption); intro q' kq' oq'; refine ⟨by k_mem, ?_⟩; walk_say "MY UNREND"))
local macro_rules | `(tactic| walk_at "find lt") => `(tactic| first | assumption | exact And.right (by assumption) | exact And.right (And.right (by assumption)) | exact And.right (And.right (And.right (by assumption))) | fail "find lt")
local macro_rules | `(tactic| walk_at "newList") => `(tactic| (k_here; k_dflt (refine' newList_K ?k1 ?k2 ?_; (case k1 => k_asm); (case k2 => k_asm); k_whole); intro l' h' F' N' l1; (try (have hoff := SymSt.offNew l1 (by walk_at "my sym"))); (try k_lt l1); (try k_sweep); walk_say "MY NEWLIST"))
local macro_rules | `(tactic| walk_at "my rt") => `(tactic| first | assumption | with_reducible exact RT.int _ _ | with_reducible exact RT.str _ _ | (refine' RT.tup ?rta ?rtb; (case rta => k_mem); (case rtb => walk_at "my rts")) | (refine' RT.sub ?rta (fun _ h => List.mem_cons_of_mem _ h); (case rta => walk_at "my rt")) | (refine' RT.keep ?rta ?rtb; (case rtb => with_reducible assumption); (case rta => walk_at "my rt")) | fail "my rt")
local macro_rules | `(tactic| walk_at "my rts") => `(tactic| first | exact RTs.nil | (refine' RTs.cons ?rsa ?rsb; (case rsa => walk_at "my rt"); (case rsb => walk_at "my rts")) | fail "my rts")
local macro_rules | `(tactic| walk_at "my keep") => `(tactic| first | with_reducible assumption | exact Keep.refl _ _ | (with_reducible refine' Keep.stepCons ?kpa; (case kpa => walk_at "my keep")) | ((with_reducible refine' Keep.trans ?kpa ?kpb); (case kpb => (with_reducible assumption)); (case kpa => walk_at "my keep")) | ((refine' Keep.trans ?kpa (Keep.wide (ds := []) ?kpb (fun _ h => nomatch h))); (case kpb => (with_reducible assumption)); (case kpa => walk_at "my keep")) | ((with_reducible refine' Keep.stepNew ?kpa ?kpb ?kpc); (case kpb => (with_reducible assumption)); (case kpc => walk_at "my off"); (case kpa => walk_at "my keep")) | fail "my keep")
local macro_rules | `(tactic| walk_at "my off") => `(tactic| first | assumption | exact off_lt (by assumption) | (refine' off_sub ?ofa ?ofb; (case ofa => assumption); (case ofb => (intro p hp; repeat (first | exact hp | refine List.mem_cons_of_mem _ ?_)))) | (refine' off_allLt ?ofa; (case ofa => walk_at "find lt")) | fail "my off")
local macro_rules | `(tactic| walk_at "call type:tuple") => `(tactic| (k_here; (with_reducible show wpAny _ _ (call (Value.type _) [Value.ref _]) _ _ _); k_dflt (refine' tuple_M ?k1 ?k2 ?_; (case k1 => k_asm); (case k2 => k_mem); k_whole); walk_say "MY TUPLE"))
def atoms0 : List Str := [Str.ofString "[]", Str.ofString ".", Str.ofString "{}", Str.ofString "-", Str.ofString "+", Str.ofString "*", Str.ofString "/", Str.ofString ",", Str.ofString "|", Str.ofString ";", Str.ofString "->", Str.ofString "\\+", Str.ofString ":-", Str.ofString "?-", Str.ofString "-->", Str.ofString "!", Str.ofString "true", Str.ofString "fail", Str.ofString "false", Str.ofString "call", Str.ofString "=", Str.ofString "^", Str.ofString "error", Str.ofString "", Str.ofString "end_of_file", Str.ofString "system", Str.ofString "$VAR", Str.ofString "catch", Str.ofString "throw"]
def functors0 : List (Str × Int) := [(Str.ofString ".", 2), (Str.ofString ",", 2), (Str.ofString ";", 2), (Str.ofString "->", 2), (Str.ofString "\\+", 1), (Str.ofString ":-", 2), (Str.ofString ":-", 1), (Str.ofString "?-", 1), (Str.ofString "-->", 2), (Str.ofString "{}", 1), (Str.ofString "=", 2), (Str.ofString "^", 2), (Str.ofString "-", 1), (Str.ofString "-", 2), (Str.ofString "+", 2), (Str.ofString "/", 2), (Str.ofString "error", 2), (Str.ofString "$VAR", 1), (Str.ofString "catch", 3), (Str.ofString "throw", 1), (Str.ofString "!", 0), (Str.ofString "true", 0), (Str.ofString "fail", 0), (Str.ofString "false", 0), (Str.ofString "call", 1), (Str.ofString "call", 2), (Str.ofString "call", 3), (Str.ofString "call", 4), (Str.ofString "call", 5), (Str.ofString "call", 6), (Str.ofString "call", 7), (Str.ofString "call", 8)]
/-- the rows of a tuple: (text, number) each -/
def RowsAre (r : List (Addr × Obj)) : List Value → List (Str × Int) → Prop
  | [], [] => True
  | v :: vs, c :: cs => (∃ x t1 t2 n, v = .ref x ∧ (x, tup [.str c.1 t1, .int c.2 t2] n) ∈ r) ∧ RowsAre r vs cs
  | _, _ => False
local macro_rules | `(tactic| walk_at "my strs") => `(tactic| first | exact StrsAre.nil | (refine' StrsAre.cons _ _ ?sa; (case sa => walk_at "my strs")))
theorem fixedatoms_ok {w : World} {p : Program} {loose : List Str} {mean : ExcName → Option Value} {mg mb : Str → Option Value}
  {dp un : Nat} {gd : Option (List Code)} {cn : Str} {cs : Scope} {a : Addr} {ccd : Value} {cl : List (Str × Addr)} {outer : List Env} {A₀ : Around} {base h₀ : Heap} {L : Addr} {m : Str → Option Value} {news : List (Addr × Obj)} {s : Shared} {Q E : Value → Shared → Prop}
  
  (B : Below A₀ base outer h₀) (F : Fr h₀ L s.heap m) (X : (hd.heap_39 w.params).In h₀) (N : News h₀ L s.heap news) (T : Top p loose mean mg mb h₀) (hk : cs.kind = .function)
  (hdp : dp + 1 < recursionLimit) (hun : un + 10 < cLine)
  (ret : ∀ h' tk y vs, Fr h₀ L h' m → News h₀ L h' ((y, tup vs 0) :: news) → StrsAre vs atoms0 → Q (.ref y) { s with heap := h', toks := tk }) :
  wpAny (model PySem.Challenge.rw_rh0112_01.row.prog w) (ktrTop dp un gd cn cs L a ccd cl outer) (call (.ref 60) []) Q E s := by
  revert X; k_fill; intro X
  refine wpAny_call ?_
  k_dflt ktr_enter
  k_steps
  exact ret _ _ _ _ (by k_asm) (by k_asm) (by unfold atoms0; walk_at "my strs")

local macro_rules | `(tactic| walk_at "my rows") => `(tactic| first | exact True.intro | (refine' And.intro ⟨_, _, _, _, rfl, ?ra⟩ ?rb; (case ra => k_mem); (case rb => walk_at "my rows")))
theorem fixedfunctors_ok {w : World} {p : Program} {loose : List Str} {mean : ExcName → Option Value} {mg mb : Str → Option Value}
  {dp un : Nat} {gd : Option (List Code)} {cn : Str} {cs : Scope} {a : Addr} {ccd : Value} {cl : List (Str × Addr)} {outer : List Env} {A₀ : Around} {base h₀ : Heap} {L : Addr} {m : Str → Option Value} {news : List (Addr × Obj)} {s : Shared} {Q E : Value → Shared → Prop}
  
  (B : Below A₀ base outer h₀) (F : Fr h₀ L s.heap m) (X : (hd.heap_39 w.params).In h₀) (N : News h₀ L s.heap news) (T : Top p loose mean mg mb h₀) (hk : cs.kind = .function)
  (hdp : dp + 1 < recursionLimit) (hun : un + 10 < cLine)
  (ret : ∀ h' tk y vs r', Fr h₀ L h' m → News h₀ L h' r' → (y, tup vs 0) ∈ r' → RowsAre r' vs functors0 → (∀ p ∈ news, p ∈ r') → Q (.ref y) { s with heap := h', toks := tk }) :
  wpAny (model PySem.Challenge.rw_rh0112_01.row.prog w) (ktrTop dp un gd cn cs L a ccd cl outer) (call (.ref 67) []) Q E s := by
  revert X; k_fill; intro X
  refine wpAny_call ?_
  k_dflt ktr_enter
  k_steps
  refine ret _ _ _ _ _ (by k_asm) (by k_asm) (by k_mem) (by unfold functors0; walk_at "my rows") ?_
  intro p hp
  repeat (first | exact hp | refine List.mem_cons_of_mem _ ?_)

end Mine
namespace Mine
section
variable {r r' : List (Addr × Obj)}
theorem Keep.ofSub (k : ∀ p ∈ r, p ∈ r') : Keep [] r r' := ⟨fun _ _ h _ => k _ h, fun _ _ h _ => k _ h⟩
theorem RowsAre.keep {ds : List Addr} (k : Keep ds r r') : ∀ {vs : List Value} {cs : List (Str × Int)}, RowsAre r vs cs → RowsAre r' vs cs
  | [], [], _ => True.intro
  | _ :: _, _ :: _, ⟨⟨x, t1, t2, n, e, hm⟩, h⟩ => ⟨⟨x, t1, t2, n, e, k.cl _ _ hm .tup⟩, RowsAre.keep k h⟩
  | [], _ :: _, h => h.elim
  | _ :: _, [], h => h.elim
theorem RowsAre.cons_inv {v : Value} {vs : List Value} {cs : List (Str × Int)} (h : RowsAre r (v :: vs) cs) : ∃ x n cs', cs = (x, n) :: cs' ∧ (∃ y t1 t2 z, v = .ref y ∧ (y, tup [.str x t1, .int n t2] z) ∈ r) ∧ RowsAre r vs cs' :=
  match cs, h with
  | [], h => h.elim
  | (x, n) :: cs', ⟨h1, h2⟩ => ⟨x, n, cs', rfl, h1, h2⟩
theorem RowsAre.nil_inv {cs : List (Str × Int)} (h : RowsAre r [] cs) : cs = [] :=
  match cs, h with
  | [], _ => rfl
  | _ :: _, h => h.elim
theorem intern_len {α : Type} [DecidableEq α] (x : α) (l : List α) : (intern x l).2.length ≤ l.length + 1 := by
  unfold intern
  cases idx x l with
  | some i => exact Nat.le_succ _
  | none => simp
theorem off_sym {nws : List (Addr × Obj)} {S : SymA} (h1 : AllLt S.lt nws) (h2 : AllLt S.da nws) (h3 : AllLt S.lf nws) (h4 : AllLt S.df nws) : ∀ p ∈ nws, p.1 ∉ symAt S := fun p hp q => by
  simp only [symAt, List.mem_cons, List.not_mem_nil, or_false] at q
  rcases q with q | q | q | q
  · exact off_allLt h1 p hp q
  · exact off_allLt h2 p hp q
  · exact off_allLt h3 p hp q
  · exact off_allLt h4 p hp q
end
def stepA (t : List Str) (x : Str) : List Str := (intern x t).2
def stepF (q : List Str × List (Int × Int)) (c : Str × Int) : List Str × List (Int × Int) := ((intern c.1 q.1).2, (intern ((intern c.1 q.1).1, c.2) q.2).2)
def ts0 : List Str := (functors0.foldl stepF (atoms0.foldl stepA [], [])).1
def fs0 : List (Int × Int) := (functors0.foldl stepF (atoms0.foldl stepA [], [])).2
end Mine
namespace Mine
local macro_rules | `(tactic| walk_at "exec While") => `(tactic| (k_here; k_dflt (refine whl_start 1 ?_)))
local macro_rules | `(tactic| walk_at "ite") => `(tactic| (k_here; first | (refine ite_pos (by first | with_reducible assumption | (simp only [beq_iff_eq, bne_iff_ne, decide_eq_true_eq, ne_eq]; omega)) ?_; walk_say "MY PRUNE") | (refine ite_neg (by first | with_reducible assumption | (simp only [beq_iff_eq, bne_iff_ne, decide_eq_true_eq, ne_eq]; omega)) ?_; walk_say "MY PRUNE")))
local macro_rules | `(tactic| walk_at "subscriptTail") => `(tactic| (k_here; (with_reducible show wpAny _ _ (subscriptTail _ _ (Value.ref _) (Value.int _ _)) _ _ _); (with_unfolding_all refine' item_abs ?k1 ?k2 ?k3 ?k4 ?k5 ?_ ?k6; (case k1 => k_asm); (case k2 => k_mem); (case k3 => assumption); (case k4 => first | assumption | omega); (case k5 => assumption); (case k6 => with_unfolding_all rfl); k_whole); walk_say "MY ITEM"))
local macro_rules | `(tactic| walk_at "compareOp In str ref") => `(tactic| (k_here; k_dflt (refine' in_tupK ?F ?X ?l ?w ?b ?_; (case F => k_asm); (case X => k_asm); (case l => k_is); (case w => kde_strs); (case b => exact rfl); k_whole); walk_say "MY IN"))
local macro_rules | `(tactic| walk_at "call builtin:list.append") => `(tactic| (k_here; (with_reducible show wpAny _ _ (call (Value.builtin _) [Value.ref _, _]) _ _ _); k_dflt (refine' append_L ?k1 ?k2 ?k3 ?z ?_; (case k1 => k_asm); (case k2 => k_asm); (case k3 => k_upd); (case z => first | assumption | omega | (simp only [List.length_append, List.length_cons, List.length_nil]; omega)); k_whole); intro h' F' N'; (try k_sweep); walk_say "MY APPEND"))
local macro_rules | `(tactic| walk_at "call builtin:list.pop") => `(tactic| (k_here; (with_reducible show wpAny _ _ (call (Value.builtin _) [Value.ref _]) _ _ _); k_dflt (refine' pop_L ?k1 ?k2 ?k3 ?z ?_; (case k1 => k_asm); (case k2 => k_asm); (case k3 => k_upd); (case z => first | assumption | omega | (simp only [List.length_append, List.length_cons, List.length_nil]; omega)); k_whole); intro h' F' N'; (try k_sweep); walk_say "MY POP"))
local macro_rules | `(tactic| k_all) => `(tactic| assumption)
local macro_rules | `(tactic| k_mem) => `(tactic| first | with_reducible exact List.Mem.head _ | assumption | (refine' List.Mem.tail _ ?_; k_mem))
local macro_rules | `(tactic| walk_at "truthy ref") => `(tactic| (k_here; (with_reducible show wpAny _ _ (truthy (Value.ref _)) _ _ _); k_dflt (refine' truthy_L ?k1 ?k2 ?k3 ?k4 ?_; (case k1 => k_asm); (case k2 => k_mem); (case k3 => first | assumption | (simp only [List.length_append, List.length_cons, List.length_nil]; omega)); (case k4 => first | exact some_true _ _ | exact none_false); k_whole); walk_say "MY TRUTH"))
local macro_rules | `(tactic| walk_at "call builtin:len") => `(tactic| (k_here; (with_reducible show wpAny _ _ (call (Value.builtin "len") [Value.ref _]) _ _ _); k_dflt (refine' len_L ?k1 ?k2 ?k3 ?_; (case k1 => k_asm); (case k2 => k_mem); (case k3 => first | assumption | (simp only [List.length_append, List.length_cons, List.length_nil]; omega)); k_whole); walk_say "MY LEN"))
local macro_rules | `(tactic| k_mem) => `(tactic| first | with_reducible exact List.mem_cons_self | with_reducible assumption | exact List.Mem.head _ | with_reducible exact SymSt.i (by with_reducible assumption) | with_reducible exact SymSt.d (by with_reducible assumption) | ((with_reducible refine' Keep.any ?kmk _ _ ?kma ?kmb); (case kmk => (with_reducible assumption)); (case kma => k_mem); (case kmb => first | exact .inl (.inl rfl) | exact .inl (.inr ⟨_, rfl⟩) | (refine Or.inr ?_; walk_at "my notin"))) | ((with_reducible refine' List.mem_cons_of_mem _ ?_); k_mem) | assumption | fail "my mem")
local macro_rules | `(tactic| walk_at "my ne0") => `(tactic| first | with_reducible assumption | with_reducible exact Ne.symm (by with_reducible assumption) | k_ne | (exact Ne.symm (by k_ne)) | exact lt_at (by with_reducible assumption) (by with_reducible assumption) | exact Ne.symm (lt_at (by with_reducible assumption) (by with_reducible assumption)) | exact off_at (by with_reducible assumption) (by with_reducible assumption) | exact Ne.symm (off_at (by with_reducible assumption) (by with_reducible assumption)) | fail "my ne0")
local macro_rules | `(tactic| walk_at "my notin") => `(tactic| first | with_reducible assumption | with_reducible exact OffS.sym (by with_reducible assumption) | with_reducible exact OffS.nd (by with_reducible assumption) | (simp only [List.mem_cons, List.not_mem_nil, or_false, not_or]; (repeat' (refine And.intro ?_ ?_)) <;> walk_at "my ne0"))
local macro_rules | `(tactic| walk_at "my sym") => `(tactic| first | with_reducible assumption | (refine' SymSt.keep ?ks1 (.cons [] _ _) (by simp); (case ks1 => walk_at "my sym")) | (refine' SymSt.keep (ds := []) ?ks1 ?ks2 (fun _ _ => List.not_mem_nil); (case ks2 => with_reducible assumption); (case ks1 => walk_at "my sym")) | (refine' SymSt.keepO ?ks1 ?ks2 ?ks3; (case ks2 => with_reducible assumption); (case ks3 => with_reducible assumption); (case ks1 => walk_at "my sym")) | fail "my sym")
local macro_rules | `(tactic| walk_at "my tab") => `(tactic| first | assumption | (refine' PyProof.Rows.TupTab.cons ?kt _; (case kt => walk_at "my tab")) | (refine' tupTab_keep ?kt1 ?kt0 ?kt2; (case kt0 => assumption); (case kt1 => walk_at "my tab"); (case kt2 => walk_at "my notin")) | fail "my tab")
local macro_rules | `(tactic| walk_at "call builtin:list.append") => `(tactic| (k_here; (with_reducible show wpAny _ _ (call (Value.builtin _) [Value.ref _, _]) _ _ _); k_dflt (refine' append_M ?k1 ?k2 ?k3 ?z ?_; (case k1 => k_asm); (case k2 => k_asm); (case k3 => k_mem); (case z => first | assumption | omega | (simp only [List.length_append, List.length_cons, List.length_nil]; omega)); k_whole); intro h' r' F' N' hin kp; (try k_sweep); walk_say "M APPEND"))
local macro_rules | `(tactic| walk_at "getMethod ref") => `(tactic| (k_here; (with_reducible show wpAny _ _ (getMethod (Value.ref _) "get" _) _ _ _); k_dflt (first | (refine' smeth_M ?k1 ?k2 ?k3 ?k4 ?k5 ?_; (case k1 => k_asm); (case k2 => k_mem); (case k4 => assumption); (case k5 => assumption); (case k3 => assumption); k_whole) | (refine' tmeth_M ?k1 ?k2 ?_; (case k1 => k_asm); (case k2 => walk_at "my tab"); k_whole)); walk_say "M METH"))
local macro_rules | `(tactic| walk_at "call builtin:dict.get") => `(tactic| (k_here; k_dflt (first | (refine' sget_M ?k1 ?k2 ?k3 ?k4 ?k5 ?k6 ?_; (case k1 => k_asm); (case k2 => k_mem); (case k4 => assumption); (case k5 => assumption); (case k3 => assumption); (case k6 => assumption); k_whole) | (refine' tget_M ?k1 ?k2 ?k3 ?k4 ?k5 ?_; (case k2 => k_asm); (case k3 => walk_at "my tab"); (case k4 => k_mem); (case k5 => assumption); (case k1 => walk_at "my units"); k_whole)); intro t'; walk_say "M GET"))
local macro_rules | `(tactic| walk_at "my units") => `(tactic| ((try simp only [units_in1, units_deeper, units_under_make, Around.mark_units]); (try dsimp only [ktrTop]); (try simp only [units_in1, units_deeper, units_under_make, Around.mark_units]); omega))
local macro_rules | `(tactic| walk_at "setItem ref str") => `(tactic| (k_here; k_dflt (refine' sset_M ?F ?N ?m ?d ?f ?z ?_; (case F => k_asm); (case N => k_asm); (case m => k_mem); (case d => assumption); (case f => assumption); (case z => first | assumption | omega); k_whole); intro h' r' o' kvs' F' N' hin hd' hf' kp; (try k_sweep); walk_say "M SET"))
local macro_rules | `(tactic| walk_at "setItem ref ref") => `(tactic| (k_here; k_dflt (refine' tset_M ?u ?F ?N ?T ?m ?z ?_; (case F => k_asm); (case N => k_asm); (case T => walk_at "my tab"); (case m => k_mem); (case z => first | assumption | omega); (case u => walk_at "my units"); k_whole); intro h' r' F' N' hT' kp; (try k_sweep); walk_say "M TSET"))
local macro_rules | `(tactic| walk_at "exec For") => `(tactic| (k_here; (with_reducible show wpAny _ _ (exec (Stmt.For (Expr.Name _ _) _ _ [] _) _) _ _ _); (rename Fr _ _ _ _ => lF'); (with_unfolding_all refine' For_invVF lF' ?k1 ?k2 ?_; (case k1 => exact rfl); (case k2 => exact rfl); k_whole); walk_say "MY FOR"))
local macro_rules | `(tactic| walk_at "exec For Name Name cons nil") => `(tactic| (k_here; (rename Fr _ _ _ _ => lF'); (with_unfolding_all refine' For_invVF lF' ?k1 ?k2 ?_; (case k1 => exact rfl); (case k2 => exact rfl); k_whole); walk_say "MY FOR"))
local macro_rules | `(tactic| walk_at "exec For Name Call cons nil") => `(tactic| (k_here; (rename Fr _ _ _ _ => lF'); (with_unfolding_all refine' For_invVF lF' ?k1 ?k2 ?_; (case k1 => exact rfl); (case k2 => exact rfl); k_whole); walk_say "MY FOR"))
local macro_rules | `(tactic| walk_at "pyIter ref") => `(tactic| (k_here; (with_reducible show wpAny _ _ (pyIter (Value.ref _)) (fun it s₂ => LoopAtV _ _ _ _ _ _ _ _ _ it s₂) _ _); k_dflt (first | (refine' iter_tupU ?h ?F ?N ?m ?_; (case h => with_unfolding_all rfl); (case F => k_asm); (case N => k_asm); (case m => k_mem); k_whole) | (refine' iter_lstU ?h ?F ?N ?m ?_; (case h => with_unfolding_all rfl); (case F => k_asm); (case N => k_asm); (case m => k_mem); k_whole)); intro i' l1; (try (have hoff := SymSt.offNew l1 (by walk_at "my sym"))); (try k_lt l1); walk_say "MY ITER"))
local macro_rules | `(tactic| walk_at "SeqRest") => `(tactic| (with_unfolding_all first | (refine SeqRest.succ (fun it' h' tk' o' f' F' N' => ?_)) | (refine SeqRest.zero (fun h' tk' F' N' => ?_))))
local macro_rules | `(tactic| walk_at "UnrEnd") => `(tactic| (refine' UnrEnd.introM2 ?F ?N ?hI ?hf ?_; (case F => k_asm); (case N => k_asm); (case hI => k_mem); (case hf => assumption); intro q' kq' oq'; refine ⟨by k_mem, ?_⟩; walk_say "MY UNREND"))
local macro_rules | `(tactic| walk_at "find lt") => `(tactic| first | assumption | exact And.right (by assumption) | exact And.right (And.right (by assumption)) | exact And.right (And.right (And.right (by assumption))) | fail "find lt")
local macro_rules | `(tactic| walk_at "newList") => `(tactic| (k_here; k_dflt (refine' newList_K ?k1 ?k2 ?_; (case k1 => k_asm); (case k2 => k_asm); k_whole); intro l' h' F' N' l1; (try (have hoff := SymSt.offNew l1 (by walk_at "my sym"))); (try k_lt l1); (try k_sweep); walk_say "MY NEWLIST"))
local macro_rules | `(tactic| walk_at "my rt") => `(tactic| first | assumption | with_reducible exact RT.int _ _ | with_reducible exact RT.str _ _ | (refine' RT.tup ?rta ?rtb; (case rta => k_mem); (case rtb => walk_at "my rts")) | (refine' RT.sub ?rta (fun _ h => List.mem_cons_of_mem _ h); (case rta => walk_at "my rt")) | (refine' RT.keep ?rta ?rtb; (case rtb => with_reducible assumption); (case rta => walk_at "my rt")) | fail "my rt")
local macro_rules | `(tactic| walk_at "my rts") => `(tactic| first | exact RTs.nil | (refine' RTs.cons ?rsa ?rsb; (case rsa => walk_at "my rt"); (case rsb => walk_at "my rts")) | fail "my rts")
local macro_rules | `(tactic| walk_at "my keep") => `(tactic| first | with_reducible assumption | exact Keep.refl _ _ | (with_reducible refine' Keep.stepCons ?kpa; (case kpa => walk_at "my keep")) | ((with_reducible refine' Keep.trans ?kpa ?kpb); (case kpb => (with_reducible assumption)); (case kpa => walk_at "my keep")) | ((refine' Keep.trans ?kpa (Keep.wide (ds := []) ?kpb (fun _ h => nomatch h))); (case kpb => (with_reducible assumption)); (case kpa => walk_at "my keep")) | ((with_reducible refine' Keep.stepNew ?kpa ?kpb ?kpc); (case kpb => (with_reducible assumption)); (case kpc => walk_at "my off"); (case kpa => walk_at "my keep")) | fail "my keep")
local macro_rules | `(tactic| walk_at "my off") => `(tactic| first | assumption | exact off_lt (by assumption) | (refine' off_sub ?ofa ?ofb; (case ofa => assumption); (case ofb => (intro p hp; repeat (first | exact hp | refine List.mem_cons_of_mem _ ?_)))) | (refine' off_allLt ?ofa; (case ofa => walk_at "find lt")) | fail "my off")
local macro_rules | `(tactic| walk_at "call type:tuple") => `(tactic| (k_here; (with_reducible show wpAny _ _ (call (Value.type _) [Value.ref _]) _ _ _); k_dflt (refine' tuple_M ?k1 ?k2 ?_; (case k1 => k_asm); (case k2 => k_mem); k_whole); walk_say "MY TUPLE"))
local macro_rules | `(tactic| walk_at "call ref") => `(tactic| (k_here; (with_reducible show wpAny _ _ (call (Value.ref 88) _) _ _ _); k_dflt (refine' atom_ok ?B ?F ?X ?N ?T ?hk ?hdp ?hun ?p0 ?p1 ?p2 ?_; (case B => k_asm); (case F => k_asm); (case X => k_asm); (case N => k_asm); (case T => k_asm); (case hk => first | exact rfl | k_asm); (case hdp => first | ((try simp only [depth_under_make, depth_under_kw, depth_in1, depth_deeper]); (try dsimp only [ktrTop]); omega) | ktr_room); (case hun => first | ((try simp only [units_in1, units_deeper, units_under_make, Around.mark_units]); (try dsimp only [ktrTop]); omega) | ktr_units); (case p0 => walk_at "my sym"); (case p1 => (first | assumption | (with_unfolding_all rfl))); (case p2 => (first | assumption | omega | (simp only [List.length_append, List.length_cons, List.length_nil]; omega))); k_whole); intro h' tk' t' r' F' N' hS' kp; (try k_sweep); walk_say "USE atom_ok"))
local macro_rules | `(tactic| walk_at "call ref") => `(tactic| (k_here; (with_reducible show wpAny _ _ (call (Value.ref 102) _) _ _ _); k_dflt (refine' functor_ok ?B ?F ?X ?N ?T ?hk ?hdp ?hun ?p0 ?p1 ?p2 ?_; (case B => k_asm); (case F => k_asm); (case X => k_asm); (case N => k_asm); (case T => k_asm); (case hk => first | exact rfl | k_asm); (case hdp => first | ((try simp only [depth_under_make, depth_under_kw, depth_in1, depth_deeper]); (try dsimp only [ktrTop]); omega) | ktr_room); (case hun => first | ((try simp only [units_in1, units_deeper, units_under_make, Around.mark_units]); (try dsimp only [ktrTop]); omega) | ktr_units); (case p0 => walk_at "my sym"); (case p1 => (first | assumption | (with_unfolding_all rfl))); (case p2 => (first | assumption | omega | (simp only [List.length_append, List.length_cons, List.length_nil]; omega))); k_whole); intro h' tk' t' r' F' N' hS' kp; (try k_sweep); walk_say "USE functor_ok"))
local macro_rules | `(tactic| walk_at "call ref") => `(tactic| (k_here; (with_reducible show wpAny _ _ (call (Value.ref 109) _) _ _ _); k_dflt (refine' func_ok ?B ?F ?X ?N ?T ?hk ?hdp ?hun ?p0 ?p1 ?p2 ?p3 ?p4 ?_; (case B => k_asm); (case F => k_asm); (case X => k_asm); (case N => k_asm); (case T => k_asm); (case hk => first | exact rfl | k_asm); (case hdp => first | ((try simp only [depth_under_make, depth_under_kw, depth_in1, depth_deeper]); (try dsimp only [ktrTop]); omega) | ktr_room); (case hun => first | ((try simp only [units_in1, units_deeper, units_under_make, Around.mark_units]); (try dsimp only [ktrTop]); omega) | ktr_units); (case p0 => walk_at "my sym"); (case p1 => (first | assumption | (with_unfolding_all rfl))); (case p2 => (first | assumption | (with_unfolding_all rfl))); (case p3 => (first | assumption | omega)); (case p4 => (first | assumption | omega)); k_whole); intro h' tk' t' r' F' N' hS' kp; (try k_sweep); walk_say "USE func_ok"))
local macro_rules | `(tactic| walk_at "call ref") => `(tactic| (k_here; (with_reducible show wpAny _ _ (call (Value.ref 60) _) _ _ _); k_dflt (refine' fixedatoms_ok ?B ?F ?X ?N ?T ?hk ?hdp ?hun  ?_; (case B => k_asm); (case F => k_asm); (case X => k_asm); (case N => k_asm); (case T => k_asm); (case hk => first | exact rfl | k_asm); (case hdp => first | ((try simp only [depth_under_make, depth_under_kw, depth_in1, depth_deeper]); (try dsimp only [ktrTop]); omega) | ktr_room); (case hun => first | ((try simp only [units_in1, units_deeper, units_under_make, Around.mark_units]); (try dsimp only [ktrTop]); omega) | ktr_units);  k_whole); intro h' tk' y vs F' N' hst; (try k_sweep); walk_say "USE fixedatoms_ok"))
local macro_rules | `(tactic| walk_at "call ref") => `(tactic| (k_here; (with_reducible show wpAny _ _ (call (Value.ref 67) _) _ _ _); k_dflt (refine' fixedfunctors_ok ?B ?F ?X ?N ?T ?hk ?hdp ?hun  ?_; (case B => k_asm); (case F => k_asm); (case X => k_asm); (case N => k_asm); (case T => k_asm); (case hk => first | exact rfl | k_asm); (case hdp => first | ((try simp only [depth_under_make, depth_under_kw, depth_in1, depth_deeper]); (try dsimp only [ktrTop]); omega) | ktr_room); (case hun => first | ((try simp only [units_in1, units_deeper, units_under_make, Around.mark_units]); (try dsimp only [ktrTop]); omega) | ktr_units);  k_whole); intro h' tk' y vs r' F' N' hy hro kp; (try k_sweep); walk_say "USE fixedfunctors_ok"))
local macro_rules | `(tactic| walk_at "UnrEnd") => `(tactic| (refine held ?_))
local macro_rules | `(tactic| walk_at "SeqRest") => `(tactic| (refine held ?_))
local macro_rules | `(tactic| walk_at "find lt") => `(tactic| first | assumption | exact And.right (by assumption) | exact And.right (And.right (by assumption)) | exact And.right (And.right (And.right (by assumption))) | exact And.right (And.right (And.right (And.right (by assumption)))) | exact And.right (And.right (And.right (And.right (And.right (by assumption))))) | exact And.right (And.right (And.right (And.right (And.right (And.right (by assumption)))))))
local macro_rules | `(tactic| walk_at "and lt") => `(tactic| first | assumption | exact And.left (by assumption) | exact And.left (And.right (by assumption)) | exact And.left (And.right (And.right (by assumption))))
theorem symbols_ok {w : World} {p : Program} {loose : List Str} {mean : ExcName → Option Value} {mg mb : Str → Option Value}
  {dp un : Nat} {gd : Option (List Code)} {cn : Str} {cs : Scope} {a : Addr} {ccd : Value} {cl : List (Str × Addr)} {outer : List Env} {A₀ : Around} {base h₀ : Heap} {L : Addr} {m : Str → Option Value} {news : List (Addr × Obj)} {s : Shared} {Q E : Value → Shared → Prop}
  
  (B : Below A₀ base outer h₀) (F : Fr h₀ L s.heap m) (X : (hd.heap_39 w.params).In h₀) (N : News h₀ L s.heap news) (T : Top p loose mean mg mb h₀) (hk : cs.kind = .function)
  (hdp : dp + 8 < recursionLimit) (hun : un + 80 < cLine)
  (ret : ∀ h' tk nm nd S ndn r', Fr h₀ L h' m → News h₀ L h' r' → SymSt PySem.Challenge.rw_rh0112_01.row.prog w r' nm nd S ndn ts0 fs0 → (∀ p ∈ news, p ∈ r') → (∀ p ∈ news, p.1 ∉ symAt S ∧ p.1 ≠ nd ∧ p.1 ≠ nm) → Q (.ref nm) { s with heap := h', toks := tk }) :
  wpAny (model PySem.Challenge.rw_rh0112_01.row.prog w) (ktrTop dp un gd cn cs L a ccd cl outer) (call (.ref 154) []) Q E s := by
  revert X; k_fill; intro X
  refine' call_cls ?k1 ?k2 ?k3 ?k4 ?k5 ?k6 ?_
  case k1 => k_asm
  case k2 => k_asm
  case k3 => k_asm
  case k4 => k_is
  case k5 => k_is
  case k6 => k_is
  intro x' d' h' F' N' l1 l2
  have hoffd := off_lt l1
  have hoffx : ∀ p ∈ news, p.1 ≠ d' ∧ p.1 ≠ x' := fun p hp => ⟨Nat.ne_of_lt (l1 p hp), Nat.ne_of_lt (Nat.lt_trans (l1 p hp) l2)⟩
  k_lt2 l2
  clear F N
  k_dflt ktr_enter
  k_steps
  unfold Held
  rename StrsAre _ _ => hst
  rename _ ∧ _ ∧ _ ∧ _ ∧ _ ∧ _ ∧ _ ∧ AllLt _ _ => li
  rename_i i'
  rename News _ _ _ _ => N1
  rename Fr _ _ _ _ => F1
  refine seq_stored [] (fun rest r => ∃ ys S ndn ts, StrsAre rest ys ∧ SymSt PySem.Challenge.rw_rh0112_01.row.prog w r x' d' S ndn ts [] ∧ ts.length + ys.length ≤ 100 ∧ (ys.foldl stepA ts = atoms0.foldl stepA []) ∧ (∀ p ∈ news, p ∈ r) ∧ (∀ p ∈ news, p.1 ∉ symAt S)) ?turn ?done _ _ _ (by k_mem) ?inv (fun _ _ _ => rfl)
  case inv =>
    refine ⟨_, symAof _ _ _ _ _ _ _ _ _ _ _ _, _, [], hst, SymSt.fresh (by k_mem) (symA_of (by k_mem)) (by k_mem) (by k_mem) (by assumption) (by assumption) (by k_mem) (by k_mem) (by assumption) (by assumption) ?_ ?_ ?_ ?_, by decide, rfl, ?_, ?_⟩
    · dsimp only [symAof]; walk_at "and lt"
    · dsimp only [symAof]; walk_at "and lt"
    · dsimp only [symAof]; walk_at "and lt"
    · dsimp only [symAof]; walk_at "and lt"
    · intro p hp; repeat (first | exact hp | refine List.mem_cons_of_mem _ ?_)
    · exact off_sym (by dsimp only [symAof]; walk_at "find lt") (by dsimp only [symAof]; walk_at "find lt") (by dsimp only [symAof]; walk_at "find lt") (by dsimp only [symAof]; walk_at "find lt")
  case turn =>
    rintro v rest r it h tk u ⟨ys, S, ndn, ts, hst2, hS, hle, hfold, hsub, hoffn⟩ hl ho hf F2 N2
    cases hst2 with
    | cons x t hrest =>
      have hofS := SymSt.offNe hS ho
      clear F1 N1
      k_steps
      unfold Held
      rename Keep _ _ _ => kk
      rename SymSt _ _ _ _ _ _ _ _ _ => hS2
      refine' UnrEnd.introM2 ?F ?N ?hI ?hf ?_
      case F => k_asm
      case N => k_asm
      case hI => k_mem
      case hf => assumption
      intro q kq oq
      refine ⟨by k_mem, ⟨_, S, ndn, _, hrest, hS2.keepO kq hofS, ?_, hfold, ?_, hoffn⟩, ?_⟩
      · have hle' := hle
        simp only [List.length_cons] at hle'
        cases hx : idx x ts with
        | some i => dsimp only; omega
        | none => dsimp only; rw [List.length_append, List.length_singleton]; omega
      · exact fun p hp => kq.ne _ _ (kk.ne _ _ (.tail _ (hsub p hp)) (hoffn p hp)) (by simpa using ho p (hsub p hp))
      · intro y hy _
        simp [hy]
  case done =>
    rintro r h tk u ⟨ys, S, ndn, ts, hst2, hS, hle, hfold, hsub, hoffn⟩ F2 N2
    cases hst2
    clear F1 N1
    k_steps
    unfold Held
    rename RowsAre _ _ _ => hro
    rename ∀ p, p ∈ r → p ∈ _ => kr
    rename Fr _ _ _ _ => F1
    rename News _ _ _ _ => N1
    have hS2 := SymSt.keep (ds := []) hS (Keep.ofSub kr) (fun _ _ => List.not_mem_nil)
    refine seq_stored [] (fun rest r => ∃ cs S ndn ts fs, RowsAre r rest cs ∧ SymSt PySem.Challenge.rw_rh0112_01.row.prog w r x' d' S ndn ts fs ∧ ts.length + cs.length ≤ 500 ∧ fs.length + cs.length ≤ 500 ∧ (cs.foldl stepF (ts, fs) = functors0.foldl stepF (atoms0.foldl stepA [], [])) ∧ (∀ p ∈ news, p ∈ r) ∧ (∀ p ∈ news, p.1 ∉ symAt S)) ?turn2 ?done2 _ _ _ (by k_mem) ?inv2 (fun _ _ _ => rfl)
    case inv2 =>
      refine ⟨_, S, ndn, ts, [], hro, hS2, ?_, by decide, ?_, fun p hp => kr _ (hsub p hp), hoffn⟩
      · rw [show functors0.length = 32 from rfl]; simp only [List.length_nil] at hle; omega
      · rw [List.foldl_nil] at hfold; rw [hfold]
    case turn2 =>
      rintro v rest r it h tk u ⟨cs, S, ndn, ts, fs, hro2, hS3, hle2, hle3, hfold2, hsub2, hoffn2⟩ hl ho hf F3 N3
      obtain ⟨cx, cn, cs', rfl, ⟨y, t1, t2, n, rfl, hy⟩, hrest⟩ := hro2.cons_inv
      have hofS := SymSt.offNe hS3 ho
      have hp : intern cx ts = ((intern cx ts).1, (intern cx ts).2) := rfl
      have hp2 : intern ((intern cx ts).1, cn) fs = ((intern ((intern cx ts).1, cn) fs).1, (intern ((intern cx ts).1, cn) fs).2) := rfl
      simp only [List.length_cons] at hle2 hle3
      have hz1 : ts.length < 1000 := by omega
      have hz2 : fs.length < 1000 := by omega
      clear F1 N1 hS hS2 hro hro2 N2
      k_steps
      unfold Held
      rename Keep _ _ _ => kk
      rename SymSt _ _ _ _ _ _ _ _ _ => hS4
      refine' UnrEnd.introM2 ?F ?N ?hI ?hf ?_
      case F => k_asm
      case N => k_asm
      case hI => k_mem
      case hf => assumption
      intro q kq oq
      have il1 := intern_len cx ts
      have il2 := intern_len ((intern cx ts).1, cn) fs
      refine ⟨by k_mem, ⟨cs', S, ndn, _, _, (hrest.keep (Keep.cons [] _ _)).keep kk |>.keep kq, hS4.keepO kq hofS, by omega, by omega, hfold2, ?_, hoffn2⟩, ?_⟩
      · exact fun p hp => kq.ne _ _ (kk.ne _ _ (.tail _ (hsub2 p hp)) (hoffn2 p hp)) (by simpa using ho p (hsub2 p hp))
      · intro y hy _
        simp [hy]
    case done2 =>
      rintro r h tk u ⟨cs, S, ndn, ts, fs, hro2, hS3, hle2, hle3, hfold2, hsub2, hoffn2⟩ F3 N3
      obtain rfl := hro2.nil_inv
      rw [List.foldl_nil] at hfold2
      have e1 : ts = ts0 := congrArg Prod.fst hfold2
      have e2 : fs = fs0 := congrArg Prod.snd hfold2
      clear hfold hfold2
      subst e1
      subst e2
      clear F1 N1 hS hS2 hro hro2 N2
      k_steps
      exact ret _ _ _ _ _ _ _ (by k_asm) (by k_asm) hS3 hsub2 (fun p hp => ⟨hoffn2 p hp, hoffx p hp⟩)

end Mine
namespace Mine
local macro_rules | `(tactic| walk_at "exec While") => `(tactic| (k_here; k_dflt (refine whl_start 1 ?_)))
local macro_rules | `(tactic| walk_at "ite") => `(tactic| (k_here; first | (refine ite_pos (by first | with_reducible assumption | (simp only [beq_iff_eq, bne_iff_ne, decide_eq_true_eq, ne_eq]; omega)) ?_; walk_say "MY PRUNE") | (refine ite_neg (by first | with_reducible assumption | (simp only [beq_iff_eq, bne_iff_ne, decide_eq_true_eq, ne_eq]; omega)) ?_; walk_say "MY PRUNE")))
local macro_rules | `(tactic| walk_at "subscriptTail") => `(tactic| (k_here; (with_reducible show wpAny _ _ (subscriptTail _ _ (Value.ref _) (Value.int _ _)) _ _ _); (with_unfolding_all refine' item_abs ?k1 ?k2 ?k3 ?k4 ?k5 ?_ ?k6; (case k1 => k_asm); (case k2 => k_mem); (case k3 => assumption); (case k4 => first | assumption | omega); (case k5 => assumption); (case k6 => with_unfolding_all rfl); k_whole); walk_say "MY ITEM"))
local macro_rules | `(tactic| walk_at "compareOp In str ref") => `(tactic| (k_here; k_dflt (refine' in_tupK ?F ?X ?l ?w ?b ?_; (case F => k_asm); (case X => k_asm); (case l => k_is); (case w => kde_strs); (case b => exact rfl); k_whole); walk_say "MY IN"))
local macro_rules | `(tactic| walk_at "call builtin:list.append") => `(tactic| (k_here; (with_reducible show wpAny _ _ (call (Value.builtin _) [Value.ref _, _]) _ _ _); k_dflt (refine' append_L ?k1 ?k2 ?k3 ?z ?_; (case k1 => k_asm); (case k2 => k_asm); (case k3 => k_upd); (case z => first | assumption | omega | (simp only [List.length_append, List.length_cons, List.length_nil]; omega)); k_whole); intro h' F' N'; (try k_sweep); walk_say "MY APPEND"))
local macro_rules | `(tactic| walk_at "call builtin:list.pop") => `(tactic| (k_here; (with_reducible show wpAny _ _ (call (Value.builtin _) [Value.ref _]) _ _ _); k_dflt (refine' pop_L ?k1 ?k2 ?k3 ?z ?_; (case k1 => k_asm); (case k2 => k_asm); (case k3 => k_upd); (case z => first | assumption | omega | (simp only [List.length_append, List.length_cons, List.length_nil]; omega)); k_whole); intro h' F' N'; (try k_sweep); walk_say "MY POP"))
local macro_rules | `(tactic| k_all) => `(tactic| assumption)
local macro_rules | `(tactic| k_mem) => `(tactic| first | with_reducible exact List.Mem.head _ | assumption | (refine' List.Mem.tail _ ?_; k_mem))
local macro_rules | `(tactic| walk_at "truthy ref") => `(tactic| (k_here; (with_reducible show wpAny _ _ (truthy (Value.ref _)) _ _ _); k_dflt (refine' truthy_L ?k1 ?k2 ?k3 ?k4 ?_; (case k1 => k_asm); (case k2 => k_mem); (case k3 => first | assumption | (simp only [List.length_append, List.length_cons, List.length_nil]; omega)); (case k4 => first | exact some_true _ _ | exact none_false); k_whole); walk_say "MY TRUTH"))
local macro_rules | `(tactic| walk_at "call builtin:len") => `(tactic| (k_here; (with_reducible show wpAny _ _ (call (Value.builtin "len") [Value.ref _]) _ _ _); k_dflt (refine' len_L ?k1 ?k2 ?k3 ?_; (case k1 => k_asm); (case k2 => k_mem); (case k3 => first | assumption | (simp only [List.length_append, List.length_cons, List.length_nil]; omega)); k_whole); walk_say "MY LEN"))
local macro_rules | `(tactic| k_mem) => `(tactic| first | with_reducible exact List.mem_cons_self | with_reducible assumption | exact List.Mem.head _ | with_reducible exact SymSt.i (by with_reducible assumption) | with_reducible exact SymSt.d (by with_reducible assumption) | ((with_reducible refine' Keep.any ?kmk _ _ ?kma ?kmb); (case kmk => (with_reducible assumption)); (case kma => k_mem); (case kmb => first | exact .inl (.inl rfl) | exact .inl (.inr ⟨_, rfl⟩) | (refine Or.inr ?_; walk_at "my notin"))) | ((with_reducible refine' List.mem_cons_of_mem _ ?_); k_mem) | assumption | fail "my mem")
local macro_rules | `(tactic| walk_at "my ne0") => `(tactic| first | with_reducible assumption | with_reducible exact Ne.symm (by with_reducible assumption) | k_ne | (exact Ne.symm (by k_ne)) | exact lt_at (by with_reducible assumption) (by with_reducible assumption) | exact Ne.symm (lt_at (by with_reducible assumption) (by with_reducible assumption)) | exact off_at (by with_reducible assumption) (by with_reducible assumption) | exact Ne.symm (off_at (by with_reducible assumption) (by with_reducible assumption)) | fail "my ne0")
local macro_rules | `(tactic| walk_at "my notin") => `(tactic| first | with_reducible assumption | with_reducible exact OffS.sym (by with_reducible assumption) | with_reducible exact OffS.nd (by with_reducible assumption) | (simp only [List.mem_cons, List.not_mem_nil, or_false, not_or]; (repeat' (refine And.intro ?_ ?_)) <;> walk_at "my ne0"))
local macro_rules | `(tactic| walk_at "my sym") => `(tactic| first | with_reducible assumption | (refine' SymSt.keep ?ks1 (.cons [] _ _) (by simp); (case ks1 => walk_at "my sym")) | (refine' SymSt.keep (ds := []) ?ks1 ?ks2 (fun _ _ => List.not_mem_nil); (case ks2 => with_reducible assumption); (case ks1 => walk_at "my sym")) | (refine' SymSt.keepO ?ks1 ?ks2 ?ks3; (case ks2 => with_reducible assumption); (case ks3 => with_reducible assumption); (case ks1 => walk_at "my sym")) | fail "my sym")
local macro_rules | `(tactic| walk_at "my tab") => `(tactic| first | assumption | (refine' PyProof.Rows.TupTab.cons ?kt _; (case kt => walk_at "my tab")) | (refine' tupTab_keep ?kt1 ?kt0 ?kt2; (case kt0 => assumption); (case kt1 => walk_at "my tab"); (case kt2 => walk_at "my notin")) | fail "my tab")
local macro_rules | `(tactic| walk_at "call builtin:list.append") => `(tactic| (k_here; (with_reducible show wpAny _ _ (call (Value.builtin _) [Value.ref _, _]) _ _ _); k_dflt (refine' append_M ?k1 ?k2 ?k3 ?z ?_; (case k1 => k_asm); (case k2 => k_asm); (case k3 => k_mem); (case z => first | assumption | omega | (simp only [List.length_append, List.length_cons, List.length_nil]; omega)); k_whole); intro h' r' F' N' hin kp; (try k_sweep); walk_say "M APPEND"))
local macro_rules | `(tactic| walk_at "getMethod ref") => `(tactic| (k_here; (with_reducible show wpAny _ _ (getMethod (Value.ref _) "get" _) _ _ _); k_dflt (first | (refine' smeth_M ?k1 ?k2 ?k3 ?k4 ?k5 ?_; (case k1 => k_asm); (case k2 => k_mem); (case k4 => assumption); (case k5 => assumption); (case k3 => assumption); k_whole) | (refine' tmeth_M ?k1 ?k2 ?_; (case k1 => k_asm); (case k2 => walk_at "my tab"); k_whole)); walk_say "M METH"))
local macro_rules | `(tactic| walk_at "call builtin:dict.get") => `(tactic| (k_here; k_dflt (first | (refine' sget_M ?k1 ?k2 ?k3 ?k4 ?k5 ?k6 ?_; (case k1 => k_asm); (case k2 => k_mem); (case k4 => assumption); (case k5 => assumption); (case k3 => assumption); (case k6 => assumption); k_whole) | (refine' tget_M ?k1 ?k2 ?k3 ?k4 ?k5 ?_; (case k2 => k_asm); (case k3 => walk_at "my tab"); (case k4 => k_mem); (case k5 => assumption); (case k1 => walk_at "my units"); k_whole)); intro t'; walk_say "M GET"))
local macro_rules | `(tactic| walk_at "my units") => `(tactic| ((try simp only [units_in1, units_deeper, units_under_make, Around.mark_units]); (try dsimp only [ktrTop]); (try simp only [units_in1, units_deeper, units_under_make, Around.mark_units]); omega))
local macro_rules | `(tactic| walk_at "setItem ref str") => `(tactic| (k_here; k_dflt (refine' sset_M ?F ?N ?m ?d ?f ?z ?_; (case F => k_asm); (case N => k_asm); (case m => k_mem); (case d => assumption); (case f => assumption); (case z => first | assumption | omega); k_whole); intro h' r' o' kvs' F' N' hin hd' hf' kp; (try k_sweep); walk_say "M SET"))
local macro_rules | `(tactic| walk_at "setItem ref ref") => `(tactic| (k_here; k_dflt (refine' tset_M ?u ?F ?N ?T ?m ?z ?_; (case F => k_asm); (case N => k_asm); (case T => walk_at "my tab"); (case m => k_mem); (case z => first | assumption | omega); (case u => walk_at "my units"); k_whole); intro h' r' F' N' hT' kp; (try k_sweep); walk_say "M TSET"))
local macro_rules | `(tactic| walk_at "exec For") => `(tactic| (k_here; (with_reducible show wpAny _ _ (exec (Stmt.For (Expr.Name _ _) _ _ [] _) _) _ _ _); (rename Fr _ _ _ _ => lF'); (with_unfolding_all refine' For_invVF lF' ?k1 ?k2 ?_; (case k1 => exact rfl); (case k2 => exact rfl); k_whole); walk_say "MY FOR"))
local macro_rules | `(tactic| walk_at "exec For Name Name cons nil") => `(tactic| (k_here; (rename Fr _ _ _ _ => lF'); (with_unfolding_all refine' For_invVF lF' ?k1 ?k2 ?_; (case k1 => exact rfl); (case k2 => exact rfl); k_whole); walk_say "MY FOR"))
local macro_rules | `(tactic| walk_at "exec For Name Call cons nil") => `(tactic| (k_here; (rename Fr _ _ _ _ => lF'); (with_unfolding_all refine' For_invVF lF' ?k1 ?k2 ?_; (case k1 => exact rfl); (case k2 => exact rfl); k_whole); walk_say "MY FOR"))
local macro_rules | `(tactic| walk_at "pyIter ref") => `(tactic| (k_here; (with_reducible show wpAny _ _ (pyIter (Value.ref _)) (fun it s₂ => LoopAtV _ _ _ _ _ _ _ _ _ it s₂) _ _); k_dflt (first | (refine' iter_tupU ?h ?F ?N ?m ?_; (case h => with_unfolding_all rfl); (case F => k_asm); (case N => k_asm); (case m => k_mem); k_whole) | (refine' iter_lstU ?h ?F ?N ?m ?_; (case h => with_unfolding_all rfl); (case F => k_asm); (case N => k_asm); (case m => k_mem); k_whole)); intro i' l1; (try (have hoff := SymSt.offNew l1 (by walk_at "my sym"))); (try k_lt l1); walk_say "MY ITER"))
local macro_rules | `(tactic| walk_at "SeqRest") => `(tactic| (with_unfolding_all first | (refine SeqRest.succ (fun it' h' tk' o' f' F' N' => ?_)) | (refine SeqRest.zero (fun h' tk' F' N' => ?_))))
local macro_rules | `(tactic| walk_at "UnrEnd") => `(tactic| (refine' UnrEnd.introM2 ?F ?N ?hI ?hf ?_; (case F => k_asm); (case N => k_asm); (case hI => k_mem); (case hf => assumption); intro q' kq' oq'; refine ⟨by k_mem, ?_⟩; walk_say "MY UNREND"))
local macro_rules | `(tactic| walk_at "find lt") => `(tactic| first | assumption | exact And.right (by assumption) | exact And.right (And.right (by assumption)) | exact And.right (And.right (And.right (by assumption))) | fail "find lt")
local macro_rules | `(tactic| walk_at "newList") => `(tactic| (k_here; k_dflt (refine' newList_K ?k1 ?k2 ?_; (case k1 => k_asm); (case k2 => k_asm); k_whole); intro l' h' F' N' l1; (try (have hoff := SymSt.offNew l1 (by walk_at "my sym"))); (try k_lt l1); (try k_sweep); walk_say "MY NEWLIST"))
local macro_rules | `(tactic| walk_at "my rt") => `(tactic| first | assumption | with_reducible exact RT.int _ _ | with_reducible exact RT.str _ _ | (refine' RT.tup ?rta ?rtb; (case rta => k_mem); (case rtb => walk_at "my rts")) | (refine' RT.sub ?rta (fun _ h => List.mem_cons_of_mem _ h); (case rta => walk_at "my rt")) | (refine' RT.keep ?rta ?rtb; (case rtb => with_reducible assumption); (case rta => walk_at "my rt")) | fail "my rt")
local macro_rules | `(tactic| walk_at "my rts") => `(tactic| first | exact RTs.nil | (refine' RTs.cons ?rsa ?rsb; (case rsa => walk_at "my rt"); (case rsb => walk_at "my rts")) | fail "my rts")
local macro_rules | `(tactic| walk_at "my keep") => `(tactic| first | with_reducible assumption | exact Keep.refl _ _ | (with_reducible refine' Keep.stepCons ?kpa; (case kpa => walk_at "my keep")) | ((with_reducible refine' Keep.trans ?kpa ?kpb); (case kpb => (with_reducible assumption)); (case kpa => walk_at "my keep")) | ((refine' Keep.trans ?kpa (Keep.wide (ds := []) ?kpb (fun _ h => nomatch h))); (case kpb => (with_reducible assumption)); (case kpa => walk_at "my keep")) | ((with_reducible refine' Keep.stepNew ?kpa ?kpb ?kpc); (case kpb => (with_reducible assumption)); (case kpc => walk_at "my off"); (case kpa => walk_at "my keep")) | fail "my keep")
local macro_rules | `(tactic| walk_at "my off") => `(tactic| first | assumption | exact off_lt (by assumption) | (refine' off_sub ?ofa ?ofb; (case ofa => assumption); (case ofb => (intro p hp; repeat (first | exact hp | refine List.mem_cons_of_mem _ ?_)))) | (refine' off_allLt ?ofa; (case ofa => walk_at "find lt")) | fail "my off")
local macro_rules | `(tactic| walk_at "call type:tuple") => `(tactic| (k_here; (with_reducible show wpAny _ _ (call (Value.type _) [Value.ref _]) _ _ _); k_dflt (refine' tuple_M ?k1 ?k2 ?_; (case k1 => k_asm); (case k2 => k_mem); k_whole); walk_say "MY TUPLE"))
local macro_rules | `(tactic| walk_at "callWith ref") => `(tactic| (k_here; k_dflt (refine' callWith_K0 ?k1 ?k2 ?_; (case k1 => k_in); (case k2 => k_is); k_whole); (try dsimp only [List.nil_append, List.cons_append, List.append_nil]); walk_say "MY CW0"))
local macro_rules | `(tactic| walk_at "my enter") => `(tactic| (refine' code_def ?k1 ?k2 ?k3 ?k4 ?k5 ?kA ?kF ?kK ?k6 ?k7 ?k8 ?k9 ?kB ?_ ?c2 ?c3 ?c4 ?c5; (case kA => exact rfl); (case kF => exact rfl); (case kK => assumption); (case k1 => k_asm); (case k2 => k_asm); (case k3 => k_asm); (case k4 => k_asm); (case k5 => k_asm); (case k6 => k_is); (case k7 => k_is); (case k8 => ktr_room); (case k9 => first | exact BindsTo.of_eq rfl | exact binds_K (by k_in) rfl (by k_is) rfl rfl rfl); (case c5 => decide); (case kB => exact locs rfl); (case c2 => exact rfl); (case c3 => exact rfl); (case c4 => exact rfl); k_whole; intro g' L' h' FG' F' N' B' X' T'; (try dsimp only); (try k_fold)))
local macro_rules | `(tactic| walk_at "and lt") => `(tactic| first | assumption | exact And.left (by assumption) | exact And.left (And.right (by assumption)) | exact And.left (And.right (And.right (by assumption))))
local macro_rules | `(tactic| walk_at "find lt") => `(tactic| first | assumption | exact And.right (by assumption) | exact And.right (And.right (by assumption)) | exact And.right (And.right (And.right (by assumption))) | exact And.right (And.right (And.right (And.right (by assumption)))) | exact And.right (And.right (And.right (And.right (And.right (by assumption))))) | exact And.right (And.right (And.right (And.right (And.right (And.right (by assumption)))))))
abbrev storeAof (a0 a1 a2 a3 a4 a5 a6 : Int) (k0 k1 k2 k3 k4 k5 k6 : Tok) (sy : Addr) (mhT : Tok) (hl sk tr : Addr) (hbT bbT : Tok) : StoreA := ⟨fun i => match i with | 0 => a0 | 1 => a1 | 2 => a2 | 3 => a3 | 4 => a4 | 5 => a5 | _ => a6, fun i => match i with | 0 => k0 | 1 => k1 | 2 => k2 | 3 => k3 | 4 => k4 | 5 => k5 | _ => k6, sy, mhT, hl, sk, tr, hbT, bbT⟩
theorem storeA_of {r : List (Addr × Obj)} {a0 a1 a2 a3 a4 a5 a6 : Int} {k0 k1 k2 k3 k4 k5 k6 : Tok} {d sy hl sk tr : Addr} {mhT hbT bbT : Tok} {n : Nat} (h : (d, dictOf [⟨a0, .str (Str.ofString "symbols") k0, .ref sy⟩, ⟨a1, .str (Str.ofString "max_heap") k1, .int 100000 mhT⟩, ⟨a2, .str (Str.ofString "heap") k2, .ref hl⟩, ⟨a3, .str (Str.ofString "stack") k3, .ref sk⟩, ⟨a4, .str (Str.ofString "trail") k4, .ref tr⟩, ⟨a5, .str (Str.ofString "hb") k5, .int 0 hbT⟩, ⟨a6, .str (Str.ofString "bb") k6, .int 0 bbT⟩] n) ∈ r) : (d, dictOf (storeE (storeAof a0 a1 a2 a3 a4 a5 a6 k0 k1 k2 k3 k4 k5 k6 sy mhT hl sk tr hbT bbT)) n) ∈ r := h
theorem store_ok {w : World} {p : Program} {loose : List Str} {mean : ExcName → Option Value} {mg mb : Str → Option Value}
  {dp un : Nat} {gd : Option (List Code)} {cn : Str} {cs : Scope} {a : Addr} {ccd : Value} {cl : List (Str × Addr)} {outer : List Env} {A₀ : Around} {base h₀ : Heap} {L : Addr} {m : Str → Option Value} {news : List (Addr × Obj)} {s : Shared} {Q E : Value → Shared → Prop}
  {nm : Addr} {tmh : Tok}
  (B : Below A₀ base outer h₀) (F : Fr h₀ L s.heap m) (X : (hd.heap_39 w.params).In h₀) (N : News h₀ L s.heap news) (T : Top p loose mean mg mb h₀) (hk : cs.kind = .function)
  (hdp : dp + 2 < recursionLimit) (hun : un + 20 < cLine)
  (ret : ∀ h' tk st sd SS hl sk tr, Fr h₀ L h' m → News h₀ L h' ((tr, listOf #[] 0) :: (sk, listOf #[] 0) :: (hl, listOf #[] 0) :: (st, instObj 423 sd) :: (sd, dictOf (storeE SS) 7) :: news) → SS.sy = nm → SS.hl = hl → (∀ p ∈ news, p.1 < sd) → @LT.lt Nat _ sd st → @LT.lt Nat _ st hl → @LT.lt Nat _ hl sk → @LT.lt Nat _ sk tr → Q (.ref st) { s with heap := h', toks := tk }) :
  wpAny (model PySem.Challenge.rw_rh0112_01.row.prog w) (ktrTop dp un gd cn cs L a ccd cl outer) (call (.ref 423) [.ref nm, .int 100000 tmh]) Q E s := by
  revert X; k_fill; intro X
  refine' call_cls ?k1 ?k2 ?k3 ?k4 ?k5 ?k6 ?_
  case k1 => k_asm
  case k2 => k_asm
  case k3 => k_asm
  case k4 => k_is
  case k5 => k_is
  case k6 => k_is
  intro x' d' h' F' N' l1 l2
  have hoffd := off_lt l1
  have hoffx : ∀ p ∈ news, p.1 ≠ d' ∧ p.1 ≠ x' := fun p hp => ⟨Nat.ne_of_lt (l1 p hp), Nat.ne_of_lt (Nat.lt_trans (l1 p hp) l2)⟩
  k_lt2 l2
  clear F N
  k_dflt walk_at "my enter"
  k_steps
  exact ret _ _ _ _ (storeAof _ _ _ _ _ _ _ _ _ _ _ _ _ _ _ _ _ _ _ _ _) _ _ _ (by k_asm) (by k_asm) rfl rfl l1 l2 (by walk_at "and lt") (by walk_at "and lt") (by walk_at "and lt")

end Mine
namespace Mine
local macro_rules | `(tactic| walk_at "filler") => `(tactic| fail "filler")
local macro_rules | `(tactic| walk_at "exec While") => `(tactic| (k_here; k_dflt (refine whl_start 1 ?_)))
local macro_rules | `(tactic| walk_at "ite") => `(tactic| (k_here; first | (refine ite_pos (by first | with_reducible assumption | (simp only [beq_iff_eq, bne_iff_ne, decide_eq_true_eq, ne_eq]; omega)) ?_; walk_say "MY PRUNE") | (refine ite_neg (by first | with_reducible assumption | (simp only [beq_iff_eq, bne_iff_ne, decide_eq_true_eq, ne_eq]; omega)) ?_; walk_say "MY PRUNE")))
local macro_rules | `(tactic| walk_at "subscriptTail") => `(tactic| (k_here; (with_reducible show wpAny _ _ (subscriptTail _ _ (Value.ref _) (Value.int _ _)) _ _ _); (with_unfolding_all refine' item_abs ?k1 ?k2 ?k3 ?k4 ?k5 ?_ ?k6; (case k1 => k_asm); (case k2 => k_mem); (case k3 => assumption); (case k4 => first | assumption | omega); (case k5 => assumption); (case k6 => with_unfolding_all rfl); k_whole); walk_say "MY ITEM"))
local macro_rules | `(tactic| walk_at "compareOp In str ref") => `(tactic| (k_here; k_dflt (refine' in_tupK ?F ?X ?l ?w ?b ?_; (case F => k_asm); (case X => k_asm); (case l => k_is); (case w => kde_strs); (case b => exact rfl); k_whole); walk_say "MY IN"))
local macro_rules | `(tactic| walk_at "call builtin:list.append") => `(tactic| (k_here; (with_reducible show wpAny _ _ (call (Value.builtin _) [Value.ref _, _]) _ _ _); k_dflt (refine' append_L ?k1 ?k2 ?k3 ?z ?_; (case k1 => k_asm); (case k2 => k_asm); (case k3 => k_upd); (case z => first | assumption | omega | (simp only [List.length_append, List.length_cons, List.length_nil]; omega)); k_whole); intro h' F' N'; (try k_sweep); walk_say "MY APPEND"))
local macro_rules | `(tactic| walk_at "call builtin:list.pop") => `(tactic| (k_here; (with_reducible show wpAny _ _ (call (Value.builtin _) [Value.ref _]) _ _ _); k_dflt (refine' pop_L ?k1 ?k2 ?k3 ?z ?_; (case k1 => k_asm); (case k2 => k_asm); (case k3 => k_upd); (case z => first | assumption | omega | (simp only [List.length_append, List.length_cons, List.length_nil]; omega)); k_whole); intro h' F' N'; (try k_sweep); walk_say "MY POP"))
local macro_rules | `(tactic| k_all) => `(tactic| assumption)
local macro_rules | `(tactic| k_mem) => `(tactic| first | with_reducible exact List.Mem.head _ | assumption | (refine' List.Mem.tail _ ?_; k_mem))
local macro_rules | `(tactic| walk_at "truthy ref") => `(tactic| (k_here; (with_reducible show wpAny _ _ (truthy (Value.ref _)) _ _ _); k_dflt (refine' truthy_L ?k1 ?k2 ?k3 ?k4 ?_; (case k1 => k_asm); (case k2 => k_mem); (case k3 => first | assumption | (simp only [List.length_append, List.length_cons, List.length_nil]; omega)); (case k4 => first | exact some_true _ _ | exact none_false); k_whole); walk_say "MY TRUTH"))
local macro_rules | `(tactic| walk_at "call builtin:len") => `(tactic| (k_here; (with_reducible show wpAny _ _ (call (Value.builtin "len") [Value.ref _]) _ _ _); k_dflt (refine' len_L ?k1 ?k2 ?k3 ?_; (case k1 => k_asm); (case k2 => k_mem); (case k3 => first | assumption | (simp only [List.length_append, List.length_cons, List.length_nil]; omega)); k_whole); walk_say "MY LEN"))
local macro_rules | `(tactic| k_mem) => `(tactic| first | with_reducible exact List.mem_cons_self | with_reducible assumption | exact List.Mem.head _ | with_reducible exact SymSt.i (by with_reducible assumption) | with_reducible exact SymSt.d (by with_reducible assumption) | ((with_reducible refine' Keep.any ?kmk _ _ ?kma ?kmb); (case kmk => (with_reducible assumption)); (case kma => k_mem); (case kmb => first | exact .inl (.inl rfl) | exact .inl (.inr ⟨_, rfl⟩) | (refine Or.inr ?_; walk_at "my notin"))) | ((with_reducible refine' List.mem_cons_of_mem _ ?_); k_mem) | assumption | fail "my mem")
local macro_rules | `(tactic| walk_at "my ne0") => `(tactic| first | with_reducible assumption | with_reducible exact Ne.symm (by with_reducible assumption) | k_ne | (exact Ne.symm (by k_ne)) | exact lt_at (by with_reducible assumption) (by with_reducible assumption) | exact Ne.symm (lt_at (by with_reducible assumption) (by with_reducible assumption)) | exact off_at (by with_reducible assumption) (by with_reducible assumption) | exact Ne.symm (off_at (by with_reducible assumption) (by with_reducible assumption)) | fail "my ne0")
local macro_rules | `(tactic| walk_at "my notin") => `(tactic| first | with_reducible assumption | with_reducible exact OffS.sym (by with_reducible assumption) | with_reducible exact OffS.nd (by with_reducible assumption) | (simp only [List.mem_cons, List.not_mem_nil, or_false, not_or]; (repeat' (refine And.intro ?_ ?_)) <;> walk_at "my ne0"))
local macro_rules | `(tactic| walk_at "my sym") => `(tactic| first | with_reducible assumption | (refine' SymSt.keep ?ks1 (.cons [] _ _) (by simp); (case ks1 => walk_at "my sym")) | (refine' SymSt.keep (ds := []) ?ks1 ?ks2 (fun _ _ => List.not_mem_nil); (case ks2 => with_reducible assumption); (case ks1 => walk_at "my sym")) | (refine' SymSt.keepO ?ks1 ?ks2 ?ks3; (case ks2 => with_reducible assumption); (case ks3 => with_reducible assumption); (case ks1 => walk_at "my sym")) | fail "my sym")
local macro_rules | `(tactic| walk_at "my tab") => `(tactic| first | assumption | (refine' PyProof.Rows.TupTab.cons ?kt _; (case kt => walk_at "my tab")) | (refine' tupTab_keep ?kt1 ?kt0 ?kt2; (case kt0 => assumption); (case kt1 => walk_at "my tab"); (case kt2 => walk_at "my notin")) | fail "my tab")
local macro_rules | `(tactic| walk_at "call builtin:list.append") => `(tactic| (k_here; (with_reducible show wpAny _ _ (call (Value.builtin _) [Value.ref _, _]) _ _ _); k_dflt (refine' append_M ?k1 ?k2 ?k3 ?z ?_; (case k1 => k_asm); (case k2 => k_asm); (case k3 => k_mem); (case z => first | assumption | omega | (simp only [List.length_append, List.length_cons, List.length_nil]; omega)); k_whole); intro h' r' F' N' hin kp; (try k_sweep); walk_say "M APPEND"))
local macro_rules | `(tactic| walk_at "getMethod ref") => `(tactic| (k_here; (with_reducible show wpAny _ _ (getMethod (Value.ref _) "get" _) _ _ _); k_dflt (first | (refine' smeth_M ?k1 ?k2 ?k3 ?k4 ?k5 ?_; (case k1 => k_asm); (case k2 => k_mem); (case k4 => assumption); (case k5 => assumption); (case k3 => assumption); k_whole) | (refine' tmeth_M ?k1 ?k2 ?_; (case k1 => k_asm); (case k2 => walk_at "my tab"); k_whole)); walk_say "M METH"))
local macro_rules | `(tactic| walk_at "call builtin:dict.get") => `(tactic| (k_here; k_dflt (first | (refine' sget_M ?k1 ?k2 ?k3 ?k4 ?k5 ?k6 ?_; (case k1 => k_asm); (case k2 => k_mem); (case k4 => assumption); (case k5 => assumption); (case k3 => assumption); (case k6 => assumption); k_whole) | (refine' tget_M ?k1 ?k2 ?k3 ?k4 ?k5 ?_; (case k2 => k_asm); (case k3 => walk_at "my tab"); (case k4 => k_mem); (case k5 => assumption); (case k1 => walk_at "my units"); k_whole)); intro t'; walk_say "M GET"))
local macro_rules | `(tactic| walk_at "my units") => `(tactic| ((try simp only [units_in1, units_deeper, units_under_make, Around.mark_units]); (try dsimp only [ktrTop]); (try simp only [units_in1, units_deeper, units_under_make, Around.mark_units]); omega))
local macro_rules | `(tactic| walk_at "setItem ref str") => `(tactic| (k_here; k_dflt (refine' sset_M ?F ?N ?m ?d ?f ?z ?_; (case F => k_asm); (case N => k_asm); (case m => k_mem); (case d => assumption); (case f => assumption); (case z => first | assumption | omega); k_whole); intro h' r' o' kvs' F' N' hin hd' hf' kp; (try k_sweep); walk_say "M SET"))
local macro_rules | `(tactic| walk_at "setItem ref ref") => `(tactic| (k_here; k_dflt (refine' tset_M ?u ?F ?N ?T ?m ?z ?_; (case F => k_asm); (case N => k_asm); (case T => walk_at "my tab"); (case m => k_mem); (case z => first | assumption | omega); (case u => walk_at "my units"); k_whole); intro h' r' F' N' hT' kp; (try k_sweep); walk_say "M TSET"))
local macro_rules | `(tactic| walk_at "exec For") => `(tactic| (k_here; (with_reducible show wpAny _ _ (exec (Stmt.For (Expr.Name _ _) _ _ [] _) _) _ _ _); (rename Fr _ _ _ _ => lF'); (with_unfolding_all refine' For_invVF lF' ?k1 ?k2 ?_; (case k1 => exact rfl); (case k2 => exact rfl); k_whole); walk_say "MY FOR"))
local macro_rules | `(tactic| walk_at "exec For Name Name cons nil") => `(tactic| (k_here; (rename Fr _ _ _ _ => lF'); (with_unfolding_all refine' For_invVF lF' ?k1 ?k2 ?_; (case k1 => exact rfl); (case k2 => exact rfl); k_whole); walk_say "MY FOR"))
local macro_rules | `(tactic| walk_at "exec For Name Call cons nil") => `(tactic| (k_here; (rename Fr _ _ _ _ => lF'); (with_unfolding_all refine' For_invVF lF' ?k1 ?k2 ?_; (case k1 => exact rfl); (case k2 => exact rfl); k_whole); walk_say "MY FOR"))
local macro_rules | `(tactic| walk_at "pyIter ref") => `(tactic| (k_here; (with_reducible show wpAny _ _ (pyIter (Value.ref _)) (fun it s₂ => LoopAtV _ _ _ _ _ _ _ _ _ it s₂) _ _); k_dflt (first | (refine' iter_tupU ?h ?F ?N ?m ?_; (case h => with_unfolding_all rfl); (case F => k_asm); (case N => k_asm); (case m => k_mem); k_whole) | (refine' iter_lstU ?h ?F ?N ?m ?_; (case h => with_unfolding_all rfl); (case F => k_asm); (case N => k_asm); (case m => k_mem); k_whole)); intro i' l1; (try (have hoff := SymSt.offNew l1 (by walk_at "my sym"))); (try k_lt l1); walk_say "MY ITER"))
local macro_rules | `(tactic| walk_at "SeqRest") => `(tactic| (with_unfolding_all first | (refine SeqRest.succ (fun it' h' tk' o' f' F' N' => ?_)) | (refine SeqRest.zero (fun h' tk' F' N' => ?_))))
local macro_rules | `(tactic| walk_at "UnrEnd") => `(tactic| (refine' UnrEnd.introM2 ?F ?N ?hI ?hf ?_; (case F => k_asm); (case N => k_asm); (case hI => k_mem); (case hf => assumption); intro q' kq' oq'; refine ⟨by k_mem, ?_⟩; walk_say "MY UNREND"))
local macro_rules | `(tactic| walk_at "find lt") => `(tactic| first | assumption | exact And.right (by assumption) | exact And.right (And.right (by assumption)) | exact And.right (And.right (And.right (by assumption))) | fail "find lt")
local macro_rules | `(tactic| walk_at "newList") => `(tactic| (k_here; k_dflt (refine' newList_K ?k1 ?k2 ?_; (case k1 => k_asm); (case k2 => k_asm); k_whole); intro l' h' F' N' l1; (try (have hoff := SymSt.offNew l1 (by walk_at "my sym"))); (try k_lt l1); (try k_sweep); walk_say "MY NEWLIST"))
local macro_rules | `(tactic| walk_at "my rt") => `(tactic| first | assumption | with_reducible exact RT.int _ _ | with_reducible exact RT.str _ _ | (refine' RT.tup ?rta ?rtb; (case rta => k_mem); (case rtb => walk_at "my rts")) | (refine' RT.sub ?rta (fun _ h => List.mem_cons_of_mem _ h); (case rta => walk_at "my rt")) | (refine' RT.keep ?rta ?rtb; (case rtb => with_reducible assumption); (case rta => walk_at "my rt")) | fail "my rt")
local macro_rules | `(tactic| walk_at "my rts") => `(tactic| first | exact RTs.nil | (refine' RTs.cons ?rsa ?rsb; (case rsa => walk_at "my rt"); (case rsb => walk_at "my rts")) | fail "my rts")
local macro_rules | `(tactic| walk_at "my keep") => `(tactic| first | with_reducible assumption | exact Keep.refl _ _ | (with_reducible refine' Keep.stepCons ?kpa; (case kpa => walk_at "my keep")) | ((with_reducible refine' Keep.trans ?kpa ?kpb); (case kpb => (with_reducible assumption)); (case kpa => walk_at "my keep")) | ((refine' Keep.trans ?kpa (Keep.wide (ds := []) ?kpb (fun _ h => nomatch h))); (case kpb => (with_reducible assumption)); (case kpa => walk_at "my keep")) | ((with_reducible refine' Keep.stepNew ?kpa ?kpb ?kpc); (case kpb => (with_reducible assumption)); (case kpc => walk_at "my off"); (case kpa => walk_at "my keep")) | fail "my keep")
local macro_rules | `(tactic| walk_at "my off") => `(tactic| first | assumption | exact off_lt (by assumption) | (refine' off_sub ?ofa ?ofb; (case ofa => assumption); (case ofb => (intro p hp; repeat (first | exact hp | refine List.mem_cons_of_mem _ ?_)))) | (refine' off_allLt ?ofa; (case ofa => walk_at "find lt")) | fail "my off")
local macro_rules | `(tactic| walk_at "call type:tuple") => `(tactic| (k_here; (with_reducible show wpAny _ _ (call (Value.type _) [Value.ref _]) _ _ _); k_dflt (refine' tuple_M ?k1 ?k2 ?_; (case k1 => k_asm); (case k2 => k_mem); k_whole); walk_say "MY TUPLE"))
local macro_rules | `(tactic| walk_at "callWith ref") => `(tactic| (k_here; k_dflt (refine' callWith_K0 ?k1 ?k2 ?_; (case k1 => k_in); (case k2 => k_is); k_whole); (try dsimp only [List.nil_append, List.cons_append, List.append_nil]); walk_say "MY CW0"))
local macro_rules | `(tactic| walk_at "my enter") => `(tactic| (refine' code_def ?k1 ?k2 ?k3 ?k4 ?k5 ?kA ?kF ?kK ?k6 ?k7 ?k8 ?k9 ?kB ?_ ?c2 ?c3 ?c4 ?c5; (case kA => exact rfl); (case kF => exact rfl); (case kK => assumption); (case k1 => k_asm); (case k2 => k_asm); (case k3 => k_asm); (case k4 => k_asm); (case k5 => k_asm); (case k6 => k_is); (case k7 => k_is); (case k8 => ktr_room); (case k9 => first | exact BindsTo.of_eq rfl | exact binds_K (by k_in) rfl (by k_is) rfl rfl rfl); (case c5 => decide); (case kB => exact locs rfl); (case c2 => exact rfl); (case c3 => exact rfl); (case c4 => exact rfl); k_whole; intro g' L' h' FG' F' N' B' X' T'; (try dsimp only); (try k_fold)))
local macro_rules | `(tactic| walk_at "and lt") => `(tactic| first | assumption | exact And.left (by assumption) | exact And.left (And.right (by assumption)) | exact And.left (And.right (And.right (by assumption))))
local macro_rules | `(tactic| walk_at "find lt") => `(tactic| first | assumption | exact And.right (by assumption) | exact And.right (And.right (by assumption)) | exact And.right (And.right (And.right (by assumption))) | exact And.right (And.right (And.right (And.right (by assumption)))) | exact And.right (And.right (And.right (And.right (And.right (by assumption))))) | exact And.right (And.right (And.right (And.right (And.right (And.right (by assumption)))))))
abbrev areaAof (a0 a1 a2 a3 a4 a5 a6 a7 a8 a9 a10 a11 a12 a13 a14 a15 a16 a17 : Int) (k0 k1 k2 k3 k4 k5 k6 k7 k8 k9 k10 k11 k12 k13 k14 k15 k16 k17 : Tok) (sy : Addr) (code : Value) (t2 t4 : Tok) (st : Addr) (v6 v7 v8 v9 v10 v11 v12 v13 v14 v15 v16 v17 : Value) : AreaA := ⟨fun i => match i with | 0 => a0 | 1 => a1 | 2 => a2 | 3 => a3 | 4 => a4 | 5 => a5 | 6 => a6 | 7 => a7 | 8 => a8 | 9 => a9 | 10 => a10 | 11 => a11 | 12 => a12 | 13 => a13 | 14 => a14 | 15 => a15 | 16 => a16 | _ => a17, fun i => match i with | 0 => k0 | 1 => k1 | 2 => k2 | 3 => k3 | 4 => k4 | 5 => k5 | 6 => k6 | 7 => k7 | 8 => k8 | 9 => k9 | 10 => k10 | 11 => k11 | 12 => k12 | 13 => k13 | 14 => k14 | 15 => k15 | 16 => k16 | _ => k17, sy, code, t2, t4, st, fun i => match i with | 6 => v6 | 7 => v7 | 8 => v8 | 9 => v9 | 10 => v10 | 11 => v11 | 12 => v12 | 13 => v13 | 14 => v14 | 15 => v15 | 16 => v16 | _ => v17⟩
theorem areaA_of {r : List (Addr × Obj)} {a0 a1 a2 a3 a4 a5 a6 a7 a8 a9 a10 a11 a12 a13 a14 a15 a16 a17 : Int} {k0 k1 k2 k3 k4 k5 k6 k7 k8 k9 k10 k11 k12 k13 k14 k15 k16 k17 t2 t4 : Tok} {d sy st : Addr} {code v6 v7 v8 v9 v10 v11 v12 v13 v14 v15 v16 v17 : Value} {n : Nat} (h : (d, dictOf [⟨a0, .str (Str.ofString "symbols") k0, .ref sy⟩, ⟨a1, .str (Str.ofString "code") k1, code⟩, ⟨a2, .str (Str.ofString "max_heap") k2, .int 100000 t2⟩, ⟨a3, .str (Str.ofString "occurs") k3, .bool true⟩, ⟨a4, .str (Str.ofString "max_bits") k4, .int 4096 t4⟩, ⟨a5, .str (Str.ofString "store") k5, .ref st⟩, ⟨a6, .str (Str.ofString "x") k6, v6⟩, ⟨a7, .str (Str.ofString "p") k7, v7⟩, ⟨a8, .str (Str.ofString "cp") k8, v8⟩, ⟨a9, .str (Str.ofString "e") k9, v9⟩, ⟨a10, .str (Str.ofString "b") k10, v10⟩, ⟨a11, .str (Str.ofString "b0") k11, v11⟩, ⟨a12, .str (Str.ofString "mode") k12, v12⟩, ⟨a13, .str (Str.ofString "s") k13, v13⟩, ⟨a14, .str (Str.ofString "guard") k14, v14⟩, ⟨a15, .str (Str.ofString "roots") k15, v15⟩, ⟨a16, .str (Str.ofString "bags") k16, v16⟩, ⟨a17, .str (Str.ofString "collect_wanted") k17, v17⟩] n) ∈ r) : (d, dictOf (areaE (areaAof a0 a1 a2 a3 a4 a5 a6 a7 a8 a9 a10 a11 a12 a13 a14 a15 a16 a17 k0 k1 k2 k3 k4 k5 k6 k7 k8 k9 k10 k11 k12 k13 k14 k15 k16 k17 sy code t2 t4 st v6 v7 v8 v9 v10 v11 v12 v13 v14 v15 v16 v17)) n) ∈ r := h
theorem off_trans {sd hl : Addr} {rest : List (Addr × Obj)} (h : AllLt sd rest) (k : @LT.lt Nat _ sd hl) : ∀ p ∈ rest, p.1 ≠ hl := fun p hp => Nat.ne_of_lt (Nat.lt_trans (allLt_at.aux rest h p hp) k)
local macro_rules | `(tactic| walk_at "call ref") => `(tactic| (k_here; (with_reducible show wpAny _ _ (call (Value.ref 423) _) _ _ _); k_dflt (refine' store_ok ?B ?F ?X ?N ?T ?hk ?hdp ?hun  ?_; (case B => k_asm); (case F => k_asm); (case X => k_asm); (case N => k_asm); (case T => k_asm); (case hk => first | exact rfl | k_asm); (case hdp => first | ((try simp only [depth_under_make, depth_under_kw, depth_in1, depth_deeper]); (try dsimp only [ktrTop]); omega) | ktr_room); (case hun => first | ((try simp only [units_in1, units_deeper, units_under_make, Around.mark_units]); (try dsimp only [ktrTop]); omega) | ktr_units);  k_whole); intro h' tk' st sd SS hl sk tr F' N' esy ehl l1 l2 l3 l4 l5; (try k_lt l1); (try k_sweep); walk_say "USE store_ok"))
theorem reset_ok {w : World} {p : Program} {loose : List Str} {mean : ExcName → Option Value} {mg mb : Str → Option Value}
  {dp un : Nat} {gd : Option (List Code)} {cn : Str} {cs : Scope} {a : Addr} {ccd : Value} {cl : List (Str × Addr)} {outer : List Env} {A₀ : Around} {base h₀ : Heap} {L : Addr} {m : Str → Option Value} {s : Shared} {Q E : Value → Shared → Prop}
  {ma md sy : Addr} {code : Value} {a0 a1 a2 a3 a4 : Int} {k0 k1 k2 k3 k4 t2 t4 : Tok} {rest : List (Addr × Obj)}
  (B : Below A₀ base outer h₀) (F : Fr h₀ L s.heap m) (X : (hd.heap_39 w.params).In h₀) (N : News h₀ L s.heap ((ma, instObj 704 md) :: (md, dictOf [⟨a0, .str (Str.ofString "symbols") k0, .ref sy⟩, ⟨a1, .str (Str.ofString "code") k1, code⟩, ⟨a2, .str (Str.ofString "max_heap") k2, .int 100000 t2⟩, ⟨a3, .str (Str.ofString "occurs") k3, .bool true⟩, ⟨a4, .str (Str.ofString "max_bits") k4, .int 4096 t4⟩] 5) :: rest)) (T : Top p loose mean mg mb h₀) (hk : cs.kind = .function)
  (hdp : dp + 5 < recursionLimit) (hun : un + 50 < cLine)
  (hrest : ∀ p ∈ rest, p.1 ≠ md) (hmd : @LT.lt Nat _ md ma)
  (ret : ∀ h' tk SA sd SS r', Fr h₀ L h' m → News h₀ L h' r' → (ma, instObj 704 md) ∈ r' → (md, dictOf (areaE SA) 18) ∈ r' → SA.sy = sy → (SA.st, instObj 423 sd) ∈ r' → (sd, dictOf (storeE SS) 7) ∈ r' → SS.sy = sy → (SS.hl, listOf #[] 0) ∈ r' → (∀ p ∈ rest, p ∈ r') → (∀ p ∈ rest, p.1 ≠ SS.hl) → @LT.lt Nat _ md SS.hl → @LT.lt Nat _ sd SS.hl → (∀ p ∈ rest, p.1 ≠ sd) → @LT.lt Nat _ md sd → Q .none { s with heap := h', toks := tk }) :
  wpAny (model PySem.Challenge.rw_rh0112_01.row.prog w) (ktrTop dp un gd cn cs L a ccd cl outer) (call (.ref 568) [.ref ma]) Q E s := by
  revert X; k_fill; intro X
  refine wpAny_call ?_
  k_dflt ktr_enter
  k_steps
  rename StoreA.hl _ = _ => ehl
  subst ehl
  refine ret _ _ (areaAof _ _ _ _ _ _ _ _ _ _ _ _ _ _ _ _ _ _ _ _ _ _ _ _ _ _ _ _ _ _ _ _ _ _ _ _ _ _ _ _ _ _ _ _ _ _ _ _ _ _ _ _ _) _ _ _ (by k_asm) (by k_asm) (by k_mem) (areaA_of (by k_mem)) rfl (by k_mem) (by k_mem) (by assumption) (by k_mem) ?_ ?_ (by omega) (by omega) ?_ (by omega)
  · intro p hp; repeat (first | exact hp | refine List.mem_cons_of_mem _ ?_)
  · exact off_trans (by walk_at "find lt") (by omega)
  · exact off_allLt (by walk_at "find lt")

end Mine
namespace Mine
local macro_rules | `(tactic| walk_at "exec While") => `(tactic| (k_here; k_dflt (refine whl_start 1 ?_)))
local macro_rules | `(tactic| walk_at "ite") => `(tactic| (k_here; first | (refine ite_pos (by first | with_reducible assumption | (simp only [beq_iff_eq, bne_iff_ne, decide_eq_true_eq, ne_eq]; omega)) ?_; walk_say "MY PRUNE") | (refine ite_neg (by first | with_reducible assumption | (simp only [beq_iff_eq, bne_iff_ne, decide_eq_true_eq, ne_eq]; omega)) ?_; walk_say "MY PRUNE")))
local macro_rules | `(tactic| walk_at "subscriptTail") => `(tactic| (k_here; (with_reducible show wpAny _ _ (subscriptTail _ _ (Value.ref _) (Value.int _ _)) _ _ _); (with_unfolding_all refine' item_abs ?k1 ?k2 ?k3 ?k4 ?k5 ?_ ?k6; (case k1 => k_asm); (case k2 => k_mem); (case k3 => assumption); (case k4 => first | assumption | omega); (case k5 => assumption); (case k6 => with_unfolding_all rfl); k_whole); walk_say "MY ITEM"))
local macro_rules | `(tactic| walk_at "compareOp In str ref") => `(tactic| (k_here; k_dflt (refine' in_tupK ?F ?X ?l ?w ?b ?_; (case F => k_asm); (case X => k_asm); (case l => k_is); (case w => kde_strs); (case b => exact rfl); k_whole); walk_say "MY IN"))
local macro_rules | `(tactic| walk_at "call builtin:list.append") => `(tactic| (k_here; (with_reducible show wpAny _ _ (call (Value.builtin _) [Value.ref _, _]) _ _ _); k_dflt (refine' append_L ?k1 ?k2 ?k3 ?z ?_; (case k1 => k_asm); (case k2 => k_asm); (case k3 => k_upd); (case z => first | assumption | omega | (simp only [List.length_append, List.length_cons, List.length_nil]; omega)); k_whole); intro h' F' N'; (try k_sweep); walk_say "MY APPEND"))
local macro_rules | `(tactic| walk_at "call builtin:list.pop") => `(tactic| (k_here; (with_reducible show wpAny _ _ (call (Value.builtin _) [Value.ref _]) _ _ _); k_dflt (refine' pop_L ?k1 ?k2 ?k3 ?z ?_; (case k1 => k_asm); (case k2 => k_asm); (case k3 => k_upd); (case z => first | assumption | omega | (simp only [List.length_append, List.length_cons, List.length_nil]; omega)); k_whole); intro h' F' N'; (try k_sweep); walk_say "MY POP"))
local macro_rules | `(tactic| k_all) => `(tactic| assumption)
local macro_rules | `(tactic| k_mem) => `(tactic| first | with_reducible exact List.Mem.head _ | assumption | (refine' List.Mem.tail _ ?_; k_mem))
local macro_rules | `(tactic| walk_at "truthy ref") => `(tactic| (k_here; (with_reducible show wpAny _ _ (truthy (Value.ref _)) _ _ _); k_dflt (refine' truthy_L ?k1 ?k2 ?k3 ?k4 ?_; (case k1 => k_asm); (case k2 => k_mem); (case k3 => first | assumption | (simp only [List.length_append, List.length_cons, List.length_nil]; omega)); (case k4 => first | exact some_true _ _ | exact none_false); k_whole); walk_say "MY TRUTH"))
local macro_rules | `(tactic| walk_at "call builtin:len") => `(tactic| (k_here; (with_reducible show wpAny _ _ (call (Value.builtin "len") [Value.ref _]) _ _ _); k_dflt (refine' len_L ?k1 ?k2 ?k3 ?_; (case k1 => k_asm); (case k2 => k_mem); (case k3 => first | assumption | (simp only [List.length_append, List.length_cons, List.length_nil]; omega)); k_whole); walk_say "MY LEN"))
local macro_rules | `(tactic| k_mem) => `(tactic| first | with_reducible exact List.mem_cons_self | with_reducible assumption | exact List.Mem.head _ | with_reducible exact SymSt.i (by with_reducible assumption) | with_reducible exact SymSt.d (by with_reducible assumption) | ((with_reducible refine' Keep.any ?kmk _ _ ?kma ?kmb); (case kmk => (with_reducible assumption)); (case kma => k_mem); (case kmb => first | exact .inl (.inl rfl) | exact .inl (.inr ⟨_, rfl⟩) | (refine Or.inr ?_; walk_at "my notin"))) | ((with_reducible refine' List.mem_cons_of_mem _ ?_); k_mem) | assumption | fail "my mem")
local macro_rules | `(tactic| walk_at "my ne0") => `(tactic| first | with_reducible assumption | with_reducible exact Ne.symm (by with_reducible assumption) | k_ne | (exact Ne.symm (by k_ne)) | exact lt_at (by with_reducible assumption) (by with_reducible assumption) | exact Ne.symm (lt_at (by with_reducible assumption) (by with_reducible assumption)) | exact off_at (by with_reducible assumption) (by with_reducible assumption) | exact Ne.symm (off_at (by with_reducible assumption) (by with_reducible assumption)) | fail "my ne0")
local macro_rules | `(tactic| walk_at "my notin") => `(tactic| first | with_reducible assumption | with_reducible exact OffS.sym (by with_reducible assumption) | with_reducible exact OffS.nd (by with_reducible assumption) | (simp only [List.mem_cons, List.not_mem_nil, or_false, not_or]; (repeat' (refine And.intro ?_ ?_)) <;> walk_at "my ne0"))
local macro_rules | `(tactic| walk_at "my sym") => `(tactic| first | with_reducible assumption | (refine' SymSt.keep ?ks1 (.cons [] _ _) (by simp); (case ks1 => walk_at "my sym")) | (refine' SymSt.keep (ds := []) ?ks1 ?ks2 (fun _ _ => List.not_mem_nil); (case ks2 => with_reducible assumption); (case ks1 => walk_at "my sym")) | (refine' SymSt.keepO ?ks1 ?ks2 ?ks3; (case ks2 => with_reducible assumption); (case ks3 => with_reducible assumption); (case ks1 => walk_at "my sym")) | fail "my sym")
local macro_rules | `(tactic| walk_at "my tab") => `(tactic| first | assumption | (refine' PyProof.Rows.TupTab.cons ?kt _; (case kt => walk_at "my tab")) | (refine' tupTab_keep ?kt1 ?kt0 ?kt2; (case kt0 => assumption); (case kt1 => walk_at "my tab"); (case kt2 => walk_at "my notin")) | fail "my tab")
local macro_rules | `(tactic| walk_at "call builtin:list.append") => `(tactic| (k_here; (with_reducible show wpAny _ _ (call (Value.builtin _) [Value.ref _, _]) _ _ _); k_dflt (refine' append_M ?k1 ?k2 ?k3 ?z ?_; (case k1 => k_asm); (case k2 => k_asm); (case k3 => k_mem); (case z => first | assumption | omega | (simp only [List.length_append, List.length_cons, List.length_nil]; omega)); k_whole); intro h' r' F' N' hin kp; (try k_sweep); walk_say "M APPEND"))
local macro_rules | `(tactic| walk_at "getMethod ref") => `(tactic| (k_here; (with_reducible show wpAny _ _ (getMethod (Value.ref _) "get" _) _ _ _); k_dflt (first | (refine' smeth_M ?k1 ?k2 ?k3 ?k4 ?k5 ?_; (case k1 => k_asm); (case k2 => k_mem); (case k4 => assumption); (case k5 => assumption); (case k3 => assumption); k_whole) | (refine' tmeth_M ?k1 ?k2 ?_; (case k1 => k_asm); (case k2 => walk_at "my tab"); k_whole)); walk_say "M METH"))
local macro_rules | `(tactic| walk_at "call builtin:dict.get") => `(tactic| (k_here; k_dflt (first | (refine' sget_M ?k1 ?k2 ?k3 ?k4 ?k5 ?k6 ?_; (case k1 => k_asm); (case k2 => k_mem); (case k4 => assumption); (case k5 => assumption); (case k3 => assumption); (case k6 => assumption); k_whole) | (refine' tget_M ?k1 ?k2 ?k3 ?k4 ?k5 ?_; (case k2 => k_asm); (case k3 => walk_at "my tab"); (case k4 => k_mem); (case k5 => assumption); (case k1 => walk_at "my units"); k_whole)); intro t'; walk_say "M GET"))
local macro_rules | `(tactic| walk_at "my units") => `(tactic| ((try simp only [units_in1, units_deeper, units_under_make, Around.mark_units]); (try dsimp only [ktrTop]); (try simp only [units_in1, units_deeper, units_under_make, Around.mark_units]); omega))
local macro_rules | `(tactic| walk_at "setItem ref str") => `(tactic| (k_here; k_dflt (refine' sset_M ?F ?N ?m ?d ?f ?z ?_; (case F => k_asm); (case N => k_asm); (case m => k_mem); (case d => assumption); (case f => assumption); (case z => first | assumption | omega); k_whole); intro h' r' o' kvs' F' N' hin hd' hf' kp; (try k_sweep); walk_say "M SET"))
local macro_rules | `(tactic| walk_at "setItem ref ref") => `(tactic| (k_here; k_dflt (refine' tset_M ?u ?F ?N ?T ?m ?z ?_; (case F => k_asm); (case N => k_asm); (case T => walk_at "my tab"); (case m => k_mem); (case z => first | assumption | omega); (case u => walk_at "my units"); k_whole); intro h' r' F' N' hT' kp; (try k_sweep); walk_say "M TSET"))
local macro_rules | `(tactic| walk_at "exec For") => `(tactic| (k_here; (with_reducible show wpAny _ _ (exec (Stmt.For (Expr.Name _ _) _ _ [] _) _) _ _ _); (rename Fr _ _ _ _ => lF'); (with_unfolding_all refine' For_invVF lF' ?k1 ?k2 ?_; (case k1 => exact rfl); (case k2 => exact rfl); k_whole); walk_say "MY FOR"))
local macro_rules | `(tactic| walk_at "exec For Name Name cons nil") => `(tactic| (k_here; (rename Fr _ _ _ _ => lF'); (with_unfolding_all refine' For_invVF lF' ?k1 ?k2 ?_; (case k1 => exact rfl); (case k2 => exact rfl); k_whole); walk_say "MY FOR"))
local macro_rules | `(tactic| walk_at "exec For Name Call cons nil") => `(tactic| (k_here; (rename Fr _ _ _ _ => lF'); (with_unfolding_all refine' For_invVF lF' ?k1 ?k2 ?_; (case k1 => exact rfl); (case k2 => exact rfl); k_whole); walk_say "MY FOR"))
local macro_rules | `(tactic| walk_at "pyIter ref") => `(tactic| (k_here; (with_reducible show wpAny _ _ (pyIter (Value.ref _)) (fun it s₂ => LoopAtV _ _ _ _ _ _ _ _ _ it s₂) _ _); k_dflt (first | (refine' iter_tupU ?h ?F ?N ?m ?_; (case h => with_unfolding_all rfl); (case F => k_asm); (case N => k_asm); (case m => k_mem); k_whole) | (refine' iter_lstU ?h ?F ?N ?m ?_; (case h => with_unfolding_all rfl); (case F => k_asm); (case N => k_asm); (case m => k_mem); k_whole)); intro i' l1; (try (have hoff := SymSt.offNew l1 (by walk_at "my sym"))); (try k_lt l1); walk_say "MY ITER"))
local macro_rules | `(tactic| walk_at "SeqRest") => `(tactic| (with_unfolding_all first | (refine SeqRest.succ (fun it' h' tk' o' f' F' N' => ?_)) | (refine SeqRest.zero (fun h' tk' F' N' => ?_))))
local macro_rules | `(tactic| walk_at "UnrEnd") => `(tactic| (refine' UnrEnd.introM2 ?F ?N ?hI ?hf ?_; (case F => k_asm); (case N => k_asm); (case hI => k_mem); (case hf => assumption); intro q' kq' oq'; refine ⟨by k_mem, ?_⟩; walk_say "MY UNREND"))
local macro_rules | `(tactic| walk_at "find lt") => `(tactic| first | assumption | exact And.right (by assumption) | exact And.right (And.right (by assumption)) | exact And.right (And.right (And.right (by assumption))) | fail "find lt")
local macro_rules | `(tactic| walk_at "newList") => `(tactic| (k_here; k_dflt (refine' newList_K ?k1 ?k2 ?_; (case k1 => k_asm); (case k2 => k_asm); k_whole); intro l' h' F' N' l1; (try (have hoff := SymSt.offNew l1 (by walk_at "my sym"))); (try k_lt l1); (try k_sweep); walk_say "MY NEWLIST"))
local macro_rules | `(tactic| walk_at "my rt") => `(tactic| first | assumption | with_reducible exact RT.int _ _ | with_reducible exact RT.str _ _ | (refine' RT.tup ?rta ?rtb; (case rta => k_mem); (case rtb => walk_at "my rts")) | (refine' RT.sub ?rta (fun _ h => List.mem_cons_of_mem _ h); (case rta => walk_at "my rt")) | (refine' RT.keep ?rta ?rtb; (case rtb => with_reducible assumption); (case rta => walk_at "my rt")) | fail "my rt")
local macro_rules | `(tactic| walk_at "my rts") => `(tactic| first | exact RTs.nil | (refine' RTs.cons ?rsa ?rsb; (case rsa => walk_at "my rt"); (case rsb => walk_at "my rts")) | fail "my rts")
local macro_rules | `(tactic| walk_at "my keep") => `(tactic| first | with_reducible assumption | exact Keep.refl _ _ | (with_reducible refine' Keep.stepCons ?kpa; (case kpa => walk_at "my keep")) | ((with_reducible refine' Keep.trans ?kpa ?kpb); (case kpb => (with_reducible assumption)); (case kpa => walk_at "my keep")) | ((refine' Keep.trans ?kpa (Keep.wide (ds := []) ?kpb (fun _ h => nomatch h))); (case kpb => (with_reducible assumption)); (case kpa => walk_at "my keep")) | ((with_reducible refine' Keep.stepNew ?kpa ?kpb ?kpc); (case kpb => (with_reducible assumption)); (case kpc => walk_at "my off"); (case kpa => walk_at "my keep")) | fail "my keep")
local macro_rules | `(tactic| walk_at "my off") => `(tactic| first | assumption | exact off_lt (by assumption) | (refine' off_sub ?ofa ?ofb; (case ofa => assumption); (case ofb => (intro p hp; repeat (first | exact hp | refine List.mem_cons_of_mem _ ?_)))) | (refine' off_allLt ?ofa; (case ofa => walk_at "find lt")) | fail "my off")
local macro_rules | `(tactic| walk_at "call type:tuple") => `(tactic| (k_here; (with_reducible show wpAny _ _ (call (Value.type _) [Value.ref _]) _ _ _); k_dflt (refine' tuple_M ?k1 ?k2 ?_; (case k1 => k_asm); (case k2 => k_mem); k_whole); walk_say "MY TUPLE"))
local macro_rules | `(tactic| walk_at "callWith ref") => `(tactic| (k_here; k_dflt (refine' callWith_K0 ?k1 ?k2 ?_; (case k1 => k_in); (case k2 => k_is); k_whole); (try dsimp only [List.nil_append, List.cons_append, List.append_nil]); walk_say "MY CW0"))
local macro_rules | `(tactic| walk_at "my enter") => `(tactic| (refine' code_def ?k1 ?k2 ?k3 ?k4 ?k5 ?kA ?kF ?kK ?k6 ?k7 ?k8 ?k9 ?kB ?_ ?c2 ?c3 ?c4 ?c5; (case kA => exact rfl); (case kF => exact rfl); (case kK => assumption); (case k1 => k_asm); (case k2 => k_asm); (case k3 => k_asm); (case k4 => k_asm); (case k5 => k_asm); (case k6 => k_is); (case k7 => k_is); (case k8 => ktr_room); (case k9 => first | exact BindsTo.of_eq rfl | exact binds_K (by k_in) rfl (by k_is) rfl rfl rfl); (case c5 => decide); (case kB => exact locs rfl); (case c2 => exact rfl); (case c3 => exact rfl); (case c4 => exact rfl); k_whole; intro g' L' h' FG' F' N' B' X' T'; (try dsimp only); (try k_fold)))
local macro_rules | `(tactic| walk_at "and lt") => `(tactic| first | assumption | exact And.left (by assumption) | exact And.left (And.right (by assumption)) | exact And.left (And.right (And.right (by assumption))))
local macro_rules | `(tactic| walk_at "find lt") => `(tactic| first | assumption | exact And.right (by assumption) | exact And.right (And.right (by assumption)) | exact And.right (And.right (And.right (by assumption))) | exact And.right (And.right (And.right (And.right (by assumption)))) | exact And.right (And.right (And.right (And.right (And.right (by assumption))))) | exact And.right (And.right (And.right (And.right (And.right (And.right (by assumption)))))))
local macro_rules | `(tactic| walk_at "call ref") => `(tactic| (k_here; (with_reducible show wpAny _ _ (call (Value.ref 568) _) _ _ _); k_dflt (refine' reset_ok ?B ?F ?X ?N ?T ?hk ?hdp ?hun ?p0 ?p1 ?_; (case B => k_asm); (case F => k_asm); (case X => k_asm); (case N => k_asm); (case T => k_asm); (case hk => first | exact rfl | k_asm); (case hdp => first | ((try simp only [depth_under_make, depth_under_kw, depth_in1, depth_deeper]); (try dsimp only [ktrTop]); omega) | ktr_room); (case hun => first | ((try simp only [units_in1, units_deeper, units_under_make, Around.mark_units]); (try dsimp only [ktrTop]); omega) | ktr_units); (case p0 => assumption); (case p1 => assumption); k_whole); intro h' tk' SA sd SS r' F' N' e1 e2 e3 e4 e5 e6 e7 e8 e9 e10 e11 e12 e13; (try k_sweep); walk_say "USE reset_ok"))
theorem areas_ok {w : World} {p : Program} {loose : List Str} {mean : ExcName → Option Value} {mg mb : Str → Option Value}
  {dp un : Nat} {gd : Option (List Code)} {cn : Str} {cs : Scope} {a : Addr} {ccd : Value} {cl : List (Str × Addr)} {outer : List Env} {A₀ : Around} {base h₀ : Heap} {L : Addr} {m : Str → Option Value} {news : List (Addr × Obj)} {s : Shared} {Q E : Value → Shared → Prop}
  {nm co : Addr}
  (B : Below A₀ base outer h₀) (F : Fr h₀ L s.heap m) (X : (hd.heap_39 w.params).In h₀) (N : News h₀ L s.heap news) (T : Top p loose mean mg mb h₀) (hk : cs.kind = .function)
  (hdp : dp + 12 < recursionLimit) (hun : un + 120 < cLine)
  (ret : ∀ h' tk ma md SA sd SS r', Fr h₀ L h' m → News h₀ L h' r' → (ma, instObj 704 md) ∈ r' → (md, dictOf (areaE SA) 18) ∈ r' → SA.sy = nm → (SA.st, instObj 423 sd) ∈ r' → (sd, dictOf (storeE SS) 7) ∈ r' → SS.sy = nm → (SS.hl, listOf #[] 0) ∈ r' → (∀ p ∈ news, p ∈ r') → (∀ p ∈ news, p.1 ≠ SS.hl) → @LT.lt Nat _ md SS.hl → @LT.lt Nat _ sd SS.hl → (∀ p ∈ news, p.1 ≠ sd) → @LT.lt Nat _ md sd → (∀ p ∈ news, p.1 ≠ md) → Q (.ref ma) { s with heap := h', toks := tk }) :
  wpAny (model PySem.Challenge.rw_rh0112_01.row.prog w) (ktrTop dp un gd cn cs L a ccd cl outer) (call (.ref 704) [.ref nm, .ref co]) Q E s := by
  revert X; k_fill; intro X
  refine' call_cls ?k1 ?k2 ?k3 ?k4 ?k5 ?k6 ?_
  case k1 => k_asm
  case k2 => k_asm
  case k3 => k_asm
  case k4 => k_is
  case k5 => k_is
  case k6 => k_is
  intro x' d' h' F' N' l1 l2
  have hoffd := off_lt l1
  have hoffx : ∀ p ∈ news, p.1 ≠ d' ∧ p.1 ≠ x' := fun p hp => ⟨Nat.ne_of_lt (l1 p hp), Nat.ne_of_lt (Nat.lt_trans (l1 p hp) l2)⟩
  k_lt2 l2
  clear F N
  k_dflt walk_at "my enter"
  have hmd : @LT.lt Nat _ d' x' := l2
  k_steps
  exact ret _ _ _ _ _ _ _ _ (by k_asm) (by k_asm) (by assumption) (by assumption) (by assumption) (by assumption) (by assumption) (by assumption) (by assumption) (by assumption) (by assumption) (by assumption) (by assumption) (by assumption) (by assumption) hoffd

end Mine
namespace Mine
open PySem.Spec PyProof.V
theorem range_small1 {n : Nat} (h : n ≤ 100000) : Builtin.Range.small 0 (n : Int) 1 = true := small_one (by omega) (by omega) (by omega) (by omega)
theorem range_size1 (n : Nat) : Builtin.Range.rangeSize 0 (n : Int) 1 = (n : Int) := by
  rw [rangeSize_one]; split <;> omega
theorem itR_not_fixed (x l : Int) : ¬ Fixed (itR x l) := not_fixed (c := "range_iterator") rfl (by decide)
section
variable {prog : Program} {w : World} {A : Around} {E : Value → Shared → Prop} {s : Shared} {env : Env} {h₀ : Heap} {x : Str} {body : List Stmt} {Q : Flow → Shared → Prop}
theorem range_inv {I : Addr} {a : Int} {n : Nat} (Inv : Nat → (Str → Option Value) → List (Addr × Obj) → Prop)
    (turn : ∀ i m r t h tk, i < n → Inv i m r → (∀ p ∈ r, p.1 ≠ I) → Fr h₀ env.locals h (fun y => if y = x then some (.int (a + (i : Int)) t) else m y) → News h₀ env.locals h ((I, itR (a + ((i + 1 : Nat) : Int)) ((n : Int) - ((i + 1 : Nat) : Int))) :: r) →
      wpAny (model prog w) A (execs body env) (UnrPost h₀ env.locals { s with heap := h, toks := tk } I (itR (a + ((i + 1 : Nat) : Int)) ((n : Int) - ((i + 1 : Nat) : Int))) (fun m' r' => (∀ p ∈ r', p.1 ≠ I) ∧ Inv (i + 1) m' r') Q) E { s with heap := h, toks := tk })
    (done : ∀ m r h tk, Inv n m r → Fr h₀ env.locals h m → News h₀ env.locals h r → Q .next { s with heap := h, toks := tk }) :
    ∀ k i m r, i + k = n → Inv i m r → (∀ p ∈ r, p.1 ≠ I) → RangeRest prog w A E h₀ env x body Q s I a n k i m r
  | 0, i, m, r, e, hI, _ => .zero fun h tk F N => done m r h tk (by have : i = n := by omega
                                                                    exact this ▸ hI) F N
  | k + 1, i, m, r, e, hI, ho => .succ fun t h tk F N => by
    refine wpAny_mono (turn i m r t h tk (by omega) hI ho F N) (fun f s₂ p => ?_) fun _ _ e => e
    have up : UnrEnd h₀ env.locals { s with heap := h, toks := tk } I (itR (a + ((i + 1 : Nat) : Int)) ((n : Int) - ((i + 1 : Nat) : Int))) (fun m' r' => (∀ p ∈ r', p.1 ≠ I) ∧ Inv (i + 1) m' r') s₂ →
        UnrEnd h₀ env.locals { s with heap := h, toks := tk } I (itR (a + ((i + 1 : Nat) : Int)) ((n : Int) - ((i + 1 : Nat) : Int))) (RangeRest prog w A E h₀ env x body Q s I a n k (i + 1)) s₂ := by
      rintro ⟨h', tk', m', n', e', F', N', o', oq, b⟩
      exact ⟨h', tk', m', n', e', F', N', o', range_inv Inv turn done k (i + 1) m' n' (by omega) b oq⟩
    cases f with
    | ret v => exact p
    | brk => exact p
    | next => exact up p
    | cont => exact up p
theorem iter_lstU2 {ax : Addr} {vs : List Value} {n : Nat} {m₀ : Str → Option Value} {news : List (Addr × Obj)}
    (hh : A.handled = none) (F : Fr h₀ env.locals s.heap m₀) (N : News h₀ env.locals s.heap news) (hm : (ax, listOf vs.toArray n) ∈ news)
    (rest : ∀ I : Addr, (∀ p ∈ news, p.1 < I) → (ax, listOf vs.toArray n) ∈ news → SeqRest prog w A E h₀ env x body Q s I (ax, listOf vs.toArray n) vs m₀ news) :
    wpAny (model prog w) A (pyIter (.ref ax)) (fun it s₂ => LoopAtV prog w A h₀ env x body Q E it s₂) E s := iter_lstU hh F N hm fun I h => rest I h hm
theorem iter_rangeC {r : Addr} {c : Int} {t₀ u₀ v₀ : Tok} {m₀ : Str → Option Value} {news : List (Addr × Obj)}
    (hh : A.handled = none) (hr : IsRange s.heap r 0 c 1 t₀ u₀ v₀) (h0 : 0 ≤ c) (h1 : c ≤ 100000) (F : Fr h₀ env.locals s.heap m₀) (N : News h₀ env.locals s.heap news)
    (rest : ∀ I : Addr, (∀ p ∈ news, p.1 < I) → RangeRest prog w A E h₀ env x body Q s I 0 c.toNat c.toNat 0 m₀ news) :
    wpAny (model prog w) A (pyIter (.ref r)) (fun it s₂ => LoopAtV prog w A h₀ env x body Q E it s₂) E s := by
  obtain ⟨n, rfl⟩ := Int.eq_ofNat_of_zero_le h0
  exact iter_rangeUnr hh hr (range_small1 (by omega)) (range_size1 _) F N rest
theorem stored_eq {m₀ m : Str → Option Value} {stored : List Str} {z : Option Value} (hm : ∀ y, y ≠ x → stored.contains y = false → m y = m₀ y) :
    (fun y => if y = x then z else m y) = fun y => if y = x then z else if stored.contains y then m y else m₀ y := by
  funext y
  by_cases h1 : y = x
  · simp [h1]
  · simp only [if_neg h1]
    cases h2 : stored.contains y with
    | true => simp
    | false => simp only [Bool.false_eq_true, if_false]; exact hm y h1 h2
theorem stored_eq2 {m₀ m : Str → Option Value} {stored : List Str} (hm : ∀ y, y ≠ x → stored.contains y = false → m y = m₀ y) :
    m = fun y => if y = x then m y else if stored.contains y then m y else m₀ y := by
  funext y
  by_cases h1 : y = x
  · simp [h1]
  · simp only [if_neg h1]
    cases h2 : stored.contains y with
    | true => simp
    | false => simp only [Bool.false_eq_true, if_false]; exact hm y h1 h2
theorem range_stored {I : Addr} {a : Int} {n : Nat} {m₀ : Str → Option Value} {r₀ : List (Addr × Obj)} (stored : List Str) (Inv : Nat → (Str → Option Value) → List (Addr × Obj) → Prop)
    (turn : ∀ i u r t h tk, i < n → Inv i u r → (∀ p ∈ r, p.1 ≠ I) → Fr h₀ env.locals h (fun y => if y = x then some (.int (a + (i : Int)) t) else if stored.contains y then u y else m₀ y) → News h₀ env.locals h ((I, itR (a + ((i + 1 : Nat) : Int)) ((n : Int) - ((i + 1 : Nat) : Int))) :: r) →
      wpAny (model prog w) A (execs body env) (UnrPost h₀ env.locals { s with heap := h, toks := tk } I (itR (a + ((i + 1 : Nat) : Int)) ((n : Int) - ((i + 1 : Nat) : Int))) (fun m' r' => (∀ p ∈ r', p.1 ≠ I) ∧ Inv (i + 1) m' r' ∧ ∀ y, y ≠ x → stored.contains y = false → m' y = m₀ y) Q) E { s with heap := h, toks := tk })
    (done : ∀ u r h tk, Inv n u r → Fr h₀ env.locals h (fun y => if y = x then u y else if stored.contains y then u y else m₀ y) → News h₀ env.locals h r → Q .next { s with heap := h, toks := tk })
    (h0 : Inv 0 m₀ r₀) (hoff : ∀ p ∈ r₀, p.1 ≠ I) : RangeRest prog w A E h₀ env x body Q s I a n n 0 m₀ r₀ :=
  range_inv (fun i m r => Inv i m r ∧ ∀ y, y ≠ x → stored.contains y = false → m y = m₀ y)
    (fun i m r t h tk hi hI ho F N => turn i m r t h tk hi hI.1 ho (stored_eq hI.2 ▸ F) N)
    (fun m r h tk hI F N => done m r h tk hI.1 (by rw [← stored_eq2 hI.2]; exact F) N) n 0 m₀ r₀ (by omega) ⟨h0, fun _ _ _ => rfl⟩ hoff
end
section
variable {prog : Program} {w : World} {A : Around} {E : Value → Shared → Prop} {s : Shared} {h₀ : Heap} {L d : Addr} {m : Str → Option Value} {news : List (Addr × Obj)}
theorem getitem_abs {l : Addr} {vs : List Value} {n : Nat} {k : Int} {u : Tok} {v : Value} {Q : Value → Shared → Prop}
    (N : News h₀ L s.heap news) (hm : (l, listOf vs.toArray n) ∈ news) (hx : vs[k.toNat]? = some v) (h0 : 0 ≤ k) (hb : vs.length ≤ 200000) (h : Q v s) : wpAny (model prog w) A (getItem (.ref l) (.int k u)) Q E s :=
  wpAny_getItem_list (N.isList hm) h0 (by have := (List.getElem?_eq_some_iff.mp hx).1; omega) (by simpa using hx) h
theorem lset_M {l : List Value} {n : Nat} {k : Int} {t : Tok} {v : Value} {Q : Unit → Shared → Prop} (F : Fr h₀ L s.heap m) (N : News h₀ L s.heap news) (hm : (d, listOf l.toArray n) ∈ news) (h0 : 0 ≤ k) (hk : k < (l.length : Int)) (hz : l.length ≤ 200000)
    (h : ∀ h' r', Fr h₀ L h' m → News h₀ L h' r' → (d, listOf (l.set k.toNat v).toArray n) ∈ r' → Keep [d] news r' → Q () { s with heap := h' }) : wpAny (model prog w) A (setItem (.ref d) (.int k t) v) Q E s := by
  have z := N _ hm
  refine ki_setAt z.1 h0 (by omega) (by rw [List.size_toArray]; exact hk) ?_
  refine h _ _ (F.change (Heap.SameBut.update ..) z.2.1 z.2.2) (ki_turn (pre := []) (fun q => q.setIfInBounds k.toNat v) (N_split N hm) (fun p hp => nomatch hp) offL_ne ?_ ?_) (.head _) (keep_off N hm (.inl rfl))
  · simp
  · simp
end
theorem CellAt.keep {ds : List Addr} {r r' : List (Addr × Obj)} {v : Value} {c : Int × Int} (h : CellAt r v c) (k : Keep ds r r') : CellAt r' v c := by
  obtain ⟨x, t1, t2, n, e, hm⟩ := h
  exact ⟨x, t1, t2, n, e, k.cl _ _ hm .tup⟩
theorem cellsAre_set {r : List (Addr × Obj)} {vs : List Value} {H : List (Int × Int)} {k : Nat} {v : Value} {c : Int × Int} (h : CellsAre r vs H) (hv : CellAt r v c) : CellsAre r (vs.set k v) (H.set k c) := by
  refine ⟨by rw [List.length_set, List.length_set]; exact h.1, fun i c' hc => ?_⟩
  by_cases e : k = i
  · subst e
    by_cases hl : k < H.length
    · rw [List.getElem?_set_self hl] at hc
      cases hc
      exact ⟨v, by rw [List.getElem?_set_self (by rw [h.1]; exact hl)], hv⟩
    · rw [List.getElem?_eq_none (by rw [List.length_set]; omega)] at hc
      cases hc
  · rw [List.getElem?_set_ne e] at hc
    obtain ⟨v', q1, q2⟩ := h.2 i c' hc
    exact ⟨v', by rw [List.getElem?_set_ne e]; exact q1, q2⟩
theorem set_mid {α : Type} {H G : List α} {g c : α} : (H ++ g :: G).set H.length c = H ++ c :: G := by
  rw [List.set_append_right _ _ (Nat.le_refl _), Nat.sub_self]; rfl
theorem block_cells {r : List (Addr × Obj)} {vs : List Value} {H G : List (Int × Int)} {ar : Nat} {v : Value} {c : Int × Int} {h₀ h : Heap} {L : Addr} (_ : News h₀ L h r) (hC : CellsAre r vs (H ++ G)) (hG : G.length = 1 + ar) (hv : CellAt r v c) :
    ∃ G2, G2.length = ar ∧ CellsAre r (vs.set ((H.length : Nat) : Int).toNat v) (H ++ c :: G2) := by
  cases G with
  | nil => rw [List.length_nil] at hG; omega
  | cons g G2 =>
    refine ⟨G2, by rw [List.length_cons] at hG; omega, ?_⟩
    rw [Int.toNat_natCast, ← set_mid (g := g)]
    exact cellsAre_set hC hv
theorem set_at {α : Type} {H G : List α} {c : α} {k : Nat} : (H ++ G).set (H.length + k) c = H ++ G.set k c := by
  rw [List.set_append_right _ _ (Nat.le_add_right _ _), Nat.add_sub_cancel_left]
theorem struct2_cells {r : List (Addr × Obj)} {vs : List Value} {H G : List (Int × Int)} {v1 v2 : Value} {f : Int} {c1 c2 : Int × Int} {h₀ h : Heap} {L : Addr} (_ : News h₀ L h r) (hC : CellsAre r vs (H ++ (6, f) :: G)) (hG : G.length = 2) (h1 : CellAt r v1 c1) (h2 : CellAt r v2 c2) :
    CellsAre r ((vs.set (((H.length : Nat) : Int) + 1).toNat v1).set (((H.length : Nat) : Int) + 1 + 1).toNat v2) (H ++ [(6, f), c1, c2]) := by
  match G, hG with
  | [a, b], _ =>
    rw [show (((H.length : Nat) : Int) + 1).toNat = H.length + 1 from by omega, show (((H.length : Nat) : Int) + 1 + 1).toNat = H.length + 2 from by omega]
    have e := cellsAre_set (k := H.length + 2) (cellsAre_set (k := H.length + 1) hC h1) h2
    rw [set_at, set_at] at e
    exact e
theorem struct1_cells {r : List (Addr × Obj)} {vs : List Value} {H G : List (Int × Int)} {v1 : Value} {f : Int} {c1 : Int × Int} {h₀ h : Heap} {L : Addr} (_ : News h₀ L h r) (hC : CellsAre r vs (H ++ (6, f) :: G)) (hG : G.length = 1) (h1 : CellAt r v1 c1) :
    CellsAre r (vs.set (((H.length : Nat) : Int) + 1).toNat v1) (H ++ [(6, f), c1]) := by
  match G, hG with
  | [a], _ =>
    rw [show (((H.length : Nat) : Int) + 1).toNat = H.length + 1 from by omega]
    have e := cellsAre_set (k := H.length + 1) hC h1
    rw [set_at] at e
    exact e
theorem list1_cells {r : List (Addr × Obj)} {vs : List Value} {H G : List (Int × Int)} {v1 v2 v3 : Value} {c1 c2 c3 : Int × Int} {h₀ h : Heap} {L : Addr} (_ : News h₀ L h r) (hC : CellsAre r vs (H ++ G)) (hG : G.length = 2) (h1 : CellAt r v1 c1) (h2 : CellAt r v2 c2) (h3 : CellAt r v3 c3) :
    CellsAre r (((vs.set ((H.length : Nat) : Int).toNat v1).set (((H.length : Nat) : Int) + 1).toNat v2).set (((H.length : Nat) : Int) + 2 - 1).toNat v3) (H ++ [c1, c3]) := by
  match G, hG with
  | [a, b], _ =>
    rw [show (((H.length : Nat) : Int)).toNat = H.length + 0 from by omega, show (((H.length : Nat) : Int) + 1).toNat = H.length + 1 from by omega, show (((H.length : Nat) : Int) + 2 - 1).toNat = H.length + 1 from by omega]
    have e := cellsAre_set (k := H.length + 1) (cellsAre_set (k := H.length + 1) (cellsAre_set (k := H.length + 0) hC h1) h2) h3
    rw [set_at, set_at, set_at] at e
    exact e
theorem mem_in {h₀ h : Heap} {L : Addr} {r : List (Addr × Obj)} {p : Addr × Obj} (_ : News h₀ L h r) (hm : p ∈ r) : p ∈ r := hm
theorem keep_in {h₀ h : Heap} {L : Addr} {ds : List Addr} {r r' : List (Addr × Obj)} (_ : News h₀ L h r') (k : Keep ds r r') : Keep ds r r' := k
theorem keepC {h₀ h : Heap} {L : Addr} {ds : List Addr} {r r' : List (Addr × Obj)} {vs : List Value} {H : List (Int × Int)} (_ : CellsAre r vs H) (_ : News h₀ L h r') (k : Keep ds r r') : Keep ds r r' := k
theorem CellAt.of {r : List (Addr × Obj)} {x : Addr} {a b : Int} {t1 t2 : Tok} {n : Nat} (h : (x, tup [.int a t1, .int b t2] n) ∈ r) : CellAt r (.ref x) (a, b) := ⟨x, t1, t2, n, rfl, h⟩
end Mine
namespace Mine
local macro_rules | `(tactic| walk_at "exec While") => `(tactic| (k_here; k_dflt (refine whl_start 1 ?_)))
local macro_rules | `(tactic| walk_at "ite") => `(tactic| (k_here; first | (refine ite_pos (by first | with_reducible assumption | (simp only [beq_iff_eq, bne_iff_ne, decide_eq_true_eq, ne_eq]; omega)) ?_; walk_say "MY PRUNE") | (refine ite_neg (by first | with_reducible assumption | (simp only [beq_iff_eq, bne_iff_ne, decide_eq_true_eq, ne_eq]; omega)) ?_; walk_say "MY PRUNE")))
local macro_rules | `(tactic| walk_at "subscriptTail") => `(tactic| (k_here; (with_reducible show wpAny _ _ (subscriptTail _ _ (Value.ref _) (Value.int _ _)) _ _ _); (with_unfolding_all refine' item_abs ?k1 ?k2 ?k3 ?k4 ?k5 ?_ ?k6; (case k1 => k_asm); (case k2 => k_mem); (case k3 => assumption); (case k4 => first | assumption | omega); (case k5 => assumption); (case k6 => with_unfolding_all rfl); k_whole); walk_say "MY ITEM"))
local macro_rules | `(tactic| walk_at "compareOp In str ref") => `(tactic| (k_here; k_dflt (refine' in_tupK ?F ?X ?l ?w ?b ?_; (case F => k_asm); (case X => k_asm); (case l => k_is); (case w => kde_strs); (case b => exact rfl); k_whole); walk_say "MY IN"))
local macro_rules | `(tactic| walk_at "call builtin:list.append") => `(tactic| (k_here; (with_reducible show wpAny _ _ (call (Value.builtin _) [Value.ref _, _]) _ _ _); k_dflt (refine' append_L ?k1 ?k2 ?k3 ?z ?_; (case k1 => k_asm); (case k2 => k_asm); (case k3 => k_upd); (case z => first | assumption | omega | (simp only [List.length_append, List.length_cons, List.length_nil]; omega)); k_whole); intro h' F' N'; (try k_sweep); walk_say "MY APPEND"))
local macro_rules | `(tactic| walk_at "call builtin:list.pop") => `(tactic| (k_here; (with_reducible show wpAny _ _ (call (Value.builtin _) [Value.ref _]) _ _ _); k_dflt (refine' pop_L ?k1 ?k2 ?k3 ?z ?_; (case k1 => k_asm); (case k2 => k_asm); (case k3 => k_upd); (case z => first | assumption | omega | (simp only [List.length_append, List.length_cons, List.length_nil]; omega)); k_whole); intro h' F' N'; (try k_sweep); walk_say "MY POP"))
local macro_rules | `(tactic| k_all) => `(tactic| assumption)
local macro_rules | `(tactic| k_mem) => `(tactic| first | with_reducible exact List.Mem.head _ | assumption | (refine' List.Mem.tail _ ?_; k_mem))
local macro_rules | `(tactic| walk_at "truthy ref") => `(tactic| (k_here; (with_reducible show wpAny _ _ (truthy (Value.ref _)) _ _ _); k_dflt (refine' truthy_L ?k1 ?k2 ?k3 ?k4 ?_; (case k1 => k_asm); (case k2 => k_mem); (case k3 => first | assumption | (simp only [List.length_append, List.length_cons, List.length_nil]; omega)); (case k4 => first | exact some_true _ _ | exact none_false); k_whole); walk_say "MY TRUTH"))
local macro_rules | `(tactic| walk_at "call builtin:len") => `(tactic| (k_here; (with_reducible show wpAny _ _ (call (Value.builtin "len") [Value.ref _]) _ _ _); k_dflt (refine' len_L ?k1 ?k2 ?k3 ?_; (case k1 => k_asm); (case k2 => k_mem); (case k3 => first | assumption | (simp only [List.length_append, List.length_cons, List.length_nil]; omega)); k_whole); walk_say "MY LEN"))
local macro_rules | `(tactic| k_mem) => `(tactic| first | with_reducible exact List.mem_cons_self | with_reducible assumption | exact List.Mem.head _ | with_reducible exact SymSt.i (by with_reducible assumption) | with_reducible exact SymSt.d (by with_reducible assumption) | ((with_reducible refine' Keep.any ?kmk _ _ ?kma ?kmb); (case kmk => (with_reducible assumption)); (case kma => k_mem); (case kmb => first | exact .inl (.inl rfl) | exact .inl (.inr ⟨_, rfl⟩) | (refine Or.inr ?_; walk_at "my notin"))) | ((with_reducible refine' List.mem_cons_of_mem _ ?_); k_mem) | assumption | fail "my mem")
local macro_rules | `(tactic| walk_at "my ne0") => `(tactic| first | with_reducible assumption | with_reducible exact Ne.symm (by with_reducible assumption) | k_ne | (exact Ne.symm (by k_ne)) | exact lt_at (by with_reducible assumption) (by with_reducible assumption) | exact Ne.symm (lt_at (by with_reducible assumption) (by with_reducible assumption)) | exact off_at (by with_reducible assumption) (by with_reducible assumption) | exact Ne.symm (off_at (by with_reducible assumption) (by with_reducible assumption)) | fail "my ne0")
local macro_rules | `(tactic| walk_at "my notin") => `(tactic| first | with_reducible assumption | with_reducible exact OffS.sym (by with_reducible assumption) | with_reducible exact OffS.nd (by with_reducible assumption) | (simp only [List.mem_cons, List.not_mem_nil, or_false, not_or]; (repeat' (refine And.intro ?_ ?_)) <;> walk_at "my ne0"))
local macro_rules | `(tactic| walk_at "my sym") => `(tactic| first | with_reducible assumption | (refine' SymSt.keep ?ks1 (.cons [] _ _) (by simp); (case ks1 => walk_at "my sym")) | (refine' SymSt.keep (ds := []) ?ks1 ?ks2 (fun _ _ => List.not_mem_nil); (case ks2 => with_reducible assumption); (case ks1 => walk_at "my sym")) | (refine' SymSt.keepO ?ks1 ?ks2 ?ks3; (case ks2 => with_reducible assumption); (case ks3 => with_reducible assumption); (case ks1 => walk_at "my sym")) | fail "my sym")
local macro_rules | `(tactic| walk_at "my tab") => `(tactic| first | assumption | (refine' PyProof.Rows.TupTab.cons ?kt _; (case kt => walk_at "my tab")) | (refine' tupTab_keep ?kt1 ?kt0 ?kt2; (case kt0 => assumption); (case kt1 => walk_at "my tab"); (case kt2 => walk_at "my notin")) | fail "my tab")
local macro_rules | `(tactic| walk_at "call builtin:list.append") => `(tactic| (k_here; (with_reducible show wpAny _ _ (call (Value.builtin _) [Value.ref _, _]) _ _ _); k_dflt (refine' append_M ?k1 ?k2 ?k3 ?z ?_; (case k1 => k_asm); (case k2 => k_asm); (case k3 => k_mem); (case z => first | assumption | omega | (simp only [List.length_append, List.length_cons, List.length_nil]; omega)); k_whole); intro h' r' F' N' hin kp; (try k_sweep); walk_say "M APPEND"))
local macro_rules | `(tactic| walk_at "getMethod ref") => `(tactic| (k_here; (with_reducible show wpAny _ _ (getMethod (Value.ref _) "get" _) _ _ _); k_dflt (first | (refine' smeth_M ?k1 ?k2 ?k3 ?k4 ?k5 ?_; (case k1 => k_asm); (case k2 => k_mem); (case k4 => assumption); (case k5 => assumption); (case k3 => assumption); k_whole) | (refine' tmeth_M ?k1 ?k2 ?_; (case k1 => k_asm); (case k2 => walk_at "my tab"); k_whole)); walk_say "M METH"))
local macro_rules | `(tactic| walk_at "call builtin:dict.get") => `(tactic| (k_here; k_dflt (first | (refine' sget_M ?k1 ?k2 ?k3 ?k4 ?k5 ?k6 ?_; (case k1 => k_asm); (case k2 => k_mem); (case k4 => assumption); (case k5 => assumption); (case k3 => assumption); (case k6 => assumption); k_whole) | (refine' tget_M ?k1 ?k2 ?k3 ?k4 ?k5 ?_; (case k2 => k_asm); (case k3 => walk_at "my tab"); (case k4 => k_mem); (case k5 => assumption); (case k1 => walk_at "my units"); k_whole)); intro t'; walk_say "M GET"))
local macro_rules | `(tactic| walk_at "my units") => `(tactic| ((try simp only [units_in1, units_deeper, units_under_make, Around.mark_units]); (try dsimp only [ktrTop]); (try simp only [units_in1, units_deeper, units_under_make, Around.mark_units]); omega))
local macro_rules | `(tactic| walk_at "setItem ref str") => `(tactic| (k_here; k_dflt (refine' sset_M ?F ?N ?m ?d ?f ?z ?_; (case F => k_asm); (case N => k_asm); (case m => k_mem); (case d => assumption); (case f => assumption); (case z => first | assumption | omega); k_whole); intro h' r' o' kvs' F' N' hin hd' hf' kp; (try k_sweep); walk_say "M SET"))
local macro_rules | `(tactic| walk_at "setItem ref ref") => `(tactic| (k_here; k_dflt (refine' tset_M ?u ?F ?N ?T ?m ?z ?_; (case F => k_asm); (case N => k_asm); (case T => walk_at "my tab"); (case m => k_mem); (case z => first | assumption | omega); (case u => walk_at "my units"); k_whole); intro h' r' F' N' hT' kp; (try k_sweep); walk_say "M TSET"))
local macro_rules | `(tactic| walk_at "exec For") => `(tactic| (k_here; (with_reducible show wpAny _ _ (exec (Stmt.For (Expr.Name _ _) _ _ [] _) _) _ _ _); (rename Fr _ _ _ _ => lF'); (with_unfolding_all refine' For_invVF lF' ?k1 ?k2 ?_; (case k1 => exact rfl); (case k2 => exact rfl); k_whole); walk_say "MY FOR"))
local macro_rules | `(tactic| walk_at "exec For Name Name cons nil") => `(tactic| (k_here; (rename Fr _ _ _ _ => lF'); (with_unfolding_all refine' For_invVF lF' ?k1 ?k2 ?_; (case k1 => exact rfl); (case k2 => exact rfl); k_whole); walk_say "MY FOR"))
local macro_rules | `(tactic| walk_at "exec For Name Call cons nil") => `(tactic| (k_here; (rename Fr _ _ _ _ => lF'); (with_unfolding_all refine' For_invVF lF' ?k1 ?k2 ?_; (case k1 => exact rfl); (case k2 => exact rfl); k_whole); walk_say "MY FOR"))
local macro_rules | `(tactic| walk_at "pyIter ref") => `(tactic| (k_here; (with_reducible show wpAny _ _ (pyIter (Value.ref _)) (fun it s₂ => LoopAtV _ _ _ _ _ _ _ _ _ it s₂) _ _); k_dflt (first | (refine' iter_tupU ?h ?F ?N ?m ?_; (case h => with_unfolding_all rfl); (case F => k_asm); (case N => k_asm); (case m => k_mem); k_whole) | (refine' iter_lstU ?h ?F ?N ?m ?_; (case h => with_unfolding_all rfl); (case F => k_asm); (case N => k_asm); (case m => k_mem); k_whole)); intro i' l1; (try (have hoff := SymSt.offNew l1 (by walk_at "my sym"))); (try k_lt l1); walk_say "MY ITER"))
local macro_rules | `(tactic| walk_at "SeqRest") => `(tactic| (with_unfolding_all first | (refine SeqRest.succ (fun it' h' tk' o' f' F' N' => ?_)) | (refine SeqRest.zero (fun h' tk' F' N' => ?_))))
local macro_rules | `(tactic| walk_at "UnrEnd") => `(tactic| (refine' UnrEnd.introM2 ?F ?N ?hI ?hf ?_; (case F => k_asm); (case N => k_asm); (case hI => k_mem); (case hf => assumption); intro q' kq' oq'; refine ⟨by k_mem, ?_⟩; walk_say "MY UNREND"))
local macro_rules | `(tactic| walk_at "find lt") => `(tactic| first | assumption | exact And.right (by assumption) | exact And.right (And.right (by assumption)) | exact And.right (And.right (And.right (by assumption))) | fail "find lt")
local macro_rules | `(tactic| walk_at "newList") => `(tactic| (k_here; k_dflt (refine' newList_K ?k1 ?k2 ?_; (case k1 => k_asm); (case k2 => k_asm); k_whole); intro l' h' F' N' l1; (try (have hoff := SymSt.offNew l1 (by walk_at "my sym"))); (try k_lt l1); (try k_sweep); walk_say "MY NEWLIST"))
local macro_rules | `(tactic| walk_at "my rt") => `(tactic| first | assumption | with_reducible exact RT.int _ _ | with_reducible exact RT.str _ _ | (refine' RT.tup ?rta ?rtb; (case rta => k_mem); (case rtb => walk_at "my rts")) | (refine' RT.sub ?rta (fun _ h => List.mem_cons_of_mem _ h); (case rta => walk_at "my rt")) | (refine' RT.keep ?rta ?rtb; (case rtb => with_reducible assumption); (case rta => walk_at "my rt")) | fail "my rt")
local macro_rules | `(tactic| walk_at "my rts") => `(tactic| first | exact RTs.nil | (refine' RTs.cons ?rsa ?rsb; (case rsa => walk_at "my rt"); (case rsb => walk_at "my rts")) | fail "my rts")
local macro_rules | `(tactic| walk_at "my keep") => `(tactic| first | with_reducible assumption | exact Keep.refl _ _ | (with_reducible refine' Keep.stepCons ?kpa; (case kpa => walk_at "my keep")) | ((with_reducible refine' Keep.trans ?kpa ?kpb); (case kpb => (with_reducible assumption)); (case kpa => walk_at "my keep")) | ((refine' Keep.trans ?kpa (Keep.wide (ds := []) ?kpb (fun _ h => nomatch h))); (case kpb => (with_reducible assumption)); (case kpa => walk_at "my keep")) | ((with_reducible refine' Keep.stepNew ?kpa ?kpb ?kpc); (case kpb => (with_reducible assumption)); (case kpc => walk_at "my off"); (case kpa => walk_at "my keep")) | fail "my keep")
local macro_rules | `(tactic| walk_at "my off") => `(tactic| first | assumption | exact off_lt (by assumption) | (refine' off_sub ?ofa ?ofb; (case ofa => assumption); (case ofb => (intro p hp; repeat (first | exact hp | refine List.mem_cons_of_mem _ ?_)))) | (refine' off_allLt ?ofa; (case ofa => walk_at "find lt")) | fail "my off")
local macro_rules | `(tactic| walk_at "call type:tuple") => `(tactic| (k_here; (with_reducible show wpAny _ _ (call (Value.type _) [Value.ref _]) _ _ _); k_dflt (refine' tuple_M ?k1 ?k2 ?_; (case k1 => k_asm); (case k2 => k_mem); k_whole); walk_say "MY TUPLE"))
local macro_rules | `(tactic| walk_at "callWith ref") => `(tactic| (k_here; k_dflt (refine' callWith_K0 ?k1 ?k2 ?_; (case k1 => k_in); (case k2 => k_is); k_whole); (try dsimp only [List.nil_append, List.cons_append, List.append_nil]); walk_say "MY CW0"))
local macro_rules | `(tactic| walk_at "pyIter ref") => `(tactic| ((with_reducible show wpAny _ _ (pyIter (Value.ref _)) (fun it s₂ => LoopAtV _ _ _ _ _ _ _ _ _ it s₂) _ _); (rename Fr _ _ _ _ => lF'); (rename News _ _ _ _ => lN'); (rename IsRange _ _ _ _ _ _ _ _ => rgX); (with_unfolding_all refine iter_rangeUnr (by rfl) rgX (range_small1 (by omega)) (range_size1 _) lF' lN' ?_); intro i' l1; refine held ?_; walk_say "MY RANGE"))
local macro_rules | `(tactic| walk_at "setItem ref int") => `(tactic| (k_here; k_dflt (refine' lset_M ?F ?N ?m ?z0 ?z1 ?z ?_; (case F => k_asm); (case N => k_asm); (case m => k_mem); (case z0 => first | assumption | omega); (case z1 => walk_at "my len"); (case z => walk_at "my len"); k_whole); intro h' r' F' N' hin kp; (try k_sweep); walk_say "M LSET"))
local macro_rules | `(tactic| walk_at "my len") => `(tactic| first | assumption | omega | (simp only [List.length_append, List.length_cons, List.length_nil, List.length_set]; omega))
local macro_rules | `(tactic| walk_at "ite") => `(tactic| (k_here; first | (refine ite_pos (by (simp only [beq_iff_eq, bne_iff_ne, decide_eq_true_eq, ne_eq, List.length_append, List.length_cons, List.length_nil]; omega)) ?_; walk_say "MY PRUNE2") | (refine ite_neg (by (simp only [beq_iff_eq, bne_iff_ne, decide_eq_true_eq, ne_eq, List.length_append, List.length_cons, List.length_nil]; omega)) ?_; walk_say "MY PRUNE2")))
local macro_rules | `(tactic| walk_at "find lt") => `(tactic| first | with_reducible assumption | exact And.right (by with_reducible assumption) | exact And.right (And.right (by with_reducible assumption)) | exact And.right (And.right (And.right (by with_reducible assumption))) | exact And.right (And.right (And.right (And.right (by with_reducible assumption)))) | exact And.right (And.right (And.right (And.right (And.right (by with_reducible assumption))))) | exact And.right (And.right (And.right (And.right (And.right (And.right (by with_reducible assumption)))))))
local macro_rules | `(tactic| walk_at "my ne0") => `(tactic| first | with_reducible assumption | with_reducible exact Ne.symm (by with_reducible assumption) | exact lt_at (by with_reducible assumption) (by with_reducible assumption) | exact Ne.symm (lt_at (by with_reducible assumption) (by with_reducible assumption)) | exact off_at (by with_reducible assumption) (by with_reducible assumption) | exact Ne.symm (off_at (by with_reducible assumption) (by with_reducible assumption)) | exact allLt_at (by walk_at "find lt") (by with_reducible assumption) | exact Ne.symm (allLt_at (by walk_at "find lt") (by with_reducible assumption)) | k_ne | (exact Ne.symm (by k_ne)) | fail "my ne0")
local macro_rules | `(tactic| walk_at "pyIter ref") => `(tactic| (k_here; (with_reducible show wpAny _ _ (pyIter (Value.ref _)) (fun it s₂ => LoopAtV _ _ _ _ _ _ _ _ _ it s₂) _ _); k_dflt (refine' iter_lstU2 ?h ?F ?N ?m ?_; (case h => with_unfolding_all rfl); (case F => k_asm); (case N => k_asm); (case m => k_mem); k_whole); intro i' l1 lm; (try k_lt l1); walk_say "MY ITER2"))
local macro_rules | `(tactic| walk_at "getItem ref int") => `(tactic| (k_here; (with_unfolding_all refine' getitem_abs ?k1 ?k2 ?k3 ?k4 ?k5 ?_; (case k1 => k_asm); (case k2 => k_mem); (case k3 => first | assumption | exact rfl); (case k4 => first | assumption | decide | omega); (case k5 => first | assumption | (simp only [List.length_append, List.length_cons, List.length_nil]; omega)); k_whole); walk_say "MY GETITEM"))
local macro_rules | `(tactic| walk_at "subscriptTail") => `(tactic| (k_here; (with_reducible show wpAny _ _ (subscriptTail _ _ (Value.ref _) (Value.int _ _)) _ _ _); (with_unfolding_all refine' item_abs ?k1 ?k2 ?k3 ?k4 ?k5 ?_ ?k6; (case k4 => decide); (case k1 => k_asm); (case k2 => k_mem); (case k3 => exact rfl); (case k5 => first | assumption | (simp only [List.length_append, List.length_cons, List.length_nil, List.length_set]; omega)); (case k6 => with_unfolding_all rfl); k_whole); walk_say "LIT ITEM"))
local macro_rules | `(tactic| walk_at "UnrEnd") => `(tactic| (refine held ?_))
theorem reserve_ok {w : World} {p : Program} {loose : List Str} {mean : ExcName → Option Value} {mg mb : Str → Option Value}
  {dp un : Nat} {gd : Option (List Code)} {cn : Str} {cs : Scope} {a : Addr} {ccd : Value} {cl : List (Str × Addr)} {outer : List Env} {A₀ : Around} {base h₀ : Heap} {L : Addr} {m : Str → Option Value} {news : List (Addr × Obj)} {s : Shared} {Q E : Value → Shared → Prop}
  {st sd : Addr} {S : StoreA} {sdn : Nat} {hvs : List Value} {nh : Nat} {H : List (Int × Int)} {c : Int} {tc : Tok} {n9 : Nat}
  (B : Below A₀ base outer h₀) (F : Fr h₀ L s.heap m) (X : (hd.heap_39 w.params).In h₀) (N : News h₀ L s.heap news) (T : Top p loose mean mg mb h₀) (hk : cs.kind = .function)
  (hdp : dp + 2 < recursionLimit) (hun : un + 20 < cLine)
  (hi : (st, instObj 423 sd) ∈ news) (hd : (sd, dictOf (storeE S) sdn) ∈ news) (hh : (S.hl, listOf hvs.toArray nh) ∈ news) (hC : CellsAre news hvs H) (hne : S.hl ≠ sd) (hc : c = (n9 : Int)) (hb : H.length + n9 ≤ 90000)
  (ret : ∀ h' tk t' hvs' nh' r' G, Fr h₀ L h' m → News h₀ L h' r' → (S.hl, listOf hvs'.toArray nh') ∈ r' → G.length = n9 → hvs'.length = H.length + n9 → CellsAre r' hvs' (H ++ G) → Keep [S.hl] news r' → Q (.int (H.length : Nat) t') { s with heap := h', toks := tk }) :
  wpAny (model PySem.Challenge.rw_rh0112_01.row.prog w) (ktrTop dp un gd cn cs L a ccd cl outer) (call (.ref 258) [.ref st, .int c tc]) Q E s := by
  subst hc
  revert X; k_fill; intro X
  have hhl := hC.1
  have b1 : hvs.length ≤ 200000 := by omega
  have b2 : n9 ≤ 100000 := by omega
  refine wpAny_call ?_
  k_dflt ktr_enter
  k_steps
  unfold Held
  rename_i I li
  rename News _ _ _ _ => N1
  rename Fr _ _ _ _ => F1
  refine range_stored [] (fun i u r => ∃ hvs' nh' G, (S.hl, listOf hvs'.toArray nh') ∈ r ∧ G.length = i ∧ CellsAre r hvs' (H ++ G) ∧ Keep [S.hl] news r) ?turn ?done ⟨hvs, nh, [], hh, rfl, by simpa using hC, Keep.refl _ _⟩ (off_lt li)
  case turn =>
    rintro i u r t h tk hi9 ⟨hvs', nh', G, hh', hG, hC', kp'⟩ ho F2 N2
    have hl2 := hC'.1
    rw [List.length_append] at hl2
    have b3 : hvs'.length ≤ 200000 := by omega
    clear F1 N1 hh hC
    k_steps
    unfold Held
    refine' UnrEnd.introM2 ?F ?N ?hI ?hf ?_
    case F => k_asm
    case N => k_asm
    case hI => k_mem
    case hf => exact itR_not_fixed _ _
    intro q kq oq
    obtain ⟨cc, hC2⟩ : ∃ cc, CellsAre q (hvs' ++ [_]) (H ++ G ++ [(0, cc)]) := ⟨_, cellsAre_snoc (cellsAre_keep hC' (ds := [S.hl]) (by walk_at "my keep")) (by k_mem)⟩
    have hk : Keep [S.hl] r q := by walk_at "my keep"
    rename (S.hl, _) ∈ _ => hin
    refine ⟨oq, ⟨_, _, G ++ [(0, cc)], kq.ne _ _ hin (by simpa using ho _ hh'), ?l, ?C, kp'.trans hk⟩, fun y hy _ => by simp [hy]⟩
    case C =>
      rw [← List.append_assoc]
      exact hC2
    case l => rw [List.length_append, hG]; rfl
  case done =>
    rintro u r h tk ⟨hvs', nh', G, hh', hG, hC', kp'⟩ F2 N2
    clear F1 N1 hh hC
    k_steps
    rw [hhl]
    exact ret _ _ _ _ _ _ _ (by k_asm) (by k_asm) hh' hG (by have := hC'.1; rw [List.length_append, hG] at this; exact this) hC' kp'

end Mine
namespace Mine
local macro_rules | `(tactic| walk_at "exec While") => `(tactic| (k_here; k_dflt (refine whl_start 1 ?_)))
local macro_rules | `(tactic| walk_at "ite") => `(tactic| (k_here; first | (refine ite_pos (by first | with_reducible assumption | (simp only [beq_iff_eq, bne_iff_ne, decide_eq_true_eq, ne_eq]; omega)) ?_; walk_say "MY PRUNE") | (refine ite_neg (by first | with_reducible assumption | (simp only [beq_iff_eq, bne_iff_ne, decide_eq_true_eq, ne_eq]; omega)) ?_; walk_say "MY PRUNE")))
local macro_rules | `(tactic| walk_at "subscriptTail") => `(tactic| (k_here; (with_reducible show wpAny _ _ (subscriptTail _ _ (Value.ref _) (Value.int _ _)) _ _ _); (with_unfolding_all refine' item_abs ?k1 ?k2 ?k3 ?k4 ?k5 ?_ ?k6; (case k1 => k_asm); (case k2 => k_mem); (case k3 => assumption); (case k4 => first | assumption | omega); (case k5 => assumption); (case k6 => with_unfolding_all rfl); k_whole); walk_say "MY ITEM"))
local macro_rules | `(tactic| walk_at "compareOp In str ref") => `(tactic| (k_here; k_dflt (refine' in_tupK ?F ?X ?l ?w ?b ?_; (case F => k_asm); (case X => k_asm); (case l => k_is); (case w => kde_strs); (case b => exact rfl); k_whole); walk_say "MY IN"))
local macro_rules | `(tactic| walk_at "call builtin:list.append") => `(tactic| (k_here; (with_reducible show wpAny _ _ (call (Value.builtin _) [Value.ref _, _]) _ _ _); k_dflt (refine' append_L ?k1 ?k2 ?k3 ?z ?_; (case k1 => k_asm); (case k2 => k_asm); (case k3 => k_upd); (case z => first | assumption | omega | (simp only [List.length_append, List.length_cons, List.length_nil]; omega)); k_whole); intro h' F' N'; (try k_sweep); walk_say "MY APPEND"))
local macro_rules | `(tactic| walk_at "call builtin:list.pop") => `(tactic| (k_here; (with_reducible show wpAny _ _ (call (Value.builtin _) [Value.ref _]) _ _ _); k_dflt (refine' pop_L ?k1 ?k2 ?k3 ?z ?_; (case k1 => k_asm); (case k2 => k_asm); (case k3 => k_upd); (case z => first | assumption | omega | (simp only [List.length_append, List.length_cons, List.length_nil]; omega)); k_whole); intro h' F' N'; (try k_sweep); walk_say "MY POP"))
local macro_rules | `(tactic| k_all) => `(tactic| assumption)
local macro_rules | `(tactic| k_mem) => `(tactic| first | with_reducible exact List.Mem.head _ | assumption | (refine' List.Mem.tail _ ?_; k_mem))
local macro_rules | `(tactic| walk_at "truthy ref") => `(tactic| (k_here; (with_reducible show wpAny _ _ (truthy (Value.ref _)) _ _ _); k_dflt (refine' truthy_L ?k1 ?k2 ?k3 ?k4 ?_; (case k1 => k_asm); (case k2 => k_mem); (case k3 => first | assumption | (simp only [List.length_append, List.length_cons, List.length_nil]; omega)); (case k4 => first | exact some_true _ _ | exact none_false); k_whole); walk_say "MY TRUTH"))
local macro_rules | `(tactic| walk_at "call builtin:len") => `(tactic| (k_here; (with_reducible show wpAny _ _ (call (Value.builtin "len") [Value.ref _]) _ _ _); k_dflt (refine' len_L ?k1 ?k2 ?k3 ?_; (case k1 => k_asm); (case k2 => k_mem); (case k3 => first | assumption | (simp only [List.length_append, List.length_cons, List.length_nil]; omega)); k_whole); walk_say "MY LEN"))
local macro_rules | `(tactic| k_mem) => `(tactic| first | with_reducible exact List.mem_cons_self | with_reducible assumption | exact List.Mem.head _ | with_reducible exact SymSt.i (by with_reducible assumption) | with_reducible exact SymSt.d (by with_reducible assumption) | ((with_reducible refine' Keep.any ?kmk _ _ ?kma ?kmb); (case kmk => (with_reducible assumption)); (case kma => k_mem); (case kmb => first | exact .inl (.inl rfl) | exact .inl (.inr ⟨_, rfl⟩) | (refine Or.inr ?_; walk_at "my notin"))) | ((with_reducible refine' List.mem_cons_of_mem _ ?_); k_mem) | assumption | fail "my mem")
local macro_rules | `(tactic| walk_at "my ne0") => `(tactic| first | with_reducible assumption | with_reducible exact Ne.symm (by with_reducible assumption) | k_ne | (exact Ne.symm (by k_ne)) | exact lt_at (by with_reducible assumption) (by with_reducible assumption) | exact Ne.symm (lt_at (by with_reducible assumption) (by with_reducible assumption)) | exact off_at (by with_reducible assumption) (by with_reducible assumption) | exact Ne.symm (off_at (by with_reducible assumption) (by with_reducible assumption)) | fail "my ne0")
local macro_rules | `(tactic| walk_at "my notin") => `(tactic| first | with_reducible assumption | with_reducible exact OffS.sym (by with_reducible assumption) | with_reducible exact OffS.nd (by with_reducible assumption) | (simp only [List.mem_cons, List.not_mem_nil, or_false, not_or]; (repeat' (refine And.intro ?_ ?_)) <;> walk_at "my ne0"))
local macro_rules | `(tactic| walk_at "my sym") => `(tactic| first | with_reducible assumption | (refine' SymSt.keep ?ks1 (.cons [] _ _) (by simp); (case ks1 => walk_at "my sym")) | (refine' SymSt.keep (ds := []) ?ks1 ?ks2 (fun _ _ => List.not_mem_nil); (case ks2 => with_reducible assumption); (case ks1 => walk_at "my sym")) | (refine' SymSt.keepO ?ks1 ?ks2 ?ks3; (case ks2 => with_reducible assumption); (case ks3 => with_reducible assumption); (case ks1 => walk_at "my sym")) | fail "my sym")
local macro_rules | `(tactic| walk_at "my tab") => `(tactic| first | assumption | (refine' PyProof.Rows.TupTab.cons ?kt _; (case kt => walk_at "my tab")) | (refine' tupTab_keep ?kt1 ?kt0 ?kt2; (case kt0 => assumption); (case kt1 => walk_at "my tab"); (case kt2 => walk_at "my notin")) | fail "my tab")
local macro_rules | `(tactic| walk_at "call builtin:list.append") => `(tactic| (k_here; (with_reducible show wpAny _ _ (call (Value.builtin _) [Value.ref _, _]) _ _ _); k_dflt (refine' append_M ?k1 ?k2 ?k3 ?z ?_; (case k1 => k_asm); (case k2 => k_asm); (case k3 => k_mem); (case z => first | assumption | omega | (simp only [List.length_append, List.length_cons, List.length_nil]; omega)); k_whole); intro h' r' F' N' hin kp; (try k_sweep); walk_say "M APPEND"))
local macro_rules | `(tactic| walk_at "getMethod ref") => `(tactic| (k_here; (with_reducible show wpAny _ _ (getMethod (Value.ref _) "get" _) _ _ _); k_dflt (first | (refine' smeth_M ?k1 ?k2 ?k3 ?k4 ?k5 ?_; (case k1 => k_asm); (case k2 => k_mem); (case k4 => assumption); (case k5 => assumption); (case k3 => assumption); k_whole) | (refine' tmeth_M ?k1 ?k2 ?_; (case k1 => k_asm); (case k2 => walk_at "my tab"); k_whole)); walk_say "M METH"))
local macro_rules | `(tactic| walk_at "call builtin:dict.get") => `(tactic| (k_here; k_dflt (first | (refine' sget_M ?k1 ?k2 ?k3 ?k4 ?k5 ?k6 ?_; (case k1 => k_asm); (case k2 => k_mem); (case k4 => assumption); (case k5 => assumption); (case k3 => assumption); (case k6 => assumption); k_whole) | (refine' tget_M ?k1 ?k2 ?k3 ?k4 ?k5 ?_; (case k2 => k_asm); (case k3 => walk_at "my tab"); (case k4 => k_mem); (case k5 => assumption); (case k1 => walk_at "my units"); k_whole)); intro t'; walk_say "M GET"))
local macro_rules | `(tactic| walk_at "my units") => `(tactic| ((try simp only [units_in1, units_deeper, units_under_make, Around.mark_units]); (try dsimp only [ktrTop]); (try simp only [units_in1, units_deeper, units_under_make, Around.mark_units]); omega))
local macro_rules | `(tactic| walk_at "setItem ref str") => `(tactic| (k_here; k_dflt (refine' sset_M ?F ?N ?m ?d ?f ?z ?_; (case F => k_asm); (case N => k_asm); (case m => k_mem); (case d => assumption); (case f => assumption); (case z => first | assumption | omega); k_whole); intro h' r' o' kvs' F' N' hin hd' hf' kp; (try k_sweep); walk_say "M SET"))
local macro_rules | `(tactic| walk_at "setItem ref ref") => `(tactic| (k_here; k_dflt (refine' tset_M ?u ?F ?N ?T ?m ?z ?_; (case F => k_asm); (case N => k_asm); (case T => walk_at "my tab"); (case m => k_mem); (case z => first | assumption | omega); (case u => walk_at "my units"); k_whole); intro h' r' F' N' hT' kp; (try k_sweep); walk_say "M TSET"))
local macro_rules | `(tactic| walk_at "exec For") => `(tactic| (k_here; (with_reducible show wpAny _ _ (exec (Stmt.For (Expr.Name _ _) _ _ [] _) _) _ _ _); (rename Fr _ _ _ _ => lF'); (with_unfolding_all refine' For_invVF lF' ?k1 ?k2 ?_; (case k1 => exact rfl); (case k2 => exact rfl); k_whole); walk_say "MY FOR"))
local macro_rules | `(tactic| walk_at "exec For Name Name cons nil") => `(tactic| (k_here; (rename Fr _ _ _ _ => lF'); (with_unfolding_all refine' For_invVF lF' ?k1 ?k2 ?_; (case k1 => exact rfl); (case k2 => exact rfl); k_whole); walk_say "MY FOR"))
local macro_rules | `(tactic| walk_at "exec For Name Call cons nil") => `(tactic| (k_here; (rename Fr _ _ _ _ => lF'); (with_unfolding_all refine' For_invVF lF' ?k1 ?k2 ?_; (case k1 => exact rfl); (case k2 => exact rfl); k_whole); walk_say "MY FOR"))
local macro_rules | `(tactic| walk_at "pyIter ref") => `(tactic| (k_here; (with_reducible show wpAny _ _ (pyIter (Value.ref _)) (fun it s₂ => LoopAtV _ _ _ _ _ _ _ _ _ it s₂) _ _); k_dflt (first | (refine' iter_tupU ?h ?F ?N ?m ?_; (case h => with_unfolding_all rfl); (case F => k_asm); (case N => k_asm); (case m => k_mem); k_whole) | (refine' iter_lstU ?h ?F ?N ?m ?_; (case h => with_unfolding_all rfl); (case F => k_asm); (case N => k_asm); (case m => k_mem); k_whole)); intro i' l1; (try (have hoff := SymSt.offNew l1 (by walk_at "my sym"))); (try k_lt l1); walk_say "MY ITER"))
local macro_rules | `(tactic| walk_at "SeqRest") => `(tactic| (with_unfolding_all first | (refine SeqRest.succ (fun it' h' tk' o' f' F' N' => ?_)) | (refine SeqRest.zero (fun h' tk' F' N' => ?_))))
local macro_rules | `(tactic| walk_at "UnrEnd") => `(tactic| (refine' UnrEnd.introM2 ?F ?N ?hI ?hf ?_; (case F => k_asm); (case N => k_asm); (case hI => k_mem); (case hf => assumption); intro q' kq' oq'; refine ⟨by k_mem, ?_⟩; walk_say "MY UNREND"))
local macro_rules | `(tactic| walk_at "find lt") => `(tactic| first | assumption | exact And.right (by assumption) | exact And.right (And.right (by assumption)) | exact And.right (And.right (And.right (by assumption))) | fail "find lt")
local macro_rules | `(tactic| walk_at "newList") => `(tactic| (k_here; k_dflt (refine' newList_K ?k1 ?k2 ?_; (case k1 => k_asm); (case k2 => k_asm); k_whole); intro l' h' F' N' l1; (try (have hoff := SymSt.offNew l1 (by walk_at "my sym"))); (try k_lt l1); (try k_sweep); walk_say "MY NEWLIST"))
local macro_rules | `(tactic| walk_at "my rt") => `(tactic| first | assumption | with_reducible exact RT.int _ _ | with_reducible exact RT.str _ _ | (refine' RT.tup ?rta ?rtb; (case rta => k_mem); (case rtb => walk_at "my rts")) | (refine' RT.sub ?rta (fun _ h => List.mem_cons_of_mem _ h); (case rta => walk_at "my rt")) | (refine' RT.keep ?rta ?rtb; (case rtb => with_reducible assumption); (case rta => walk_at "my rt")) | fail "my rt")
local macro_rules | `(tactic| walk_at "my rts") => `(tactic| first | exact RTs.nil | (refine' RTs.cons ?rsa ?rsb; (case rsa => walk_at "my rt"); (case rsb => walk_at "my rts")) | fail "my rts")
local macro_rules | `(tactic| walk_at "my keep") => `(tactic| first | with_reducible assumption | exact Keep.refl _ _ | (with_reducible refine' Keep.stepCons ?kpa; (case kpa => walk_at "my keep")) | ((with_reducible refine' Keep.trans ?kpa ?kpb); (case kpb => (with_reducible assumption)); (case kpa => walk_at "my keep")) | ((refine' Keep.trans ?kpa (Keep.wide (ds := []) ?kpb (fun _ h => nomatch h))); (case kpb => (with_reducible assumption)); (case kpa => walk_at "my keep")) | ((with_reducible refine' Keep.stepNew ?kpa ?kpb ?kpc); (case kpb => (with_reducible assumption)); (case kpc => walk_at "my off"); (case kpa => walk_at "my keep")) | fail "my keep")
local macro_rules | `(tactic| walk_at "my off") => `(tactic| first | assumption | exact off_lt (by assumption) | (refine' off_sub ?ofa ?ofb; (case ofa => assumption); (case ofb => (intro p hp; repeat (first | exact hp | refine List.mem_cons_of_mem _ ?_)))) | (refine' off_allLt ?ofa; (case ofa => walk_at "find lt")) | fail "my off")
local macro_rules | `(tactic| walk_at "call type:tuple") => `(tactic| (k_here; (with_reducible show wpAny _ _ (call (Value.type _) [Value.ref _]) _ _ _); k_dflt (refine' tuple_M ?k1 ?k2 ?_; (case k1 => k_asm); (case k2 => k_mem); k_whole); walk_say "MY TUPLE"))
local macro_rules | `(tactic| walk_at "callWith ref") => `(tactic| (k_here; k_dflt (refine' callWith_K0 ?k1 ?k2 ?_; (case k1 => k_in); (case k2 => k_is); k_whole); (try dsimp only [List.nil_append, List.cons_append, List.append_nil]); walk_say "MY CW0"))
local macro_rules | `(tactic| walk_at "pyIter ref") => `(tactic| ((with_reducible show wpAny _ _ (pyIter (Value.ref _)) (fun it s₂ => LoopAtV _ _ _ _ _ _ _ _ _ it s₂) _ _); (rename Fr _ _ _ _ => lF'); (rename News _ _ _ _ => lN'); (rename IsRange _ _ _ _ _ _ _ _ => rgX); (with_unfolding_all refine iter_rangeUnr (by rfl) rgX (range_small1 (by omega)) (range_size1 _) lF' lN' ?_); intro i' l1; refine held ?_; walk_say "MY RANGE"))
local macro_rules | `(tactic| walk_at "setItem ref int") => `(tactic| (k_here; k_dflt (refine' lset_M ?F ?N ?m ?z0 ?z1 ?z ?_; (case F => k_asm); (case N => k_asm); (case m => k_mem); (case z0 => first | assumption | omega); (case z1 => walk_at "my len"); (case z => walk_at "my len"); k_whole); intro h' r' F' N' hin kp; (try k_sweep); walk_say "M LSET"))
local macro_rules | `(tactic| walk_at "my len") => `(tactic| first | assumption | omega | (simp only [List.length_append, List.length_cons, List.length_nil, List.length_set]; omega))
local macro_rules | `(tactic| walk_at "ite") => `(tactic| (k_here; first | (refine ite_pos (by (simp only [beq_iff_eq, bne_iff_ne, decide_eq_true_eq, ne_eq, List.length_append, List.length_cons, List.length_nil]; omega)) ?_; walk_say "MY PRUNE2") | (refine ite_neg (by (simp only [beq_iff_eq, bne_iff_ne, decide_eq_true_eq, ne_eq, List.length_append, List.length_cons, List.length_nil]; omega)) ?_; walk_say "MY PRUNE2")))
local macro_rules | `(tactic| walk_at "find lt") => `(tactic| first | with_reducible assumption | exact And.right (by with_reducible assumption) | exact And.right (And.right (by with_reducible assumption)) | exact And.right (And.right (And.right (by with_reducible assumption))) | exact And.right (And.right (And.right (And.right (by with_reducible assumption)))) | exact And.right (And.right (And.right (And.right (And.right (by with_reducible assumption))))) | exact And.right (And.right (And.right (And.right (And.right (And.right (by with_reducible assumption)))))))
local macro_rules | `(tactic| walk_at "my ne0") => `(tactic| first | with_reducible assumption | with_reducible exact Ne.symm (by with_reducible assumption) | exact lt_at (by with_reducible assumption) (by with_reducible assumption) | exact Ne.symm (lt_at (by with_reducible assumption) (by with_reducible assumption)) | exact off_at (by with_reducible assumption) (by with_reducible assumption) | exact Ne.symm (off_at (by with_reducible assumption) (by with_reducible assumption)) | exact allLt_at (by walk_at "find lt") (by with_reducible assumption) | exact Ne.symm (allLt_at (by walk_at "find lt") (by with_reducible assumption)) | k_ne | (exact Ne.symm (by k_ne)) | fail "my ne0")
local macro_rules | `(tactic| walk_at "pyIter ref") => `(tactic| (k_here; (with_reducible show wpAny _ _ (pyIter (Value.ref _)) (fun it s₂ => LoopAtV _ _ _ _ _ _ _ _ _ it s₂) _ _); k_dflt (refine' iter_lstU2 ?h ?F ?N ?m ?_; (case h => with_unfolding_all rfl); (case F => k_asm); (case N => k_asm); (case m => k_mem); k_whole); intro i' l1 lm; (try k_lt l1); walk_say "MY ITER2"))
local macro_rules | `(tactic| walk_at "getItem ref int") => `(tactic| (k_here; (with_unfolding_all refine' getitem_abs ?k1 ?k2 ?k3 ?k4 ?k5 ?_; (case k1 => k_asm); (case k2 => k_mem); (case k3 => first | assumption | exact rfl); (case k4 => first | assumption | decide | omega); (case k5 => first | assumption | (simp only [List.length_append, List.length_cons, List.length_nil]; omega)); k_whole); walk_say "MY GETITEM"))
local macro_rules | `(tactic| walk_at "subscriptTail") => `(tactic| (k_here; (with_reducible show wpAny _ _ (subscriptTail _ _ (Value.ref _) (Value.int _ _)) _ _ _); (with_unfolding_all refine' item_abs ?k1 ?k2 ?k3 ?k4 ?k5 ?_ ?k6; (case k4 => decide); (case k1 => k_asm); (case k2 => k_mem); (case k3 => exact rfl); (case k5 => first | assumption | (simp only [List.length_append, List.length_cons, List.length_nil, List.length_set]; omega)); (case k6 => with_unfolding_all rfl); k_whole); walk_say "LIT ITEM"))
local macro_rules | `(tactic| walk_at "call ref") => `(tactic| (k_here; (with_reducible show wpAny _ _ (call (Value.ref 116) _) _ _ _); k_dflt (refine' name_ok ?B ?F ?X ?N ?T ?hk ?hdp ?hun ?p0 ?p1 ?p2 ?p3 ?p4 ?p5 ?p6 ?_; (case B => k_asm); (case F => k_asm); (case X => k_asm); (case N => k_asm); (case T => k_asm); (case hk => first | exact rfl | k_asm); (case hdp => first | ((try simp only [depth_under_make, depth_under_kw, depth_in1, depth_deeper]); (try dsimp only [ktrTop]); omega) | ktr_room); (case hun => first | ((try simp only [units_in1, units_deeper, units_under_make, Around.mark_units]); (try dsimp only [ktrTop]); omega) | ktr_units); (case p0 => k_mem); (case p1 => k_mem); (case p2 => k_mem); (case p3 => (first | assumption | omega)); (case p4 => assumption); (case p5 => (first | assumption | omega)); (case p6 => k_mem); k_whole); intro h' tk' F' N'; (try k_sweep); walk_say "USE name_ok"))
local macro_rules | `(tactic| walk_at "call ref") => `(tactic| (k_here; (with_reducible show wpAny _ _ (call (Value.ref 123) _) _ _ _); k_dflt (refine' arity_ok ?B ?F ?X ?N ?T ?hk ?hdp ?hun ?p0 ?p1 ?p2 ?p3 ?p4 ?p5 ?p6 ?_; (case B => k_asm); (case F => k_asm); (case X => k_asm); (case N => k_asm); (case T => k_asm); (case hk => first | exact rfl | k_asm); (case hdp => first | ((try simp only [depth_under_make, depth_under_kw, depth_in1, depth_deeper]); (try dsimp only [ktrTop]); omega) | ktr_room); (case hun => first | ((try simp only [units_in1, units_deeper, units_under_make, Around.mark_units]); (try dsimp only [ktrTop]); omega) | ktr_units); (case p0 => k_mem); (case p1 => k_mem); (case p2 => k_mem); (case p3 => (first | assumption | omega)); (case p4 => assumption); (case p5 => (first | assumption | omega)); (case p6 => k_mem); k_whole); intro h' tk' F' N'; (try k_sweep); walk_say "USE arity_ok"))
local macro_rules | `(tactic| walk_at "call ref") => `(tactic| (k_here; (with_reducible show wpAny _ _ (call (Value.ref 95) _) _ _ _); k_dflt (refine' text_ok ?B ?F ?X ?N ?T ?hk ?hdp ?hun ?p0 ?p1 ?p2 ?p3 ?p4 ?p5 ?_; (case B => k_asm); (case F => k_asm); (case X => k_asm); (case N => k_asm); (case T => k_asm); (case hk => first | exact rfl | k_asm); (case hdp => first | ((try simp only [depth_under_make, depth_under_kw, depth_in1, depth_deeper]); (try dsimp only [ktrTop]); omega) | ktr_room); (case hun => first | ((try simp only [units_in1, units_deeper, units_under_make, Around.mark_units]); (try dsimp only [ktrTop]); omega) | ktr_units); (case p0 => k_mem); (case p1 => k_mem); (case p2 => k_mem); (case p3 => (first | assumption | omega)); (case p4 => assumption); (case p5 => (first | assumption | omega)); k_whole); intro h' tk' F' N'; (try k_sweep); walk_say "USE text_ok"))
local macro_rules | `(tactic| walk_at "call ref") => `(tactic| (k_here; (with_reducible show wpAny _ _ (call (Value.ref 258) _) _ _ _); k_dflt (refine' reserve_ok ?B ?F ?X ?N ?T ?hk ?hdp ?hun ?p0 ?p1 ?p2 ?p3 ?p4 ?p5 ?p6 ?_; (case B => k_asm); (case F => k_asm); (case X => k_asm); (case N => k_asm); (case T => k_asm); (case hk => first | exact rfl | k_asm); (case hdp => first | ((try simp only [depth_under_make, depth_under_kw, depth_in1, depth_deeper]); (try dsimp only [ktrTop]); omega) | ktr_room); (case hun => first | ((try simp only [units_in1, units_deeper, units_under_make, Around.mark_units]); (try dsimp only [ktrTop]); omega) | ktr_units); (case p0 => k_mem); (case p1 => k_mem); (case p2 => k_mem); (case p3 => (first | assumption | exact cellsAre_keep (by assumption) (by assumption))); (case p4 => assumption); (case p5 => assumption); (case p6 => (first | assumption | omega)); k_whole); intro h' tk' t' hvs' nh' r' G F' N' hh' hG hln hC' kp'; (try k_sweep); walk_say "USE reserve_ok"))
theorem newblock_ok {w : World} {p : Program} {loose : List Str} {mean : ExcName → Option Value} {mg mb : Str → Option Value}
  {dp un : Nat} {gd : Option (List Code)} {cn : Str} {cs : Scope} {a : Addr} {ccd : Value} {cl : List (Str × Addr)} {outer : List Env} {A₀ : Around} {base h₀ : Heap} {L : Addr} {m : Str → Option Value} {news : List (Addr × Obj)} {s : Shared} {Q E : Value → Shared → Prop}
  {st sd : Addr} {S : StoreA} {sdn : Nat} {hvs : List Value} {nh : Nat} {H : List (Int × Int)} {f : Int} {tf : Tok} {nd : Addr} {Y : SymA} {ndn : Nat} {fvs : List Value} {nf : Nat} {y : Addr} {fa : Int} {ar : Nat} {ta tb : Tok} {ny : Nat}
  (B : Below A₀ base outer h₀) (F : Fr h₀ L s.heap m) (X : (hd.heap_39 w.params).In h₀) (N : News h₀ L s.heap news) (T : Top p loose mean mg mb h₀) (hk : cs.kind = .function)
  (hdp : dp + 5 < recursionLimit) (hun : un + 50 < cLine)
  (hi : (st, instObj 423 sd) ∈ news) (hd : (sd, dictOf (storeE S) sdn) ∈ news) (hh : (S.hl, listOf hvs.toArray nh) ∈ news) (hC : CellsAre news hvs H) (hne : S.hl ≠ sd) (hsi : (S.sy, instObj 154 nd) ∈ news) (hsd : (nd, dictOf (symE Y) ndn) ∈ news) (hlf : (Y.lf, listOf fvs.toArray nf) ∈ news) (hfb : fvs.length ≤ 200000) (hx : fvs[f.toNat]? = some (.ref y)) (hf0 : 0 ≤ f) (hf1 : f ≠ 0) (hy : (y, tup [.int fa ta, .int (ar : Int) tb] ny) ∈ news) (hb : H.length + (1 + ar) ≤ 90000)
  (ret : ∀ h' tk x t1 t2 hvs' nh' r' G, Fr h₀ L h' m → News h₀ L h' r' → (x, tup [.int 2 t1, .int (H.length : Nat) t2] 0) ∈ r' → (S.hl, listOf hvs'.toArray nh') ∈ r' → G.length = ar → hvs'.length = H.length + (1 + ar) → CellsAre r' hvs' (H ++ (6, f) :: G) → Keep [S.hl] news r' → Q (.ref x) { s with heap := h', toks := tk }) :
  wpAny (model PySem.Challenge.rw_rh0112_01.row.prog w) (ktrTop dp un gd cn cs L a ccd cl outer) (call (.ref 363) [.ref st, .int f tf]) Q E s := by
  revert X; k_fill; intro X
  have hhl := hC.1
  have b1 : hvs.length ≤ 200000 := by omega
  have hc9 : 1 + (ar : Int) = ((1 + ar : Nat) : Int) := by omega
  refine wpAny_call ?_
  k_dflt ktr_enter
  k_steps
  rename List.length _ = 1 + ar => hG
  rename CellsAre _ _ (H ++ _) => hC2
  rename (S.hl, _) ∈ _ => hin
  rename News _ _ _ _ => nE
  obtain ⟨G2, hG2, hC3⟩ := block_cells (c := (6, f)) nE (cellsAre_keep hC2 (ds := [S.hl]) (by walk_at "my keep")) hG (CellAt.of (by k_mem))
  exact ret _ _ _ _ _ _ _ _ _ (by k_asm) (by k_asm) (by k_mem) (.tail _ hin) hG2 (by have := hC3.1; rw [List.length_append, List.length_cons, hG2] at this; omega) hC3 (by walk_at "my keep")

end Mine
namespace Mine
local macro_rules | `(tactic| walk_at "exec While") => `(tactic| (k_here; k_dflt (refine whl_start 1 ?_)))
local macro_rules | `(tactic| walk_at "ite") => `(tactic| (k_here; first | (refine ite_pos (by first | with_reducible assumption | (simp only [beq_iff_eq, bne_iff_ne, decide_eq_true_eq, ne_eq]; omega)) ?_; walk_say "MY PRUNE") | (refine ite_neg (by first | with_reducible assumption | (simp only [beq_iff_eq, bne_iff_ne, decide_eq_true_eq, ne_eq]; omega)) ?_; walk_say "MY PRUNE")))
local macro_rules | `(tactic| walk_at "subscriptTail") => `(tactic| (k_here; (with_reducible show wpAny _ _ (subscriptTail _ _ (Value.ref _) (Value.int _ _)) _ _ _); (with_unfolding_all refine' item_abs ?k1 ?k2 ?k3 ?k4 ?k5 ?_ ?k6; (case k1 => k_asm); (case k2 => k_mem); (case k3 => assumption); (case k4 => first | assumption | omega); (case k5 => assumption); (case k6 => with_unfolding_all rfl); k_whole); walk_say "MY ITEM"))
local macro_rules | `(tactic| walk_at "compareOp In str ref") => `(tactic| (k_here; k_dflt (refine' in_tupK ?F ?X ?l ?w ?b ?_; (case F => k_asm); (case X => k_asm); (case l => k_is); (case w => kde_strs); (case b => exact rfl); k_whole); walk_say "MY IN"))
local macro_rules | `(tactic| walk_at "call builtin:list.append") => `(tactic| (k_here; (with_reducible show wpAny _ _ (call (Value.builtin _) [Value.ref _, _]) _ _ _); k_dflt (refine' append_L ?k1 ?k2 ?k3 ?z ?_; (case k1 => k_asm); (case k2 => k_asm); (case k3 => k_upd); (case z => first | assumption | omega | (simp only [List.length_append, List.length_cons, List.length_nil]; omega)); k_whole); intro h' F' N'; (try k_sweep); walk_say "MY APPEND"))
local macro_rules | `(tactic| walk_at "call builtin:list.pop") => `(tactic| (k_here; (with_reducible show wpAny _ _ (call (Value.builtin _) [Value.ref _]) _ _ _); k_dflt (refine' pop_L ?k1 ?k2 ?k3 ?z ?_; (case k1 => k_asm); (case k2 => k_asm); (case k3 => k_upd); (case z => first | assumption | omega | (simp only [List.length_append, List.length_cons, List.length_nil]; omega)); k_whole); intro h' F' N'; (try k_sweep); walk_say "MY POP"))
local macro_rules | `(tactic| k_all) => `(tactic| assumption)
local macro_rules | `(tactic| k_mem) => `(tactic| first | with_reducible exact List.Mem.head _ | assumption | (refine' List.Mem.tail _ ?_; k_mem))
local macro_rules | `(tactic| walk_at "truthy ref") => `(tactic| (k_here; (with_reducible show wpAny _ _ (truthy (Value.ref _)) _ _ _); k_dflt (refine' truthy_L ?k1 ?k2 ?k3 ?k4 ?_; (case k1 => k_asm); (case k2 => k_mem); (case k3 => first | assumption | (simp only [List.length_append, List.length_cons, List.length_nil]; omega)); (case k4 => first | exact some_true _ _ | exact none_false); k_whole); walk_say "MY TRUTH"))
local macro_rules | `(tactic| walk_at "call builtin:len") => `(tactic| (k_here; (with_reducible show wpAny _ _ (call (Value.builtin "len") [Value.ref _]) _ _ _); k_dflt (refine' len_L ?k1 ?k2 ?k3 ?_; (case k1 => k_asm); (case k2 => k_mem); (case k3 => first | assumption | (simp only [List.length_append, List.length_cons, List.length_nil]; omega)); k_whole); walk_say "MY LEN"))
local macro_rules | `(tactic| k_mem) => `(tactic| first | with_reducible exact List.mem_cons_self | with_reducible assumption | exact List.Mem.head _ | with_reducible exact SymSt.i (by with_reducible assumption) | with_reducible exact SymSt.d (by with_reducible assumption) | ((with_reducible refine' Keep.any ?kmk _ _ ?kma ?kmb); (case kmk => (with_reducible assumption)); (case kma => k_mem); (case kmb => first | exact .inl (.inl rfl) | exact .inl (.inr ⟨_, rfl⟩) | (refine Or.inr ?_; walk_at "my notin"))) | ((with_reducible refine' List.mem_cons_of_mem _ ?_); k_mem) | assumption | fail "my mem")
local macro_rules | `(tactic| walk_at "my ne0") => `(tactic| first | with_reducible assumption | with_reducible exact Ne.symm (by with_reducible assumption) | k_ne | (exact Ne.symm (by k_ne)) | exact lt_at (by with_reducible assumption) (by with_reducible assumption) | exact Ne.symm (lt_at (by with_reducible assumption) (by with_reducible assumption)) | exact off_at (by with_reducible assumption) (by with_reducible assumption) | exact Ne.symm (off_at (by with_reducible assumption) (by with_reducible assumption)) | fail "my ne0")
local macro_rules | `(tactic| walk_at "my notin") => `(tactic| first | with_reducible assumption | with_reducible exact OffS.sym (by with_reducible assumption) | with_reducible exact OffS.nd (by with_reducible assumption) | (simp only [List.mem_cons, List.not_mem_nil, or_false, not_or]; (repeat' (refine And.intro ?_ ?_)) <;> walk_at "my ne0"))
local macro_rules | `(tactic| walk_at "my sym") => `(tactic| first | with_reducible assumption | (refine' SymSt.keep ?ks1 (.cons [] _ _) (by simp); (case ks1 => walk_at "my sym")) | (refine' SymSt.keep (ds := []) ?ks1 ?ks2 (fun _ _ => List.not_mem_nil); (case ks2 => with_reducible assumption); (case ks1 => walk_at "my sym")) | (refine' SymSt.keepO ?ks1 ?ks2 ?ks3; (case ks2 => with_reducible assumption); (case ks3 => with_reducible assumption); (case ks1 => walk_at "my sym")) | fail "my sym")
local macro_rules | `(tactic| walk_at "my tab") => `(tactic| first | assumption | (refine' PyProof.Rows.TupTab.cons ?kt _; (case kt => walk_at "my tab")) | (refine' tupTab_keep ?kt1 ?kt0 ?kt2; (case kt0 => assumption); (case kt1 => walk_at "my tab"); (case kt2 => walk_at "my notin")) | fail "my tab")
local macro_rules | `(tactic| walk_at "call builtin:list.append") => `(tactic| (k_here; (with_reducible show wpAny _ _ (call (Value.builtin _) [Value.ref _, _]) _ _ _); k_dflt (refine' append_M ?k1 ?k2 ?k3 ?z ?_; (case k1 => k_asm); (case k2 => k_asm); (case k3 => k_mem); (case z => first | assumption | omega | (simp only [List.length_append, List.length_cons, List.length_nil]; omega)); k_whole); intro h' r' F' N' hin kp; (try k_sweep); walk_say "M APPEND"))
local macro_rules | `(tactic| walk_at "getMethod ref") => `(tactic| (k_here; (with_reducible show wpAny _ _ (getMethod (Value.ref _) "get" _) _ _ _); k_dflt (first | (refine' smeth_M ?k1 ?k2 ?k3 ?k4 ?k5 ?_; (case k1 => k_asm); (case k2 => k_mem); (case k4 => assumption); (case k5 => assumption); (case k3 => assumption); k_whole) | (refine' tmeth_M ?k1 ?k2 ?_; (case k1 => k_asm); (case k2 => walk_at "my tab"); k_whole)); walk_say "M METH"))
local macro_rules | `(tactic| walk_at "call builtin:dict.get") => `(tactic| (k_here; k_dflt (first | (refine' sget_M ?k1 ?k2 ?k3 ?k4 ?k5 ?k6 ?_; (case k1 => k_asm); (case k2 => k_mem); (case k4 => assumption); (case k5 => assumption); (case k3 => assumption); (case k6 => assumption); k_whole) | (refine' tget_M ?k1 ?k2 ?k3 ?k4 ?k5 ?_; (case k2 => k_asm); (case k3 => walk_at "my tab"); (case k4 => k_mem); (case k5 => assumption); (case k1 => walk_at "my units"); k_whole)); intro t'; walk_say "M GET"))
local macro_rules | `(tactic| walk_at "my units") => `(tactic| ((try simp only [units_in1, units_deeper, units_under_make, Around.mark_units]); (try dsimp only [ktrTop]); (try simp only [units_in1, units_deeper, units_under_make, Around.mark_units]); omega))
local macro_rules | `(tactic| walk_at "setItem ref str") => `(tactic| (k_here; k_dflt (refine' sset_M ?F ?N ?m ?d ?f ?z ?_; (case F => k_asm); (case N => k_asm); (case m => k_mem); (case d => assumption); (case f => assumption); (case z => first | assumption | omega); k_whole); intro h' r' o' kvs' F' N' hin hd' hf' kp; (try k_sweep); walk_say "M SET"))
local macro_rules | `(tactic| walk_at "setItem ref ref") => `(tactic| (k_here; k_dflt (refine' tset_M ?u ?F ?N ?T ?m ?z ?_; (case F => k_asm); (case N => k_asm); (case T => walk_at "my tab"); (case m => k_mem); (case z => first | assumption | omega); (case u => walk_at "my units"); k_whole); intro h' r' F' N' hT' kp; (try k_sweep); walk_say "M TSET"))
local macro_rules | `(tactic| walk_at "exec For") => `(tactic| (k_here; (with_reducible show wpAny _ _ (exec (Stmt.For (Expr.Name _ _) _ _ [] _) _) _ _ _); (rename Fr _ _ _ _ => lF'); (with_unfolding_all refine' For_invVF lF' ?k1 ?k2 ?_; (case k1 => exact rfl); (case k2 => exact rfl); k_whole); walk_say "MY FOR"))
local macro_rules | `(tactic| walk_at "exec For Name Name cons nil") => `(tactic| (k_here; (rename Fr _ _ _ _ => lF'); (with_unfolding_all refine' For_invVF lF' ?k1 ?k2 ?_; (case k1 => exact rfl); (case k2 => exact rfl); k_whole); walk_say "MY FOR"))
local macro_rules | `(tactic| walk_at "exec For Name Call cons nil") => `(tactic| (k_here; (rename Fr _ _ _ _ => lF'); (with_unfolding_all refine' For_invVF lF' ?k1 ?k2 ?_; (case k1 => exact rfl); (case k2 => exact rfl); k_whole); walk_say "MY FOR"))
local macro_rules | `(tactic| walk_at "pyIter ref") => `(tactic| (k_here; (with_reducible show wpAny _ _ (pyIter (Value.ref _)) (fun it s₂ => LoopAtV _ _ _ _ _ _ _ _ _ it s₂) _ _); k_dflt (first | (refine' iter_tupU ?h ?F ?N ?m ?_; (case h => with_unfolding_all rfl); (case F => k_asm); (case N => k_asm); (case m => k_mem); k_whole) | (refine' iter_lstU ?h ?F ?N ?m ?_; (case h => with_unfolding_all rfl); (case F => k_asm); (case N => k_asm); (case m => k_mem); k_whole)); intro i' l1; (try (have hoff := SymSt.offNew l1 (by walk_at "my sym"))); (try k_lt l1); walk_say "MY ITER"))
local macro_rules | `(tactic| walk_at "SeqRest") => `(tactic| (with_unfolding_all first | (refine SeqRest.succ (fun it' h' tk' o' f' F' N' => ?_)) | (refine SeqRest.zero (fun h' tk' F' N' => ?_))))
local macro_rules | `(tactic| walk_at "UnrEnd") => `(tactic| (refine' UnrEnd.introM2 ?F ?N ?hI ?hf ?_; (case F => k_asm); (case N => k_asm); (case hI => k_mem); (case hf => assumption); intro q' kq' oq'; refine ⟨by k_mem, ?_⟩; walk_say "MY UNREND"))
local macro_rules | `(tactic| walk_at "find lt") => `(tactic| first | assumption | exact And.right (by assumption) | exact And.right (And.right (by assumption)) | exact And.right (And.right (And.right (by assumption))) | fail "find lt")
local macro_rules | `(tactic| walk_at "newList") => `(tactic| (k_here; k_dflt (refine' newList_K ?k1 ?k2 ?_; (case k1 => k_asm); (case k2 => k_asm); k_whole); intro l' h' F' N' l1; (try (have hoff := SymSt.offNew l1 (by walk_at "my sym"))); (try k_lt l1); (try k_sweep); walk_say "MY NEWLIST"))
local macro_rules | `(tactic| walk_at "my rt") => `(tactic| first | assumption | with_reducible exact RT.int _ _ | with_reducible exact RT.str _ _ | (refine' RT.tup ?rta ?rtb; (case rta => k_mem); (case rtb => walk_at "my rts")) | (refine' RT.sub ?rta (fun _ h => List.mem_cons_of_mem _ h); (case rta => walk_at "my rt")) | (refine' RT.keep ?rta ?rtb; (case rtb => with_reducible assumption); (case rta => walk_at "my rt")) | fail "my rt")
local macro_rules | `(tactic| walk_at "my rts") => `(tactic| first | exact RTs.nil | (refine' RTs.cons ?rsa ?rsb; (case rsa => walk_at "my rt"); (case rsb => walk_at "my rts")) | fail "my rts")
local macro_rules | `(tactic| walk_at "my keep") => `(tactic| first | with_reducible assumption | exact Keep.refl _ _ | (with_reducible refine' Keep.stepCons ?kpa; (case kpa => walk_at "my keep")) | ((with_reducible refine' Keep.trans ?kpa ?kpb); (case kpb => (with_reducible assumption)); (case kpa => walk_at "my keep")) | ((refine' Keep.trans ?kpa (Keep.wide (ds := []) ?kpb (fun _ h => nomatch h))); (case kpb => (with_reducible assumption)); (case kpa => walk_at "my keep")) | ((with_reducible refine' Keep.stepNew ?kpa ?kpb ?kpc); (case kpb => (with_reducible assumption)); (case kpc => walk_at "my off"); (case kpa => walk_at "my keep")) | fail "my keep")
local macro_rules | `(tactic| walk_at "my off") => `(tactic| first | assumption | exact off_lt (by assumption) | (refine' off_sub ?ofa ?ofb; (case ofa => assumption); (case ofb => (intro p hp; repeat (first | exact hp | refine List.mem_cons_of_mem _ ?_)))) | (refine' off_allLt ?ofa; (case ofa => walk_at "find lt")) | fail "my off")
local macro_rules | `(tactic| walk_at "call type:tuple") => `(tactic| (k_here; (with_reducible show wpAny _ _ (call (Value.type _) [Value.ref _]) _ _ _); k_dflt (refine' tuple_M ?k1 ?k2 ?_; (case k1 => k_asm); (case k2 => k_mem); k_whole); walk_say "MY TUPLE"))
local macro_rules | `(tactic| walk_at "callWith ref") => `(tactic| (k_here; k_dflt (refine' callWith_K0 ?k1 ?k2 ?_; (case k1 => k_in); (case k2 => k_is); k_whole); (try dsimp only [List.nil_append, List.cons_append, List.append_nil]); walk_say "MY CW0"))
local macro_rules | `(tactic| walk_at "pyIter ref") => `(tactic| ((with_reducible show wpAny _ _ (pyIter (Value.ref _)) (fun it s₂ => LoopAtV _ _ _ _ _ _ _ _ _ it s₂) _ _); (rename Fr _ _ _ _ => lF'); (rename News _ _ _ _ => lN'); (rename IsRange _ _ _ _ _ _ _ _ => rgX); (with_unfolding_all refine iter_rangeUnr (by rfl) rgX (range_small1 (by omega)) (range_size1 _) lF' lN' ?_); intro i' l1; refine held ?_; walk_say "MY RANGE"))
local macro_rules | `(tactic| walk_at "setItem ref int") => `(tactic| (k_here; k_dflt (refine' lset_M ?F ?N ?m ?z0 ?z1 ?z ?_; (case F => k_asm); (case N => k_asm); (case m => k_mem); (case z0 => first | assumption | omega); (case z1 => walk_at "my len"); (case z => walk_at "my len"); k_whole); intro h' r' F' N' hin kp; (try k_sweep); walk_say "M LSET"))
local macro_rules | `(tactic| walk_at "my len") => `(tactic| first | assumption | omega | (simp only [List.length_append, List.length_cons, List.length_nil, List.length_set]; omega))
local macro_rules | `(tactic| walk_at "ite") => `(tactic| (k_here; first | (refine ite_pos (by (simp only [beq_iff_eq, bne_iff_ne, decide_eq_true_eq, ne_eq, List.length_append, List.length_cons, List.length_nil]; omega)) ?_; walk_say "MY PRUNE2") | (refine ite_neg (by (simp only [beq_iff_eq, bne_iff_ne, decide_eq_true_eq, ne_eq, List.length_append, List.length_cons, List.length_nil]; omega)) ?_; walk_say "MY PRUNE2")))
local macro_rules | `(tactic| walk_at "find lt") => `(tactic| first | with_reducible assumption | exact And.right (by with_reducible assumption) | exact And.right (And.right (by with_reducible assumption)) | exact And.right (And.right (And.right (by with_reducible assumption))) | exact And.right (And.right (And.right (And.right (by with_reducible assumption)))) | exact And.right (And.right (And.right (And.right (And.right (by with_reducible assumption))))) | exact And.right (And.right (And.right (And.right (And.right (And.right (by with_reducible assumption)))))))
local macro_rules | `(tactic| walk_at "my ne0") => `(tactic| first | with_reducible assumption | with_reducible exact Ne.symm (by with_reducible assumption) | exact lt_at (by with_reducible assumption) (by with_reducible assumption) | exact Ne.symm (lt_at (by with_reducible assumption) (by with_reducible assumption)) | exact off_at (by with_reducible assumption) (by with_reducible assumption) | exact Ne.symm (off_at (by with_reducible assumption) (by with_reducible assumption)) | exact allLt_at (by walk_at "find lt") (by with_reducible assumption) | exact Ne.symm (allLt_at (by walk_at "find lt") (by with_reducible assumption)) | k_ne | (exact Ne.symm (by k_ne)) | fail "my ne0")
local macro_rules | `(tactic| walk_at "pyIter ref") => `(tactic| (k_here; (with_reducible show wpAny _ _ (pyIter (Value.ref _)) (fun it s₂ => LoopAtV _ _ _ _ _ _ _ _ _ it s₂) _ _); k_dflt (refine' iter_lstU2 ?h ?F ?N ?m ?_; (case h => with_unfolding_all rfl); (case F => k_asm); (case N => k_asm); (case m => k_mem); k_whole); intro i' l1 lm; (try k_lt l1); walk_say "MY ITER2"))
local macro_rules | `(tactic| walk_at "getItem ref int") => `(tactic| (k_here; (with_unfolding_all refine' getitem_abs ?k1 ?k2 ?k3 ?k4 ?k5 ?_; (case k1 => k_asm); (case k2 => k_mem); (case k3 => first | assumption | exact rfl); (case k4 => first | assumption | decide | omega); (case k5 => first | assumption | (simp only [List.length_append, List.length_cons, List.length_nil]; omega)); k_whole); walk_say "MY GETITEM"))
local macro_rules | `(tactic| walk_at "subscriptTail") => `(tactic| (k_here; (with_reducible show wpAny _ _ (subscriptTail _ _ (Value.ref _) (Value.int _ _)) _ _ _); (with_unfolding_all refine' item_abs ?k1 ?k2 ?k3 ?k4 ?k5 ?_ ?k6; (case k4 => decide); (case k1 => k_asm); (case k2 => k_mem); (case k3 => exact rfl); (case k5 => first | assumption | (simp only [List.length_append, List.length_cons, List.length_nil, List.length_set]; omega)); (case k6 => with_unfolding_all rfl); k_whole); walk_say "LIT ITEM"))
local macro_rules | `(tactic| walk_at "call ref") => `(tactic| (k_here; (with_reducible show wpAny _ _ (call (Value.ref 116) _) _ _ _); k_dflt (refine' name_ok ?B ?F ?X ?N ?T ?hk ?hdp ?hun ?p0 ?p1 ?p2 ?p3 ?p4 ?p5 ?p6 ?_; (case B => k_asm); (case F => k_asm); (case X => k_asm); (case N => k_asm); (case T => k_asm); (case hk => first | exact rfl | k_asm); (case hdp => first | ((try simp only [depth_under_make, depth_under_kw, depth_in1, depth_deeper]); (try dsimp only [ktrTop]); omega) | ktr_room); (case hun => first | ((try simp only [units_in1, units_deeper, units_under_make, Around.mark_units]); (try dsimp only [ktrTop]); omega) | ktr_units); (case p0 => k_mem); (case p1 => k_mem); (case p2 => k_mem); (case p3 => (first | assumption | omega)); (case p4 => assumption); (case p5 => (first | assumption | omega)); (case p6 => k_mem); k_whole); intro h' tk' F' N'; (try k_sweep); walk_say "USE name_ok"))
local macro_rules | `(tactic| walk_at "call ref") => `(tactic| (k_here; (with_reducible show wpAny _ _ (call (Value.ref 123) _) _ _ _); k_dflt (refine' arity_ok ?B ?F ?X ?N ?T ?hk ?hdp ?hun ?p0 ?p1 ?p2 ?p3 ?p4 ?p5 ?p6 ?_; (case B => k_asm); (case F => k_asm); (case X => k_asm); (case N => k_asm); (case T => k_asm); (case hk => first | exact rfl | k_asm); (case hdp => first | ((try simp only [depth_under_make, depth_under_kw, depth_in1, depth_deeper]); (try dsimp only [ktrTop]); omega) | ktr_room); (case hun => first | ((try simp only [units_in1, units_deeper, units_under_make, Around.mark_units]); (try dsimp only [ktrTop]); omega) | ktr_units); (case p0 => k_mem); (case p1 => k_mem); (case p2 => k_mem); (case p3 => (first | assumption | omega)); (case p4 => assumption); (case p5 => (first | assumption | omega)); (case p6 => k_mem); k_whole); intro h' tk' F' N'; (try k_sweep); walk_say "USE arity_ok"))
local macro_rules | `(tactic| walk_at "call ref") => `(tactic| (k_here; (with_reducible show wpAny _ _ (call (Value.ref 95) _) _ _ _); k_dflt (refine' text_ok ?B ?F ?X ?N ?T ?hk ?hdp ?hun ?p0 ?p1 ?p2 ?p3 ?p4 ?p5 ?_; (case B => k_asm); (case F => k_asm); (case X => k_asm); (case N => k_asm); (case T => k_asm); (case hk => first | exact rfl | k_asm); (case hdp => first | ((try simp only [depth_under_make, depth_under_kw, depth_in1, depth_deeper]); (try dsimp only [ktrTop]); omega) | ktr_room); (case hun => first | ((try simp only [units_in1, units_deeper, units_under_make, Around.mark_units]); (try dsimp only [ktrTop]); omega) | ktr_units); (case p0 => k_mem); (case p1 => k_mem); (case p2 => k_mem); (case p3 => (first | assumption | omega)); (case p4 => assumption); (case p5 => (first | assumption | omega)); k_whole); intro h' tk' F' N'; (try k_sweep); walk_say "USE text_ok"))
local macro_rules | `(tactic| walk_at "call ref") => `(tactic| (k_here; (with_reducible show wpAny _ _ (call (Value.ref 258) _) _ _ _); k_dflt (refine' reserve_ok ?B ?F ?X ?N ?T ?hk ?hdp ?hun ?p0 ?p1 ?p2 ?p3 ?p4 ?p5 ?p6 ?_; (case B => k_asm); (case F => k_asm); (case X => k_asm); (case N => k_asm); (case T => k_asm); (case hk => first | exact rfl | k_asm); (case hdp => first | ((try simp only [depth_under_make, depth_under_kw, depth_in1, depth_deeper]); (try dsimp only [ktrTop]); omega) | ktr_room); (case hun => first | ((try simp only [units_in1, units_deeper, units_under_make, Around.mark_units]); (try dsimp only [ktrTop]); omega) | ktr_units); (case p0 => k_mem); (case p1 => k_mem); (case p2 => k_mem); (case p3 => (first | assumption | exact cellsAre_keep (by assumption) (by assumption))); (case p4 => assumption); (case p5 => assumption); (case p6 => (first | assumption | omega)); k_whole); intro h' tk' t' hvs' nh' r' G F' N' hh' hG hln hC' kp'; (try k_sweep); walk_say "USE reserve_ok"))
local macro_rules | `(tactic| walk_at "call ref") => `(tactic| (k_here; (with_reducible show wpAny _ _ (call (Value.ref 363) _) _ _ _); k_dflt (refine' newblock_ok ?B ?F ?X ?N ?T ?hk ?hdp ?hun ?p0 ?p1 ?p2 ?p3 ?p4 ?p5 ?p6 ?p7 ?p8 ?p9 ?p10 ?p11 ?p12 ?p13 ?_; (case B => k_asm); (case F => k_asm); (case X => k_asm); (case N => k_asm); (case T => k_asm); (case hk => first | exact rfl | k_asm); (case hdp => first | ((try simp only [depth_under_make, depth_under_kw, depth_in1, depth_deeper]); (try dsimp only [ktrTop]); omega) | ktr_room); (case hun => first | ((try simp only [units_in1, units_deeper, units_under_make, Around.mark_units]); (try dsimp only [ktrTop]); omega) | ktr_units); (case p0 => k_mem); (case p1 => k_mem); (case p2 => k_mem); (case p3 => (first | assumption | exact cellsAre_keep (by assumption) (ds := []) (by walk_at "my keep"))); (case p4 => assumption); (case p5 => k_mem); (case p6 => k_mem); (case p7 => k_mem); (case p8 => (first | assumption | omega)); (case p9 => assumption); (case p10 => (first | assumption | omega)); (case p11 => (first | assumption | omega)); (case p12 => k_mem); (case p13 => (first | assumption | omega)); k_whole); intro h' tk' x t1 t2 hvs' nh' r' G F' N' hx' hh' hG hln hC' kp'; (try k_sweep); walk_say "USE newblock_ok"))
local macro_rules | `(tactic| walk_at "call ref") => `(tactic| (k_here; (with_reducible show wpAny _ _ (call (Value.ref 300) _) _ _ _); k_dflt (refine' globalise_ok ?B ?F ?X ?N ?T ?hk ?hdp ?hun ?p0 ?p1 ?p2 ?p3 ?p4 ?_; (case B => k_asm); (case F => k_asm); (case X => k_asm); (case N => k_asm); (case T => k_asm); (case hk => first | exact rfl | k_asm); (case hdp => first | ((try simp only [depth_under_make, depth_under_kw, depth_in1, depth_deeper]); (try dsimp only [ktrTop]); omega) | ktr_room); (case hun => first | ((try simp only [units_in1, units_deeper, units_under_make, Around.mark_units]); (try dsimp only [ktrTop]); omega) | ktr_units); (case p0 => k_mem); (case p1 => k_mem); (case p2 => k_mem); (case p3 => (first | assumption | omega)); (case p4 => (first | assumption | omega)); k_whole); intro h' tk' F' N'; (try k_sweep); walk_say "USE globalise_ok"))
local macro_rules | `(tactic| walk_at "call ref") => `(tactic| (k_here; (with_reducible show wpAny _ _ (call (Value.ref 349) _) _ _ _); k_dflt (refine' base_ok ?B ?F ?X ?N ?T ?hk ?hdp ?hun ?p0 ?p1 ?p2 ?p3 ?_; (case B => k_asm); (case F => k_asm); (case X => k_asm); (case N => k_asm); (case T => k_asm); (case hk => first | exact rfl | k_asm); (case hdp => first | ((try simp only [depth_under_make, depth_under_kw, depth_in1, depth_deeper]); (try dsimp only [ktrTop]); omega) | ktr_room); (case hun => first | ((try simp only [units_in1, units_deeper, units_under_make, Around.mark_units]); (try dsimp only [ktrTop]); omega) | ktr_units); (case p0 => k_mem); (case p1 => k_mem); (case p2 => k_mem); (case p3 => (first | assumption | decide | omega)); k_whole); intro h' tk' t' F' N'; (try k_sweep); walk_say "USE base_ok"))
local macro_rules | `(tactic| walk_at "pyIter ref") => `(tactic| ((with_reducible show wpAny _ _ (pyIter (Value.ref _)) (fun it s₂ => LoopAtV _ _ _ _ _ (Str.ofString "value") _ _ _ it s₂) _ _); refine held ?_))
theorem struct1_new {w : World} {p : Program} {loose : List Str} {mean : ExcName → Option Value} {mg mb : Str → Option Value}
  {dp un : Nat} {gd : Option (List Code)} {cn : Str} {cs : Scope} {a : Addr} {ccd : Value} {cl : List (Str × Addr)} {outer : List Env} {A₀ : Around} {base h₀ : Heap} {L : Addr} {m : Str → Option Value} {news : List (Addr × Obj)} {s : Shared} {Q E : Value → Shared → Prop}
  {st sd : Addr} {S : StoreA} {sdn : Nat} {hvs : List Value} {nh : Nat} {H : List (Int × Int)} {f : Int} {tf : Tok} {nd : Addr} {Y : SymA} {ndn : Nat} {fvs : List Value} {nf : Nat} {y : Addr} {fa : Int} {ta tb : Tok} {ny : Nat} {cz : Addr} {nc : Nat} {c1 : Addr} {g1 v1 : Int} {p1 q1 : Tok} {z1 : Nat}
  (B : Below A₀ base outer h₀) (F : Fr h₀ L s.heap m) (X : (hd.heap_39 w.params).In h₀) (N : News h₀ L s.heap news) (T : Top p loose mean mg mb h₀) (hk : cs.kind = .function)
  (hdp : dp + 10 < recursionLimit) (hun : un + 100 < cLine)
  (hi : (st, instObj 423 sd) ∈ news) (hd : (sd, dictOf (storeE S) sdn) ∈ news) (hh : (S.hl, listOf hvs.toArray nh) ∈ news) (hC : CellsAre news hvs H) (hne : S.hl ≠ sd) (hsi : (S.sy, instObj 154 nd) ∈ news) (hsd : (nd, dictOf (symE Y) ndn) ∈ news) (hlf : (Y.lf, listOf fvs.toArray nf) ∈ news) (hfb : fvs.length ≤ 200000) (hx : fvs[f.toNat]? = some (.ref y)) (hf0 : 0 ≤ f) (hf1 : f ≠ 0) (hn1 : S.hl ≠ nd) (hn2 : S.hl ≠ Y.lf) (hy : (y, tup [.int fa ta, .int ((1 : Nat) : Int) tb] ny) ∈ news) (hcl : (cz, listOf #[.ref c1] nc) ∈ news) (hc1 : (c1, tup [.int g1 p1, .int v1 q1] z1) ∈ news) (ha1 : g1 ≠ 0) (hb1 : g1 ≠ 1) (hb : H.length + (1 + 1) ≤ 90000)
  (ret : ∀ h' tk x t1 t2 hvs' nh' r', Fr h₀ L h' m → News h₀ L h' r' → (x, tup [.int 2 t1, .int (H.length : Nat) t2] 0) ∈ r' → (S.hl, listOf hvs'.toArray nh') ∈ r' → CellsAre r' hvs' (H ++ [(6, f), (g1, v1)]) → Keep [S.hl] news r' → Q (.ref x) { s with heap := h', toks := tk }) :
  wpAny (model PySem.Challenge.rw_rh0112_01.row.prog w) (ktrTop dp un gd cn cs L a ccd cl outer) (call (.ref 384) [.ref st, .int f tf, .ref cz]) Q E s := by
  revert X; k_fill; intro X
  have hhl := hC.1
  refine wpAny_call ?_
  k_dflt ktr_enter
  k_steps
  unfold Held
  rename News _ _ _ _ => N1
  rename Fr _ _ _ _ => F1
  rename CellsAre _ _ (H ++ _) => hC2
  rename List.length _ = 1 => hG
  rename (_, tup [Value.int 2 _, Value.int (List.length H : Nat) _] 0) ∈ _ => hx2
  rename (S.hl, _) ∈ _ => hh2
  have hi' := mem_in N1 (show (st, instObj 423 sd) ∈ _ by k_mem)
  have hd' := mem_in N1 (show (sd, dictOf (storeE S) sdn) ∈ _ by k_mem)
  k_dflt (refine' iter_lstU2 ?h ?F ?N ?m ?_; (case h => with_unfolding_all rfl); (case F => k_asm); (case N => k_asm); (case m => k_mem); k_whole)
  intro I l1 lm
  have kAll := keep_in (ds := [S.hl]) (r := news) N1 (by walk_at "my keep")
  k_steps
  rename News _ _ _ _ => nE
  rename (S.hl, _) ∈ _ => hin
  rename Keep [I] _ _ => kqE
  have hin := kqE.ne _ _ hin (by simpa using lt_at l1 hh2)
  have kR := keepC (ds := [S.hl]) hC2 nE (by walk_at "my keep")
  have hCE := cellsAre_keep hC2 kR
  have kE := kAll.trans kR
  exact ret _ _ _ _ _ _ _ _ (by k_asm) nE (kR.cl _ _ hx2 .tup) hin (struct1_cells nE hCE hG (CellAt.of (kE.cl _ _ hc1 .tup))) kE

end Mine
namespace Mine
local macro_rules | `(tactic| walk_at "filler") => `(tactic| fail "filler")
local macro_rules | `(tactic| walk_at "exec While") => `(tactic| (k_here; k_dflt (refine whl_start 1 ?_)))
local macro_rules | `(tactic| walk_at "ite") => `(tactic| (k_here; first | (refine ite_pos (by first | with_reducible assumption | (simp only [beq_iff_eq, bne_iff_ne, decide_eq_true_eq, ne_eq]; omega)) ?_; walk_say "MY PRUNE") | (refine ite_neg (by first | with_reducible assumption | (simp only [beq_iff_eq, bne_iff_ne, decide_eq_true_eq, ne_eq]; omega)) ?_; walk_say "MY PRUNE")))
local macro_rules | `(tactic| walk_at "subscriptTail") => `(tactic| (k_here; (with_reducible show wpAny _ _ (subscriptTail _ _ (Value.ref _) (Value.int _ _)) _ _ _); (with_unfolding_all refine' item_abs ?k1 ?k2 ?k3 ?k4 ?k5 ?_ ?k6; (case k1 => k_asm); (case k2 => k_mem); (case k3 => assumption); (case k4 => first | assumption | omega); (case k5 => assumption); (case k6 => with_unfolding_all rfl); k_whole); walk_say "MY ITEM"))
local macro_rules | `(tactic| walk_at "compareOp In str ref") => `(tactic| (k_here; k_dflt (refine' in_tupK ?F ?X ?l ?w ?b ?_; (case F => k_asm); (case X => k_asm); (case l => k_is); (case w => kde_strs); (case b => exact rfl); k_whole); walk_say "MY IN"))
local macro_rules | `(tactic| walk_at "call builtin:list.append") => `(tactic| (k_here; (with_reducible show wpAny _ _ (call (Value.builtin _) [Value.ref _, _]) _ _ _); k_dflt (refine' append_L ?k1 ?k2 ?k3 ?z ?_; (case k1 => k_asm); (case k2 => k_asm); (case k3 => k_upd); (case z => first | assumption | omega | (simp only [List.length_append, List.length_cons, List.length_nil]; omega)); k_whole); intro h' F' N'; (try k_sweep); walk_say "MY APPEND"))
local macro_rules | `(tactic| walk_at "call builtin:list.pop") => `(tactic| (k_here; (with_reducible show wpAny _ _ (call (Value.builtin _) [Value.ref _]) _ _ _); k_dflt (refine' pop_L ?k1 ?k2 ?k3 ?z ?_; (case k1 => k_asm); (case k2 => k_asm); (case k3 => k_upd); (case z => first | assumption | omega | (simp only [List.length_append, List.length_cons, List.length_nil]; omega)); k_whole); intro h' F' N'; (try k_sweep); walk_say "MY POP"))
local macro_rules | `(tactic| k_all) => `(tactic| assumption)
local macro_rules | `(tactic| k_mem) => `(tactic| first | with_reducible exact List.Mem.head _ | assumption | (refine' List.Mem.tail _ ?_; k_mem))
local macro_rules | `(tactic| walk_at "truthy ref") => `(tactic| (k_here; (with_reducible show wpAny _ _ (truthy (Value.ref _)) _ _ _); k_dflt (refine' truthy_L ?k1 ?k2 ?k3 ?k4 ?_; (case k1 => k_asm); (case k2 => k_mem); (case k3 => first | assumption | (simp only [List.length_append, List.length_cons, List.length_nil]; omega)); (case k4 => first | exact some_true _ _ | exact none_false); k_whole); walk_say "MY TRUTH"))
local macro_rules | `(tactic| walk_at "call builtin:len") => `(tactic| (k_here; (with_reducible show wpAny _ _ (call (Value.builtin "len") [Value.ref _]) _ _ _); k_dflt (refine' len_L ?k1 ?k2 ?k3 ?_; (case k1 => k_asm); (case k2 => k_mem); (case k3 => first | assumption | (simp only [List.length_append, List.length_cons, List.length_nil]; omega)); k_whole); walk_say "MY LEN"))
local macro_rules | `(tactic| k_mem) => `(tactic| first | with_reducible exact List.mem_cons_self | with_reducible assumption | exact List.Mem.head _ | with_reducible exact SymSt.i (by with_reducible assumption) | with_reducible exact SymSt.d (by with_reducible assumption) | ((with_reducible refine' Keep.any ?kmk _ _ ?kma ?kmb); (case kmk => (with_reducible assumption)); (case kma => k_mem); (case kmb => first | exact .inl (.inl rfl) | exact .inl (.inr ⟨_, rfl⟩) | (refine Or.inr ?_; walk_at "my notin"))) | ((with_reducible refine' List.mem_cons_of_mem _ ?_); k_mem) | assumption | fail "my mem")
local macro_rules | `(tactic| walk_at "my ne0") => `(tactic| first | with_reducible assumption | with_reducible exact Ne.symm (by with_reducible assumption) | k_ne | (exact Ne.symm (by k_ne)) | exact lt_at (by with_reducible assumption) (by with_reducible assumption) | exact Ne.symm (lt_at (by with_reducible assumption) (by with_reducible assumption)) | exact off_at (by with_reducible assumption) (by with_reducible assumption) | exact Ne.symm (off_at (by with_reducible assumption) (by with_reducible assumption)) | fail "my ne0")
local macro_rules | `(tactic| walk_at "my notin") => `(tactic| first | with_reducible assumption | with_reducible exact OffS.sym (by with_reducible assumption) | with_reducible exact OffS.nd (by with_reducible assumption) | (simp only [List.mem_cons, List.not_mem_nil, or_false, not_or]; (repeat' (refine And.intro ?_ ?_)) <;> walk_at "my ne0"))
local macro_rules | `(tactic| walk_at "my sym") => `(tactic| first | with_reducible assumption | (refine' SymSt.keep ?ks1 (.cons [] _ _) (by simp); (case ks1 => walk_at "my sym")) | (refine' SymSt.keep (ds := []) ?ks1 ?ks2 (fun _ _ => List.not_mem_nil); (case ks2 => with_reducible assumption); (case ks1 => walk_at "my sym")) | (refine' SymSt.keepO ?ks1 ?ks2 ?ks3; (case ks2 => with_reducible assumption); (case ks3 => with_reducible assumption); (case ks1 => walk_at "my sym")) | fail "my sym")
local macro_rules | `(tactic| walk_at "my tab") => `(tactic| first | assumption | (refine' PyProof.Rows.TupTab.cons ?kt _; (case kt => walk_at "my tab")) | (refine' tupTab_keep ?kt1 ?kt0 ?kt2; (case kt0 => assumption); (case kt1 => walk_at "my tab"); (case kt2 => walk_at "my notin")) | fail "my tab")
local macro_rules | `(tactic| walk_at "call builtin:list.append") => `(tactic| (k_here; (with_reducible show wpAny _ _ (call (Value.builtin _) [Value.ref _, _]) _ _ _); k_dflt (refine' append_M ?k1 ?k2 ?k3 ?z ?_; (case k1 => k_asm); (case k2 => k_asm); (case k3 => k_mem); (case z => first | assumption | omega | (simp only [List.length_append, List.length_cons, List.length_nil]; omega)); k_whole); intro h' r' F' N' hin kp; (try k_sweep); walk_say "M APPEND"))
local macro_rules | `(tactic| walk_at "getMethod ref") => `(tactic| (k_here; (with_reducible show wpAny _ _ (getMethod (Value.ref _) "get" _) _ _ _); k_dflt (first | (refine' smeth_M ?k1 ?k2 ?k3 ?k4 ?k5 ?_; (case k1 => k_asm); (case k2 => k_mem); (case k4 => assumption); (case k5 => assumption); (case k3 => assumption); k_whole) | (refine' tmeth_M ?k1 ?k2 ?_; (case k1 => k_asm); (case k2 => walk_at "my tab"); k_whole)); walk_say "M METH"))
local macro_rules | `(tactic| walk_at "call builtin:dict.get") => `(tactic| (k_here; k_dflt (first | (refine' sget_M ?k1 ?k2 ?k3 ?k4 ?k5 ?k6 ?_; (case k1 => k_asm); (case k2 => k_mem); (case k4 => assumption); (case k5 => assumption); (case k3 => assumption); (case k6 => assumption); k_whole) | (refine' tget_M ?k1 ?k2 ?k3 ?k4 ?k5 ?_; (case k2 => k_asm); (case k3 => walk_at "my tab"); (case k4 => k_mem); (case k5 => assumption); (case k1 => walk_at "my units"); k_whole)); intro t'; walk_say "M GET"))
local macro_rules | `(tactic| walk_at "my units") => `(tactic| ((try simp only [units_in1, units_deeper, units_under_make, Around.mark_units]); (try dsimp only [ktrTop]); (try simp only [units_in1, units_deeper, units_under_make, Around.mark_units]); omega))
local macro_rules | `(tactic| walk_at "setItem ref str") => `(tactic| (k_here; k_dflt (refine' sset_M ?F ?N ?m ?d ?f ?z ?_; (case F => k_asm); (case N => k_asm); (case m => k_mem); (case d => assumption); (case f => assumption); (case z => first | assumption | omega); k_whole); intro h' r' o' kvs' F' N' hin hd' hf' kp; (try k_sweep); walk_say "M SET"))
local macro_rules | `(tactic| walk_at "setItem ref ref") => `(tactic| (k_here; k_dflt (refine' tset_M ?u ?F ?N ?T ?m ?z ?_; (case F => k_asm); (case N => k_asm); (case T => walk_at "my tab"); (case m => k_mem); (case z => first | assumption | omega); (case u => walk_at "my units"); k_whole); intro h' r' F' N' hT' kp; (try k_sweep); walk_say "M TSET"))
local macro_rules | `(tactic| walk_at "exec For") => `(tactic| (k_here; (with_reducible show wpAny _ _ (exec (Stmt.For (Expr.Name _ _) _ _ [] _) _) _ _ _); (rename Fr _ _ _ _ => lF'); (with_unfolding_all refine' For_invVF lF' ?k1 ?k2 ?_; (case k1 => exact rfl); (case k2 => exact rfl); k_whole); walk_say "MY FOR"))
local macro_rules | `(tactic| walk_at "exec For Name Name cons nil") => `(tactic| (k_here; (rename Fr _ _ _ _ => lF'); (with_unfolding_all refine' For_invVF lF' ?k1 ?k2 ?_; (case k1 => exact rfl); (case k2 => exact rfl); k_whole); walk_say "MY FOR"))
local macro_rules | `(tactic| walk_at "exec For Name Call cons nil") => `(tactic| (k_here; (rename Fr _ _ _ _ => lF'); (with_unfolding_all refine' For_invVF lF' ?k1 ?k2 ?_; (case k1 => exact rfl); (case k2 => exact rfl); k_whole); walk_say "MY FOR"))
local macro_rules | `(tactic| walk_at "pyIter ref") => `(tactic| (k_here; (with_reducible show wpAny _ _ (pyIter (Value.ref _)) (fun it s₂ => LoopAtV _ _ _ _ _ _ _ _ _ it s₂) _ _); k_dflt (first | (refine' iter_tupU ?h ?F ?N ?m ?_; (case h => with_unfolding_all rfl); (case F => k_asm); (case N => k_asm); (case m => k_mem); k_whole) | (refine' iter_lstU ?h ?F ?N ?m ?_; (case h => with_unfolding_all rfl); (case F => k_asm); (case N => k_asm); (case m => k_mem); k_whole)); intro i' l1; (try (have hoff := SymSt.offNew l1 (by walk_at "my sym"))); (try k_lt l1); walk_say "MY ITER"))
local macro_rules | `(tactic| walk_at "SeqRest") => `(tactic| (with_unfolding_all first | (refine SeqRest.succ (fun it' h' tk' o' f' F' N' => ?_)) | (refine SeqRest.zero (fun h' tk' F' N' => ?_))))
local macro_rules | `(tactic| walk_at "UnrEnd") => `(tactic| (refine' UnrEnd.introM2 ?F ?N ?hI ?hf ?_; (case F => k_asm); (case N => k_asm); (case hI => k_mem); (case hf => assumption); intro q' kq' oq'; refine ⟨by k_mem, ?_⟩; walk_say "MY UNREND"))
local macro_rules | `(tactic| walk_at "find lt") => `(tactic| first | assumption | exact And.right (by assumption) | exact And.right (And.right (by assumption)) | exact And.right (And.right (And.right (by assumption))) | fail "find lt")
local macro_rules | `(tactic| walk_at "newList") => `(tactic| (k_here; k_dflt (refine' newList_K ?k1 ?k2 ?_; (case k1 => k_asm); (case k2 => k_asm); k_whole); intro l' h' F' N' l1; (try (have hoff := SymSt.offNew l1 (by walk_at "my sym"))); (try k_lt l1); (try k_sweep); walk_say "MY NEWLIST"))
local macro_rules | `(tactic| walk_at "my rt") => `(tactic| first | assumption | with_reducible exact RT.int _ _ | with_reducible exact RT.str _ _ | (refine' RT.tup ?rta ?rtb; (case rta => k_mem); (case rtb => walk_at "my rts")) | (refine' RT.sub ?rta (fun _ h => List.mem_cons_of_mem _ h); (case rta => walk_at "my rt")) | (refine' RT.keep ?rta ?rtb; (case rtb => with_reducible assumption); (case rta => walk_at "my rt")) | fail "my rt")
local macro_rules | `(tactic| walk_at "my rts") => `(tactic| first | exact RTs.nil | (refine' RTs.cons ?rsa ?rsb; (case rsa => walk_at "my rt"); (case rsb => walk_at "my rts")) | fail "my rts")
local macro_rules | `(tactic| walk_at "my keep") => `(tactic| first | with_reducible assumption | exact Keep.refl _ _ | (with_reducible refine' Keep.stepCons ?kpa; (case kpa => walk_at "my keep")) | ((with_reducible refine' Keep.trans ?kpa ?kpb); (case kpb => (with_reducible assumption)); (case kpa => walk_at "my keep")) | ((refine' Keep.trans ?kpa (Keep.wide (ds := []) ?kpb (fun _ h => nomatch h))); (case kpb => (with_reducible assumption)); (case kpa => walk_at "my keep")) | ((with_reducible refine' Keep.stepNew ?kpa ?kpb ?kpc); (case kpb => (with_reducible assumption)); (case kpc => walk_at "my off"); (case kpa => walk_at "my keep")) | fail "my keep")
local macro_rules | `(tactic| walk_at "my off") => `(tactic| first | assumption | exact off_lt (by assumption) | (refine' off_sub ?ofa ?ofb; (case ofa => assumption); (case ofb => (intro p hp; repeat (first | exact hp | refine List.mem_cons_of_mem _ ?_)))) | (refine' off_allLt ?ofa; (case ofa => walk_at "find lt")) | fail "my off")
local macro_rules | `(tactic| walk_at "call type:tuple") => `(tactic| (k_here; (with_reducible show wpAny _ _ (call (Value.type _) [Value.ref _]) _ _ _); k_dflt (refine' tuple_M ?k1 ?k2 ?_; (case k1 => k_asm); (case k2 => k_mem); k_whole); walk_say "MY TUPLE"))
local macro_rules | `(tactic| walk_at "callWith ref") => `(tactic| (k_here; k_dflt (refine' callWith_K0 ?k1 ?k2 ?_; (case k1 => k_in); (case k2 => k_is); k_whole); (try dsimp only [List.nil_append, List.cons_append, List.append_nil]); walk_say "MY CW0"))
local macro_rules | `(tactic| walk_at "pyIter ref") => `(tactic| ((with_reducible show wpAny _ _ (pyIter (Value.ref _)) (fun it s₂ => LoopAtV _ _ _ _ _ _ _ _ _ it s₂) _ _); (rename Fr _ _ _ _ => lF'); (rename News _ _ _ _ => lN'); (rename IsRange _ _ _ _ _ _ _ _ => rgX); (with_unfolding_all refine iter_rangeUnr (by rfl) rgX (range_small1 (by omega)) (range_size1 _) lF' lN' ?_); intro i' l1; refine held ?_; walk_say "MY RANGE"))
local macro_rules | `(tactic| walk_at "setItem ref int") => `(tactic| (k_here; k_dflt (refine' lset_M ?F ?N ?m ?z0 ?z1 ?z ?_; (case F => k_asm); (case N => k_asm); (case m => k_mem); (case z0 => first | assumption | omega); (case z1 => walk_at "my len"); (case z => walk_at "my len"); k_whole); intro h' r' F' N' hin kp; (try k_sweep); walk_say "M LSET"))
local macro_rules | `(tactic| walk_at "my len") => `(tactic| first | assumption | omega | (simp only [List.length_append, List.length_cons, List.length_nil, List.length_set]; omega))
local macro_rules | `(tactic| walk_at "ite") => `(tactic| (k_here; first | (refine ite_pos (by (simp only [beq_iff_eq, bne_iff_ne, decide_eq_true_eq, ne_eq, List.length_append, List.length_cons, List.length_nil]; omega)) ?_; walk_say "MY PRUNE2") | (refine ite_neg (by (simp only [beq_iff_eq, bne_iff_ne, decide_eq_true_eq, ne_eq, List.length_append, List.length_cons, List.length_nil]; omega)) ?_; walk_say "MY PRUNE2")))
local macro_rules | `(tactic| walk_at "find lt") => `(tactic| first | with_reducible assumption | exact And.right (by with_reducible assumption) | exact And.right (And.right (by with_reducible assumption)) | exact And.right (And.right (And.right (by with_reducible assumption))) | exact And.right (And.right (And.right (And.right (by with_reducible assumption)))) | exact And.right (And.right (And.right (And.right (And.right (by with_reducible assumption))))) | exact And.right (And.right (And.right (And.right (And.right (And.right (by with_reducible assumption)))))))
local macro_rules | `(tactic| walk_at "my ne0") => `(tactic| first | with_reducible assumption | with_reducible exact Ne.symm (by with_reducible assumption) | exact lt_at (by with_reducible assumption) (by with_reducible assumption) | exact Ne.symm (lt_at (by with_reducible assumption) (by with_reducible assumption)) | exact off_at (by with_reducible assumption) (by with_reducible assumption) | exact Ne.symm (off_at (by with_reducible assumption) (by with_reducible assumption)) | exact allLt_at (by walk_at "find lt") (by with_reducible assumption) | exact Ne.symm (allLt_at (by walk_at "find lt") (by with_reducible assumption)) | k_ne | (exact Ne.symm (by k_ne)) | fail "my ne0")
local macro_rules | `(tactic| walk_at "pyIter ref") => `(tactic| (k_here; (with_reducible show wpAny _ _ (pyIter (Value.ref _)) (fun it s₂ => LoopAtV _ _ _ _ _ _ _ _ _ it s₂) _ _); k_dflt (refine' iter_lstU2 ?h ?F ?N ?m ?_; (case h => with_unfolding_all rfl); (case F => k_asm); (case N => k_asm); (case m => k_mem); k_whole); intro i' l1 lm; (try k_lt l1); walk_say "MY ITER2"))
local macro_rules | `(tactic| walk_at "getItem ref int") => `(tactic| (k_here; (with_unfolding_all refine' getitem_abs ?k1 ?k2 ?k3 ?k4 ?k5 ?_; (case k1 => k_asm); (case k2 => k_mem); (case k3 => first | assumption | exact rfl); (case k4 => first | assumption | decide | omega); (case k5 => first | assumption | (simp only [List.length_append, List.length_cons, List.length_nil]; omega)); k_whole); walk_say "MY GETITEM"))
local macro_rules | `(tactic| walk_at "subscriptTail") => `(tactic| (k_here; (with_reducible show wpAny _ _ (subscriptTail _ _ (Value.ref _) (Value.int _ _)) _ _ _); (with_unfolding_all refine' item_abs ?k1 ?k2 ?k3 ?k4 ?k5 ?_ ?k6; (case k4 => decide); (case k1 => k_asm); (case k2 => k_mem); (case k3 => exact rfl); (case k5 => first | assumption | (simp only [List.length_append, List.length_cons, List.length_nil, List.length_set]; omega)); (case k6 => with_unfolding_all rfl); k_whole); walk_say "LIT ITEM"))
local macro_rules | `(tactic| walk_at "call ref") => `(tactic| (k_here; (with_reducible show wpAny _ _ (call (Value.ref 116) _) _ _ _); k_dflt (refine' name_ok ?B ?F ?X ?N ?T ?hk ?hdp ?hun ?p0 ?p1 ?p2 ?p3 ?p4 ?p5 ?p6 ?_; (case B => k_asm); (case F => k_asm); (case X => k_asm); (case N => k_asm); (case T => k_asm); (case hk => first | exact rfl | k_asm); (case hdp => first | ((try simp only [depth_under_make, depth_under_kw, depth_in1, depth_deeper]); (try dsimp only [ktrTop]); omega) | ktr_room); (case hun => first | ((try simp only [units_in1, units_deeper, units_under_make, Around.mark_units]); (try dsimp only [ktrTop]); omega) | ktr_units); (case p0 => k_mem); (case p1 => k_mem); (case p2 => k_mem); (case p3 => (first | assumption | omega)); (case p4 => assumption); (case p5 => (first | assumption | omega)); (case p6 => k_mem); k_whole); intro h' tk' F' N'; (try k_sweep); walk_say "USE name_ok"))
local macro_rules | `(tactic| walk_at "call ref") => `(tactic| (k_here; (with_reducible show wpAny _ _ (call (Value.ref 123) _) _ _ _); k_dflt (refine' arity_ok ?B ?F ?X ?N ?T ?hk ?hdp ?hun ?p0 ?p1 ?p2 ?p3 ?p4 ?p5 ?p6 ?_; (case B => k_asm); (case F => k_asm); (case X => k_asm); (case N => k_asm); (case T => k_asm); (case hk => first | exact rfl | k_asm); (case hdp => first | ((try simp only [depth_under_make, depth_under_kw, depth_in1, depth_deeper]); (try dsimp only [ktrTop]); omega) | ktr_room); (case hun => first | ((try simp only [units_in1, units_deeper, units_under_make, Around.mark_units]); (try dsimp only [ktrTop]); omega) | ktr_units); (case p0 => k_mem); (case p1 => k_mem); (case p2 => k_mem); (case p3 => (first | assumption | omega)); (case p4 => assumption); (case p5 => (first | assumption | omega)); (case p6 => k_mem); k_whole); intro h' tk' F' N'; (try k_sweep); walk_say "USE arity_ok"))
local macro_rules | `(tactic| walk_at "call ref") => `(tactic| (k_here; (with_reducible show wpAny _ _ (call (Value.ref 95) _) _ _ _); k_dflt (refine' text_ok ?B ?F ?X ?N ?T ?hk ?hdp ?hun ?p0 ?p1 ?p2 ?p3 ?p4 ?p5 ?_; (case B => k_asm); (case F => k_asm); (case X => k_asm); (case N => k_asm); (case T => k_asm); (case hk => first | exact rfl | k_asm); (case hdp => first | ((try simp only [depth_under_make, depth_under_kw, depth_in1, depth_deeper]); (try dsimp only [ktrTop]); omega) | ktr_room); (case hun => first | ((try simp only [units_in1, units_deeper, units_under_make, Around.mark_units]); (try dsimp only [ktrTop]); omega) | ktr_units); (case p0 => k_mem); (case p1 => k_mem); (case p2 => k_mem); (case p3 => (first | assumption | omega)); (case p4 => assumption); (case p5 => (first | assumption | omega)); k_whole); intro h' tk' F' N'; (try k_sweep); walk_say "USE text_ok"))
local macro_rules | `(tactic| walk_at "call ref") => `(tactic| (k_here; (with_reducible show wpAny _ _ (call (Value.ref 258) _) _ _ _); k_dflt (refine' reserve_ok ?B ?F ?X ?N ?T ?hk ?hdp ?hun ?p0 ?p1 ?p2 ?p3 ?p4 ?p5 ?p6 ?_; (case B => k_asm); (case F => k_asm); (case X => k_asm); (case N => k_asm); (case T => k_asm); (case hk => first | exact rfl | k_asm); (case hdp => first | ((try simp only [depth_under_make, depth_under_kw, depth_in1, depth_deeper]); (try dsimp only [ktrTop]); omega) | ktr_room); (case hun => first | ((try simp only [units_in1, units_deeper, units_under_make, Around.mark_units]); (try dsimp only [ktrTop]); omega) | ktr_units); (case p0 => k_mem); (case p1 => k_mem); (case p2 => k_mem); (case p3 => (first | assumption | exact cellsAre_keep (by assumption) (by assumption))); (case p4 => assumption); (case p5 => assumption); (case p6 => (first | assumption | omega)); k_whole); intro h' tk' t' hvs' nh' r' G F' N' hh' hG hln hC' kp'; (try k_sweep); walk_say "USE reserve_ok"))
local macro_rules | `(tactic| walk_at "call ref") => `(tactic| (k_here; (with_reducible show wpAny _ _ (call (Value.ref 363) _) _ _ _); k_dflt (refine' newblock_ok ?B ?F ?X ?N ?T ?hk ?hdp ?hun ?p0 ?p1 ?p2 ?p3 ?p4 ?p5 ?p6 ?p7 ?p8 ?p9 ?p10 ?p11 ?p12 ?p13 ?_; (case B => k_asm); (case F => k_asm); (case X => k_asm); (case N => k_asm); (case T => k_asm); (case hk => first | exact rfl | k_asm); (case hdp => first | ((try simp only [depth_under_make, depth_under_kw, depth_in1, depth_deeper]); (try dsimp only [ktrTop]); omega) | ktr_room); (case hun => first | ((try simp only [units_in1, units_deeper, units_under_make, Around.mark_units]); (try dsimp only [ktrTop]); omega) | ktr_units); (case p0 => k_mem); (case p1 => k_mem); (case p2 => k_mem); (case p3 => (first | assumption | exact cellsAre_keep (by assumption) (ds := []) (by walk_at "my keep"))); (case p4 => assumption); (case p5 => k_mem); (case p6 => k_mem); (case p7 => k_mem); (case p8 => (first | assumption | omega)); (case p9 => assumption); (case p10 => (first | assumption | omega)); (case p11 => (first | assumption | omega)); (case p12 => k_mem); (case p13 => (first | assumption | omega)); k_whole); intro h' tk' x t1 t2 hvs' nh' r' G F' N' hx' hh' hG hln hC' kp'; (try k_sweep); walk_say "USE newblock_ok"))
local macro_rules | `(tactic| walk_at "call ref") => `(tactic| (k_here; (with_reducible show wpAny _ _ (call (Value.ref 300) _) _ _ _); k_dflt (refine' globalise_ok ?B ?F ?X ?N ?T ?hk ?hdp ?hun ?p0 ?p1 ?p2 ?p3 ?p4 ?_; (case B => k_asm); (case F => k_asm); (case X => k_asm); (case N => k_asm); (case T => k_asm); (case hk => first | exact rfl | k_asm); (case hdp => first | ((try simp only [depth_under_make, depth_under_kw, depth_in1, depth_deeper]); (try dsimp only [ktrTop]); omega) | ktr_room); (case hun => first | ((try simp only [units_in1, units_deeper, units_under_make, Around.mark_units]); (try dsimp only [ktrTop]); omega) | ktr_units); (case p0 => k_mem); (case p1 => k_mem); (case p2 => k_mem); (case p3 => (first | assumption | omega)); (case p4 => (first | assumption | omega)); k_whole); intro h' tk' F' N'; (try k_sweep); walk_say "USE globalise_ok"))
local macro_rules | `(tactic| walk_at "call ref") => `(tactic| (k_here; (with_reducible show wpAny _ _ (call (Value.ref 349) _) _ _ _); k_dflt (refine' base_ok ?B ?F ?X ?N ?T ?hk ?hdp ?hun ?p0 ?p1 ?p2 ?p3 ?_; (case B => k_asm); (case F => k_asm); (case X => k_asm); (case N => k_asm); (case T => k_asm); (case hk => first | exact rfl | k_asm); (case hdp => first | ((try simp only [depth_under_make, depth_under_kw, depth_in1, depth_deeper]); (try dsimp only [ktrTop]); omega) | ktr_room); (case hun => first | ((try simp only [units_in1, units_deeper, units_under_make, Around.mark_units]); (try dsimp only [ktrTop]); omega) | ktr_units); (case p0 => k_mem); (case p1 => k_mem); (case p2 => k_mem); (case p3 => (first | assumption | decide | omega)); k_whole); intro h' tk' t' F' N'; (try k_sweep); walk_say "USE base_ok"))
local macro_rules | `(tactic| walk_at "pyIter ref") => `(tactic| ((with_reducible show wpAny _ _ (pyIter (Value.ref _)) (fun it s₂ => LoopAtV _ _ _ _ _ (Str.ofString "value") _ _ _ it s₂) _ _); refine held ?_))
theorem struct2_new {w : World} {p : Program} {loose : List Str} {mean : ExcName → Option Value} {mg mb : Str → Option Value}
  {dp un : Nat} {gd : Option (List Code)} {cn : Str} {cs : Scope} {a : Addr} {ccd : Value} {cl : List (Str × Addr)} {outer : List Env} {A₀ : Around} {base h₀ : Heap} {L : Addr} {m : Str → Option Value} {news : List (Addr × Obj)} {s : Shared} {Q E : Value → Shared → Prop}
  {st sd : Addr} {S : StoreA} {sdn : Nat} {hvs : List Value} {nh : Nat} {H : List (Int × Int)} {f : Int} {tf : Tok} {nd : Addr} {Y : SymA} {ndn : Nat} {fvs : List Value} {nf : Nat} {y : Addr} {fa : Int} {ta tb : Tok} {ny : Nat} {cz : Addr} {nc : Nat} {c1 : Addr} {g1 v1 : Int} {p1 q1 : Tok} {z1 : Nat} {c2 : Addr} {g2 v2 : Int} {p2 q2 : Tok} {z2 : Nat}
  (B : Below A₀ base outer h₀) (F : Fr h₀ L s.heap m) (X : (hd.heap_39 w.params).In h₀) (N : News h₀ L s.heap news) (T : Top p loose mean mg mb h₀) (hk : cs.kind = .function)
  (hdp : dp + 10 < recursionLimit) (hun : un + 100 < cLine)
  (hi : (st, instObj 423 sd) ∈ news) (hd : (sd, dictOf (storeE S) sdn) ∈ news) (hh : (S.hl, listOf hvs.toArray nh) ∈ news) (hC : CellsAre news hvs H) (hne : S.hl ≠ sd) (hsi : (S.sy, instObj 154 nd) ∈ news) (hsd : (nd, dictOf (symE Y) ndn) ∈ news) (hlf : (Y.lf, listOf fvs.toArray nf) ∈ news) (hfb : fvs.length ≤ 200000) (hx : fvs[f.toNat]? = some (.ref y)) (hf0 : 0 ≤ f) (hf1 : f ≠ 0) (hn1 : S.hl ≠ nd) (hn2 : S.hl ≠ Y.lf) (hy : (y, tup [.int fa ta, .int ((2 : Nat) : Int) tb] ny) ∈ news) (hcl : (cz, listOf #[.ref c1, .ref c2] nc) ∈ news) (hc1 : (c1, tup [.int g1 p1, .int v1 q1] z1) ∈ news) (ha1 : g1 ≠ 0) (hb1 : g1 ≠ 1) (hc2 : (c2, tup [.int g2 p2, .int v2 q2] z2) ∈ news) (ha2 : g2 ≠ 0) (hb2 : g2 ≠ 1) (hb : H.length + (1 + 2) ≤ 90000)
  (ret : ∀ h' tk x t1 t2 hvs' nh' r', Fr h₀ L h' m → News h₀ L h' r' → (x, tup [.int 2 t1, .int (H.length : Nat) t2] 0) ∈ r' → (S.hl, listOf hvs'.toArray nh') ∈ r' → CellsAre r' hvs' (H ++ [(6, f), (g1, v1), (g2, v2)]) → Keep [S.hl] news r' → Q (.ref x) { s with heap := h', toks := tk }) :
  wpAny (model PySem.Challenge.rw_rh0112_01.row.prog w) (ktrTop dp un gd cn cs L a ccd cl outer) (call (.ref 384) [.ref st, .int f tf, .ref cz]) Q E s := by
  revert X; k_fill; intro X
  have hhl := hC.1
  refine wpAny_call ?_
  k_dflt ktr_enter
  k_steps
  unfold Held
  rename News _ _ _ _ => N1
  rename Fr _ _ _ _ => F1
  rename CellsAre _ _ (H ++ _) => hC2
  rename List.length _ = 2 => hG
  rename (_, tup [Value.int 2 _, Value.int (List.length H : Nat) _] 0) ∈ _ => hx2
  rename (S.hl, _) ∈ _ => hh2
  have hi' := mem_in N1 (show (st, instObj 423 sd) ∈ _ by k_mem)
  have hd' := mem_in N1 (show (sd, dictOf (storeE S) sdn) ∈ _ by k_mem)
  k_dflt (refine' iter_lstU2 ?h ?F ?N ?m ?_; (case h => with_unfolding_all rfl); (case F => k_asm); (case N => k_asm); (case m => k_mem); k_whole)
  intro I l1 lm
  have kAll := keep_in (ds := [S.hl]) (r := news) N1 (by walk_at "my keep")
  k_steps
  rename News _ _ _ _ => nE
  rename (S.hl, _) ∈ _ => hin
  rename Keep [I] _ _ => kqE
  have hin := kqE.ne _ _ hin (by simpa using lt_at l1 hh2)
  have kR := keepC (ds := [S.hl]) hC2 nE (by walk_at "my keep")
  have hCE := cellsAre_keep hC2 kR
  have kE := kAll.trans kR
  exact ret _ _ _ _ _ _ _ _ (by k_asm) nE (kR.cl _ _ hx2 .tup) hin (struct2_cells nE hCE hG (CellAt.of (kE.cl _ _ hc1 .tup)) (CellAt.of (kE.cl _ _ hc2 .tup))) kE

end Mine
namespace Mine
local macro_rules | `(tactic| walk_at "exec While") => `(tactic| (k_here; k_dflt (refine whl_start 1 ?_)))
local macro_rules | `(tactic| walk_at "ite") => `(tactic| (k_here; first | (refine ite_pos (by first | with_reducible assumption | (simp only [beq_iff_eq, bne_iff_ne, decide_eq_true_eq, ne_eq]; omega)) ?_; walk_say "MY PRUNE") | (refine ite_neg (by first | with_reducible assumption | (simp only [beq_iff_eq, bne_iff_ne, decide_eq_true_eq, ne_eq]; omega)) ?_; walk_say "MY PRUNE")))
local macro_rules | `(tactic| walk_at "subscriptTail") => `(tactic| (k_here; (with_reducible show wpAny _ _ (subscriptTail _ _ (Value.ref _) (Value.int _ _)) _ _ _); (with_unfolding_all refine' item_abs ?k1 ?k2 ?k3 ?k4 ?k5 ?_ ?k6; (case k1 => k_asm); (case k2 => k_mem); (case k3 => assumption); (case k4 => first | assumption | omega); (case k5 => assumption); (case k6 => with_unfolding_all rfl); k_whole); walk_say "MY ITEM"))
local macro_rules | `(tactic| walk_at "compareOp In str ref") => `(tactic| (k_here; k_dflt (refine' in_tupK ?F ?X ?l ?w ?b ?_; (case F => k_asm); (case X => k_asm); (case l => k_is); (case w => kde_strs); (case b => exact rfl); k_whole); walk_say "MY IN"))
local macro_rules | `(tactic| walk_at "call builtin:list.append") => `(tactic| (k_here; (with_reducible show wpAny _ _ (call (Value.builtin _) [Value.ref _, _]) _ _ _); k_dflt (refine' append_L ?k1 ?k2 ?k3 ?z ?_; (case k1 => k_asm); (case k2 => k_asm); (case k3 => k_upd); (case z => first | assumption | omega | (simp only [List.length_append, List.length_cons, List.length_nil]; omega)); k_whole); intro h' F' N'; (try k_sweep); walk_say "MY APPEND"))
local macro_rules | `(tactic| walk_at "call builtin:list.pop") => `(tactic| (k_here; (with_reducible show wpAny _ _ (call (Value.builtin _) [Value.ref _]) _ _ _); k_dflt (refine' pop_L ?k1 ?k2 ?k3 ?z ?_; (case k1 => k_asm); (case k2 => k_asm); (case k3 => k_upd); (case z => first | assumption | omega | (simp only [List.length_append, List.length_cons, List.length_nil]; omega)); k_whole); intro h' F' N'; (try k_sweep); walk_say "MY POP"))
local macro_rules | `(tactic| k_all) => `(tactic| assumption)
local macro_rules | `(tactic| k_mem) => `(tactic| first | with_reducible exact List.Mem.head _ | assumption | (refine' List.Mem.tail _ ?_; k_mem))
local macro_rules | `(tactic| walk_at "truthy ref") => `(tactic| (k_here; (with_reducible show wpAny _ _ (truthy (Value.ref _)) _ _ _); k_dflt (refine' truthy_L ?k1 ?k2 ?k3 ?k4 ?_; (case k1 => k_asm); (case k2 => k_mem); (case k3 => first | assumption | (simp only [List.length_append, List.length_cons, List.length_nil]; omega)); (case k4 => first | exact some_true _ _ | exact none_false); k_whole); walk_say "MY TRUTH"))
local macro_rules | `(tactic| walk_at "call builtin:len") => `(tactic| (k_here; (with_reducible show wpAny _ _ (call (Value.builtin "len") [Value.ref _]) _ _ _); k_dflt (refine' len_L ?k1 ?k2 ?k3 ?_; (case k1 => k_asm); (case k2 => k_mem); (case k3 => first | assumption | (simp only [List.length_append, List.length_cons, List.length_nil]; omega)); k_whole); walk_say "MY LEN"))
local macro_rules | `(tactic| k_mem) => `(tactic| first | with_reducible exact List.mem_cons_self | with_reducible assumption | exact List.Mem.head _ | with_reducible exact SymSt.i (by with_reducible assumption) | with_reducible exact SymSt.d (by with_reducible assumption) | ((with_reducible refine' Keep.any ?kmk _ _ ?kma ?kmb); (case kmk => (with_reducible assumption)); (case kma => k_mem); (case kmb => first | exact .inl (.inl rfl) | exact .inl (.inr ⟨_, rfl⟩) | (refine Or.inr ?_; walk_at "my notin"))) | ((with_reducible refine' List.mem_cons_of_mem _ ?_); k_mem) | assumption | fail "my mem")
local macro_rules | `(tactic| walk_at "my ne0") => `(tactic| first | with_reducible assumption | with_reducible exact Ne.symm (by with_reducible assumption) | k_ne | (exact Ne.symm (by k_ne)) | exact lt_at (by with_reducible assumption) (by with_reducible assumption) | exact Ne.symm (lt_at (by with_reducible assumption) (by with_reducible assumption)) | exact off_at (by with_reducible assumption) (by with_reducible assumption) | exact Ne.symm (off_at (by with_reducible assumption) (by with_reducible assumption)) | fail "my ne0")
local macro_rules | `(tactic| walk_at "my notin") => `(tactic| first | with_reducible assumption | with_reducible exact OffS.sym (by with_reducible assumption) | with_reducible exact OffS.nd (by with_reducible assumption) | (simp only [List.mem_cons, List.not_mem_nil, or_false, not_or]; (repeat' (refine And.intro ?_ ?_)) <;> walk_at "my ne0"))
local macro_rules | `(tactic| walk_at "my sym") => `(tactic| first | with_reducible assumption | (refine' SymSt.keep ?ks1 (.cons [] _ _) (by simp); (case ks1 => walk_at "my sym")) | (refine' SymSt.keep (ds := []) ?ks1 ?ks2 (fun _ _ => List.not_mem_nil); (case ks2 => with_reducible assumption); (case ks1 => walk_at "my sym")) | (refine' SymSt.keepO ?ks1 ?ks2 ?ks3; (case ks2 => with_reducible assumption); (case ks3 => with_reducible assumption); (case ks1 => walk_at "my sym")) | fail "my sym")
local macro_rules | `(tactic| walk_at "my tab") => `(tactic| first | assumption | (refine' PyProof.Rows.TupTab.cons ?kt _; (case kt => walk_at "my tab")) | (refine' tupTab_keep ?kt1 ?kt0 ?kt2; (case kt0 => assumption); (case kt1 => walk_at "my tab"); (case kt2 => walk_at "my notin")) | fail "my tab")
local macro_rules | `(tactic| walk_at "call builtin:list.append") => `(tactic| (k_here; (with_reducible show wpAny _ _ (call (Value.builtin _) [Value.ref _, _]) _ _ _); k_dflt (refine' append_M ?k1 ?k2 ?k3 ?z ?_; (case k1 => k_asm); (case k2 => k_asm); (case k3 => k_mem); (case z => first | assumption | omega | (simp only [List.length_append, List.length_cons, List.length_nil]; omega)); k_whole); intro h' r' F' N' hin kp; (try k_sweep); walk_say "M APPEND"))
local macro_rules | `(tactic| walk_at "getMethod ref") => `(tactic| (k_here; (with_reducible show wpAny _ _ (getMethod (Value.ref _) "get" _) _ _ _); k_dflt (first | (refine' smeth_M ?k1 ?k2 ?k3 ?k4 ?k5 ?_; (case k1 => k_asm); (case k2 => k_mem); (case k4 => assumption); (case k5 => assumption); (case k3 => assumption); k_whole) | (refine' tmeth_M ?k1 ?k2 ?_; (case k1 => k_asm); (case k2 => walk_at "my tab"); k_whole)); walk_say "M METH"))
local macro_rules | `(tactic| walk_at "call builtin:dict.get") => `(tactic| (k_here; k_dflt (first | (refine' sget_M ?k1 ?k2 ?k3 ?k4 ?k5 ?k6 ?_; (case k1 => k_asm); (case k2 => k_mem); (case k4 => assumption); (case k5 => assumption); (case k3 => assumption); (case k6 => assumption); k_whole) | (refine' tget_M ?k1 ?k2 ?k3 ?k4 ?k5 ?_; (case k2 => k_asm); (case k3 => walk_at "my tab"); (case k4 => k_mem); (case k5 => assumption); (case k1 => walk_at "my units"); k_whole)); intro t'; walk_say "M GET"))
local macro_rules | `(tactic| walk_at "my units") => `(tactic| ((try simp only [units_in1, units_deeper, units_under_make, Around.mark_units]); (try dsimp only [ktrTop]); (try simp only [units_in1, units_deeper, units_under_make, Around.mark_units]); omega))
local macro_rules | `(tactic| walk_at "setItem ref str") => `(tactic| (k_here; k_dflt (refine' sset_M ?F ?N ?m ?d ?f ?z ?_; (case F => k_asm); (case N => k_asm); (case m => k_mem); (case d => assumption); (case f => assumption); (case z => first | assumption | omega); k_whole); intro h' r' o' kvs' F' N' hin hd' hf' kp; (try k_sweep); walk_say "M SET"))
local macro_rules | `(tactic| walk_at "setItem ref ref") => `(tactic| (k_here; k_dflt (refine' tset_M ?u ?F ?N ?T ?m ?z ?_; (case F => k_asm); (case N => k_asm); (case T => walk_at "my tab"); (case m => k_mem); (case z => first | assumption | omega); (case u => walk_at "my units"); k_whole); intro h' r' F' N' hT' kp; (try k_sweep); walk_say "M TSET"))
local macro_rules | `(tactic| walk_at "exec For") => `(tactic| (k_here; (with_reducible show wpAny _ _ (exec (Stmt.For (Expr.Name _ _) _ _ [] _) _) _ _ _); (rename Fr _ _ _ _ => lF'); (with_unfolding_all refine' For_invVF lF' ?k1 ?k2 ?_; (case k1 => exact rfl); (case k2 => exact rfl); k_whole); walk_say "MY FOR"))
local macro_rules | `(tactic| walk_at "exec For Name Name cons nil") => `(tactic| (k_here; (rename Fr _ _ _ _ => lF'); (with_unfolding_all refine' For_invVF lF' ?k1 ?k2 ?_; (case k1 => exact rfl); (case k2 => exact rfl); k_whole); walk_say "MY FOR"))
local macro_rules | `(tactic| walk_at "exec For Name Call cons nil") => `(tactic| (k_here; (rename Fr _ _ _ _ => lF'); (with_unfolding_all refine' For_invVF lF' ?k1 ?k2 ?_; (case k1 => exact rfl); (case k2 => exact rfl); k_whole); walk_say "MY FOR"))
local macro_rules | `(tactic| walk_at "pyIter ref") => `(tactic| (k_here; (with_reducible show wpAny _ _ (pyIter (Value.ref _)) (fun it s₂ => LoopAtV _ _ _ _ _ _ _ _ _ it s₂) _ _); k_dflt (first | (refine' iter_tupU ?h ?F ?N ?m ?_; (case h => with_unfolding_all rfl); (case F => k_asm); (case N => k_asm); (case m => k_mem); k_whole) | (refine' iter_lstU ?h ?F ?N ?m ?_; (case h => with_unfolding_all rfl); (case F => k_asm); (case N => k_asm); (case m => k_mem); k_whole)); intro i' l1; (try (have hoff := SymSt.offNew l1 (by walk_at "my sym"))); (try k_lt l1); walk_say "MY ITER"))
local macro_rules | `(tactic| walk_at "SeqRest") => `(tactic| (with_unfolding_all first | (refine SeqRest.succ (fun it' h' tk' o' f' F' N' => ?_)) | (refine SeqRest.zero (fun h' tk' F' N' => ?_))))
local macro_rules | `(tactic| walk_at "UnrEnd") => `(tactic| (refine' UnrEnd.introM2 ?F ?N ?hI ?hf ?_; (case F => k_asm); (case N => k_asm); (case hI => k_mem); (case hf => assumption); intro q' kq' oq'; refine ⟨by k_mem, ?_⟩; walk_say "MY UNREND"))
local macro_rules | `(tactic| walk_at "find lt") => `(tactic| first | assumption | exact And.right (by assumption) | exact And.right (And.right (by assumption)) | exact And.right (And.right (And.right (by assumption))) | fail "find lt")
local macro_rules | `(tactic| walk_at "newList") => `(tactic| (k_here; k_dflt (refine' newList_K ?k1 ?k2 ?_; (case k1 => k_asm); (case k2 => k_asm); k_whole); intro l' h' F' N' l1; (try (have hoff := SymSt.offNew l1 (by walk_at "my sym"))); (try k_lt l1); (try k_sweep); walk_say "MY NEWLIST"))
local macro_rules | `(tactic| walk_at "my rt") => `(tactic| first | assumption | with_reducible exact RT.int _ _ | with_reducible exact RT.str _ _ | (refine' RT.tup ?rta ?rtb; (case rta => k_mem); (case rtb => walk_at "my rts")) | (refine' RT.sub ?rta (fun _ h => List.mem_cons_of_mem _ h); (case rta => walk_at "my rt")) | (refine' RT.keep ?rta ?rtb; (case rtb => with_reducible assumption); (case rta => walk_at "my rt")) | fail "my rt")
local macro_rules | `(tactic| walk_at "my rts") => `(tactic| first | exact RTs.nil | (refine' RTs.cons ?rsa ?rsb; (case rsa => walk_at "my rt"); (case rsb => walk_at "my rts")) | fail "my rts")
local macro_rules | `(tactic| walk_at "my keep") => `(tactic| first | with_reducible assumption | exact Keep.refl _ _ | (with_reducible refine' Keep.stepCons ?kpa; (case kpa => walk_at "my keep")) | ((with_reducible refine' Keep.trans ?kpa ?kpb); (case kpb => (with_reducible assumption)); (case kpa => walk_at "my keep")) | ((refine' Keep.trans ?kpa (Keep.wide (ds := []) ?kpb (fun _ h => nomatch h))); (case kpb => (with_reducible assumption)); (case kpa => walk_at "my keep")) | ((with_reducible refine' Keep.stepNew ?kpa ?kpb ?kpc); (case kpb => (with_reducible assumption)); (case kpc => walk_at "my off"); (case kpa => walk_at "my keep")) | fail "my keep")
local macro_rules | `(tactic| walk_at "my off") => `(tactic| first | assumption | exact off_lt (by assumption) | (refine' off_sub ?ofa ?ofb; (case ofa => assumption); (case ofb => (intro p hp; repeat (first | exact hp | refine List.mem_cons_of_mem _ ?_)))) | (refine' off_allLt ?ofa; (case ofa => walk_at "find lt")) | fail "my off")
local macro_rules | `(tactic| walk_at "call type:tuple") => `(tactic| (k_here; (with_reducible show wpAny _ _ (call (Value.type _) [Value.ref _]) _ _ _); k_dflt (refine' tuple_M ?k1 ?k2 ?_; (case k1 => k_asm); (case k2 => k_mem); k_whole); walk_say "MY TUPLE"))
local macro_rules | `(tactic| walk_at "callWith ref") => `(tactic| (k_here; k_dflt (refine' callWith_K0 ?k1 ?k2 ?_; (case k1 => k_in); (case k2 => k_is); k_whole); (try dsimp only [List.nil_append, List.cons_append, List.append_nil]); walk_say "MY CW0"))
local macro_rules | `(tactic| walk_at "pyIter ref") => `(tactic| ((with_reducible show wpAny _ _ (pyIter (Value.ref _)) (fun it s₂ => LoopAtV _ _ _ _ _ _ _ _ _ it s₂) _ _); (rename Fr _ _ _ _ => lF'); (rename News _ _ _ _ => lN'); (rename IsRange _ _ _ _ _ _ _ _ => rgX); (with_unfolding_all refine iter_rangeUnr (by rfl) rgX (range_small1 (by omega)) (range_size1 _) lF' lN' ?_); intro i' l1; refine held ?_; walk_say "MY RANGE"))
local macro_rules | `(tactic| walk_at "setItem ref int") => `(tactic| (k_here; k_dflt (refine' lset_M ?F ?N ?m ?z0 ?z1 ?z ?_; (case F => k_asm); (case N => k_asm); (case m => k_mem); (case z0 => first | assumption | omega); (case z1 => walk_at "my len"); (case z => walk_at "my len"); k_whole); intro h' r' F' N' hin kp; (try k_sweep); walk_say "M LSET"))
local macro_rules | `(tactic| walk_at "my len") => `(tactic| first | assumption | omega | (simp only [List.length_append, List.length_cons, List.length_nil, List.length_set]; omega))
local macro_rules | `(tactic| walk_at "ite") => `(tactic| (k_here; first | (refine ite_pos (by (simp only [beq_iff_eq, bne_iff_ne, decide_eq_true_eq, ne_eq, List.length_append, List.length_cons, List.length_nil]; omega)) ?_; walk_say "MY PRUNE2") | (refine ite_neg (by (simp only [beq_iff_eq, bne_iff_ne, decide_eq_true_eq, ne_eq, List.length_append, List.length_cons, List.length_nil]; omega)) ?_; walk_say "MY PRUNE2")))
local macro_rules | `(tactic| walk_at "find lt") => `(tactic| first | with_reducible assumption | exact And.right (by with_reducible assumption) | exact And.right (And.right (by with_reducible assumption)) | exact And.right (And.right (And.right (by with_reducible assumption))) | exact And.right (And.right (And.right (And.right (by with_reducible assumption)))) | exact And.right (And.right (And.right (And.right (And.right (by with_reducible assumption))))) | exact And.right (And.right (And.right (And.right (And.right (And.right (by with_reducible assumption)))))))
local macro_rules | `(tactic| walk_at "my ne0") => `(tactic| first | with_reducible assumption | with_reducible exact Ne.symm (by with_reducible assumption) | exact lt_at (by with_reducible assumption) (by with_reducible assumption) | exact Ne.symm (lt_at (by with_reducible assumption) (by with_reducible assumption)) | exact off_at (by with_reducible assumption) (by with_reducible assumption) | exact Ne.symm (off_at (by with_reducible assumption) (by with_reducible assumption)) | exact allLt_at (by walk_at "find lt") (by with_reducible assumption) | exact Ne.symm (allLt_at (by walk_at "find lt") (by with_reducible assumption)) | k_ne | (exact Ne.symm (by k_ne)) | fail "my ne0")
local macro_rules | `(tactic| walk_at "pyIter ref") => `(tactic| (k_here; (with_reducible show wpAny _ _ (pyIter (Value.ref _)) (fun it s₂ => LoopAtV _ _ _ _ _ _ _ _ _ it s₂) _ _); k_dflt (refine' iter_lstU2 ?h ?F ?N ?m ?_; (case h => with_unfolding_all rfl); (case F => k_asm); (case N => k_asm); (case m => k_mem); k_whole); intro i' l1 lm; (try k_lt l1); walk_say "MY ITER2"))
local macro_rules | `(tactic| walk_at "getItem ref int") => `(tactic| (k_here; (with_unfolding_all refine' getitem_abs ?k1 ?k2 ?k3 ?k4 ?k5 ?_; (case k1 => k_asm); (case k2 => k_mem); (case k3 => first | assumption | exact rfl); (case k4 => first | assumption | decide | omega); (case k5 => first | assumption | (simp only [List.length_append, List.length_cons, List.length_nil]; omega)); k_whole); walk_say "MY GETITEM"))
local macro_rules | `(tactic| walk_at "subscriptTail") => `(tactic| (k_here; (with_reducible show wpAny _ _ (subscriptTail _ _ (Value.ref _) (Value.int _ _)) _ _ _); (with_unfolding_all refine' item_abs ?k1 ?k2 ?k3 ?k4 ?k5 ?_ ?k6; (case k4 => decide); (case k1 => k_asm); (case k2 => k_mem); (case k3 => exact rfl); (case k5 => first | assumption | (simp only [List.length_append, List.length_cons, List.length_nil, List.length_set]; omega)); (case k6 => with_unfolding_all rfl); k_whole); walk_say "LIT ITEM"))
local macro_rules | `(tactic| walk_at "my enter") => `(tactic| (refine' code_def ?k1 ?k2 ?k3 ?k4 ?k5 ?kA ?kF ?kK ?k6 ?k7 ?k8 ?k9 ?kB ?_ ?c2 ?c3 ?c4 ?c5; (case kA => exact rfl); (case kF => exact rfl); (case kK => assumption); (case k1 => k_asm); (case k2 => k_asm); (case k3 => k_asm); (case k4 => k_asm); (case k5 => k_asm); (case k6 => k_is); (case k7 => k_is); (case k8 => ktr_room); (case k9 => first | exact BindsTo.of_eq rfl | exact binds_K (by k_in) rfl (by k_is) rfl rfl rfl); (case c5 => decide); (case kB => exact locs rfl); (case c2 => exact rfl); (case c3 => exact rfl); (case c4 => exact rfl); k_whole; intro g' L' h' FG' F' N' B' X' T'; (try dsimp only); (try k_fold)))
local macro_rules | `(tactic| walk_at "call ref") => `(tactic| (k_here; (with_reducible show wpAny _ _ (call (Value.ref 258) _) _ _ _); k_dflt (refine' reserve_ok ?B ?F ?X ?N ?T ?hk ?hdp ?hun ?p0 ?p1 ?p2 ?p3 ?p4 ?p5 ?p6 ?_; (case B => k_asm); (case F => k_asm); (case X => k_asm); (case N => k_asm); (case T => k_asm); (case hk => first | exact rfl | k_asm); (case hdp => first | ((try simp only [depth_under_make, depth_under_kw, depth_in1, depth_deeper]); (try dsimp only [ktrTop]); omega) | ktr_room); (case hun => first | ((try simp only [units_in1, units_deeper, units_under_make, Around.mark_units]); (try dsimp only [ktrTop]); omega) | ktr_units); (case p0 => k_mem); (case p1 => k_mem); (case p2 => k_mem); (case p3 => (first | assumption | exact cellsAre_keep (by assumption) (ds := []) (by walk_at "my keep"))); (case p4 => assumption); (case p5 => exact (rfl : _ = ((2:Nat):Int))); (case p6 => (first | assumption | omega)); k_whole); intro h' tk' t' hvs' nh' r' G F' N' hh' hG hln hC' kp'; (try k_sweep); walk_say "USE reserve_ok"))
local macro_rules | `(tactic| walk_at "call ref") => `(tactic| (k_here; (with_reducible show wpAny _ _ (call (Value.ref 300) _) _ _ _); k_dflt (refine' globalise_ok ?B ?F ?X ?N ?T ?hk ?hdp ?hun ?p0 ?p1 ?p2 ?p3 ?p4 ?_; (case B => k_asm); (case F => k_asm); (case X => k_asm); (case N => k_asm); (case T => k_asm); (case hk => first | exact rfl | k_asm); (case hdp => first | ((try simp only [depth_under_make, depth_under_kw, depth_in1, depth_deeper]); (try dsimp only [ktrTop]); omega) | ktr_room); (case hun => first | ((try simp only [units_in1, units_deeper, units_under_make, Around.mark_units]); (try dsimp only [ktrTop]); omega) | ktr_units); (case p0 => k_mem); (case p1 => k_mem); (case p2 => k_mem); (case p3 => (first | assumption | omega)); (case p4 => (first | assumption | omega)); k_whole); intro h' tk' F' N'; (try k_sweep); walk_say "USE globalise_ok"))
local macro_rules | `(tactic| walk_at "pyIter ref") => `(tactic| ((with_reducible show wpAny _ _ (pyIter (Value.ref _)) (fun it s₂ => LoopAtV _ _ _ _ _ (Str.ofString "value") _ _ _ it s₂) _ _); refine held ?_))
theorem list1_new {w : World} {p : Program} {loose : List Str} {mean : ExcName → Option Value} {mg mb : Str → Option Value}
  {dp un : Nat} {gd : Option (List Code)} {cn : Str} {cs : Scope} {a : Addr} {ccd : Value} {cl : List (Str × Addr)} {outer : List Env} {A₀ : Around} {base h₀ : Heap} {L : Addr} {m : Str → Option Value} {news : List (Addr × Obj)} {s : Shared} {Q E : Value → Shared → Prop}
  {st sd : Addr} {S : StoreA} {sdn : Nat} {hvs : List Value} {nh : Nat} {H : List (Int × Int)} {cz : Addr} {nc : Nat} {c1 : Addr} {g1 v1 : Int} {p1 q1 : Tok} {z1 : Nat}
  (B : Below A₀ base outer h₀) (F : Fr h₀ L s.heap m) (X : (hd.heap_39 w.params).In h₀) (N : News h₀ L s.heap news) (T : Top p loose mean mg mb h₀) (hk : cs.kind = .function)
  (hdp : dp + 10 < recursionLimit) (hun : un + 100 < cLine)
  (hi : (st, instObj 423 sd) ∈ news) (hd : (sd, dictOf (storeE S) sdn) ∈ news) (hh : (S.hl, listOf hvs.toArray nh) ∈ news) (hC : CellsAre news hvs H) (hne : S.hl ≠ sd) (hcl : (cz, listOf #[.ref c1] nc) ∈ news) (hc1 : (c1, tup [.int g1 p1, .int v1 q1] z1) ∈ news) (ha1 : g1 ≠ 0) (hb1 : g1 ≠ 1) (hb : H.length + 2 ≤ 90000)
  (ret : ∀ h' tk x t1 t2 hvs' nh' r', Fr h₀ L h' m → News h₀ L h' r' → (x, tup [.int 3 t1, .int (H.length : Nat) t2] 0) ∈ r' → (S.hl, listOf hvs'.toArray nh') ∈ r' → CellsAre r' hvs' (H ++ [(g1, v1), (4, 0)]) → Keep [S.hl] news r' → Q (.ref x) { s with heap := h', toks := tk }) :
  wpAny (model PySem.Challenge.rw_rh0112_01.row.prog w) (ktrTop dp un gd cn cs L a ccd cl outer) (call (.ref 392) [.ref st, .ref cz]) Q E s := by
  revert X; k_fill; intro X
  have hhl := hC.1
  refine wpAny_call ?_
  k_dflt walk_at "my enter"
  k_steps
  unfold Held
  rename News _ _ _ _ => N1
  rename Fr _ _ _ _ => F1
  rename CellsAre _ _ (H ++ _) => hC2
  rename List.length _ = 2 => hG
  rename (S.hl, _) ∈ _ => hh2
  have hi' := mem_in N1 (show (st, instObj 423 sd) ∈ _ by k_mem)
  have hd' := mem_in N1 (show (sd, dictOf (storeE S) sdn) ∈ _ by k_mem)
  k_dflt (refine' iter_lstU2 ?h ?F ?N ?m ?_; (case h => with_unfolding_all rfl); (case F => k_asm); (case N => k_asm); (case m => k_mem); k_whole)
  intro I l1 lm
  have hnI := lt_at l1 hh2
  k_steps
  rename News _ _ _ _ => nE
  rename (S.hl, _) ∈ _ => hin
  have kR := keepC (ds := [S.hl]) hC2 nE (by walk_at "my keep")
  have hCE := cellsAre_keep hC2 kR
  exact ret _ _ _ _ _ _ _ _ (by k_asm) nE (.head _) (.tail _ hin) (list1_cells nE hCE hG (CellAt.of (by k_mem)) (CellAt.of (by k_mem)) (CellAt.of (by k_mem))) (Keep.trans (by walk_at "my keep") kR)

end Mine
namespace Mine
open PySem.Spec PySem.Calls PyProof.V
abbrev excO (cls : Value) (dx : Addr) (vs : Array Value) : Obj := { cls := cls, dict := some dx, data := .fields vs }
/-- an exception with a dict under way: what the heap h still bears of the heap h₁ at the raise -/
structure FlyX (h₁ : Heap) (fr : List Addr) (e : Addr) (cls a0 : Value) (dx : Addr) (fl : Value) (h : Heap) : Prop where
  keep : ∀ b o, b ≠ e → b ∉ fr → h₁.get? b = some o → h.get? b = some o
  slots : ∀ b o, b ≠ e → h₁.get? b = some o → ∃ sl, h.get? b = some { o with slots := sl }
  e1 : ∃ o vs, h₁.get? e = some o ∧ o.data = .fields vs
  exc : ∃ vs T oT ts, h.get? e = some (excO cls dx vs) ∧ vs[0]? = some a0 ∧ vs[1]? = some (.ref T) ∧ T ≠ e ∧ h₁.get? T = none ∧ h.get? T = some oT ∧ oT.data = .fields ts ∧ ts[3]? = some fl
theorem FlyX.funFrames {h₁ h base : Heap} {fr : List Addr} {e dx : Addr} {cls a0 fl : Value} (x : FlyX h₁ fr e cls a0 dx fl h) {l : List Env} (hl : h₁.FunFrames base l) : h.FunFrames base l :=
  hl.of_keeps fun b o hb hn => by
    obtain ⟨o1, vs, h1, h2⟩ := x.e1
    obtain ⟨sl, hs⟩ := x.slots b o (fun q => by rw [q, h1] at hb; cases hb; exact hn vs h2) hb
    exact ⟨_, hs, rfl⟩
section
variable {M : Model} {A : Around} {E : Value → Shared → Prop} {s : Shared} {h₁ base : Heap} {fr : List Addr} {e dx L : Addr} {cls a0 head : Value} {env : Env} {outer : List Env} {hadNext : Bool} {Q : Unit → Shared → Prop}
/-- a new traceback entry at the exception -/
theorem entryX {vs : Array Value} (hfr : A.frames = some (env :: outer)) (hl : s.heap.FunFrames base (env :: outer)) (hf : env.frame = some L) (hin : ∀ b ∈ (env :: outer).filterMap (·.frame), b ∈ fr)
    (he : s.heap.get? e = some (excO cls dx vs)) (h0 : vs[0]? = some a0) (hsz : 1 < vs.size) (e1 : ∃ o vs, h₁.get? e = some o ∧ o.data = .fields vs)
    (k1 : ∀ b o, b ≠ e → b ∉ fr → h₁.get? b = some o → s.heap.get? b = some o) (k2 : ∀ b o, b ≠ e → h₁.get? b = some o → ∃ sl, s.heap.get? b = some { o with slots := sl })
    (h : ∀ h', FlyX h₁ fr e cls a0 dx (rawInt L) h' → Q () { s with heap := h' }) :
    wpAny M A (do let a ← frameOf env; let pl ← entryPlaceOf L hadNext; let b ← EntryCells.newEntry head a .none (rawInt L) .none pl; setField (.ref e) 1 b) Q E s := by
  have hee : e ∉ (env :: outer).filterMap (·.frame) := fun hm => by
    obtain ⟨_, o, ho, hnf⟩ := hl.mem hm
    rw [he] at ho
    cases ho
    exact hnf vs rfl
  refine wpAny_bind (wpAny_frameOf_fun hfr hl hf fun h₂ hs => ?_)
  refine wpAny_bind (wpAny_entryPlaceOf fun pl hpl => ?_)
  unfold EntryCells.newEntry newFields
  refine wpAny_bind (wpAny_newObj_type ?_ (hpl.sizeOk5 _ _ _ _ _))
  have he₂ : h₂.get? e = some (excO cls dx vs) := (hs.2.1 e hee).trans he
  refine wpAny_setField (Heap.get?_push_of_some _ he₂) rfl hsz (h _ ?_)
  have hTe : h₂.objs.size ≠ e := Nat.ne_of_gt (Heap.lt_size he₂)
  have nT : h₁.get? h₂.objs.size = none := by
    cases q : h₁.get? h₂.objs.size with
    | none => rfl
    | some o =>
      obtain ⟨sl, hb⟩ := k2 _ o hTe q
      obtain ⟨sl2, hb2⟩ := hs.2.2 _ _ hb
      exact absurd (Heap.lt_size hb2) (Nat.lt_irrefl _)
  refine ⟨fun b o hbe hbf hb => ?_, fun b o hbe hb => ?_, e1, ?_⟩
  · refine (Heap.get?_update_other _ _ (Ne.symm hbe)).trans (Heap.get?_push_of_some _ ?_)
    exact (hs.2.1 b fun q => hbf (hin b q)).trans (k1 b o hbe hbf hb)
  · obtain ⟨sl, hb1⟩ := k2 b o hbe hb
    obtain ⟨sl2, hb2⟩ := hs.2.2 _ _ hb1
    exact ⟨sl2, (Heap.get?_update_other _ _ (Ne.symm hbe)).trans (Heap.get?_push_of_some _ hb2)⟩
  · refine ⟨vs.setIfInBounds 1 (.ref h₂.objs.size), h₂.objs.size, _, _, (Heap.get?_update_self _ (Heap.get?_push_of_some _ he₂) (Obj.isFreed_of_fields rfl)).trans rfl, ?_, by simp [hsz], hTe, nT,
      (Heap.get?_update_other _ _ (Ne.symm hTe)).trans (Heap.get?_push_size _ rfl), rfl, ?_⟩
    · rw [Array.getElem?_setIfInBounds_ne (by decide)]; exact h0
    · rcases hpl with rfl | ⟨_, _, _, _, _, _, _, rfl⟩ <;> simp
/-- the frame where it was raised -/
theorem noteX0 {vs : Array Value} (hfr : A.frames = some (env :: outer)) (hl : s.heap.FunFrames base (env :: outer)) (hf : env.frame = some L) (hin : ∀ b ∈ (env :: outer).filterMap (·.frame), b ∈ fr)
    (he : s.heap.get? e = some (excO cls dx vs)) (h0 : vs[0]? = some a0) (h1 : vs[1]? = some .none)
    (h : ∀ h', FlyX s.heap fr e cls a0 dx (rawInt L) h' → Q () { s with heap := h' }) : wpAny M A (noteFrame (.ref e) env) Q E s := by
  unfold noteFrame
  simp only [hf]
  refine wpAny_bind (wpAny_field he rfl h1 ?_)
  rw [if_neg (by decide)]
  exact entryX hfr hl hf hin he h0 (Array.getElem?_eq_some_iff.mp h1).1 ⟨_, vs, he, rfl⟩ (fun _ _ _ _ q => q) (fun _ o _ q => ⟨o.slots, q⟩) h
theorem flightX {fl : Value} (x : FlyX h₁ fr e cls a0 dx fl s.heap) (h : ∀ h', FlyX h₁ fr e cls a0 dx .none h' → Q () { s with heap := h' }) : wpAny M A (setFlight (.ref e) none) Q E s := by
  obtain ⟨k1, k2, e1, vs, T, oT, ts, he, h0, hv1, hTe, nT, hT, hd, h3⟩ := x
  have hsz : 3 < ts.size := (Array.getElem?_eq_some_iff.mp h3).1
  unfold setFlight
  refine wpAny_bind (wpAny_field he rfl hv1 ?_)
  rw [if_pos (by simp)]
  refine wpAny_setField hT hd hsz (h _ ?_)
  have ne : ∀ b o, h₁.get? b = some o → T ≠ b := fun b o hb q => by rw [← q, nT] at hb; cases hb
  refine ⟨fun b o hbe hbf hb => (Heap.get?_update_other _ _ (ne b o hb)).trans (k1 b o hbe hbf hb), fun b o hbe hb => ?_, e1, vs, T, _, _, (Heap.get?_update_other _ _ hTe).trans he, h0, hv1, hTe, nT,
    Heap.get?_update_self _ hT (Obj.isFreed_of_fields (Obj.data_mapFields hd _)), Obj.data_mapFields hd _, by simp [hsz]⟩
  obtain ⟨sl, hs⟩ := k2 b o hbe hb
  exact ⟨sl, (Heap.get?_update_other _ _ (ne b o hb)).trans hs⟩
/-- the next frame -/
theorem noteX1 (hfr : A.frames = some (env :: outer)) (hl : h₁.FunFrames base (env :: outer)) (hf : env.frame = some L) (hin : ∀ b ∈ (env :: outer).filterMap (·.frame), b ∈ fr) (x : FlyX h₁ fr e cls a0 dx .none s.heap)
    (h : ∀ h', FlyX h₁ fr e cls a0 dx (rawInt L) h' → Q () { s with heap := h' }) : wpAny M A (noteFrame (.ref e) env) Q E s := by
  have hl' := x.funFrames hl
  obtain ⟨k1, k2, e1, vs, T, oT, ts, he, h0, hv1, hTe, nT, hT, hd, h3⟩ := x
  have ne : ∀ b o, h₁.get? b = some o → T ≠ b := fun b o hb q => by rw [← q, nT] at hb; cases hb
  unfold noteFrame
  simp only [hf]
  refine wpAny_bind (wpAny_field he rfl hv1 ?_)
  rw [if_pos (by simp)]
  refine wpAny_bind (wpAny_field hT hd h3 ?_)
  rw [if_neg (by simp [rawInt])]
  refine wpAny_bind (wpAny_setField hT hd (Array.getElem?_eq_some_iff.mp h3).1 ?_)
  refine entryX (s := { s with heap := _ }) hfr (hl'.of_keeps fun b o hb hn => ⟨o, (Heap.get?_update_other _ _ (fun q => by rw [← q, hT] at hb; cases hb; exact hn ts hd)).trans hb, rfl⟩) hf hin ((Heap.get?_update_other _ _ hTe).trans he) h0 (Array.getElem?_eq_some_iff.mp hv1).1 e1
    (fun b o hbe hbf hb => (Heap.get?_update_other _ _ (ne b o hb)).trans (k1 b o hbe hbf hb)) (fun b o hbe hb => ?_) h
  obtain ⟨sl, hs⟩ := k2 b o hbe hb
  exact ⟨sl, (Heap.get?_update_other _ _ (ne b o hb)).trans hs⟩
end
/-- an exception with a dict, above the frames l, with what it left of the heap G and of the ledger -/
structure RaisedD (base G : Heap) (l : List Env) (e : Addr) (cls a0 : Value) (dx : Addr) (news : List (Addr × Obj)) (h : Heap) : Prop where
  ex : ∃ h₁ fr, FlyX h₁ fr e cls a0 dx .none h ∧ (∀ b o, G.get? b = some o → h₁.get? b = some o) ∧ h₁.FunFrames base l ∧ (∀ b o, b ∈ fr → G.get? b = some o → b ∈ l.filterMap (·.frame)) ∧ (∀ b ∈ l.filterMap (·.frame), b ∈ fr) ∧
    ∀ q ∈ news, h₁.get? q.1 = some q.2 ∧ q.1 ∉ fr ∧ G.get? q.1 = none ∧ q.1 ≠ e
  ne : G.get? e = none
section
variable {M : Model} {A : Around} {E : Value → Shared → Prop} {s' : Shared} {base g : Heap} {outer : List Env} {L a e t C dx : Addr} {m : Str → Option Value} {name : Str} {scope : Scope} {cd : Value} {Q : Unit → Shared → Prop} {news : List (Addr × Obj)}
theorem leaveD (K : Below A base outer g) (F : Fr g L s'.heap m) (N : News g L s'.heap ((e, exc1 C dx t) :: news)) (ho : ∀ p ∈ news, p.1 ≠ e)
    (hQ : ∀ h', RaisedD base g outer e (.ref C) (.ref t) dx news h' → Q () { s' with heap := h' }) (hk : scope.kind = .function := by rfl) :
    wpAny M (A.deeper (envOf name scope L a cd)) (leaving (envOf name scope L a cd) (.ref e)) Q E s' := by
  have K' := K.push (name := name) (a := a) (cd := cd) F hk
  unfold leaving
  refine wpAny_bind (noteX0 K'.stack K'.frames rfl (fun _ q => q) (N _ (.head _)).1 rfl rfl fun h₂ x₂ => ?_)
  refine flightX x₂ fun h₃ x₃ => hQ _ ⟨⟨_, _, x₃, F.keep, K.frames.of_keeps fun b o q _ => ⟨o, F.keep b o q, rfl⟩, fun b o hb ho => ?_, fun b hb => ?_, fun q hq => ?_⟩, (N _ (.head _)).2.2⟩
  · rcases kts_mem hb with z | z
    · rw [z, kts_self F] at ho; cases ho
    · exact z
  · obtain ⟨env, h1, h2⟩ := List.mem_filterMap.mp hb
    exact List.mem_filterMap.mpr ⟨env, .tail _ h1, h2⟩
  · have hqn : q ∈ (e, exc1 C dx t) :: news := .tail _ hq
    refine ⟨(N q hqn).1, fun hm => ?_, (N q hqn).2.2, ho q hq⟩
    rcases kts_mem hm with z | z
    · exact (N q hqn).2.1 z
    · obtain ⟨_, o, ho, _⟩ := K.frames.mem z
      rw [(N q hqn).2.2] at ho; cases ho
end
section
variable {prog : Program} {w : World} {A₀ : Around} {E : Value → Shared → Prop} {s' : Shared} {base g g₀ G : Heap} {outer : List Env} {L a e C dx : Addr} {a0 : Value} {m : Str → Option Value} {name : Str} {scope : Scope} {cd : Value}
  {n : Str} {b₀ : Stmt} {suite : List Stmt} {pos np : Pos} {rest : List ExceptHandler} {Q : Flow → Shared → Prop} {news : List (Addr × Obj)} {KF : Frag}
  {p : Program} {loose : List Str} {mean : ExcName → Option Value} {mg mb : Str → Option Value} {x : Str}
theorem caughtD (R : RaisedD base G (envOf name scope L a cd :: outer) e (.ref C) a0 dx news s'.heap) (F : Fr g L G m) (K : Below A₀ base outer g) (XB : KF.In base) (TB : Top p loose mean mg mb base)
    (D : KtsDicts (outer.filterMap (·.frame)) g) (T0 : KtsTurn (outer.filterMap (·.frame)) g₀ g)
    (ex : nsIn KF mainGlobals x = some (some (.ref C))) (q : ktsIn KF C "BaseException" = true)
    (k : ∀ h' g' r' vs tk, KtsTurn (outer.filterMap (·.frame)) g₀ g' → Fr g' L h' (fun y => if y = n then some (.ref e) else m y) → News g' L h' r' → (∀ p ∈ news, p ∈ r') → (e, excO (.ref C) dx vs) ∈ r' → Below A₀ base outer g' → KF.In g' → Top p loose mean mg mb g' → KtsDicts (outer.filterMap (·.frame)) g' →
      wpAny (model prog w) ((A₀.deeper (envOf name scope L a cd)).mark (some (.ref e))) (execs (b₀ :: suite) (envOf name scope L a cd))
        (fun f s₄ => wpAny (model prog w) (A₀.deeper (envOf name scope L a cd)) (do bindName (envOf name scope L a cd) n .none; unbindBehindTheSuite (envOf name scope L a cd) n pos) (fun _ s₅ => Q f s₅) E s₄)
        (AsSuiteRaised (model prog w) ((A₀.deeper (envOf name scope L a cd)).mark (some (.ref e))) (envOf name scope L a cd) n pos (notedBy (model prog w) ((A₀.deeper (envOf name scope L a cd)).mark (some (.ref e))) (envOf name scope L a cd) (cameBackBy (model prog w) (A₀.deeper (envOf name scope L a cd)) (envOf name scope L a cd) E)))
        { s' with heap := h', toks := tk })
    (hk : scope.kind = .function := by rfl) (hlo : (envOf name scope L a cd).kindOf n = some .local := by rfl) (hx : (envOf name scope L a cd).kindOf x = some .globalImplicit := by rfl) (hd : (x == ("__debug__" : Str)) = false := by decide) :
    wpAny (model prog w) (A₀.deeper (envOf name scope L a cd)) (noteFrame (.ref e) (envOf name scope L a cd))
      (fun _ s₂ => wpAny (model prog w) (A₀.deeper (envOf name scope L a cd)) (setFlight (.ref e) none) (fun _ s₃ =>
        wpAny (model prog w) (A₀.deeper (envOf name scope L a cd)) (handleBy (.ref e) (envOf name scope L a cd) (.ExceptHandler (some (.Name x np)) (some n) (b₀ :: suite) pos :: rest)) Q E s₃) E s₂) E s' := by
  obtain ⟨⟨h₁, fr, xf, hG1, hl, hfr, hfr2, hnews⟩, nge⟩ := R
  have hBG : ∀ b o, G.get? b = some o → b ∉ (envOf name scope L a cd :: outer).filterMap (·.frame) → (hideAll G ((envOf name scope L a cd :: outer).filterMap (·.frame))).get? b = some o := fun b o hb hm => hideAll_get _ hb hm
  have nee : ∀ b o, G.get? b = some o → b ≠ e := fun b o hb z => by rw [z, nge] at hb; cases hb
  have stays : ∀ h fl, FlyX h₁ fr e (.ref C) a0 dx fl h → (hideAll G ((envOf name scope L a cd :: outer).filterMap (·.frame))).StaysIn h ∧ G.UpToSlots h := fun h fl y => by
    refine ⟨fun b o hb => ?_, fun b o hb _ => y.slots b o (nee b o hb) (hG1 b o hb)⟩
    have hb' := of_hideAll _ hb
    refine y.keep b o (nee b o hb') (fun hm => ?_) (hG1 b o hb')
    rw [hideAll_none _ (hfr b o hm hb')] at hb; cases hb
  refine noteX1 (Around.frames_deeper K.stack) hl rfl hfr2 xf fun h₄ x₄ => ?_
  refine flightX x₄ fun h₅ x₅ => ?_
  obtain ⟨g₅, T₅, F₅, K₅⟩ := kts_ground K F hBG (stays _ _ x₅).1 (stays _ _ x₅).2
  have X₅ : KF.In g₅ := XB.keeps K₅.stays
  have P₅ : TopRead p loose mg mb g₅ := topRead_of (TB.keeps K₅.stays)
  obtain ⟨vs₅, _, _, _, he₅, _⟩ := x₅.exc
  obtain ⟨nm, q', N, bs, bm, hdct, sn, sub, ab, col, dd, k0, k1, k2, k3, k5, newId, hC, hbase, hbT⟩ := kts_cls X₅ q
  have hC₅ := F₅.keep _ _ hC
  refine wpAny_handleBy_cons (codeAny_handlers_test (name_K F₅ X₅ P₅ ex ?_ hk hx hd)) (by intro q; cases q)
  refine wpAny_excMatches_sub_self hC₅ he₅ rfl hbase (codeAny_handlers_suite_as ?_)
  refine flightX (s := { s' with heap := h₅ }) x₅ fun h₆ x₆ => ?_
  obtain ⟨g₆, T₆, F₆, K₆⟩ := kts_ground K F hBG (stays _ _ x₆).1 (stays _ _ x₆).2
  obtain ⟨vs₆, _, _, _, he₆, _⟩ := x₆.exc
  obtain ⟨oL, _, _, hL, _⟩ := F.ns
  have neL : e ≠ L := fun z => by rw [← z, nge] at hL; cases hL
  have N₆ : News g₆ L h₆ ((e, excO (.ref C) dx vs₆) :: news) := fun p hp => by
    rcases List.mem_cons.mp hp with rfl | hp
    · exact ⟨he₆, neL, T₆.none_ _ (kts_none F.keep nge)⟩
    · obtain ⟨n1, n2, n3, n4⟩ := hnews p hp
      exact ⟨x₆.keep _ _ n4 n2 n1, fun z => n2 (hfr2 _ (by rw [z]; exact List.mem_filterMap.mpr ⟨_, .head _, rfl⟩)), T₆.none_ _ (kts_none F.keep n3)⟩
  refine stN (s := { s' with heap := h₆ }) F₆ N₆ (fun h₇ F₇ N₇ => ?_) hk hlo
  exact k h₇ g₆ _ _ _ (T0.trans T₆) F₇ N₇ (fun p hp => .tail _ hp) (.head _) K₆ (XB.keeps K₆.stays) (TB.keeps K₆.stays) (D.turn T₆)
end
/-- the value is an exception of an own class that has a dict, and may be raised -/
def RaisableD (E : Value → Shared → Prop) (v : Value) (s₁ : Shared) : Prop :=
  ∃ x C dx t nm q N bs bm hdct sn sub ab col dd k0 k1 k2 k3 k5 newId, v = .ref x ∧ s₁.heap.get? x = some (exc1 C dx t) ∧ s₁.heap.get? C = some (excClassObj nm q C N bs bm hdct sn sub ab col dd k0 k1 k2 k3 k5 newId) ∧ bm.contains (.type "BaseException") = true ∧ E (.ref x) s₁
section
variable {M : Model} {A : Around} {E : Value → Shared → Prop} {s : Shared} {env : Env}
theorem raise_D {e : Expr} {pos : Pos} {Q : Flow → Shared → Prop} (hh : A.handled = none) (h : wpAny M A (eval e env) (RaisableD E) E s) : wpAny M A (exec (.Raise (some e) none pos) env) Q E s := by
  show wpAny M A (do standAt pos; raiseStmt env (some (do let v ← eval e env; standAt pos; pure v)) none) Q E s
  refine wpAny_bind (wpAny_standAt ?_)
  unfold raiseStmt
  dsimp only
  refine wpAny_bind (wpAny_bind (wpAny_mono h (fun v s₁ h₁ => wpAny_bind (wpAny_standAt (wpAny_pure ?_))) fun _ _ x => x))
  obtain ⟨x, C, dx, t, nm, q, N, bs, bm, hdct, sn, sub, ab, col, dd, k0, k1, k2, k3, k5, newId, rfl, he, hC, hbase, hE⟩ := h₁
  have hcB : (Value.ref C :: bm).contains (.type "BaseException") = true := by rw [List.contains_cons, hbase, Bool.or_true]
  obtain ⟨hp, g, d, tk, os⟩ := s₁
  repeat (first | with_reducible refine wpAny_loadPart_at he ?_ | with_reducible refine wpAny_loadPart_at hC ?_ | (with_reducible refine wpAny_isSubtype_exc hC ?_; rw [hcB]) | wp_step)
  exact wpAny_raiseNew_none hh hE
theorem raisableD_of {K : Frag} {h₀ : Heap} {L x C dx t : Addr} {m : Str → Option Value} {news : List (Addr × Obj)} (F : Fr h₀ L s.heap m) (X : K.In h₀) (N : News h₀ L s.heap news) (hm : (x, exc1 C dx t) ∈ news) (q : ktsIn K C "BaseException" = true) (h : E (.ref x) s) : RaisableD E (.ref x) s := by
  obtain ⟨nm, q', N', bs, bm, hdct, sn, sub, ab, col, dd, k0, k1, k2, k3, k5, newId, hC, hbase, _⟩ := kts_cls (X.keeps F.keep) q
  exact ⟨x, C, dx, t, nm, q', N', bs, bm, hdct, sn, sub, ab, col, dd, k0, k1, k2, k3, k5, newId, rfl, (N _ hm).1, hC, hbase, h⟩
end
def memI (ts : List Str) : Int := (intern (Str.ofString "memory") ts).1
def memT (ts : List Str) : List Str := (intern (Str.ofString "resource_error") (intern (Str.ofString "memory") ts).2).2
def memN (ts : List Str) : Int := (intern (Str.ofString "resource_error") (intern (Str.ofString "memory") ts).2).1
def memF (ts : List Str) (fs : List (Int × Int)) : List (Int × Int) := (intern (memN ts, (1 : Int)) fs).2
def memJ (ts : List Str) (fs : List (Int × Int)) : Int := (intern (memN ts, (1 : Int)) fs).1
def memD (ts : List Str) (fs : List (Int × Int)) : PyData := .tuple [.str (Str.ofString "s"), .int (memJ ts fs), .tuple [.tuple [.str (Str.ofString "a"), .int (memI ts)]]]
def lisI (ts : List Str) : Int := (intern (Str.ofString "evaluable") ts).1
def lisT (ts : List Str) : List Str := (intern (Str.ofString "type_error") (intern (Str.ofString "evaluable") ts).2).2
def lisN (ts : List Str) : Int := (intern (Str.ofString "type_error") (intern (Str.ofString "evaluable") ts).2).1
def lisF (ts : List Str) (fs : List (Int × Int)) : List (Int × Int) := (intern (lisN ts, (2 : Int)) fs).2
def lisJ (ts : List Str) (fs : List (Int × Int)) : Int := (intern (lisN ts, (2 : Int)) fs).1
def lisD (ts : List Str) (fs : List (Int × Int)) : PyData := .tuple [.str (Str.ofString "s"), .int (lisJ ts fs), .tuple [.tuple [.str (Str.ofString "a"), .int (lisI ts)], .tuple [.str (Str.ofString "s"), .int 15, .tuple [.tuple [.str (Str.ofString "a"), .int 1], .tuple [.str (Str.ofString "i"), .int 2]]]]]
end Mine
namespace Mine
open PySem.Spec PyProof.V PyProof.Rows
theorem bits_le {v : Int} {k : Nat} (h : v.natAbs < 2 ^ k) : Builtin.Int.intBits v ≤ k := by
  unfold Builtin.Int.intBits
  by_cases e : v = 0
  · subst e; simp
  · have h0 : v.natAbs ≠ 0 := fun q => e (Int.natAbs_eq_zero.mp q)
    rw [if_neg (by simpa using e)]
    exact (Nat.log2_lt h0).mpr h
theorem bits_ok {v : Int} (h : v.natAbs < 2 ^ 100) : (Builtin.Int.intBits v : Int) ≤ 4096 := by
  have := bits_le h
  omega
/-- the cell c stands for the value v; val: the values of the blocks; d: its depth -/
inductive Ch (H : List (Int × Int)) (val : Nat → Int) : Nat → (Int × Int) → Int → Prop
  | base (v : Int) : Ch H val 0 (5, v) v
  | add {d : Nat} {c : Int × Int} {v : Int} (a : Nat) : Ch H val d c v → (c.1 = 2 → c.2 < (a : Int)) → H[a]? = some (6, 14) → H[a + 1]? = some c → H[a + 2]? = some c → val a = v + v → (Builtin.Int.intBits (v + v) : Int) ≤ 4096 → Ch H val (d + 1) (2, a) (v + v)
  | sub {d : Nat} {c : Int × Int} {v : Int} (a : Nat) (k : Int) : Ch H val d c v → (c.1 = 2 → c.2 < (a : Int)) → H[a]? = some (6, 13) → H[a + 1]? = some c → H[a + 2]? = some (5, k) → val a = v - k → (Builtin.Int.intBits (v - k) : Int) ≤ 4096 → Ch H val (d + 1) (2, a) (v - k)
  | neg {d : Nat} {c : Int × Int} {v : Int} (a : Nat) : Ch H val d c v → (c.1 = 2 → c.2 < (a : Int)) → H[a]? = some (6, 12) → H[a + 1]? = some c → val a = -v → (Builtin.Int.intBits (-v) : Int) ≤ 4096 → Ch H val (d + 1) (2, a) (-v)
theorem Ch.kind {H : List (Int × Int)} {val : Nat → Int} {d : Nat} {c : Int × Int} {v : Int} (h : Ch H val d c v) : c = (5, v) ∨ ∃ a : Nat, c = (2, (a : Int)) ∧ a < H.length ∧ val a = v := by
  cases h with
  | base => exact .inl rfl
  | add a _ _ h1 _ _ h4 => exact .inr ⟨a, rfl, (List.getElem?_eq_some_iff.mp h1).1, h4⟩
  | sub a k _ _ h1 _ _ h4 => exact .inr ⟨a, rfl, (List.getElem?_eq_some_iff.mp h1).1, h4⟩
  | neg a _ _ h1 _ h4 => exact .inr ⟨a, rfl, (List.getElem?_eq_some_iff.mp h1).1, h4⟩
theorem Ch.mono {H H' : List (Int × Int)} {val val' : Nat → Int} {d : Nat} {c : Int × Int} {v : Int} (h : Ch H val d c v) (k : ∀ (i : Nat) (x : Int × Int), H[i]? = some x → H'[i]? = some x) (kv : ∀ a, a < H.length → val' a = val a) : Ch H' val' d c v := by
  induction h with
  | base v => exact .base v
  | add a _ h0 h1 h2 h3 h4 h5 ih => exact .add a ih h0 (k _ _ h1) (k _ _ h2) (k _ _ h3) ((kv a (List.getElem?_eq_some_iff.mp h1).1).trans h4) h5
  | sub a x _ h0 h1 h2 h3 h4 h5 ih => exact .sub a x ih h0 (k _ _ h1) (k _ _ h2) (k _ _ h3) ((kv a (List.getElem?_eq_some_iff.mp h1).1).trans h4) h5
  | neg a _ h0 h1 h2 h4 h5 ih => exact .neg a ih h0 (k _ _ h1) (k _ _ h2) ((kv a (List.getElem?_eq_some_iff.mp h1).1).trans h4) h5
/-- what is known below the cell c is right -/
def Good (val : Nat → Int) (c : Int × Int) (D : List (PyData × PyData)) : Prop := ∀ a : Nat, c.1 = 2 → (a : Int) ≤ c.2 → lookup (.int a) D = none ∨ lookup (.int a) D = some (.int (val a))
def After (val : Nat → Int) (c : Int × Int) (v : Int) (D D' : List (PyData × PyData)) : Prop := (∀ i : Int, (c.1 = 2 → c.2 < i) → lookup (.int i) D' = lookup (.int i) D) ∧ Good val c D' ∧ (c.1 = 2 → lookup (.int c.2) D' = some (.int v))
section
variable {H : List (Int × Int)} {val : Nat → Int} {d : Nat} {c : Int × Int} {v : Int}
theorem Ch.again (h : Ch H val d c v) {D : List (PyData × PyData)} (hk : c.1 = 2 → lookup (.int c.2) D = some (.int v)) {n : Nat} {td : List (Int × Int)} {vs : List Int} {f : Fin3} (r : Run H n td (v :: vs) D f) : Run H (n + 1) (c :: td) vs D f := by
  rcases h.kind with rfl | ⟨a, rfl, _⟩
  · exact .int r
  · exact .known (hk rfl) r
theorem put_at {a : Nat} {x : PyData} {D : List (PyData × PyData)} : lookup (.int a) (putD (.int a) x D) = some x := by rw [lookup_putD_int, if_pos rfl]
theorem put_ne {i j : Int} {x : PyData} {D : List (PyData × PyData)} (h : i ≠ j) : lookup (.int i) (putD (.int j) x D) = lookup (.int i) D := by rw [lookup_putD_int, if_neg h]
theorem Ch.run (h : Ch H val d c v) : ∀ D, Good val c D → ∃ D' k, k ≤ 4 * d + 1 ∧ After val c v D D' ∧ ∀ n td vs f, Run H n td (v :: vs) D' f → Run H (n + k) (c :: td) vs D f := by
  induction h with
  | base v => exact fun D _ => ⟨D, 1, by omega, ⟨fun _ _ => rfl, fun a h => by simp at h, fun h => by simp at h⟩, fun n td vs f r => .int r⟩
  | @add d c v a hc hlt h1 h2 h3 h4 h5 ih =>
    intro D hD
    rcases hD a rfl (Int.le_refl _) with e | e
    · obtain ⟨D2, k, hk, ⟨p1, p2, p3⟩, hr⟩ := ih (putD (.int a) .none D) (fun b hb hle => by
        rw [put_ne (by have := hlt hb; omega)]
        exact hD b rfl (by have := hlt hb; exact Int.le_of_lt (Int.lt_of_le_of_lt hle this)))
      refine ⟨putD (.int a) (.int (v + v)) D2, k + 3, by omega, ⟨fun i hi => ?_, fun b _ hb => ?_, fun _ => put_at⟩, fun n td vs f r => ?_⟩
      · have hi' := hi rfl
        simp only at hi'
        rw [put_ne (by omega), p1 i (fun hb => by have := hlt hb; omega), put_ne (by omega)]
      · simp only at hb
        by_cases q : b = a
        · subst q; exact .inr (by rw [put_at, h4])
        · rw [put_ne (by omega)]
          by_cases q2 : c.1 = 2 ∧ (b : Int) ≤ c.2
          · exact p2 b q2.1 q2.2
          · rw [p1 b (fun hb2 => by omega), put_ne (by omega)]
            exact hD b rfl hb
      · have r2 : Run H (n + 1) ((6, (a : Int)) :: td) (v :: v :: vs) D2 f := .add (Int.natCast_nonneg a) (by simpa using h1) h5 r
        have r3 := hr _ _ _ _ (hc.again p3 r2)
        rw [show n + (k + 3) = n + 1 + 1 + k + 1 from by omega]
        exact Run.two e (Int.natCast_nonneg a) (.inr rfl) (by simpa using h1) (by simpa using h2) (by simpa using h3) r3
    · refine ⟨D, 1, by omega, ⟨fun _ _ => rfl, hD, fun _ => by rw [e, h4]⟩, fun n td vs f r => .known (by rw [e, h4]) r⟩
  | @sub d c v a x hc hlt h1 h2 h3 h4 h5 ih =>
    intro D hD
    rcases hD a rfl (Int.le_refl _) with e | e
    · obtain ⟨D2, k, hk, ⟨p1, p2, p3⟩, hr⟩ := ih (putD (.int a) .none D) (fun b hb hle => by
        rw [put_ne (by have := hlt hb; omega)]
        exact hD b rfl (by have := hlt hb; exact Int.le_of_lt (Int.lt_of_le_of_lt hle this)))
      refine ⟨putD (.int a) (.int (v - x)) D2, k + 3, by omega, ⟨fun i hi => ?_, fun b _ hb => ?_, fun _ => put_at⟩, fun n td vs f r => ?_⟩
      · have hi' := hi rfl
        simp only at hi'
        rw [put_ne (by omega), p1 i (fun hb => by have := hlt hb; omega), put_ne (by omega)]
      · simp only at hb
        by_cases q : b = a
        · subst q; exact .inr (by rw [put_at, h4])
        · rw [put_ne (by omega)]
          by_cases q2 : c.1 = 2 ∧ (b : Int) ≤ c.2
          · exact p2 b q2.1 q2.2
          · rw [p1 b (fun hb2 => by omega), put_ne (by omega)]
            exact hD b rfl hb
      · have r2 : Run H (n + 1) ((6, (a : Int)) :: td) (x :: v :: vs) D2 f := .sub (Int.natCast_nonneg a) (by simpa using h1) h5 r
        have r3 := hr _ _ _ _ (.int r2)
        rw [show n + (k + 3) = n + 1 + 1 + k + 1 from by omega]
        exact Run.two e (Int.natCast_nonneg a) (.inl rfl) (by simpa using h1) (by simpa using h2) (by simpa using h3) r3
    · refine ⟨D, 1, by omega, ⟨fun _ _ => rfl, hD, fun _ => by rw [e, h4]⟩, fun n td vs f r => .known (by rw [e, h4]) r⟩
  | @neg d c v a hc hlt h1 h2 h4 h5 ih =>
    intro D hD
    rcases hD a rfl (Int.le_refl _) with e | e
    · obtain ⟨D2, k, hk, ⟨p1, p2, p3⟩, hr⟩ := ih (putD (.int a) .none D) (fun b hb hle => by
        rw [put_ne (by have := hlt hb; omega)]
        exact hD b rfl (by have := hlt hb; exact Int.le_of_lt (Int.lt_of_le_of_lt hle this)))
      refine ⟨putD (.int a) (.int (-v)) D2, k + 2, by omega, ⟨fun i hi => ?_, fun b _ hb => ?_, fun _ => put_at⟩, fun n td vs f r => ?_⟩
      · have hi' := hi rfl
        simp only at hi'
        rw [put_ne (by omega), p1 i (fun hb => by have := hlt hb; omega), put_ne (by omega)]
      · simp only at hb
        by_cases q : b = a
        · subst q; exact .inr (by rw [put_at, h4])
        · rw [put_ne (by omega)]
          by_cases q2 : c.1 = 2 ∧ (b : Int) ≤ c.2
          · exact p2 b q2.1 q2.2
          · rw [p1 b (fun hb2 => by omega), put_ne (by omega)]
            exact hD b rfl hb
      · have r2 : Run H (n + 1) ((6, (a : Int)) :: td) (v :: vs) D2 f := .neg (Int.natCast_nonneg a) (by simpa using h1) h5 r
        have r3 := hr _ _ _ _ r2
        rw [show n + (k + 2) = n + 1 + k + 1 from by omega]
        exact Run.one e (Int.natCast_nonneg a) (by simpa using h1) (by simpa using h2) r3
    · refine ⟨D, 1, by omega, ⟨fun _ _ => rfl, hD, fun _ => by rw [e, h4]⟩, fun n td vs f r => .known (by rw [e, h4]) r⟩
theorem good_nil {val : Nat → Int} {c : Int × Int} : Good val c [] := fun _ _ _ => .inl rfl
theorem good_put {val : Nat → Int} {c : Int × Int} {a : Int} {x : PyData} (h : c.1 = 2 → c.2 < a) : Good val c (putD (.int a) x []) := fun b hb hle => .inl (by
  rw [put_ne (by have := h hb; omega)]; rfl)
/-- evaluate answers the value -/
theorem Ch.val_run (h : Ch H val d c v) : ∃ n, n ≤ 4 * d + 1 ∧ Run H n [c] [] [] (.val v) := by
  obtain ⟨D, k, hk, _, hr⟩ := h.run [] good_nil
  exact ⟨0 + k, by omega, hr 0 [] [] _ (.val v D)⟩
theorem Ch.under (h : Ch H val d c v) {a : Nat} (ha : H.length ≤ a) : c.1 = 2 → c.2 < (a : Int) := by
  rcases h.kind with rfl | ⟨b, rfl, hb, _⟩
  · intro q; simp at q
  · intro _; simp only; omega
/-- the cell less itself -/
theorem Ch.both_run (h : Ch H val d c v) {a : Nat} (hlt : c.1 = 2 → c.2 < (a : Int)) (h1 : H[a]? = some (6, 13)) (h2 : H[a + 1]? = some c) (h3 : H[a + 2]? = some c) : ∃ n, n ≤ 4 * d + 10 ∧ Run H n [(2, (a : Int))] [] [] (.val (v - v)) := by
  obtain ⟨D, k, hk, ⟨_, _, p3⟩, hr⟩ := h.run (putD (.int a) .none []) (good_put hlt)
  have r2 : Run H (0 + 1) [(6, (a : Int))] (v :: v :: []) D (.val (v - v)) := .sub (Int.natCast_nonneg a) (by simpa using h1) (bits_ok (by simp)) (.val _ _)
  refine ⟨_, ?_, .two rfl (Int.natCast_nonneg a) (.inl rfl) (by simpa using h1) (by simpa using h2) (by simpa using h3) (hr _ _ _ _ (h.again p3 r2))⟩
  omega
/-- a block that is within itself -/
theorem Ch.mem_run (h : Ch H val d c v) {a b : Nat} (hlt : c.1 = 2 → c.2 < (a : Int)) (hab : a < b) (h1 : H[a]? = some (6, 14)) (h2 : H[a + 1]? = some c) (h3 : H[a + 2]? = some (2, (b : Int))) (h4 : H[b]? = some (6, 12)) (h5 : H[b + 1]? = some (2, (a : Int))) :
    ∃ n, n ≤ 4 * d + 10 ∧ Run H n [(2, (a : Int))] [] [] .memory := by
  obtain ⟨D, k, hk, ⟨p1, _, _⟩, hr⟩ := h.run (putD (.int a) .none []) (good_put hlt)
  have la : lookup (.int a) D = some .none := by rw [p1 a hlt, put_at]
  have lb : lookup (.int b) D = none := by
    rw [p1 b (fun q => by have := hlt q; omega), put_ne (by omega)]; rfl
  have r1 : Run H 0 ((2, (a : Int)) :: (6, (b : Int)) :: [(6, (a : Int))]) [v] (putD (.int b) .none D) .memory := .mem (by rw [put_ne (by omega)]; exact la) (Int.natCast_nonneg a)
  have r2 : Run H (0 + 1) ((2, (b : Int)) :: [(6, (a : Int))]) [v] D .memory := .one lb (Int.natCast_nonneg b) (by simpa using h4) (by simpa using h5) r1
  refine ⟨_, ?_, .two rfl (Int.natCast_nonneg a) (.inr rfl) (by simpa using h1) (by simpa using h2) (by simpa using h3) (hr _ _ _ _ r2)⟩
  omega
/-- a list within a block -/
theorem Ch.lis_run (h : Ch H val d c v) {a b : Nat} (hlt : c.1 = 2 → c.2 < (a : Int)) (h1 : H[a]? = some (6, 14)) (h2 : H[a + 1]? = some c) (h3 : H[a + 2]? = some (3, (b : Int))) :
    ∃ n, n ≤ 4 * d + 10 ∧ Run H n [(2, (a : Int))] [] [] .lis := by
  obtain ⟨D, k, hk, _, hr⟩ := h.run (putD (.int a) .none []) (good_put hlt)
  refine ⟨_, ?_, .two rfl (Int.natCast_nonneg a) (.inr rfl) (by simpa using h1) (by simpa using h2) (by simpa using h3) (hr 0 _ _ _ .lis)⟩
  omega
end
/-- what holds between the laps -/
def Lap (H : List (Int × Int)) (c : Int × Int) (v : Int) (d : Nat) : Prop := (∃ val, Ch H val d c v) ∧ v.natAbs + 8 ≤ 2 ^ (8 + d)
theorem pow_small {d : Nat} (h : d ≤ 80) : (2 : Nat) ^ (8 + d) ≤ 2 ^ 90 := Nat.pow_le_pow_right (by decide) (by omega)
section
variable {H : List (Int × Int)} {c : Int × Int} {v : Int} {d : Nat}
theorem Lap.start (h0 : -3 ≤ v) (h1 : v ≤ 200) : Lap [] (5, v) v 0 := ⟨⟨fun _ => 0, .base v⟩, by simp only [Nat.add_zero]; omega⟩
theorem get_app {X : List (Int × Int)} {i : Nat} {x : Int × Int} (h : H[i]? = some x) : (H ++ X)[i]? = some x := by
  rw [List.getElem?_append_left (List.getElem?_eq_some_iff.mp h).1]; exact h
theorem get_new {X : List (Int × Int)} (k : Nat) : (H ++ X)[H.length + k]? = X[k]? := by
  rw [List.getElem?_append_right (Nat.le_add_right _ _), Nat.add_sub_cancel_left]
def upd (val : Nat → Int) (n : Nat) (z : Int) : Nat → Int := fun a => if a = n then z else val a
theorem Lap.add (h : Lap H c v d) (hd : d ≤ 72) : Lap (H ++ [(6, 14), c, c]) (2, (H.length : Int)) (v + v) (d + 1) := by
  obtain ⟨⟨val, hc⟩, hb⟩ := h
  have hp := pow_small (d := d) (by omega)
  have e : (2 : Nat) ^ (8 + (d + 1)) = 2 ^ (8 + d) * 2 := Nat.pow_succ ..
  refine ⟨⟨upd val H.length (v + v), .add H.length (hc.mono (fun i x => get_app) (fun a ha => if_neg (Nat.ne_of_lt ha))) (hc.under (Nat.le_refl _)) (get_new 0) (get_new 1) (get_new 2) (if_pos rfl) (bits_ok ?_)⟩, by omega⟩
  omega
theorem Lap.sub (h : Lap H c v d) {k : Int} (h0 : 0 ≤ k) (h1 : k ≤ 8) (hd : d ≤ 72) : Lap (H ++ [(6, 13), c, (5, k)]) (2, (H.length : Int)) (v - k) (d + 1) := by
  obtain ⟨⟨val, hc⟩, hb⟩ := h
  have hp := pow_small (d := d) (by omega)
  have e : (2 : Nat) ^ (8 + (d + 1)) = 2 ^ (8 + d) * 2 := Nat.pow_succ ..
  refine ⟨⟨upd val H.length (v - k), .sub H.length k (hc.mono (fun i x => get_app) (fun a ha => if_neg (Nat.ne_of_lt ha))) (hc.under (Nat.le_refl _)) (get_new 0) (get_new 1) (get_new 2) (if_pos rfl) (bits_ok ?_)⟩, by omega⟩
  omega
theorem Lap.neg (h : Lap H c v d) (hd : d ≤ 72) : Lap (H ++ [(6, 12), c]) (2, (H.length : Int)) (-v) (d + 1) := by
  obtain ⟨⟨val, hc⟩, hb⟩ := h
  have hp := pow_small (d := d) (by omega)
  have e : (2 : Nat) ^ (8 + (d + 1)) = 2 ^ (8 + d) * 2 := Nat.pow_succ ..
  refine ⟨⟨upd val H.length (-v), .neg H.length (hc.mono (fun i x => get_app) (fun a ha => if_neg (Nat.ne_of_lt ha))) (hc.under (Nat.le_refl _)) (get_new 0) (get_new 1) (if_pos rfl) (bits_ok ?_)⟩, by omega⟩
  omega
end
end Mine
namespace Mine
local macro_rules | `(tactic| walk_at "exec While") => `(tactic| (k_here; k_dflt (refine whl_start 1 ?_)))
local macro_rules | `(tactic| walk_at "ite") => `(tactic| (k_here; first | (refine ite_pos (by first | with_reducible assumption | (simp only [beq_iff_eq, bne_iff_ne, decide_eq_true_eq, ne_eq]; omega)) ?_; walk_say "MY PRUNE") | (refine ite_neg (by first | with_reducible assumption | (simp only [beq_iff_eq, bne_iff_ne, decide_eq_true_eq, ne_eq]; omega)) ?_; walk_say "MY PRUNE")))
local macro_rules | `(tactic| walk_at "subscriptTail") => `(tactic| (k_here; (with_reducible show wpAny _ _ (subscriptTail _ _ (Value.ref _) (Value.int _ _)) _ _ _); (with_unfolding_all refine' item_abs ?k1 ?k2 ?k3 ?k4 ?k5 ?_ ?k6; (case k1 => k_asm); (case k2 => k_mem); (case k3 => assumption); (case k4 => first | assumption | omega); (case k5 => assumption); (case k6 => with_unfolding_all rfl); k_whole); walk_say "MY ITEM"))
local macro_rules | `(tactic| walk_at "compareOp In str ref") => `(tactic| (k_here; k_dflt (refine' in_tupK ?F ?X ?l ?w ?b ?_; (case F => k_asm); (case X => k_asm); (case l => k_is); (case w => kde_strs); (case b => exact rfl); k_whole); walk_say "MY IN"))
local macro_rules | `(tactic| walk_at "call builtin:list.append") => `(tactic| (k_here; (with_reducible show wpAny _ _ (call (Value.builtin _) [Value.ref _, _]) _ _ _); k_dflt (refine' append_L ?k1 ?k2 ?k3 ?z ?_; (case k1 => k_asm); (case k2 => k_asm); (case k3 => k_upd); (case z => first | assumption | omega | (simp only [List.length_append, List.length_cons, List.length_nil]; omega)); k_whole); intro h' F' N'; (try k_sweep); walk_say "MY APPEND"))
local macro_rules | `(tactic| walk_at "call builtin:list.pop") => `(tactic| (k_here; (with_reducible show wpAny _ _ (call (Value.builtin _) [Value.ref _]) _ _ _); k_dflt (refine' pop_L ?k1 ?k2 ?k3 ?z ?_; (case k1 => k_asm); (case k2 => k_asm); (case k3 => k_upd); (case z => first | assumption | omega | (simp only [List.length_append, List.length_cons, List.length_nil]; omega)); k_whole); intro h' F' N'; (try k_sweep); walk_say "MY POP"))
local macro_rules | `(tactic| k_all) => `(tactic| assumption)
local macro_rules | `(tactic| k_mem) => `(tactic| first | with_reducible exact List.Mem.head _ | assumption | (refine' List.Mem.tail _ ?_; k_mem))
local macro_rules | `(tactic| walk_at "truthy ref") => `(tactic| (k_here; (with_reducible show wpAny _ _ (truthy (Value.ref _)) _ _ _); k_dflt (refine' truthy_L ?k1 ?k2 ?k3 ?k4 ?_; (case k1 => k_asm); (case k2 => k_mem); (case k3 => first | assumption | (simp only [List.length_append, List.length_cons, List.length_nil]; omega)); (case k4 => first | exact some_true _ _ | exact none_false); k_whole); walk_say "MY TRUTH"))
local macro_rules | `(tactic| walk_at "call builtin:len") => `(tactic| (k_here; (with_reducible show wpAny _ _ (call (Value.builtin "len") [Value.ref _]) _ _ _); k_dflt (refine' len_L ?k1 ?k2 ?k3 ?_; (case k1 => k_asm); (case k2 => k_mem); (case k3 => first | assumption | (simp only [List.length_append, List.length_cons, List.length_nil]; omega)); k_whole); walk_say "MY LEN"))
local macro_rules | `(tactic| k_mem) => `(tactic| first | with_reducible exact List.mem_cons_self | with_reducible assumption | exact List.Mem.head _ | with_reducible exact SymSt.i (by with_reducible assumption) | with_reducible exact SymSt.d (by with_reducible assumption) | ((with_reducible refine' Keep.any ?kmk _ _ ?kma ?kmb); (case kmk => (with_reducible assumption)); (case kma => k_mem); (case kmb => first | exact .inl (.inl rfl) | exact .inl (.inr ⟨_, rfl⟩) | (refine Or.inr ?_; walk_at "my notin"))) | ((with_reducible refine' List.mem_cons_of_mem _ ?_); k_mem) | assumption | fail "my mem")
local macro_rules | `(tactic| walk_at "my ne0") => `(tactic| first | with_reducible assumption | with_reducible exact Ne.symm (by with_reducible assumption) | k_ne | (exact Ne.symm (by k_ne)) | exact lt_at (by with_reducible assumption) (by with_reducible assumption) | exact Ne.symm (lt_at (by with_reducible assumption) (by with_reducible assumption)) | exact off_at (by with_reducible assumption) (by with_reducible assumption) | exact Ne.symm (off_at (by with_reducible assumption) (by with_reducible assumption)) | fail "my ne0")
local macro_rules | `(tactic| walk_at "my notin") => `(tactic| first | with_reducible assumption | with_reducible exact OffS.sym (by with_reducible assumption) | with_reducible exact OffS.nd (by with_reducible assumption) | (simp only [List.mem_cons, List.not_mem_nil, or_false, not_or]; (repeat' (refine And.intro ?_ ?_)) <;> walk_at "my ne0"))
local macro_rules | `(tactic| walk_at "my sym") => `(tactic| first | with_reducible assumption | (refine' SymSt.keep ?ks1 (.cons [] _ _) (by simp); (case ks1 => walk_at "my sym")) | (refine' SymSt.keep (ds := []) ?ks1 ?ks2 (fun _ _ => List.not_mem_nil); (case ks2 => with_reducible assumption); (case ks1 => walk_at "my sym")) | (refine' SymSt.keepO ?ks1 ?ks2 ?ks3; (case ks2 => with_reducible assumption); (case ks3 => with_reducible assumption); (case ks1 => walk_at "my sym")) | fail "my sym")
local macro_rules | `(tactic| walk_at "my tab") => `(tactic| first | assumption | (refine' PyProof.Rows.TupTab.cons ?kt _; (case kt => walk_at "my tab")) | (refine' tupTab_keep ?kt1 ?kt0 ?kt2; (case kt0 => assumption); (case kt1 => walk_at "my tab"); (case kt2 => walk_at "my notin")) | fail "my tab")
local macro_rules | `(tactic| walk_at "call builtin:list.append") => `(tactic| (k_here; (with_reducible show wpAny _ _ (call (Value.builtin _) [Value.ref _, _]) _ _ _); k_dflt (refine' append_M ?k1 ?k2 ?k3 ?z ?_; (case k1 => k_asm); (case k2 => k_asm); (case k3 => k_mem); (case z => first | assumption | omega | (simp only [List.length_append, List.length_cons, List.length_nil]; omega)); k_whole); intro h' r' F' N' hin kp; (try k_sweep); walk_say "M APPEND"))
local macro_rules | `(tactic| walk_at "getMethod ref") => `(tactic| (k_here; (with_reducible show wpAny _ _ (getMethod (Value.ref _) "get" _) _ _ _); k_dflt (first | (refine' smeth_M ?k1 ?k2 ?k3 ?k4 ?k5 ?_; (case k1 => k_asm); (case k2 => k_mem); (case k4 => assumption); (case k5 => assumption); (case k3 => assumption); k_whole) | (refine' tmeth_M ?k1 ?k2 ?_; (case k1 => k_asm); (case k2 => walk_at "my tab"); k_whole)); walk_say "M METH"))
local macro_rules | `(tactic| walk_at "call builtin:dict.get") => `(tactic| (k_here; k_dflt (first | (refine' sget_M ?k1 ?k2 ?k3 ?k4 ?k5 ?k6 ?_; (case k1 => k_asm); (case k2 => k_mem); (case k4 => assumption); (case k5 => assumption); (case k3 => assumption); (case k6 => assumption); k_whole) | (refine' tget_M ?k1 ?k2 ?k3 ?k4 ?k5 ?_; (case k2 => k_asm); (case k3 => walk_at "my tab"); (case k4 => k_mem); (case k5 => assumption); (case k1 => walk_at "my units"); k_whole)); intro t'; walk_say "M GET"))
local macro_rules | `(tactic| walk_at "my units") => `(tactic| ((try simp only [units_in1, units_deeper, units_under_make, Around.mark_units]); (try dsimp only [ktrTop]); (try simp only [units_in1, units_deeper, units_under_make, Around.mark_units]); omega))
local macro_rules | `(tactic| walk_at "setItem ref str") => `(tactic| (k_here; k_dflt (refine' sset_M ?F ?N ?m ?d ?f ?z ?_; (case F => k_asm); (case N => k_asm); (case m => k_mem); (case d => assumption); (case f => assumption); (case z => first | assumption | omega); k_whole); intro h' r' o' kvs' F' N' hin hd' hf' kp; (try k_sweep); walk_say "M SET"))
local macro_rules | `(tactic| walk_at "setItem ref ref") => `(tactic| (k_here; k_dflt (refine' tset_M ?u ?F ?N ?T ?m ?z ?_; (case F => k_asm); (case N => k_asm); (case T => walk_at "my tab"); (case m => k_mem); (case z => first | assumption | omega); (case u => walk_at "my units"); k_whole); intro h' r' F' N' hT' kp; (try k_sweep); walk_say "M TSET"))
local macro_rules | `(tactic| walk_at "exec For") => `(tactic| (k_here; (with_reducible show wpAny _ _ (exec (Stmt.For (Expr.Name _ _) _ _ [] _) _) _ _ _); (rename Fr _ _ _ _ => lF'); (with_unfolding_all refine' For_invVF lF' ?k1 ?k2 ?_; (case k1 => exact rfl); (case k2 => exact rfl); k_whole); walk_say "MY FOR"))
local macro_rules | `(tactic| walk_at "exec For Name Name cons nil") => `(tactic| (k_here; (rename Fr _ _ _ _ => lF'); (with_unfolding_all refine' For_invVF lF' ?k1 ?k2 ?_; (case k1 => exact rfl); (case k2 => exact rfl); k_whole); walk_say "MY FOR"))
local macro_rules | `(tactic| walk_at "exec For Name Call cons nil") => `(tactic| (k_here; (rename Fr _ _ _ _ => lF'); (with_unfolding_all refine' For_invVF lF' ?k1 ?k2 ?_; (case k1 => exact rfl); (case k2 => exact rfl); k_whole); walk_say "MY FOR"))
local macro_rules | `(tactic| walk_at "pyIter ref") => `(tactic| (k_here; (with_reducible show wpAny _ _ (pyIter (Value.ref _)) (fun it s₂ => LoopAtV _ _ _ _ _ _ _ _ _ it s₂) _ _); k_dflt (first | (refine' iter_tupU ?h ?F ?N ?m ?_; (case h => with_unfolding_all rfl); (case F => k_asm); (case N => k_asm); (case m => k_mem); k_whole) | (refine' iter_lstU ?h ?F ?N ?m ?_; (case h => with_unfolding_all rfl); (case F => k_asm); (case N => k_asm); (case m => k_mem); k_whole)); intro i' l1; (try (have hoff := SymSt.offNew l1 (by walk_at "my sym"))); (try k_lt l1); walk_say "MY ITER"))
local macro_rules | `(tactic| walk_at "SeqRest") => `(tactic| (with_unfolding_all first | (refine SeqRest.succ (fun it' h' tk' o' f' F' N' => ?_)) | (refine SeqRest.zero (fun h' tk' F' N' => ?_))))
local macro_rules | `(tactic| walk_at "UnrEnd") => `(tactic| (refine' UnrEnd.introM2 ?F ?N ?hI ?hf ?_; (case F => k_asm); (case N => k_asm); (case hI => k_mem); (case hf => assumption); intro q' kq' oq'; refine ⟨by k_mem, ?_⟩; walk_say "MY UNREND"))
local macro_rules | `(tactic| walk_at "find lt") => `(tactic| first | assumption | exact And.right (by assumption) | exact And.right (And.right (by assumption)) | exact And.right (And.right (And.right (by assumption))) | fail "find lt")
local macro_rules | `(tactic| walk_at "newList") => `(tactic| (k_here; k_dflt (refine' newList_K ?k1 ?k2 ?_; (case k1 => k_asm); (case k2 => k_asm); k_whole); intro l' h' F' N' l1; (try (have hoff := SymSt.offNew l1 (by walk_at "my sym"))); (try k_lt l1); (try k_sweep); walk_say "MY NEWLIST"))
local macro_rules | `(tactic| walk_at "my rt") => `(tactic| first | assumption | with_reducible exact RT.int _ _ | with_reducible exact RT.str _ _ | (refine' RT.tup ?rta ?rtb; (case rta => k_mem); (case rtb => walk_at "my rts")) | (refine' RT.sub ?rta (fun _ h => List.mem_cons_of_mem _ h); (case rta => walk_at "my rt")) | (refine' RT.keep ?rta ?rtb; (case rtb => with_reducible assumption); (case rta => walk_at "my rt")) | fail "my rt")
local macro_rules | `(tactic| walk_at "my rts") => `(tactic| first | exact RTs.nil | (refine' RTs.cons ?rsa ?rsb; (case rsa => walk_at "my rt"); (case rsb => walk_at "my rts")) | fail "my rts")
local macro_rules | `(tactic| walk_at "my keep") => `(tactic| first | with_reducible assumption | exact Keep.refl _ _ | (with_reducible refine' Keep.stepCons ?kpa; (case kpa => walk_at "my keep")) | ((with_reducible refine' Keep.trans ?kpa ?kpb); (case kpb => (with_reducible assumption)); (case kpa => walk_at "my keep")) | ((refine' Keep.trans ?kpa (Keep.wide (ds := []) ?kpb (fun _ h => nomatch h))); (case kpb => (with_reducible assumption)); (case kpa => walk_at "my keep")) | ((with_reducible refine' Keep.stepNew ?kpa ?kpb ?kpc); (case kpb => (with_reducible assumption)); (case kpc => walk_at "my off"); (case kpa => walk_at "my keep")) | fail "my keep")
local macro_rules | `(tactic| walk_at "my off") => `(tactic| first | assumption | exact off_lt (by assumption) | (refine' off_sub ?ofa ?ofb; (case ofa => assumption); (case ofb => (intro p hp; repeat (first | exact hp | refine List.mem_cons_of_mem _ ?_)))) | (refine' off_allLt ?ofa; (case ofa => walk_at "find lt")) | fail "my off")
local macro_rules | `(tactic| walk_at "call type:tuple") => `(tactic| (k_here; (with_reducible show wpAny _ _ (call (Value.type _) [Value.ref _]) _ _ _); k_dflt (refine' tuple_M ?k1 ?k2 ?_; (case k1 => k_asm); (case k2 => k_mem); k_whole); walk_say "MY TUPLE"))
local macro_rules | `(tactic| walk_at "callWith ref") => `(tactic| (k_here; k_dflt (refine' callWith_K0 ?k1 ?k2 ?_; (case k1 => k_in); (case k2 => k_is); k_whole); (try dsimp only [List.nil_append, List.cons_append, List.append_nil]); walk_say "MY CW0"))
local macro_rules | `(tactic| walk_at "pyIter ref") => `(tactic| ((with_reducible show wpAny _ _ (pyIter (Value.ref _)) (fun it s₂ => LoopAtV _ _ _ _ _ _ _ _ _ it s₂) _ _); (rename Fr _ _ _ _ => lF'); (rename News _ _ _ _ => lN'); (rename IsRange _ _ _ _ _ _ _ _ => rgX); (with_unfolding_all refine iter_rangeUnr (by rfl) rgX (range_small1 (by omega)) (range_size1 _) lF' lN' ?_); intro i' l1; refine held ?_; walk_say "MY RANGE"))
local macro_rules | `(tactic| walk_at "setItem ref int") => `(tactic| (k_here; k_dflt (refine' lset_M ?F ?N ?m ?z0 ?z1 ?z ?_; (case F => k_asm); (case N => k_asm); (case m => k_mem); (case z0 => first | assumption | omega); (case z1 => walk_at "my len"); (case z => walk_at "my len"); k_whole); intro h' r' F' N' hin kp; (try k_sweep); walk_say "M LSET"))
local macro_rules | `(tactic| walk_at "my len") => `(tactic| first | assumption | omega | (simp only [List.length_append, List.length_cons, List.length_nil, List.length_set]; omega))
local macro_rules | `(tactic| walk_at "ite") => `(tactic| (k_here; first | (refine ite_pos (by (simp only [beq_iff_eq, bne_iff_ne, decide_eq_true_eq, ne_eq, List.length_append, List.length_cons, List.length_nil]; omega)) ?_; walk_say "MY PRUNE2") | (refine ite_neg (by (simp only [beq_iff_eq, bne_iff_ne, decide_eq_true_eq, ne_eq, List.length_append, List.length_cons, List.length_nil]; omega)) ?_; walk_say "MY PRUNE2")))
local macro_rules | `(tactic| walk_at "find lt") => `(tactic| first | with_reducible assumption | exact And.right (by with_reducible assumption) | exact And.right (And.right (by with_reducible assumption)) | exact And.right (And.right (And.right (by with_reducible assumption))) | exact And.right (And.right (And.right (And.right (by with_reducible assumption)))) | exact And.right (And.right (And.right (And.right (And.right (by with_reducible assumption))))) | exact And.right (And.right (And.right (And.right (And.right (And.right (by with_reducible assumption)))))))
local macro_rules | `(tactic| walk_at "my ne0") => `(tactic| first | with_reducible assumption | with_reducible exact Ne.symm (by with_reducible assumption) | exact lt_at (by with_reducible assumption) (by with_reducible assumption) | exact Ne.symm (lt_at (by with_reducible assumption) (by with_reducible assumption)) | exact off_at (by with_reducible assumption) (by with_reducible assumption) | exact Ne.symm (off_at (by with_reducible assumption) (by with_reducible assumption)) | exact allLt_at (by walk_at "find lt") (by with_reducible assumption) | exact Ne.symm (allLt_at (by walk_at "find lt") (by with_reducible assumption)) | k_ne | (exact Ne.symm (by k_ne)) | fail "my ne0")
local macro_rules | `(tactic| walk_at "pyIter ref") => `(tactic| (k_here; (with_reducible show wpAny _ _ (pyIter (Value.ref _)) (fun it s₂ => LoopAtV _ _ _ _ _ _ _ _ _ it s₂) _ _); k_dflt (refine' iter_lstU2 ?h ?F ?N ?m ?_; (case h => with_unfolding_all rfl); (case F => k_asm); (case N => k_asm); (case m => k_mem); k_whole); intro i' l1 lm; (try k_lt l1); walk_say "MY ITER2"))
local macro_rules | `(tactic| walk_at "getItem ref int") => `(tactic| (k_here; (with_unfolding_all refine' getitem_abs ?k1 ?k2 ?k3 ?k4 ?k5 ?_; (case k1 => k_asm); (case k2 => k_mem); (case k3 => first | assumption | exact rfl); (case k4 => first | assumption | decide | omega); (case k5 => first | assumption | (simp only [List.length_append, List.length_cons, List.length_nil]; omega)); k_whole); walk_say "MY GETITEM"))
local macro_rules | `(tactic| walk_at "subscriptTail") => `(tactic| (k_here; (with_reducible show wpAny _ _ (subscriptTail _ _ (Value.ref _) (Value.int _ _)) _ _ _); (with_unfolding_all refine' item_abs ?k1 ?k2 ?k3 ?k4 ?k5 ?_ ?k6; (case k4 => decide); (case k1 => k_asm); (case k2 => k_mem); (case k3 => exact rfl); (case k5 => first | assumption | (simp only [List.length_append, List.length_cons, List.length_nil, List.length_set]; omega)); (case k6 => with_unfolding_all rfl); k_whole); walk_say "LIT ITEM"))
local macro_rules | `(tactic| walk_at "eval Name") => `(tactic| (k_here; k_dflt (refine' ld ?k1 ?k2 ?_; (case k1 => k_asm); (case k2 => exact rfl); k_whole)))
local macro_rules | `(tactic| walk_at "subscriptTail") => `(tactic| (k_here; (with_reducible show wpAny _ _ (subscriptTail _ _ (Value.ref _) (Value.int _ _)) _ _ _); k_dflt (refine' item_tupleT ?t ?a ?b ?c ?d ?_; (case a => decide); (case b => decide); (case t => (refine' News.isTup ?tn ?tm; (case tn => k_asm); (case tm => k_mem))); (case c => rfl); (case d => rfl); k_whole)))
local macro_rules | `(tactic| walk_at "getMethod ref") => `(tactic| (k_here; k_dflt (refine' method_inst ?k1 ?k2 ?k3 ?k4 ?k5 ?k6 ?k7 ?_; (case k1 => k_asm); (case k2 => k_asm); (case k3 => k_inst); (case k4 => k_is); (case k5 => k_is); (case k6 => k_is); (case k7 => k_get); k_whole)))
local macro_rules | `(tactic| walk_at "getAttr ref") => `(tactic| (k_here; k_dflt (refine' get_own ?k1 ?k2 ?k3 ?k4 ?k5 ?k6 ?k7 ?k8 ?k9 ?_; (case k1 => k_asm); (case k2 => k_asm); (case k3 => k_inst); (case k4 => k_is); (case k5 => k_is); (case k6 => k_is); (case k7 => k_is); (case k8 => k_get); (case k9 => k_handed); k_whole)))
local macro_rules | `(tactic| walk_at "exec If") => `(tactic| (k_here; refine wpAny_If ?_))
local macro_rules | `(tactic| walk_at "getMethod ref") => `(tactic| (k_here; (with_reducible show wpAny _ _ (getMethod (Value.ref _) (PySem.Str.ofString "append") _) _ _ _); k_dflt (refine' listMethod_K ?N ?m PySem.F.slot_list_append PySem.F.type_list_append ?_; (case N => k_asm); (case m => k_mem))))
local macro_rules | `(tactic| walk_at "getMethod ref") => `(tactic| (k_here; (with_reducible show wpAny _ _ (getMethod (Value.ref _) (PySem.Str.ofString "pop") _) _ _ _); k_dflt (refine' kl_method ?N ?m PySem.F.slot_list_pop PySem.F.type_list_pop ?_; (case N => k_asm); (case m => k_mem))))
local macro_rules | `(tactic| walk_at "subscriptTail Name Constant ref int") => `(tactic| (k_here; (with_reducible show wpAny _ _ (subscriptTail _ _ (Value.ref _) (Value.int _ _)) _ _ _); k_dflt (refine' item_tupleT ?t ?a ?b ?c ?d ?_; (case a => decide); (case b => decide); (case t => (refine' News.isTup ?tn ?tm; (case tn => k_asm); (case tm => k_mem))); (case c => rfl); (case d => rfl); k_whole)))
local macro_rules | `(tactic| walk_at "subscriptTail Subscript Constant ref int") => `(tactic| (k_here; (with_reducible show wpAny _ _ (subscriptTail _ _ (Value.ref _) (Value.int _ _)) _ _ _); k_dflt (refine' item_tupleT ?t ?a ?b ?c ?d ?_; (case a => decide); (case b => decide); (case t => (refine' News.isTup ?tn ?tm; (case tn => k_asm); (case tm => k_mem))); (case c => rfl); (case d => rfl); k_whole)))
def AllInts (vs : List Value) : Prop := ∀ v ∈ vs, ∃ n t, v = Value.int n t
theorem item_ints {prog : Program} {w : World} {A : Around} {E : Value → Shared → Prop} {s : Shared} {h₀ : Heap} {L : Addr} {news : List (Addr × Obj)} {value slice : PySem.Expr} {l : Addr} {vs : List Value} {n : Nat} {k : Int} {u : Tok} {Q : Value → Shared → Prop}
    (N : News h₀ L s.heap news) (hm : (l, listOf vs.toArray n) ∈ news) (hI : AllInts vs) (h0 : 0 ≤ k) (hk : k < (vs.length : Int)) (hb : vs.length ≤ 200000) (h : ∀ n t, Q (.int n t) s)
    (hs : subscripted slice false (.ref l) (.int k u) = operate [.ref l, .int k u] (getItem (.ref l) (.int k u))) :
    wpAny (model prog w) A (subscriptTail value slice (.ref l) (.int k u)) Q E s := by
  have hlt : k.toNat < vs.length := by omega
  obtain ⟨n, t, e⟩ := hI _ (List.getElem_mem hlt)
  exact item_abs N hm (by rw [List.getElem?_eq_getElem hlt, e]) h0 hb (h n t) hs
local macro_rules | `(tactic| walk_at "subscriptTail") => `(tactic| (k_here; (with_reducible show wpAny _ _ (subscriptTail _ _ (Value.ref _) (Value.int _ _)) _ _ _); (with_unfolding_all refine' item_ints ?k1 ?k2 ?k3 ?k4 ?k5 ?k6 ?_ ?k7; (case k1 => k_asm); (case k2 => k_mem); (case k3 => assumption); (case k4 => omega); (case k5 => omega); (case k6 => assumption); (case k7 => with_unfolding_all rfl); k_whole); intro n9 t9; walk_say "INTS ITEM"))
theorem feed_ok {w : World} {p : Program} {loose : List Str} {mean : ExcName → Option Value} {mg mb : Str → Option Value}
  {dp un : Nat} {gd : Option (List Code)} {cn : Str} {cs : Scope} {a : Addr} {ccd : Value} {cl : List (Str × Addr)} {outer : List Env} {A₀ : Around} {base h₀ : Heap} {L : Addr} {m : Str → Option Value} {news : List (Addr × Obj)} {s : Shared} {Q E : Value → Shared → Prop}
  {tr sl : Addr} {lim k : Int} {tl tk0 : Tok} {ntr nsl : Nat} {vs : List Value}
  (B : Below A₀ base outer h₀) (F : Fr h₀ L s.heap m) (X : (hd.heap_39 w.params).In h₀) (N : News h₀ L s.heap news) (T : Top p loose mean mg mb h₀) (hk : cs.kind = .function)
  (hdp : dp + 2 < recursionLimit) (hun : un + 20 < cLine)
  (htr : (tr, listOf #[.ref sl, .int k tk0] ntr) ∈ news) (hsl : (sl, listOf vs.toArray nsl) ∈ news) (hI : AllInts vs) (hb : vs.length ≤ 200000) (hk0 : 0 ≤ k) (hk1 : k ≤ 100000) (hl0 : 0 < lim) (hl1 : lim ≤ 1000) (hne : tr ≠ sl)
  (ret : ∀ h' tk r t' t2 n' r', 0 ≤ r → r < lim → Fr h₀ L h' m → News h₀ L h' r' → (tr, listOf #[.ref sl, .int (k + 1) t2] n') ∈ r' → Keep [tr] news r' → Q (.int r t') { s with heap := h', toks := tk }) :
  wpAny (model PySem.Challenge.rw_rh0112_01.row.prog w) (ktrTop dp un gd cn cs L a ccd cl outer) (call (.ref 715) [.ref tr, .int lim tl]) Q E s := by
  revert X; k_fill; intro X
  have hls : ([Value.ref sl, Value.int k tk0] : List Value).length ≤ 200000 := by simp
  refine wpAny_call ?_
  k_dflt ktr_enter
  k_steps
  · rename (tr, _) ∈ _ => hin
    exact ret _ _ 0 _ _ _ _ (Int.le_refl 0) hl0 (by k_asm) (by k_asm) hin (by walk_at "my keep")
  · rename (tr, _) ∈ _ => hin
    refine ret _ _ _ _ _ _ _ ?_ ?_ (by k_asm) (by k_asm) hin (by walk_at "my keep")
    · rw [Int.fmod_eq_emod_of_nonneg _ (Int.le_of_lt hl0)]; exact Int.emod_nonneg _ (Int.ne_of_gt hl0)
    · rw [Int.fmod_eq_emod_of_nonneg _ (Int.le_of_lt hl0)]; exact Int.emod_lt_of_pos _ hl0

end Mine
namespace Mine
local macro_rules | `(tactic| walk_at "exec While") => `(tactic| (k_here; k_dflt (refine whl_start 1 ?_)))
local macro_rules | `(tactic| walk_at "ite") => `(tactic| (k_here; first | (refine ite_pos (by first | with_reducible assumption | (simp only [beq_iff_eq, bne_iff_ne, decide_eq_true_eq, ne_eq]; omega)) ?_; walk_say "MY PRUNE") | (refine ite_neg (by first | with_reducible assumption | (simp only [beq_iff_eq, bne_iff_ne, decide_eq_true_eq, ne_eq]; omega)) ?_; walk_say "MY PRUNE")))
local macro_rules | `(tactic| walk_at "subscriptTail") => `(tactic| (k_here; (with_reducible show wpAny _ _ (subscriptTail _ _ (Value.ref _) (Value.int _ _)) _ _ _); (with_unfolding_all refine' item_abs ?k1 ?k2 ?k3 ?k4 ?k5 ?_ ?k6; (case k1 => k_asm); (case k2 => k_mem); (case k3 => assumption); (case k4 => first | assumption | omega); (case k5 => assumption); (case k6 => with_unfolding_all rfl); k_whole); walk_say "MY ITEM"))
local macro_rules | `(tactic| walk_at "compareOp In str ref") => `(tactic| (k_here; k_dflt (refine' in_tupK ?F ?X ?l ?w ?b ?_; (case F => k_asm); (case X => k_asm); (case l => k_is); (case w => kde_strs); (case b => exact rfl); k_whole); walk_say "MY IN"))
local macro_rules | `(tactic| walk_at "call builtin:list.append") => `(tactic| (k_here; (with_reducible show wpAny _ _ (call (Value.builtin _) [Value.ref _, _]) _ _ _); k_dflt (refine' append_L ?k1 ?k2 ?k3 ?z ?_; (case k1 => k_asm); (case k2 => k_asm); (case k3 => k_upd); (case z => first | assumption | omega | (simp only [List.length_append, List.length_cons, List.length_nil]; omega)); k_whole); intro h' F' N'; (try k_sweep); walk_say "MY APPEND"))
local macro_rules | `(tactic| walk_at "call builtin:list.pop") => `(tactic| (k_here; (with_reducible show wpAny _ _ (call (Value.builtin _) [Value.ref _]) _ _ _); k_dflt (refine' pop_L ?k1 ?k2 ?k3 ?z ?_; (case k1 => k_asm); (case k2 => k_asm); (case k3 => k_upd); (case z => first | assumption | omega | (simp only [List.length_append, List.length_cons, List.length_nil]; omega)); k_whole); intro h' F' N'; (try k_sweep); walk_say "MY POP"))
local macro_rules | `(tactic| k_all) => `(tactic| assumption)
local macro_rules | `(tactic| k_mem) => `(tactic| first | with_reducible exact List.Mem.head _ | assumption | (refine' List.Mem.tail _ ?_; k_mem))
local macro_rules | `(tactic| walk_at "truthy ref") => `(tactic| (k_here; (with_reducible show wpAny _ _ (truthy (Value.ref _)) _ _ _); k_dflt (refine' truthy_L ?k1 ?k2 ?k3 ?k4 ?_; (case k1 => k_asm); (case k2 => k_mem); (case k3 => first | assumption | (simp only [List.length_append, List.length_cons, List.length_nil]; omega)); (case k4 => first | exact some_true _ _ | exact none_false); k_whole); walk_say "MY TRUTH"))
local macro_rules | `(tactic| walk_at "call builtin:len") => `(tactic| (k_here; (with_reducible show wpAny _ _ (call (Value.builtin "len") [Value.ref _]) _ _ _); k_dflt (refine' len_L ?k1 ?k2 ?k3 ?_; (case k1 => k_asm); (case k2 => k_mem); (case k3 => first | assumption | (simp only [List.length_append, List.length_cons, List.length_nil]; omega)); k_whole); walk_say "MY LEN"))
local macro_rules | `(tactic| k_mem) => `(tactic| first | with_reducible exact List.mem_cons_self | with_reducible assumption | exact List.Mem.head _ | with_reducible exact SymSt.i (by with_reducible assumption) | with_reducible exact SymSt.d (by with_reducible assumption) | ((with_reducible refine' Keep.any ?kmk _ _ ?kma ?kmb); (case kmk => (with_reducible assumption)); (case kma => k_mem); (case kmb => first | exact .inl (.inl rfl) | exact .inl (.inr ⟨_, rfl⟩) | (refine Or.inr ?_; walk_at "my notin"))) | ((with_reducible refine' List.mem_cons_of_mem _ ?_); k_mem) | assumption | fail "my mem")
local macro_rules | `(tactic| walk_at "my ne0") => `(tactic| first | with_reducible assumption | with_reducible exact Ne.symm (by with_reducible assumption) | k_ne | (exact Ne.symm (by k_ne)) | exact lt_at (by with_reducible assumption) (by with_reducible assumption) | exact Ne.symm (lt_at (by with_reducible assumption) (by with_reducible assumption)) | exact off_at (by with_reducible assumption) (by with_reducible assumption) | exact Ne.symm (off_at (by with_reducible assumption) (by with_reducible assumption)) | fail "my ne0")
local macro_rules | `(tactic| walk_at "my notin") => `(tactic| first | with_reducible assumption | with_reducible exact OffS.sym (by with_reducible assumption) | with_reducible exact OffS.nd (by with_reducible assumption) | (simp only [List.mem_cons, List.not_mem_nil, or_false, not_or]; (repeat' (refine And.intro ?_ ?_)) <;> walk_at "my ne0"))
local macro_rules | `(tactic| walk_at "my sym") => `(tactic| first | with_reducible assumption | (refine' SymSt.keep ?ks1 (.cons [] _ _) (by simp); (case ks1 => walk_at "my sym")) | (refine' SymSt.keep (ds := []) ?ks1 ?ks2 (fun _ _ => List.not_mem_nil); (case ks2 => with_reducible assumption); (case ks1 => walk_at "my sym")) | (refine' SymSt.keepO ?ks1 ?ks2 ?ks3; (case ks2 => with_reducible assumption); (case ks3 => with_reducible assumption); (case ks1 => walk_at "my sym")) | fail "my sym")
local macro_rules | `(tactic| walk_at "my tab") => `(tactic| first | assumption | (refine' PyProof.Rows.TupTab.cons ?kt _; (case kt => walk_at "my tab")) | (refine' tupTab_keep ?kt1 ?kt0 ?kt2; (case kt0 => assumption); (case kt1 => walk_at "my tab"); (case kt2 => walk_at "my notin")) | fail "my tab")
local macro_rules | `(tactic| walk_at "call builtin:list.append") => `(tactic| (k_here; (with_reducible show wpAny _ _ (call (Value.builtin _) [Value.ref _, _]) _ _ _); k_dflt (refine' append_M ?k1 ?k2 ?k3 ?z ?_; (case k1 => k_asm); (case k2 => k_asm); (case k3 => k_mem); (case z => first | assumption | omega | (simp only [List.length_append, List.length_cons, List.length_nil]; omega)); k_whole); intro h' r' F' N' hin kp; (try k_sweep); walk_say "M APPEND"))
local macro_rules | `(tactic| walk_at "getMethod ref") => `(tactic| (k_here; (with_reducible show wpAny _ _ (getMethod (Value.ref _) "get" _) _ _ _); k_dflt (first | (refine' smeth_M ?k1 ?k2 ?k3 ?k4 ?k5 ?_; (case k1 => k_asm); (case k2 => k_mem); (case k4 => assumption); (case k5 => assumption); (case k3 => assumption); k_whole) | (refine' tmeth_M ?k1 ?k2 ?_; (case k1 => k_asm); (case k2 => walk_at "my tab"); k_whole)); walk_say "M METH"))
local macro_rules | `(tactic| walk_at "call builtin:dict.get") => `(tactic| (k_here; k_dflt (first | (refine' sget_M ?k1 ?k2 ?k3 ?k4 ?k5 ?k6 ?_; (case k1 => k_asm); (case k2 => k_mem); (case k4 => assumption); (case k5 => assumption); (case k3 => assumption); (case k6 => assumption); k_whole) | (refine' tget_M ?k1 ?k2 ?k3 ?k4 ?k5 ?_; (case k2 => k_asm); (case k3 => walk_at "my tab"); (case k4 => k_mem); (case k5 => assumption); (case k1 => walk_at "my units"); k_whole)); intro t'; walk_say "M GET"))
local macro_rules | `(tactic| walk_at "my units") => `(tactic| ((try simp only [units_in1, units_deeper, units_under_make, Around.mark_units]); (try dsimp only [ktrTop]); (try simp only [units_in1, units_deeper, units_under_make, Around.mark_units]); omega))
local macro_rules | `(tactic| walk_at "setItem ref str") => `(tactic| (k_here; k_dflt (refine' sset_M ?F ?N ?m ?d ?f ?z ?_; (case F => k_asm); (case N => k_asm); (case m => k_mem); (case d => assumption); (case f => assumption); (case z => first | assumption | omega); k_whole); intro h' r' o' kvs' F' N' hin hd' hf' kp; (try k_sweep); walk_say "M SET"))
local macro_rules | `(tactic| walk_at "setItem ref ref") => `(tactic| (k_here; k_dflt (refine' tset_M ?u ?F ?N ?T ?m ?z ?_; (case F => k_asm); (case N => k_asm); (case T => walk_at "my tab"); (case m => k_mem); (case z => first | assumption | omega); (case u => walk_at "my units"); k_whole); intro h' r' F' N' hT' kp; (try k_sweep); walk_say "M TSET"))
local macro_rules | `(tactic| walk_at "exec For") => `(tactic| (k_here; (with_reducible show wpAny _ _ (exec (Stmt.For (Expr.Name _ _) _ _ [] _) _) _ _ _); (rename Fr _ _ _ _ => lF'); (with_unfolding_all refine' For_invVF lF' ?k1 ?k2 ?_; (case k1 => exact rfl); (case k2 => exact rfl); k_whole); walk_say "MY FOR"))
local macro_rules | `(tactic| walk_at "exec For Name Name cons nil") => `(tactic| (k_here; (rename Fr _ _ _ _ => lF'); (with_unfolding_all refine' For_invVF lF' ?k1 ?k2 ?_; (case k1 => exact rfl); (case k2 => exact rfl); k_whole); walk_say "MY FOR"))
local macro_rules | `(tactic| walk_at "exec For Name Call cons nil") => `(tactic| (k_here; (rename Fr _ _ _ _ => lF'); (with_unfolding_all refine' For_invVF lF' ?k1 ?k2 ?_; (case k1 => exact rfl); (case k2 => exact rfl); k_whole); walk_say "MY FOR"))
local macro_rules | `(tactic| walk_at "pyIter ref") => `(tactic| (k_here; (with_reducible show wpAny _ _ (pyIter (Value.ref _)) (fun it s₂ => LoopAtV _ _ _ _ _ _ _ _ _ it s₂) _ _); k_dflt (first | (refine' iter_tupU ?h ?F ?N ?m ?_; (case h => with_unfolding_all rfl); (case F => k_asm); (case N => k_asm); (case m => k_mem); k_whole) | (refine' iter_lstU ?h ?F ?N ?m ?_; (case h => with_unfolding_all rfl); (case F => k_asm); (case N => k_asm); (case m => k_mem); k_whole)); intro i' l1; (try (have hoff := SymSt.offNew l1 (by walk_at "my sym"))); (try k_lt l1); walk_say "MY ITER"))
local macro_rules | `(tactic| walk_at "SeqRest") => `(tactic| (with_unfolding_all first | (refine SeqRest.succ (fun it' h' tk' o' f' F' N' => ?_)) | (refine SeqRest.zero (fun h' tk' F' N' => ?_))))
local macro_rules | `(tactic| walk_at "UnrEnd") => `(tactic| (refine' UnrEnd.introM2 ?F ?N ?hI ?hf ?_; (case F => k_asm); (case N => k_asm); (case hI => k_mem); (case hf => assumption); intro q' kq' oq'; refine ⟨by k_mem, ?_⟩; walk_say "MY UNREND"))
local macro_rules | `(tactic| walk_at "find lt") => `(tactic| first | assumption | exact And.right (by assumption) | exact And.right (And.right (by assumption)) | exact And.right (And.right (And.right (by assumption))) | fail "find lt")
local macro_rules | `(tactic| walk_at "newList") => `(tactic| (k_here; k_dflt (refine' newList_K ?k1 ?k2 ?_; (case k1 => k_asm); (case k2 => k_asm); k_whole); intro l' h' F' N' l1; (try (have hoff := SymSt.offNew l1 (by walk_at "my sym"))); (try k_lt l1); (try k_sweep); walk_say "MY NEWLIST"))
local macro_rules | `(tactic| walk_at "my rt") => `(tactic| first | assumption | with_reducible exact RT.int _ _ | with_reducible exact RT.str _ _ | (refine' RT.tup ?rta ?rtb; (case rta => k_mem); (case rtb => walk_at "my rts")) | (refine' RT.sub ?rta (fun _ h => List.mem_cons_of_mem _ h); (case rta => walk_at "my rt")) | (refine' RT.keep ?rta ?rtb; (case rtb => with_reducible assumption); (case rta => walk_at "my rt")) | fail "my rt")
local macro_rules | `(tactic| walk_at "my rts") => `(tactic| first | exact RTs.nil | (refine' RTs.cons ?rsa ?rsb; (case rsa => walk_at "my rt"); (case rsb => walk_at "my rts")) | fail "my rts")
local macro_rules | `(tactic| walk_at "my keep") => `(tactic| first | with_reducible assumption | exact Keep.refl _ _ | (with_reducible refine' Keep.stepCons ?kpa; (case kpa => walk_at "my keep")) | ((with_reducible refine' Keep.trans ?kpa ?kpb); (case kpb => (with_reducible assumption)); (case kpa => walk_at "my keep")) | ((refine' Keep.trans ?kpa (Keep.wide (ds := []) ?kpb (fun _ h => nomatch h))); (case kpb => (with_reducible assumption)); (case kpa => walk_at "my keep")) | ((with_reducible refine' Keep.stepNew ?kpa ?kpb ?kpc); (case kpb => (with_reducible assumption)); (case kpc => walk_at "my off"); (case kpa => walk_at "my keep")) | fail "my keep")
local macro_rules | `(tactic| walk_at "my off") => `(tactic| first | assumption | exact off_lt (by assumption) | (refine' off_sub ?ofa ?ofb; (case ofa => assumption); (case ofb => (intro p hp; repeat (first | exact hp | refine List.mem_cons_of_mem _ ?_)))) | (refine' off_allLt ?ofa; (case ofa => walk_at "find lt")) | fail "my off")
local macro_rules | `(tactic| walk_at "call type:tuple") => `(tactic| (k_here; (with_reducible show wpAny _ _ (call (Value.type _) [Value.ref _]) _ _ _); k_dflt (refine' tuple_M ?k1 ?k2 ?_; (case k1 => k_asm); (case k2 => k_mem); k_whole); walk_say "MY TUPLE"))
local macro_rules | `(tactic| walk_at "subscriptTail") => `(tactic| (k_here; (with_reducible show wpAny _ _ (subscriptTail _ _ (Value.ref _) (Value.int _ _)) _ _ _); (with_unfolding_all refine' item_abs ?k1 ?k2 ?k3 ?k4 ?k5 ?_ ?k6; (case k1 => k_asm); (case k2 => k_mem); (case k3 => first | assumption | exact last_idx _ _); (case k4 => first | assumption | omega | (simp only [List.length_append, List.length_cons, List.length_nil]; omega)); (case k5 => first | assumption | (simp only [List.length_append, List.length_cons, List.length_nil]; omega)); (case k6 => with_unfolding_all rfl); k_whole); walk_say "EV ITEM"))
local macro_rules | `(tactic| walk_at "subscriptTail") => `(tactic| (k_here; (with_reducible show wpAny _ _ (subscriptTail _ _ (Value.ref _) (Value.int _ _)) _ _ _); (with_unfolding_all refine' kn_item ?k1 ?k2 ?lo ?k3 ?k4 ?k5 ?_ ?k6 ?k7; (case k1 => k_asm); (case k2 => k_mem); (case k3 => assumption); (case lo => assumption); (case k4 => assumption); (case k5 => assumption); (case k6 => with_unfolding_all rfl); (case k7 => intro _; with_unfolding_all rfl); k_whole); intro t'; walk_say "EV KNOWN ITEM"))
local macro_rules | `(tactic| walk_at "subscriptTail") => `(tactic| (k_here; (with_reducible show wpAny _ _ (subscriptTail _ _ (Value.ref _) (Value.int _ _)) _ _ _); (with_unfolding_all refine' kn_item0 ?k1 ?k2 ?lo ?k3 ?k4 ?k5 ?_ ?k6 ?k7; (case k1 => k_asm); (case k2 => k_mem); (case k3 => assumption); (case lo => assumption); (case k4 => assumption); (case k5 => assumption); (case k6 => with_unfolding_all rfl); (case k7 => intro _; with_unfolding_all rfl); k_whole); walk_say "EV KNOWN NONE"))
local macro_rules | `(tactic| walk_at "compareOp In int ref") => `(tactic| (k_here; k_dflt (refine' kn_in ?k1 ?k2 ?lo ?k3 ?k4 ?k5 ?_; (case k1 => k_asm); (case k2 => k_mem); (case k3 => assumption); (case lo => assumption); (case k4 => assumption); (case k5 => assumption); k_whole); walk_say "EV IN"))
local macro_rules | `(tactic| walk_at "setItem ref int") => `(tactic| (k_here; k_dflt (refine' kn_set ?F ?N ?U ?d ?f ?v ?z ?_; (case F => k_asm); (case N => k_asm); (case U => k_updF); (case d => assumption); (case f => assumption); (case v => k_flat); (case z => assumption); k_whole); intro h' o' kvs' F' N' hd' hf'; (try k_sweep); walk_say "EV SET"))
local macro_rules | `(tactic| walk_at "find lt") => `(tactic| first | assumption | exact And.right (by assumption) | exact And.right (And.right (by assumption)) | exact And.right (And.right (And.right (by assumption))) | exact And.right (And.right (And.right (And.right (by assumption)))) | exact And.right (And.right (And.right (And.right (And.right (by assumption))))) | exact And.right (And.right (And.right (And.right (And.right (And.right (by assumption)))))))
local macro_rules | `(tactic| walk_at "my off") => `(tactic| first | (refine List.forall_mem_cons.mpr ⟨?a, ?b⟩; (case a => k_ne); (case b => walk_at "my off")) | assumption | exact fun p hp => Nat.ne_of_lt (allLt_all (by walk_at "find lt") p hp))
local macro_rules | `(tactic| walk_at "UnrEnd") => `(tactic| ((rename News _ _ _ _ => nU); (refine' UnrEnd.intro (by assumption) nU _ (fun _ hp => hp) ?off ?_; (case off => walk_at "my off")); walk_say "EV UNREND"))
local macro_rules | `(tactic| walk_at "my sub") => `(tactic| (intro p hp; repeat (first | exact hp | refine List.Mem.tail _ ?_)))
local macro_rules | `(tactic| walk_at "call builtin:list.append") => `(tactic| (k_here; (with_reducible show wpAny _ _ (call (Value.builtin _) [Value.ref _, _]) _ _ _); k_dflt (refine' append_L ?k1 ?k2 ?k3 ?z ?_; (case k1 => k_asm); (case k2 => k_asm); (case k3 => k_upd); (case z => first | assumption | omega | (simp only [List.length_append, List.length_cons, List.length_nil]; omega)); k_whole); intro h' F' N'; (try k_sweep); walk_say "MY APPEND"))
local macro_rules | `(tactic| walk_at "pyIter ref") => `(tactic| ((with_reducible show wpAny _ _ (pyIter (Value.ref _)) (fun it s₂ => LoopAtV _ _ _ _ _ _ _ _ _ it s₂) _ _); k_here; l_hasStore; krs_unr))
local macro_rules | `(tactic| walk_at "subscriptTail Name BinOp ref int") => `(tactic| (k_here; (with_reducible show wpAny _ _ (subscriptTail _ _ (Value.ref _) (Value.int _ _)) _ _ _); (with_unfolding_all refine' item_abs ?k1 ?k2 ?k3 ?k4 ?k5 ?_ ?k6; (case k1 => k_asm); (case k2 => k_mem); (case k3 => first | assumption | exact last_idx _ _); (case k4 => first | assumption | omega | (simp only [List.length_append, List.length_cons, List.length_nil]; omega)); (case k5 => first | assumption | (simp only [List.length_append, List.length_cons, List.length_nil]; omega)); (case k6 => with_unfolding_all rfl); k_whole); walk_say "EV ITEM"))
local macro_rules | `(tactic| walk_at "subscriptTail Name Subscript ref int") => `(tactic| (k_here; (with_reducible show wpAny _ _ (subscriptTail _ _ (Value.ref _) (Value.int _ _)) _ _ _); (with_unfolding_all refine' kn_item ?k1 ?k2 ?lo ?k3 ?k4 ?k5 ?_ ?k6 ?k7; (case k1 => k_asm); (case k2 => k_mem); (case k3 => assumption); (case lo => assumption); (case k4 => assumption); (case k5 => assumption); (case k6 => with_unfolding_all rfl); (case k7 => intro _; with_unfolding_all rfl); k_whole); intro t'; walk_say "EV KNOWN ITEM"))
local macro_rules | `(tactic| walk_at "subscriptTail Name Subscript ref int") => `(tactic| (k_here; (with_reducible show wpAny _ _ (subscriptTail _ _ (Value.ref _) (Value.int _ _)) _ _ _); (with_unfolding_all refine' kn_item0 ?k1 ?k2 ?lo ?k3 ?k4 ?k5 ?_ ?k6 ?k7; (case k1 => k_asm); (case k2 => k_mem); (case k3 => assumption); (case lo => assumption); (case k4 => assumption); (case k5 => assumption); (case k6 => with_unfolding_all rfl); (case k7 => intro _; with_unfolding_all rfl); k_whole); walk_say "EV KNOWN NONE"))
local macro_rules | `(tactic| walk_at "subscriptTail Attribute Subscript ref int") => `(tactic| (k_here; (with_reducible show wpAny _ _ (subscriptTail _ _ (Value.ref _) (Value.int _ _)) _ _ _); (with_unfolding_all refine' item_abs ?k1 ?k2 ?k3 ?k4 ?k5 ?_ ?k6; (case k1 => k_asm); (case k2 => k_mem); (case k3 => assumption); (case k4 => first | assumption | omega); (case k5 => assumption); (case k6 => with_unfolding_all rfl); k_whole); walk_say "MY ITEM"))
local macro_rules | `(tactic| walk_at "eval Name") => `(tactic| (k_here; k_dflt (refine' ld ?k1 ?k2 ?_; (case k1 => k_asm); (case k2 => exact rfl); k_whole)))
local macro_rules | `(tactic| walk_at "subscriptTail") => `(tactic| (k_here; (with_reducible show wpAny _ _ (subscriptTail _ _ (Value.ref _) (Value.int _ _)) _ _ _); k_dflt (refine' item_tupleT ?t ?a ?b ?c ?d ?_; (case a => decide); (case b => decide); (case t => (refine' News.isTup ?tn ?tm; (case tn => k_asm); (case tm => k_mem))); (case c => rfl); (case d => rfl); k_whole)))
local macro_rules | `(tactic| walk_at "getMethod ref") => `(tactic| (k_here; k_dflt (refine' method_inst ?k1 ?k2 ?k3 ?k4 ?k5 ?k6 ?k7 ?_; (case k1 => k_asm); (case k2 => k_asm); (case k3 => k_inst); (case k4 => k_is); (case k5 => k_is); (case k6 => k_is); (case k7 => k_get); k_whole)))
local macro_rules | `(tactic| walk_at "getAttr ref") => `(tactic| (k_here; k_dflt (refine' get_own ?k1 ?k2 ?k3 ?k4 ?k5 ?k6 ?k7 ?k8 ?k9 ?_; (case k1 => k_asm); (case k2 => k_asm); (case k3 => k_inst); (case k4 => k_is); (case k5 => k_is); (case k6 => k_is); (case k7 => k_is); (case k8 => k_get); (case k9 => k_handed); k_whole)))
local macro_rules | `(tactic| walk_at "exec If") => `(tactic| (k_here; refine wpAny_If ?_))
local macro_rules | `(tactic| walk_at "getMethod ref") => `(tactic| (k_here; (with_reducible show wpAny _ _ (getMethod (Value.ref _) (PySem.Str.ofString "append") _) _ _ _); k_dflt (refine' listMethod_K ?N ?m PySem.F.slot_list_append PySem.F.type_list_append ?_; (case N => k_asm); (case m => k_mem))))
local macro_rules | `(tactic| walk_at "getMethod ref") => `(tactic| (k_here; (with_reducible show wpAny _ _ (getMethod (Value.ref _) (PySem.Str.ofString "pop") _) _ _ _); k_dflt (refine' kl_method ?N ?m PySem.F.slot_list_pop PySem.F.type_list_pop ?_; (case N => k_asm); (case m => k_mem))))
local macro_rules | `(tactic| walk_at "subscriptTail Name Constant ref int") => `(tactic| (k_here; (with_reducible show wpAny _ _ (subscriptTail _ _ (Value.ref _) (Value.int _ _)) _ _ _); k_dflt (refine' item_tupleT ?t ?a ?b ?c ?d ?_; (case a => decide); (case b => decide); (case t => (refine' News.isTup ?tn ?tm; (case tn => k_asm); (case tm => k_mem))); (case c => rfl); (case d => rfl); k_whole)))
local macro_rules | `(tactic| walk_at "subscriptTail Subscript Constant ref int") => `(tactic| (k_here; (with_reducible show wpAny _ _ (subscriptTail _ _ (Value.ref _) (Value.int _ _)) _ _ _); k_dflt (refine' item_tupleT ?t ?a ?b ?c ?d ?_; (case a => decide); (case b => decide); (case t => (refine' News.isTup ?tn ?tm; (case tn => k_asm); (case tm => k_mem))); (case c => rfl); (case d => rfl); k_whole)))
local macro_rules | `(tactic| walk_at "call ref") => `(tactic| (k_here; (with_reducible show wpAny _ _ (call (Value.ref 116) _) _ _ _); k_dflt (refine' name_ok ?B ?F ?X ?N ?T ?hk ?hdp ?hun ?p0 ?p1 ?p2 ?p3 ?p4 ?p5 ?p6 ?_; (case B => k_asm); (case F => k_asm); (case X => k_asm); (case N => k_asm); (case T => k_asm); (case hk => first | exact rfl | k_asm); (case hdp => first | ((try simp only [depth_under_make, depth_under_kw, depth_in1, depth_deeper]); (try dsimp only [ktrTop]); omega) | ktr_room); (case hun => first | ((try simp only [units_in1, units_deeper, units_under_make, Around.mark_units]); (try dsimp only [ktrTop]); omega) | ktr_units); (case p0 => k_mem); (case p1 => k_mem); (case p2 => k_mem); (case p3 => (first | assumption | omega)); (case p4 => assumption); (case p5 => (first | assumption | omega)); (case p6 => k_mem); k_whole); intro h' tk' F' N'; (try k_sweep); walk_say "USE name_ok"))
local macro_rules | `(tactic| walk_at "call ref") => `(tactic| (k_here; (with_reducible show wpAny _ _ (call (Value.ref 123) _) _ _ _); k_dflt (refine' arity_ok ?B ?F ?X ?N ?T ?hk ?hdp ?hun ?p0 ?p1 ?p2 ?p3 ?p4 ?p5 ?p6 ?_; (case B => k_asm); (case F => k_asm); (case X => k_asm); (case N => k_asm); (case T => k_asm); (case hk => first | exact rfl | k_asm); (case hdp => first | ((try simp only [depth_under_make, depth_under_kw, depth_in1, depth_deeper]); (try dsimp only [ktrTop]); omega) | ktr_room); (case hun => first | ((try simp only [units_in1, units_deeper, units_under_make, Around.mark_units]); (try dsimp only [ktrTop]); omega) | ktr_units); (case p0 => k_mem); (case p1 => k_mem); (case p2 => k_mem); (case p3 => (first | assumption | omega)); (case p4 => assumption); (case p5 => (first | assumption | omega)); (case p6 => k_mem); k_whole); intro h' tk' F' N'; (try k_sweep); walk_say "USE arity_ok"))
local macro_rules | `(tactic| walk_at "call ref") => `(tactic| (k_here; (with_reducible show wpAny _ _ (call (Value.ref 95) _) _ _ _); k_dflt (refine' text_ok ?B ?F ?X ?N ?T ?hk ?hdp ?hun ?p0 ?p1 ?p2 ?p3 ?p4 ?p5 ?_; (case B => k_asm); (case F => k_asm); (case X => k_asm); (case N => k_asm); (case T => k_asm); (case hk => first | exact rfl | k_asm); (case hdp => first | ((try simp only [depth_under_make, depth_under_kw, depth_in1, depth_deeper]); (try dsimp only [ktrTop]); omega) | ktr_room); (case hun => first | ((try simp only [units_in1, units_deeper, units_under_make, Around.mark_units]); (try dsimp only [ktrTop]); omega) | ktr_units); (case p0 => k_mem); (case p1 => k_mem); (case p2 => k_mem); (case p3 => (first | assumption | omega)); (case p4 => assumption); (case p5 => (first | assumption | omega)); k_whole); intro h' tk' F' N'; (try k_sweep); walk_say "USE text_ok"))
local macro_rules | `(tactic| walk_at "call ref") => `(tactic| (k_here; (with_reducible show wpAny _ _ (call (Value.ref 335) _) _ _ _); k_dflt (refine' functorof_ok ?B ?F ?X ?N ?T ?hk ?hdp ?hun ?p0 ?p1 ?p2 ?p3 ?p4 ?p5 ?p6 ?p7 ?_; (case B => k_asm); (case F => k_asm); (case X => k_asm); (case N => k_asm); (case T => k_asm); (case hk => first | exact rfl | k_asm); (case hdp => first | ((try simp only [depth_under_make, depth_under_kw, depth_in1, depth_deeper]); (try dsimp only [ktrTop]); omega) | ktr_room); (case hun => first | ((try simp only [units_in1, units_deeper, units_under_make, Around.mark_units]); (try dsimp only [ktrTop]); omega) | ktr_units); (case p0 => k_mem); (case p1 => k_mem); (case p2 => k_mem); (case p3 => assumption); (case p4 => k_mem); (case p5 => (first | assumption | omega)); (case p6 => assumption); (case p7 => k_mem); k_whole); intro h' tk' F' N'; (try k_sweep); walk_say "USE functorof_ok"))
local macro_rules | `(tactic| walk_at "call ref") => `(tactic| (k_here; (with_reducible show wpAny _ _ (call (Value.ref 272) _) _ _ _); k_dflt (refine' deref_ok ?B ?F ?X ?N ?T ?hk ?hdp ?hun ?p0 ?p1 ?p2 ?_; (case B => k_asm); (case F => k_asm); (case X => k_asm); (case N => k_asm); (case T => k_asm); (case hk => first | exact rfl | k_asm); (case hdp => first | ((try simp only [depth_under_make, depth_under_kw, depth_in1, depth_deeper]); (try dsimp only [ktrTop]); omega) | ktr_room); (case hun => first | ((try simp only [units_in1, units_deeper, units_under_make, Around.mark_units]); (try dsimp only [ktrTop]); omega) | ktr_units); (case p0 => k_mem); (case p1 => (first | assumption | decide | omega)); (case p2 => (first | assumption | decide | omega)); k_whole); intro h' tk' F' N'; (try k_sweep); walk_say "USE deref_ok"))
local macro_rules | `(tactic| walk_at "call ref") => `(tactic| (k_here; (with_reducible show wpAny _ _ (call (Value.ref 356) _) _ _ _); k_dflt (refine' arg_ok ?B ?F ?X ?N ?T ?hk ?hdp ?hun ?p0 ?p1 ?p2 ?p3 ?p4 ?p5 ?p6 ?p7 ?_; (case B => k_asm); (case F => k_asm); (case X => k_asm); (case N => k_asm); (case T => k_asm); (case hk => first | exact rfl | k_asm); (case hdp => first | ((try simp only [depth_under_make, depth_under_kw, depth_in1, depth_deeper]); (try dsimp only [ktrTop]); omega) | ktr_room); (case hun => first | ((try simp only [units_in1, units_deeper, units_under_make, Around.mark_units]); (try dsimp only [ktrTop]); omega) | ktr_units); (case p0 => k_mem); (case p1 => k_mem); (case p2 => k_mem); (case p3 => assumption); (case p4 => k_mem); (case p5 => (first | assumption | decide | omega)); (case p6 => omega); (case p7 => (first | assumption | (simpa using (by assumption)))); k_whole); intro h' tk' F' N'; (try k_sweep); walk_say "USE arg_ok"))
local macro_rules | `(tactic| walk_at "call ref") => `(tactic| (k_here; (with_reducible show wpAny _ _ (call (Value.ref 448) _) _ _ _); k_dflt (refine' checkev_ok ?B ?F ?X ?N ?T ?hk ?hdp ?hun ?p0 ?p1 ?p2 ?p3 ?p4 ?p5 ?p6 ?p7 ?p8 ?p9 ?p10 ?p11 ?_; (case B => k_asm); (case F => k_asm); (case X => k_asm); (case N => k_asm); (case T => k_asm); (case hk => first | exact rfl | k_asm); (case hdp => first | ((try simp only [depth_under_make, depth_under_kw, depth_in1, depth_deeper]); (try dsimp only [ktrTop]); omega) | ktr_room); (case hun => first | ((try simp only [units_in1, units_deeper, units_under_make, Around.mark_units]); (try dsimp only [ktrTop]); omega) | ktr_units); (case p0 => k_mem); (case p1 => k_mem); (case p2 => k_mem); (case p3 => assumption); (case p4 => k_mem); (case p5 => assumption); (case p6 => assumption); (case p7 => (first | assumption | decide | omega)); (case p8 => k_mem); (case p9 => assumption); (case p10 => (first | assumption | decide | omega)); (case p11 => (first | assumption | exact .inl ⟨rfl, rfl⟩ | exact .inr (.inl ⟨rfl, rfl⟩) | exact .inr (.inr ⟨rfl, rfl⟩))); k_whole); intro h' tk' F' N'; (try k_sweep); walk_say "USE checkev_ok"))
local macro_rules | `(tactic| walk_at "call ref") => `(tactic| (k_here; (with_reducible show wpAny _ _ (call (Value.ref 539) _) _ _ _); k_dflt (refine' apf_add ?B ?F ?X ?N ?T ?hk ?hdp ?hun ?p0 ?p1 ?p2 ?p3 ?p4 ?p5 ?p6 ?p7 ?p8 ?p9 ?p10 ?p11 ?p12 ?p13 ?_; (case B => k_asm); (case F => k_asm); (case X => k_asm); (case N => k_asm); (case T => k_asm); (case hk => first | exact rfl | k_asm); (case hdp => first | ((try simp only [depth_under_make, depth_under_kw, depth_in1, depth_deeper]); (try dsimp only [ktrTop]); omega) | ktr_room); (case hun => first | ((try simp only [units_in1, units_deeper, units_under_make, Around.mark_units]); (try dsimp only [ktrTop]); omega) | ktr_units); (case p0 => k_mem); (case p1 => k_mem); (case p2 => k_mem); (case p3 => assumption); (case p4 => k_mem); (case p5 => assumption); (case p6 => assumption); (case p7 => (first | assumption | omega)); (case p8 => k_mem); (case p9 => k_all); (case p10 => assumption); (case p11 => assumption); (case p12 => (first | decide | omega)); (case p13 => assumption); k_whole); intro h' tk' t' nv' F' N'; (try k_sweep); walk_say "USE apf_add"))
local macro_rules | `(tactic| walk_at "call ref") => `(tactic| (k_here; (with_reducible show wpAny _ _ (call (Value.ref 539) _) _ _ _); k_dflt (refine' apf_sub ?B ?F ?X ?N ?T ?hk ?hdp ?hun ?p0 ?p1 ?p2 ?p3 ?p4 ?p5 ?p6 ?p7 ?p8 ?p9 ?p10 ?p11 ?p12 ?p13 ?_; (case B => k_asm); (case F => k_asm); (case X => k_asm); (case N => k_asm); (case T => k_asm); (case hk => first | exact rfl | k_asm); (case hdp => first | ((try simp only [depth_under_make, depth_under_kw, depth_in1, depth_deeper]); (try dsimp only [ktrTop]); omega) | ktr_room); (case hun => first | ((try simp only [units_in1, units_deeper, units_under_make, Around.mark_units]); (try dsimp only [ktrTop]); omega) | ktr_units); (case p0 => k_mem); (case p1 => k_mem); (case p2 => k_mem); (case p3 => assumption); (case p4 => k_mem); (case p5 => assumption); (case p6 => assumption); (case p7 => (first | assumption | omega)); (case p8 => k_mem); (case p9 => k_all); (case p10 => assumption); (case p11 => assumption); (case p12 => (first | decide | omega)); (case p13 => assumption); k_whole); intro h' tk' t' nv' F' N'; (try k_sweep); walk_say "USE apf_sub"))
local macro_rules | `(tactic| walk_at "call ref") => `(tactic| (k_here; (with_reducible show wpAny _ _ (call (Value.ref 539) _) _ _ _); k_dflt (refine' apf_neg ?B ?F ?X ?N ?T ?hk ?hdp ?hun ?p0 ?p1 ?p2 ?p3 ?p4 ?p5 ?p6 ?p7 ?p8 ?p9 ?p10 ?p11 ?p12 ?p13 ?_; (case B => k_asm); (case F => k_asm); (case X => k_asm); (case N => k_asm); (case T => k_asm); (case hk => first | exact rfl | k_asm); (case hdp => first | ((try simp only [depth_under_make, depth_under_kw, depth_in1, depth_deeper]); (try dsimp only [ktrTop]); omega) | ktr_room); (case hun => first | ((try simp only [units_in1, units_deeper, units_under_make, Around.mark_units]); (try dsimp only [ktrTop]); omega) | ktr_units); (case p0 => k_mem); (case p1 => k_mem); (case p2 => k_mem); (case p3 => assumption); (case p4 => k_mem); (case p5 => assumption); (case p6 => assumption); (case p7 => (first | assumption | omega)); (case p8 => k_mem); (case p9 => k_all); (case p10 => assumption); (case p11 => assumption); (case p12 => (first | decide | omega)); (case p13 => assumption); k_whole); intro h' tk' t' nv' F' N'; (try k_sweep); walk_say "USE apf_neg"))
local macro_rules | `(tactic| walk_at "exec While") => `(tactic| (k_here; k_dflt (refine whl_start 1 (held ?_))))
local macro_rules | `(tactic| walk_at "WhlRest") => `(tactic| (refine held ?_))
local macro_rules | `(tactic| walk_at "call ref") => `(tactic| (k_here; (with_reducible show wpAny _ _ (call (Value.ref 221) _) _ _ _); k_dflt (refine' resource_ok ?B ?F ?X ?N ?T ?hk ?hdp ?hun ?p0 ?p1 ?p2 ?p3 ?p4 ?p5 ?p6 ?_; (case B => k_asm); (case F => k_asm); (case X => k_asm); (case N => k_asm); (case T => k_asm); (case hk => first | exact rfl | k_asm); (case hdp => first | ((try simp only [depth_under_make, depth_under_kw, depth_in1, depth_deeper]); (try dsimp only [ktrTop]); omega) | ktr_room); (case hun => first | ((try simp only [units_in1, units_deeper, units_under_make, Around.mark_units]); (try dsimp only [ktrTop]); omega) | ktr_units); (case p0 => walk_at "my sym"); (case p1 => assumption); (case p2 => assumption); (case p3 => assumption); (case p4 => (first | assumption | omega)); (case p5 => (first | assumption | omega)); (case p6 => (first | assumption | omega)); k_whole); intro h' tk' e dx t r' F' N' he hS' kp hb; (try k_sweep); walk_say "USE resource_ok"))
local macro_rules | `(tactic| walk_at "call ref") => `(tactic| (k_here; (with_reducible show wpAny _ _ (call (Value.ref 434) _) _ _ _); k_dflt (refine' notev_ok ?B ?F ?X ?N ?T ?hk ?hdp ?hun ?p0 ?p1 ?p2 ?p3 ?p4 ?p5 ?p6 ?_; (case B => k_asm); (case F => k_asm); (case X => k_asm); (case N => k_asm); (case T => k_asm); (case hk => first | exact rfl | k_asm); (case hdp => first | ((try simp only [depth_under_make, depth_under_kw, depth_in1, depth_deeper]); (try dsimp only [ktrTop]); omega) | ktr_room); (case hun => first | ((try simp only [units_in1, units_deeper, units_under_make, Around.mark_units]); (try dsimp only [ktrTop]); omega) | ktr_units); (case p0 => walk_at "my sym"); (case p1 => assumption); (case p2 => assumption); (case p3 => assumption); (case p4 => (first | assumption | omega)); (case p5 => (first | assumption | omega)); (case p6 => (first | assumption | omega)); k_whole); intro h' tk' e dx t r' F' N' he hS' kp hb; (try k_sweep); walk_say "USE notev_ok"))
local macro_rules | `(tactic| walk_at "exec Raise some none") => `(tactic| (k_here; refine' raise_D ?hh ?_; (case hh => with_unfolding_all rfl); walk_say "MY RAISE"))
theorem ev_ok {w : World} {p : Program} {loose : List Str} {mean : ExcName → Option Value} {mg mb : Str → Option Value}
  {dp un : Nat} {gd : Option (List Code)} {cn : Str} {cs : Scope} {a : Addr} {ccd : Value} {cl : List (Str × Addr)} {outer : List Env} {A₀ : Around} {base h₀ : Heap} {L : Addr} {m : Str → Option Value} {news : List (Addr × Obj)} {s : Shared} {Q E : Value → Shared → Prop}
  {ma md : Addr} {SA : AreaA} {mdn : Nat} {sd : Addr} {SS : StoreA} {sdn : Nat} {nd : Addr} {SY : SymA} {ndn : Nat} {hvs : List Value} {nh : Nat} {H : List (Int × Int)} {tvs : List Value} {nt : Nat} {fvs : List Value} {nf : Nat} {c : Addr} {tag v : Int} {t1 t2 : Tok} {n n0 : Nat} {fin : Fin3} {ts : List Str} {fs : List (Int × Int)}
  (B : Below A₀ base outer h₀) (F : Fr h₀ L s.heap m) (X : (hd.heap_39 w.params).In h₀) (N : News h₀ L s.heap news) (T : Top p loose mean mg mb h₀) (hk : cs.kind = .function)
  (hdp : dp + 40 < recursionLimit) (hun : un + 400 < cLine)
  (hG : EvG ma md SA mdn sd SS sdn nd SY ndn hvs nh H tvs nt fvs nf news) (hS : SymSt PySem.Challenge.rw_rh0112_01.row.prog w news SA.sy nd SY ndn ts fs) (hts : ts.length < 800) (hfs : fs.length < 900) (hc : (c, tup [.int tag t1, .int v t2] n) ∈ news) (hrun : Run H n0 [(tag, v)] [] [] fin) (hn0 : n0 ≤ 20000) (exmem : ∀ g' h' tk e dx t r', fin = .memory → Fr h₀ L g' m → RaisedD base g' (envX cn cs L a ccd cl :: outer) e (.ref 51) (.ref t) dx r' h' → SymSt PySem.Challenge.rw_rh0112_01.row.prog w r' SA.sy nd SY ndn (memT ts) (memF ts fs) → Keep (symAt SY) news r' → BallAt r' dx (memD ts fs) → E (.ref e) { s with heap := h', toks := tk }) (exlis : ∀ g' h' tk e dx t r', fin = .lis → Fr h₀ L g' m → RaisedD base g' (envX cn cs L a ccd cl :: outer) e (.ref 51) (.ref t) dx r' h' → SymSt PySem.Challenge.rw_rh0112_01.row.prog w r' SA.sy nd SY ndn (lisT ts) (lisF ts fs) → Keep (symAt SY) news r' → BallAt r' dx (lisD ts fs) → E (.ref e) { s with heap := h', toks := tk })
  (ret : ∀ v h' tk t', fin = .val v → Fr h₀ L h' m → News h₀ L h' news → Q (.int v t') { s with heap := h', toks := tk }) :
  wpAny (model PySem.Challenge.rw_rh0112_01.row.prog w) (ktrTop dp un gd cn cs L a ccd cl outer) (call (.ref 546) [.ref ma, .ref c]) Q E s := by
  revert X; k_fill; intro X
  replace hS : Held _ := hS
  refine wpAny_call ?_
  have gi := hG.g1
  have gd := hG.g2
  k_dflt ktr_enter
  k_steps
  unfold Held
  rename_i kn _ od l3 lo _ _ hi fi _ td _ l2 _ _ va _ l1 _ F1 N1
  obtain ⟨q1, q2, q3⟩ := l1
  obtain ⟨q4, q5⟩ := l2
  refine ev_ind (P := WhlRest _ _ _ _ _ _ _ _ _ _) (prog := PySem.Challenge.rw_rh0112_01.row.prog) (w := w) (stored := [Str.ofString "item", Str.ofString "functor", Str.ofString "place"]) (H := H) (hvs := hvs) (fun r => EvG ma md SA mdn sd SS sdn nd SY ndn hvs nh H tvs nt fvs nf r ∧ ∀ p ∈ news, p ∈ r) (fun r h => h.1.g8) fin ?T n0 [(tag, v)] [] [] fin hrun rfl news [] [.ref c] _ ⟨hG, fun _ h => h⟩ ?off ?stk .nil ?kd ?b1 ?b2 ?b3 _ _ _ _ _ (fun _ _ => rfl) F1 N1
  case stk => exact .push (l := []) ⟨c, t1, t2, n, rfl, hc⟩ .nil
  case off => exact ⟨fun p hp => Nat.ne_of_lt (allLt_all q3 p hp), fun p hp => Nat.ne_of_lt (allLt_all q5 p hp), fun p hp => Nat.ne_of_lt (l3 p hp)⟩
  case kd => exact ⟨[], hi, .nil⟩
  case b1 => simp only [List.length_cons, List.length_nil]; omega
  case b2 => simp only [List.length_nil]; omega
  case b3 => simp only [List.length_nil]; omega
  clear F1 N1 gi gd
  refine ⟨?c_val, ?c_mem, ?c_lis, ?c_int, ?c_add, ?c_sub, ?c_neg, ?c_known, ?c_two, ?c_one, ?Gs⟩
  case Gs => exact fun r p h => ⟨h.1.mono fun _ h => .tail _ h, fun q hq => .tail _ (h.2 q hq)⟩
  case c_int =>
    intro r lv lt od v x t1 t2 n hG ho hx hlv hlt next
    intro h tk m₁ nv nt hm F2 N2
    obtain ⟨ha, hb, hc⟩ := ho
    obtain ⟨⟨g1, g2, g3, g4, g5, g6, g7, g8, g9, g10, g11, g12, g13, ⟨t14, g14⟩, ⟨t15, g15⟩, ⟨y12, t12, u12, n12, g16, g16'⟩, ⟨y13, t13, u13, n13, g17, g17'⟩, ⟨y14, t14', u14, n14, g18, g18'⟩⟩, hsub⟩ := hG
    have F3 := fm F2 hm
    clear F2
    skip
    refine whl_turn (k := 0) (by first | passes_own | with_unfolding_all passes_own) ?_
    k_steps
    all_goals (first | (unfold Held; refine' next ?t1 ?h1 ?tk1 ?m1 ?nv1 ?nt1 ?hm1 ?F1 ?N1; (case N1 => assumption); (case F1 => assumption); (case hm1 => (intro z hz; simp only [List.contains_cons, List.contains_nil, Bool.or_false, Bool.or_eq_false_iff, beq_eq_false_iff_ne, ne_eq] at hz; simp [hz]))) | w_report)
  case c_add =>
    intro r lv lt od D a i j ti tj x t1 t2 n y t3 t4 n' hG ho hx h0 hy hy' hb1 hkd hD hlv hlt next
    obtain ⟨kvs, hkd1, hkd2⟩ := hkd
    intro h tk m₁ nv nt hm F2 N2
    obtain ⟨ha, hb, hc⟩ := ho
    obtain ⟨⟨g1, g2, g3, g4, g5, g6, g7, g8, g9, g10, g11, g12, g13, ⟨t14, g14⟩, ⟨t15, g15⟩, ⟨y12, t12, u12, n12, g16, g16'⟩, ⟨y13, t13, u13, n13, g17, g17'⟩, ⟨y14, t14', u14, n14, g18, g18'⟩⟩, hsub⟩ := hG
    have F3 := fm F2 hm
    clear F2
    skip
    refine whl_turn (k := 0) (by first | passes_own | with_unfolding_all passes_own) ?_
    k_steps
    all_goals (first | (unfold Held; refine' next ?t2 ?od2 ?kd2 ?h2 ?tk2 ?m2 ?nv2 ?nt2 ?hm2 ?F2 ?N2; (case N2 => assumption); (case F2 => assumption); (case kd2 => exact ⟨_, by assumption, by assumption⟩); (case hm2 => (intro z hz; simp only [List.contains_cons, List.contains_nil, Bool.or_false, Bool.or_eq_false_iff, beq_eq_false_iff_ne, ne_eq] at hz; simp [hz]))) | w_report)
  case c_sub =>
    intro r lv lt od D a i j ti tj x t1 t2 n y t3 t4 n' hG ho hx h0 hy hy' hb1 hkd hD hlv hlt next
    obtain ⟨kvs, hkd1, hkd2⟩ := hkd
    intro h tk m₁ nv nt hm F2 N2
    obtain ⟨ha, hb, hc⟩ := ho
    obtain ⟨⟨g1, g2, g3, g4, g5, g6, g7, g8, g9, g10, g11, g12, g13, ⟨t14, g14⟩, ⟨t15, g15⟩, ⟨y12, t12, u12, n12, g16, g16'⟩, ⟨y13, t13, u13, n13, g17, g17'⟩, ⟨y14, t14', u14, n14, g18, g18'⟩⟩, hsub⟩ := hG
    have F3 := fm F2 hm
    clear F2
    skip
    refine whl_turn (k := 0) (by first | passes_own | with_unfolding_all passes_own) ?_
    k_steps
    all_goals (first | (unfold Held; refine' next ?t3 ?od3 ?kd3 ?h3 ?tk3 ?m3 ?nv3 ?nt3 ?hm3 ?F3 ?N3; (case N3 => assumption); (case F3 => assumption); (case kd3 => exact ⟨_, by assumption, by assumption⟩); (case hm3 => (intro z hz; simp only [List.contains_cons, List.contains_nil, Bool.or_false, Bool.or_eq_false_iff, beq_eq_false_iff_ne, ne_eq] at hz; simp [hz]))) | w_report)
  case c_neg =>
    intro r lv lt od D a j tj x t1 t2 n y t3 t4 n' hG ho hx h0 hy hy' hb1 hkd hD hlv hlt next
    obtain ⟨kvs, hkd1, hkd2⟩ := hkd
    intro h tk m₁ nv nt hm F2 N2
    obtain ⟨ha, hb, hc⟩ := ho
    obtain ⟨⟨g1, g2, g3, g4, g5, g6, g7, g8, g9, g10, g11, g12, g13, ⟨t14, g14⟩, ⟨t15, g15⟩, ⟨y12, t12, u12, n12, g16, g16'⟩, ⟨y13, t13, u13, n13, g17, g17'⟩, ⟨y14, t14', u14, n14, g18, g18'⟩⟩, hsub⟩ := hG
    have F3 := fm F2 hm
    clear F2
    skip
    refine whl_turn (k := 0) (by first | passes_own | with_unfolding_all passes_own) ?_
    k_steps
    all_goals (first | (unfold Held; refine' next ?t4 ?od4 ?kd4 ?h4 ?tk4 ?m4 ?nv4 ?nt4 ?hm4 ?F4 ?N4; (case N4 => assumption); (case F4 => assumption); (case kd4 => exact ⟨_, by assumption, by assumption⟩); (case hm4 => (intro z hz; simp only [List.contains_cons, List.contains_nil, Bool.or_false, Bool.or_eq_false_iff, beq_eq_false_iff_ne, ne_eq] at hz; simp [hz]))) | w_report)
  case c_known =>
    intro r lv lt od D a z x t1 t2 n hG ho hx hkd hl hlv hlt next
    obtain ⟨kvs, hkd1, hkd2⟩ := hkd
    have hs : (PySem.Spec.lookup (PyData.int a) D).isSome = true := by rw [hl]; rfl
    intro h tk m₁ nv nt hm F2 N2
    obtain ⟨ha, hb, hc⟩ := ho
    obtain ⟨⟨g1, g2, g3, g4, g5, g6, g7, g8, g9, g10, g11, g12, g13, ⟨t14, g14⟩, ⟨t15, g15⟩, ⟨y12, t12, u12, n12, g16, g16'⟩, ⟨y13, t13, u13, n13, g17, g17'⟩, ⟨y14, t14', u14, n14, g18, g18'⟩⟩, hsub⟩ := hG
    have F3 := fm F2 hm
    clear F2
    skip
    refine whl_turn (k := 0) (by first | passes_own | with_unfolding_all passes_own) ?_
    k_steps
    all_goals (first | (unfold Held; refine' next ?t5 ?h5 ?tk5 ?m5 ?nv5 ?nt5 ?hm5 ?F5 ?N5; (case N5 => assumption); (case F5 => assumption); (case hm5 => (intro z hz; simp only [List.contains_cons, List.contains_nil, Bool.or_false, Bool.or_eq_false_iff, beq_eq_false_iff_ne, ne_eq] at hz; simp [hz]))) | w_report)
  case c_two =>
    intro r lv lt od D a fn x t1 t2 n y t3 t4 n' x1 x2 hG ho hx h0 hfn hy hy' e1 e2 hkd hl hD hlv hlt next
    obtain ⟨kvs, hkd1, hkd2⟩ := hkd
    have hs : (PySem.Spec.lookup (PyData.int a) D).isSome = false := by rw [hl]; rfl
    have e1' : hvs[(a + 1 + 1 - 1).toNat]? = some (.ref x1) := by rw [show (a + 1 + 1 - 1).toNat = a.toNat + 1 from by omega]; exact e1
    have e2' : hvs[(a + 1 + 2 - 1).toNat]? = some (.ref x2) := by rw [show (a + 1 + 2 - 1).toNat = a.toNat + 2 from by omega]; exact e2
    intro h tk m₁ nv nt hm F2 N2
    obtain ⟨ha, hb, hc⟩ := ho
    obtain ⟨⟨g1, g2, g3, g4, g5, g6, g7, g8, g9, g10, g11, g12, g13, ⟨t14, g14⟩, ⟨t15, g15⟩, ⟨y12, t12, u12, n12, g16, g16'⟩, ⟨y13, t13, u13, n13, g17, g17'⟩, ⟨y14, t14', u14, n14, g18, g18'⟩⟩, hsub⟩ := hG
    have F3 := fm F2 hm
    clear F2
    obtain ⟨yf, fa, tf1, tf2, nf', xx, txx, p1, p2, p3, p4, p5⟩ : ∃ yf fa tf1 tf2 nf' xx txx, fvs[fn.toNat]? = some (Value.ref yf) ∧ (yf, tup [.int fa tf1, .int 2 tf2] nf') ∈ r ∧ tvs[fa.toNat]? = some (Value.str xx txx) ∧ 0 ≤ fa ∧ ((xx = Str.ofString "+" ∧ (2 : Int) = 2) ∨ (xx = Str.ofString "-" ∧ (2 : Int) = 2) ∨ (xx = Str.ofString "-" ∧ (2 : Int) = 1)) := by
      rcases hfn with rfl | rfl
      · exact ⟨_, _, _, _, _, _, _, g17, g17', g14, by decide, .inr (.inl ⟨rfl, rfl⟩)⟩
      · exact ⟨_, _, _, _, _, _, _, g18, g18', g15, by decide, .inl ⟨rfl, rfl⟩⟩
    have hfn0 : 0 ≤ fn := by omega
    clear hfn g14 g15 g16 g16' g17 g17' g18 g18'
    refine whl_turn (k := 0) (by first | passes_own | with_unfolding_all passes_own) ?_
    k_steps
    all_goals (first | (unfold Held; refine' next ?c6 ?t56 ?t66 ?od6 ⟨?o16, ?o26, ?o36⟩ ?kd6 ?h6 ?tk6 ?m6 ?nv6 ?nt6 ?hm6 ?F6 ?N6; (case N6 => ((rename News _ _ _ _ => nE); refine' news5 nE ?na6 ?nb6 ?nc6 ?nd6 ?ne6; (case na6 => k_mem); (case nb6 => k_mem); (case nc6 => k_mem); (case nd6 => k_mem); (case ne6 => walk_at "my sub"))); (case F6 => assumption); (case kd6 => exact ⟨_, by assumption, by assumption⟩); (case o16 => exact List.forall_mem_cons.mpr ⟨by k_ne, ha⟩); (case o26 => exact List.forall_mem_cons.mpr ⟨by k_ne, hb⟩); (case o36 => exact List.forall_mem_cons.mpr ⟨by k_ne, hc⟩); (case hm6 => (intro z hz; simp only [List.contains_cons, List.contains_nil, Bool.or_false, Bool.or_eq_false_iff, beq_eq_false_iff_ne, ne_eq] at hz; simp [hz]))) | w_report)
  case c_mem =>
    intro r lv lt od D a x t1 t2 n hfin hG ho hx hkd hl hlt
    obtain ⟨kvs, hkd1, hkd2⟩ := hkd
    have hs : (PySem.Spec.lookup (PyData.int a) D).isSome = true := by rw [hl]; rfl
    intro h tk m₁ nv nt hm F2 N2
    obtain ⟨ha, hb, hc⟩ := ho
    obtain ⟨⟨g1, g2, g3, g4, g5, g6, g7, g8, g9, g10, g11, g12, g13, ⟨t14, g14⟩, ⟨t15, g15⟩, ⟨y12, t12, u12, n12, g16, g16'⟩, ⟨y13, t13, u13, n13, g17, g17'⟩, ⟨y14, t14', u14, n14, g18, g18'⟩⟩, hsub⟩ := hG
    unfold Held at hS
    have hS9 := SymSt.keep (ds := []) hS (Keep.ofSub hsub) (fun _ _ => List.not_mem_nil)
    have hk9 : Keep (symAt SY) news r := (Keep.ofSub hsub).wide (fun _ h => nomatch h)
    have hp : intern (Str.ofString "memory") ts = (memI ts, (intern (Str.ofString "memory") ts).2) := rfl
    have hp2 : intern (Str.ofString "resource_error") (intern (Str.ofString "memory") ts).2 = (memN ts, memT ts) := rfl
    have hp3 : intern (memN ts, (1 : Int)) fs = (memJ ts fs, memF ts fs) := rfl
    have hl9 := intern_len (Str.ofString "memory") ts
    have F3 := fm F2 hm
    clear F2
    skip
    refine whl_turn (k := 0) (by first | passes_own | with_unfolding_all passes_own) ?_
    k_steps
    rename News _ _ _ _ => nE
    rename Fr _ _ _ _ => fE
    rename BallAt _ _ _ => hbE
    refine raisableD_of (C := 51) fE (by assumption) nE (.head _) (by kts_isx) ?_
    refine leaveD (by assumption) fE nE (by assumption) ?_
    intro h' R
    exact exmem _ _ _ _ _ _ _ hfin (by assumption) R (by assumption) (by walk_at "my keep") hbE
  case c_lis =>
    intro r lv lt od D a x t1 t2 n hfin hG ho hx hkd hlt
    obtain ⟨kvs, hkd1, hkd2⟩ := hkd
    intro h tk m₁ nv nt hm F2 N2
    obtain ⟨ha, hb, hc⟩ := ho
    obtain ⟨⟨g1, g2, g3, g4, g5, g6, g7, g8, g9, g10, g11, g12, g13, ⟨t14, g14⟩, ⟨t15, g15⟩, ⟨y12, t12, u12, n12, g16, g16'⟩, ⟨y13, t13, u13, n13, g17, g17'⟩, ⟨y14, t14', u14, n14, g18, g18'⟩⟩, hsub⟩ := hG
    unfold Held at hS
    have hS9 := SymSt.keep (ds := []) hS (Keep.ofSub hsub) (fun _ _ => List.not_mem_nil)
    have hk9 : Keep (symAt SY) news r := (Keep.ofSub hsub).wide (fun _ h => nomatch h)
    have hp : intern (Str.ofString "evaluable") ts = (lisI ts, (intern (Str.ofString "evaluable") ts).2) := rfl
    have hp2 : intern (Str.ofString "type_error") (intern (Str.ofString "evaluable") ts).2 = (lisN ts, lisT ts) := rfl
    have hp3 : intern (lisN ts, (2 : Int)) fs = (lisJ ts fs, lisF ts fs) := rfl
    have hl9 := intern_len (Str.ofString "evaluable") ts
    have F3 := fm F2 hm
    clear F2
    skip
    refine whl_turn (k := 0) (by first | passes_own | with_unfolding_all passes_own) ?_
    k_steps
    rename News _ _ _ _ => nE
    rename Fr _ _ _ _ => fE
    rename BallAt _ _ _ => hbE
    refine raisableD_of (C := 51) fE (by assumption) nE (.head _) (by kts_isx) ?_
    refine leaveD (by assumption) fE nE (by assumption) ?_
    intro h' R
    exact exlis _ _ _ _ _ _ _ hfin (by assumption) R (by assumption) (by walk_at "my keep") hbE
  case c_val =>
    intro r lt od v' tv hfin hG ho hlt
    subst hlt
    intro h tk m₁ nv nt hm F2 N2
    have F3 := fm F2 hm
    clear F2
    refine whl_turn (k := 0) (by first | passes_own | with_unfolding_all passes_own) ?_
    have hsz1 : [Value.int v' tv].length ≤ 200000 := by simp
    k_steps
    rename News _ _ _ _ => nE
    exact ret _ _ _ _ hfin (by k_asm) (fun p hp => nE p (.tail _ (.tail _ (.tail _ (hG.2 p hp)))))
  case c_one =>
    intro r lv lt od D a x t1 t2 n y t3 t4 n' x1 hG ho hx h0 hy hy' e1 hkd hl hD hlv hlt next
    obtain ⟨kvs, hkd1, hkd2⟩ := hkd
    have hs : (PySem.Spec.lookup (PyData.int a) D).isSome = false := by rw [hl]; rfl
    have e1' : hvs[(a + 1 + 1 - 1).toNat]? = some (.ref x1) := by rw [show (a + 1 + 1 - 1).toNat = a.toNat + 1 from by omega]; exact e1
    intro h tk m₁ nv nt hm F2 N2
    obtain ⟨ha, hb, hc⟩ := ho
    obtain ⟨⟨g1, g2, g3, g4, g5, g6, g7, g8, g9, g10, g11, g12, g13, ⟨t14, g14⟩, ⟨t15, g15⟩, ⟨y12, t12, u12, n12, g16, g16'⟩, ⟨y13, t13, u13, n13, g17, g17'⟩, ⟨y14, t14', u14, n14, g18, g18'⟩⟩, hsub⟩ := hG
    have F3 := fm F2 hm
    clear F2
    skip
    refine whl_turn (k := 0) (by first | passes_own | with_unfolding_all passes_own) ?_
    k_steps
    all_goals (first | (unfold Held; refine' next ?c7 ?t57 ?t67 ?od7 ⟨?o17, ?o27, ?o37⟩ ?kd7 ?h7 ?tk7 ?m7 ?nv7 ?nt7 ?hm7 ?F7 ?N7; (case N7 => ((rename News _ _ _ _ => nE); refine' news5 nE ?na7 ?nb7 ?nc7 ?nd7 ?ne7; (case na7 => k_mem); (case nb7 => k_mem); (case nc7 => k_mem); (case nd7 => k_mem); (case ne7 => walk_at "my sub"))); (case F7 => assumption); (case kd7 => exact ⟨_, by assumption, by assumption⟩); (case o17 => exact List.forall_mem_cons.mpr ⟨by k_ne, ha⟩); (case o27 => exact List.forall_mem_cons.mpr ⟨by k_ne, hb⟩); (case o37 => exact List.forall_mem_cons.mpr ⟨by k_ne, hc⟩); (case hm7 => (intro z hz; simp only [List.contains_cons, List.contains_nil, Bool.or_false, Bool.or_eq_false_iff, beq_eq_false_iff_ne, ne_eq] at hz; simp [hz]))) | w_report)

end Mine
namespace Mine
open PySem.Spec PySem.Calls PyProof.V
theorem nod_notin {l : List Addr} (h : l.Nodup) {i : Nat} {a : Addr} (hi : l[i]? = some a) (js : List Nat) {ds : List Addr} (hjs : js.map (l[·]?) = ds.map some) (hij : i ∉ js) : a ∉ ds := fun q => by
  have h1 : some a ∈ ds.map some := List.mem_map.mpr ⟨a, q, rfl⟩
  rw [← hjs] at h1
  obtain ⟨j, hj, e⟩ := List.mem_map.mp h1
  have hij' : i = j := by
    have li := (List.getElem?_eq_some_iff.mp hi)
    have lj := (List.getElem?_eq_some_iff.mp e)
    obtain ⟨hi1, hi2⟩ := li
    obtain ⟨hj1, hj2⟩ := lj
    have hp := List.pairwise_iff_getElem.mp h
    rcases Nat.lt_trichotomy i j with q | q | q
    · exact absurd (hi2.trans hj2.symm) (hp i j hi1 hj1 q)
    · exact q
    · exact absurd (hj2.trans hi2.symm) (hp j i hj1 hi1 q)
  exact hij (hij' ▸ hj)
abbrev lawAt (tr sl md sd hl nd : Addr) (S : SymA) : List Addr := [tr, sl, md, sd, hl, nd, S.lt, S.da, S.lf, S.df]
/-- what the law has made, in the ledger -/
structure LawSt (prog : Program) (w : World) (r : List (Addr × Obj)) (tr sl : Addr) (k : Int) (ws : List Value) (nm nd : Addr) (S : SymA) (ndn : Nat) (ts : List Str) (fs : List (Int × Int)) (ma md : Addr) (SA : AreaA) (sd : Addr) (SS : StoreA) (H : List (Int × Int)) : Prop where
  m1 : ∃ t n, (tr, listOf #[.ref sl, .int k t] n) ∈ r
  m2 : ∃ n, (sl, listOf ws.toArray n) ∈ r
  sy : SymSt prog w r nm nd S ndn ts fs
  m3 : (ma, instObj 704 md) ∈ r
  m4 : (md, dictOf (areaE SA) 18) ∈ r
  m5 : (SA.st, instObj 423 sd) ∈ r
  m6 : (sd, dictOf (storeE SS) 7) ∈ r
  m7 : ∃ hvs nh, (SS.hl, listOf hvs.toArray nh) ∈ r ∧ CellsAre r hvs H
  e1 : SA.sy = nm
  e2 : SS.sy = nm
  wi : AllInts ws
  wl : ws.length ≤ 1000
  nod : (lawAt tr sl md sd SS.hl nd S).Nodup
  p3 : idx (Str.ofString "-") ts = some 3
  p4 : idx (Str.ofString "+") ts = some 4
  q12 : idx ((3 : Int), (1 : Int)) fs = some 12
  q13 : idx ((3 : Int), (2 : Int)) fs = some 13
  q14 : idx ((4 : Int), (2 : Int)) fs = some 14
  z1 : ts.length ≤ 700
  z2 : fs.length ≤ 700
section
variable {prog : Program} {w : World} {r r' : List (Addr × Obj)} {tr sl : Addr} {k : Int} {ws : List Value} {nm nd : Addr} {S : SymA} {ndn : Nat} {ts : List Str} {fs : List (Int × Int)} {ma md : Addr} {SA : AreaA} {sd : Addr} {SS : StoreA} {H : List (Int × Int)}
theorem LawSt.keep {ds : List Addr} (h : LawSt prog w r tr sl k ws nm nd S ndn ts fs ma md SA sd SS H) (kp : Keep ds r r') (hd : ∀ d ∈ ds, d ∉ lawAt tr sl md sd SS.hl nd S) : LawSt prog w r' tr sl k ws nm nd S ndn ts fs ma md SA sd SS H := by
  obtain ⟨⟨t, n, m1⟩, ⟨n2, m2⟩, sy, m3, m4, m5, m6, ⟨hvs, nh, m7, c⟩, e1, e2, wi, wl, nod, p3, p4, q12, q13, q14, z1, z2⟩ := h
  exact ⟨⟨t, n, kp.ne _ _ m1 fun q => hd _ q (by simp)⟩, ⟨n2, kp.ne _ _ m2 fun q => hd _ q (by simp)⟩, sy.keep kp (fun d h1 h2 => hd d h2 (by simp only [List.mem_cons, List.not_mem_nil, or_false] at h1 ⊢; rcases h1 with h1 | h1 | h1 | h1 | h1 <;> simp [h1])),
    kp.cl _ _ m3 (.inr ⟨_, rfl⟩), kp.ne _ _ m4 fun q => hd _ q (by simp), kp.cl _ _ m5 (.inr ⟨_, rfl⟩), kp.ne _ _ m6 fun q => hd _ q (by simp), ⟨hvs, nh, kp.ne _ _ m7 fun q => hd _ q (by simp), cellsAre_keep c kp⟩, e1, e2, wi, wl, nod, p3, p4, q12, q13, q14, z1, z2⟩
theorem LawSt.at {h₀ hh : Heap} {L : Addr} (h : LawSt prog w r tr sl k ws nm nd S ndn ts fs ma md SA sd SS H) (_ : News h₀ L hh r') (kp : Keep [] r r') : LawSt prog w r' tr sl k ws nm nd S ndn ts fs ma md SA sd SS H := h.keep kp fun _ q => nomatch q
theorem LawSt.feed {k' : Int} {t : Tok} {n : Nat} (h : LawSt prog w r tr sl k ws nm nd S ndn ts fs ma md SA sd SS H) (kp : Keep [tr] r r') (m : (tr, listOf #[.ref sl, .int k' t] n) ∈ r') : LawSt prog w r' tr sl k' ws nm nd S ndn ts fs ma md SA sd SS H := by
  obtain ⟨_, ⟨n2, m2⟩, sy, m3, m4, m5, m6, ⟨hvs, nh, m7, c⟩, e1, e2, wi, wl, nod, p3, p4, q12, q13, q14, z1, z2⟩ := h
  have ni : ∀ {i : Nat} {a : Addr}, (lawAt tr sl md sd SS.hl nd S)[i]? = some a → i ∉ [0] → a ∉ [tr] := fun hi hj => nod_notin nod hi [0] rfl hj
  refine ⟨⟨t, n, m⟩, ⟨n2, kp.ne _ _ m2 (ni (i := 1) rfl (by decide))⟩, sy.keep kp (fun d h1 => ?_), kp.cl _ _ m3 (.inr ⟨_, rfl⟩), kp.ne _ _ m4 (ni (i := 2) rfl (by decide)), kp.cl _ _ m5 (.inr ⟨_, rfl⟩), kp.ne _ _ m6 (ni (i := 3) rfl (by decide)), ⟨hvs, nh, kp.ne _ _ m7 (ni (i := 4) rfl (by decide)), cellsAre_keep c kp⟩, e1, e2, wi, wl, nod, p3, p4, q12, q13, q14, z1, z2⟩
  simp only [List.mem_cons, List.not_mem_nil, or_false] at h1
  rcases h1 with h1 | h1 | h1 | h1 | h1
  · exact h1 ▸ ni (i := 6) rfl (by decide)
  · exact h1 ▸ ni (i := 7) rfl (by decide)
  · exact h1 ▸ ni (i := 8) rfl (by decide)
  · exact h1 ▸ ni (i := 9) rfl (by decide)
  · exact h1 ▸ ni (i := 5) rfl (by decide)
theorem LawSt.stor {H' : List (Int × Int)} {hvs' : List Value} {nh' : Nat} (h : LawSt prog w r tr sl k ws nm nd S ndn ts fs ma md SA sd SS H) (kp : Keep [SS.hl] r r') (m : (SS.hl, listOf hvs'.toArray nh') ∈ r') (c' : CellsAre r' hvs' H') : LawSt prog w r' tr sl k ws nm nd S ndn ts fs ma md SA sd SS H' := by
  obtain ⟨⟨t, n, m1⟩, ⟨n2, m2⟩, sy, m3, m4, m5, m6, ⟨hvs, nh, m7, c⟩, e1, e2, wi, wl, nod, p3, p4, q12, q13, q14, z1, z2⟩ := h
  have ni : ∀ {i : Nat} {a : Addr}, (lawAt tr sl md sd SS.hl nd S)[i]? = some a → i ∉ [4] → a ∉ [SS.hl] := fun hi hj => nod_notin nod hi [4] rfl hj
  refine ⟨⟨t, n, kp.ne _ _ m1 (ni (i := 0) rfl (by decide))⟩, ⟨n2, kp.ne _ _ m2 (ni (i := 1) rfl (by decide))⟩, sy.keep kp (fun d h1 => ?_), kp.cl _ _ m3 (.inr ⟨_, rfl⟩), kp.ne _ _ m4 (ni (i := 2) rfl (by decide)), kp.cl _ _ m5 (.inr ⟨_, rfl⟩), kp.ne _ _ m6 (ni (i := 3) rfl (by decide)), ⟨hvs', nh', m, c'⟩, e1, e2, wi, wl, nod, p3, p4, q12, q13, q14, z1, z2⟩
  simp only [List.mem_cons, List.not_mem_nil, or_false] at h1
  rcases h1 with h1 | h1 | h1 | h1 | h1
  · exact h1 ▸ ni (i := 6) rfl (by decide)
  · exact h1 ▸ ni (i := 7) rfl (by decide)
  · exact h1 ▸ ni (i := 8) rfl (by decide)
  · exact h1 ▸ ni (i := 9) rfl (by decide)
  · exact h1 ▸ ni (i := 5) rfl (by decide)
theorem LawSt.symb {ts' : List Str} {fs' : List (Int × Int)} (h : LawSt prog w r tr sl k ws nm nd S ndn ts fs ma md SA sd SS H) (kp : Keep (symAt S) r r') (sy' : SymSt prog w r' nm nd S ndn ts' fs')
    (a3 : ∀ x n, idx x ts = some n → idx x ts' = some n) (a4 : ∀ x n, idx x fs = some n → idx x fs' = some n) (b1 : ts'.length ≤ 700) (b2 : fs'.length ≤ 700) : LawSt prog w r' tr sl k ws nm nd S ndn ts' fs' ma md SA sd SS H := by
  obtain ⟨⟨t, n, m1⟩, ⟨n2, m2⟩, sy, m3, m4, m5, m6, ⟨hvs, nh, m7, c⟩, e1, e2, wi, wl, nod, p3, p4, q12, q13, q14, z1, z2⟩ := h
  have ni : ∀ {i : Nat} {a : Addr}, (lawAt tr sl md sd SS.hl nd S)[i]? = some a → i ∉ [6, 7, 8, 9] → a ∉ symAt S := fun hi hj => nod_notin nod hi [6, 7, 8, 9] rfl hj
  exact ⟨⟨t, n, kp.ne _ _ m1 (ni (i := 0) rfl (by decide))⟩, ⟨n2, kp.ne _ _ m2 (ni (i := 1) rfl (by decide))⟩, sy', kp.cl _ _ m3 (.inr ⟨_, rfl⟩), kp.ne _ _ m4 (ni (i := 2) rfl (by decide)), kp.cl _ _ m5 (.inr ⟨_, rfl⟩), kp.ne _ _ m6 (ni (i := 3) rfl (by decide)), ⟨hvs, nh, kp.ne _ _ m7 (ni (i := 4) rfl (by decide)), cellsAre_keep c kp⟩, e1, e2, wi, wl, nod,
    a3 _ _ p3, a3 _ _ p4, a4 _ _ q12, a4 _ _ q13, a4 _ _ q14, b1, b2⟩
theorem intern_hit {α : Type} [DecidableEq α] {x : α} {l : List α} {n : Nat} (h : idx x l = some n) : intern x l = ((n : Int), l) := by unfold intern; rw [h]
theorem intern_keep {α : Type} [DecidableEq α] (y : α) (l : List α) : ∀ x n, idx x l = some n → idx x (intern y l).2 = some n := fun x n h => by
  unfold intern
  cases e : idx y l with
  | some i => exact h
  | none => show idx x (l ++ [y]) = some n; rw [idx_snoc, h]; rfl
theorem strsAre_get {vs : List Value} {ys : List Str} (h : StrsAre vs ys) : ∀ {k : Nat} {x : Str}, ys[k]? = some x → ∃ t, vs[k]? = some (.str x t) := by
  induction h with
  | nil => intro k x e; simp at e
  | cons y t _ ih =>
    intro k x e
    cases k with
    | zero => simp at e; exact ⟨t, by simp [e]⟩
    | succ k => simp at e; obtain ⟨t', e'⟩ := ih e; exact ⟨t', by simpa using e'⟩
theorem fnAt_of {fvs : List Value} {fs : List (Int × Int)} {k : Nat} {a n : Int} (c : CellsAre r fvs fs) (h : idx (a, n) fs = some k) : FnAt r fvs k a n := by
  obtain ⟨x, t1, t2, z, e, hm⟩ := c.get (idx_get h)
  exact ⟨x, t1, t2, z, by simpa using e, hm⟩
theorem LawSt.evG (h : LawSt prog w r tr sl k ws nm nd S ndn ts fs ma md SA sd SS H) (hH : H.length ≤ 90000) : ∃ hvs nh tvs nt fvs nf, EvG ma md SA 18 sd SS 7 nd S ndn hvs nh H tvs nt fvs nf r := by
  obtain ⟨_, _, sy, m3, m4, m5, m6, ⟨hvs, nh, m7, c⟩, e1, e2, _, _, _, p3, p4, q12, q13, q14, z1, z2⟩ := h
  obtain ⟨tvs, nt, ht, hts⟩ := sy.t
  obtain ⟨fvs, nf, hf, hfs⟩ := sy.f
  have l1 := hts.length
  have l2 := hfs.1
  have l3 := c.1
  exact ⟨hvs, nh, tvs, nt, fvs, nf, m3, m4, m5, m6, e1 ▸ sy.i, sy.d, m7, c, by omega, ht, by omega, hf, by omega, strsAre_get hts (idx_get p3), strsAre_get hts (idx_get p4), fnAt_of hfs q12, fnAt_of hfs q13, fnAt_of hfs q14⟩
end
structure OffY (a nd : Addr) (S : SymA) : Prop where
  fn : a ≠ nd
  f0 : a ≠ S.lt
  f1 : a ≠ S.da
  f2 : a ≠ S.lf
  f3 : a ≠ S.df
theorem offY_of {a nd : Addr} {S : SymA} (h : a ∉ symAt S) (h2 : a ≠ nd) : OffY a nd S := by
  simp only [symAt, List.mem_cons, List.not_mem_nil, or_false, not_or] at h
  exact ⟨h2, h.1, h.2.1, h.2.2.1, h.2.2.2⟩
theorem law_nodup {tr sl md sd hl nd : Addr} {S : SymA} (h1 : tr ≠ sl) (h2 : md ≠ sd) (h3 : md ≠ hl) (h4 : sd ≠ hl) (otr : OffY tr nd S) (osl : OffY sl nd S)
    (g1 : ∀ a, a ∈ [tr, sl, nd, S.lt, S.da, S.lf, S.df] → a ≠ md) (g2 : ∀ a, a ∈ [tr, sl, nd, S.lt, S.da, S.lf, S.df] → a ≠ sd) (g3 : ∀ a, a ∈ [tr, sl, nd, S.lt, S.da, S.lf, S.df] → a ≠ hl)
    (y0 : S.lt ≠ S.da) (y1 : S.lt ≠ S.lf) (y2 : S.lt ≠ S.df) (y3 : S.lt ≠ nd) (y4 : S.da ≠ S.lf) (y5 : S.da ≠ S.df) (y6 : S.da ≠ nd) (y7 : S.lf ≠ S.df) (y8 : S.lf ≠ nd) (y9 : S.df ≠ nd) : (lawAt tr sl md sd hl nd S).Nodup := by
  have m0 : tr ∈ [tr, sl, nd, S.lt, S.da, S.lf, S.df] := by simp
  have m1 : sl ∈ [tr, sl, nd, S.lt, S.da, S.lf, S.df] := by simp
  have m2 : nd ∈ [tr, sl, nd, S.lt, S.da, S.lf, S.df] := by simp
  have m3 : S.lt ∈ [tr, sl, nd, S.lt, S.da, S.lf, S.df] := by simp
  have m4 : S.da ∈ [tr, sl, nd, S.lt, S.da, S.lf, S.df] := by simp
  have m5 : S.lf ∈ [tr, sl, nd, S.lt, S.da, S.lf, S.df] := by simp
  have m6 : S.df ∈ [tr, sl, nd, S.lt, S.da, S.lf, S.df] := by simp
  simp only [lawAt, List.nodup_cons, List.mem_cons, List.not_mem_nil, or_false, not_or, List.nodup_nil, and_true, not_false_eq_true]
  exact ⟨⟨h1, (g1 _ m0), (g2 _ m0), (g3 _ m0), otr.fn, otr.f0, otr.f1, otr.f2, otr.f3⟩, ⟨(g1 _ m1), (g2 _ m1), (g3 _ m1), osl.fn, osl.f0, osl.f1, osl.f2, osl.f3⟩, ⟨h2, h3, (g1 _ m2).symm, (g1 _ m3).symm, (g1 _ m4).symm, (g1 _ m5).symm, (g1 _ m6).symm⟩, ⟨h4, (g2 _ m2).symm, (g2 _ m3).symm, (g2 _ m4).symm, (g2 _ m5).symm, (g2 _ m6).symm⟩, ⟨(g3 _ m2).symm, (g3 _ m3).symm, (g3 _ m4).symm, (g3 _ m5).symm, (g3 _ m6).symm⟩, ⟨y3.symm, y6.symm, y8.symm, y9.symm⟩, ⟨y0, y1, y2⟩, ⟨y4, y5⟩, y7⟩
theorem allInts_of {vs : List Value} {ns : List Int} (h : IntsAre vs ns) : AllInts vs := by
  induction h with
  | nil => exact fun v hv => nomatch hv
  | cons n t _ ih =>
    intro v hv
    rcases List.mem_cons.mp hv with rfl | hv
    · exact ⟨n, t, rfl⟩
    · exact ih v hv
theorem tr_ne_sl {h₀ h : Heap} {L : Addr} {r : List (Addr × Obj)} {tr sl : Addr} {v : Value} {n n2 : Nat} {vs : List Value} (N : News h₀ L h r) (h1 : (tr, listOf #[.ref sl, v] n) ∈ r) (h2 : (sl, listOf vs.toArray n2) ∈ r) (hI : AllInts vs) : tr ≠ sl := fun e => by
  subst e
  have q := Option.some.inj ((N.get h1).symm.trans (N.get h2))
  have q2 : (listOf #[.ref tr, v] n).data = (listOf vs.toArray n2).data := congrArg Obj.data q
  injection q2 with q3
  have q4 : [Value.ref tr, v] = vs := by simpa using congrArg Array.toList q3
  obtain ⟨a, t, e⟩ := hI (.ref tr) (by rw [← q4]; simp)
  cases e
theorem LawSt.ne01 {prog : Program} {w : World} {r : List (Addr × Obj)} {tr sl : Addr} {k : Int} {ws : List Value} {nm nd : Addr} {S : SymA} {ndn : Nat} {ts : List Str} {fs : List (Int × Int)} {ma md : Addr} {SA : AreaA} {sd : Addr} {SS : StoreA} {H : List (Int × Int)} (h : LawSt prog w r tr sl k ws nm nd S ndn ts fs ma md SA sd SS H) : tr ≠ sl := fun e => nod_notin h.nod (i := 0) rfl [1] (ds := [sl]) rfl (by decide) (e ▸ List.mem_singleton_self _)
theorem LawSt.ne34 {prog : Program} {w : World} {r : List (Addr × Obj)} {tr sl : Addr} {k : Int} {ws : List Value} {nm nd : Addr} {S : SymA} {ndn : Nat} {ts : List Str} {fs : List (Int × Int)} {ma md : Addr} {SA : AreaA} {sd : Addr} {SS : StoreA} {H : List (Int × Int)} (h : LawSt prog w r tr sl k ws nm nd S ndn ts fs ma md SA sd SS H) : SS.hl ≠ sd := fun e => nod_notin h.nod (i := 4) rfl [3] (ds := [sd]) rfl (by decide) (e ▸ List.mem_singleton_self _)
theorem LawSt.ne45 {prog : Program} {w : World} {r : List (Addr × Obj)} {tr sl : Addr} {k : Int} {ws : List Value} {nm nd : Addr} {S : SymA} {ndn : Nat} {ts : List Str} {fs : List (Int × Int)} {ma md : Addr} {SA : AreaA} {sd : Addr} {SS : StoreA} {H : List (Int × Int)} (h : LawSt prog w r tr sl k ws nm nd S ndn ts fs ma md SA sd SS H) : SS.hl ≠ nd := fun e => nod_notin h.nod (i := 4) rfl [5] (ds := [nd]) rfl (by decide) (e ▸ List.mem_singleton_self _)
theorem LawSt.ne48 {prog : Program} {w : World} {r : List (Addr × Obj)} {tr sl : Addr} {k : Int} {ws : List Value} {nm nd : Addr} {S : SymA} {ndn : Nat} {ts : List Str} {fs : List (Int × Int)} {ma md : Addr} {SA : AreaA} {sd : Addr} {SS : StoreA} {H : List (Int × Int)} (h : LawSt prog w r tr sl k ws nm nd S ndn ts fs ma md SA sd SS H) : SS.hl ≠ S.lf := fun e => nod_notin h.nod (i := 4) rfl [8] (ds := [S.lf]) rfl (by decide) (e ▸ List.mem_singleton_self _)
theorem all7 {P : Addr → Prop} {a0 a1 a2 a3 a4 a5 a6 : Addr} (h0 : P a0) (h1 : P a1) (h2 : P a2) (h3 : P a3) (h4 : P a4) (h5 : P a5) (h6 : P a6) : ∀ a, a ∈ [a0, a1, a2, a3, a4, a5, a6] → P a := fun a ha => by
  simp only [List.mem_cons, List.not_mem_nil, or_false] at ha
  rcases ha with rfl | rfl | rfl | rfl | rfl | rfl | rfl <;> assumption
/-- what holds between the laps, names and ledger -/
def LapInv (prog : Program) (w : World) (tr sl : Addr) (ws : List Value) (nm nd : Addr) (S : SymA) (ndn : Nat) (ts : List Str) (fs : List (Int × Int)) (ma md : Addr) (SA : AreaA) (sd : Addr) (SS : StoreA) (i : Nat) (u : Str → Option Value) (r : List (Addr × Obj)) : Prop :=
  ∃ H c g v9 t1 t2 z val tv k, u (Str.ofString "cell") = some (.ref c) ∧ u (Str.ofString "value") = some (.int val tv) ∧ LawSt prog w r tr sl k ws nm nd S ndn ts fs ma md SA sd SS H ∧ (c, tup [.int g t1, .int v9 t2] z) ∈ r ∧ Lap H (g, v9) val i ∧ H.length ≤ 3 * i ∧ 0 ≤ k ∧ k ≤ 10 + 3 * (i : Int) ∧ g ≠ 0 ∧ g ≠ 1
theorem Lap.kinds {H : List (Int × Int)} {g v9 val : Int} {d : Nat} (h : Lap H (g, v9) val d) : g ≠ 0 ∧ g ≠ 1 := by
  obtain ⟨⟨_, hc⟩, _⟩ := h
  rcases hc.kind with e | ⟨a, e, _⟩ <;> (cases e; decide)
theorem stored2 {x A B : Str} {z : Option Value} {u m₀ : Str → Option Value} {va vb : Value} {st rest : List Str} (h : ∀ y, st.contains y = (y == A || y == B || rest.contains y)) (hA : u A = some va) (hB : u B = some vb) :
    (fun y => if y = x then z else if st.contains y then u y else m₀ y) = (fun y => if y = x then z else if y = A then some va else if y = B then some vb else if rest.contains y then u y else m₀ y) := by
  funext y
  by_cases h0 : y = x
  · simp [h0]
  · simp only [if_neg h0, h y]
    by_cases hA' : y = A
    · subst hA'; simp [hA]
    · by_cases hB' : y = B
      · subst hB'; simp [hA', hB]
      · simp [hA', hB']
theorem all4 {a b c d : Int} {t1 t2 t3 t4 : Tok} : AllInts [.int a t1, .int b t2, .int c t3, .int d t4] := fun v hv => by
  simp only [List.mem_cons, List.not_mem_nil, or_false] at hv
  rcases hv with rfl | rfl | rfl | rfl <;> exact ⟨_, _, rfl⟩
theorem ite_both {c : Prop} [Decidable c] {a b : Prop} (h1 : c → a) (h2 : ¬c → b) : if c then a else b := by
  by_cases h : c
  · rw [if_pos h]; exact h1 h
  · rw [if_neg h]; exact h2 h
theorem ts0_len : ts0.length ≤ 100 := by decide +kernel
theorem fs0_len : fs0.length ≤ 100 := by decide +kernel
theorem ts0_p3 : idx (Str.ofString "-") ts0 = some 3 := by decide +kernel
theorem ts0_p4 : idx (Str.ofString "+") ts0 = some 4 := by decide +kernel
theorem fs0_q12 : idx ((3 : Int), (1 : Int)) fs0 = some 12 := by decide +kernel
theorem fs0_q13 : idx ((3 : Int), (2 : Int)) fs0 = some 13 := by decide +kernel
theorem fs0_q14 : idx ((4 : Int), (2 : Int)) fs0 = some 14 := by decide +kernel
end Mine
namespace Mine
open PySem.Spec PySem.Calls PyProof.V
section
variable {prog : Program} {w : World} {r r' r'' : List (Addr × Obj)} {tr sl : Addr} {k : Int} {ws : List Value} {nm nd : Addr} {S : SymA} {ndn : Nat} {ts : List Str} {fs : List (Int × Int)} {ma md : Addr} {SA : AreaA} {sd : Addr} {SS : StoreA} {H : List (Int × Int)} {I hl : Addr}
theorem LawSt.off (h : LawSt prog w r tr sl k ws nm nd S ndn ts fs ma md SA sd SS H) (ho : ∀ p ∈ r, p.1 ≠ I) : I ∉ lawAt tr sl md sd SS.hl nd S := by
  obtain ⟨⟨t, n, m1⟩, ⟨n2, m2⟩, sy, m3, m4, m5, m6, ⟨hvs, nh, m7, c⟩, _⟩ := h
  obtain ⟨_, _, _, _, b1, b2, b3, b4⟩ := sy.mem4
  have d := sy.d
  intro q
  simp only [lawAt, List.mem_cons, List.not_mem_nil, or_false] at q
  rcases q with q | q | q | q | q | q | q | q | q | q
  · exact ho _ m1 q.symm
  · exact ho _ m2 q.symm
  · exact ho _ m4 q.symm
  · exact ho _ m6 q.symm
  · exact ho _ m7 q.symm
  · exact ho _ d q.symm
  · exact ho _ b1 q.symm
  · exact ho _ b2 q.symm
  · exact ho _ b3 q.symm
  · exact ho _ b4 q.symm
theorem klFeed (a : Keep (lawAt tr sl md sd hl nd S) r r') (b : Keep [tr] r' r'') : Keep (lawAt tr sl md sd hl nd S) r r'' := a.trans (b.wide fun d hd => by
  rw [List.mem_singleton.mp hd]; exact .head _)
theorem klSto (a : Keep (lawAt tr sl md sd hl nd S) r r') (b : Keep [hl] r' r'') : Keep (lawAt tr sl md sd hl nd S) r r'' := a.trans (b.wide fun d hd => by
  rw [List.mem_singleton.mp hd]; simp)
theorem klSym (a : Keep (lawAt tr sl md sd hl nd S) r r') (b : Keep (symAt S) r' r'') : Keep (lawAt tr sl md sd hl nd S) r r'' := a.trans (b.wide fun d hd => by
  simp only [symAt, List.mem_cons, List.not_mem_nil, or_false] at hd
  rcases hd with rfl | rfl | rfl | rfl <;> simp)
theorem klNil (a : Keep (lawAt tr sl md sd hl nd S) r r') (b : Keep [] r' r'') : Keep (lawAt tr sl md sd hl nd S) r r'' := a.trans (b.wide fun _ h => nomatch h)
theorem lap_end {h₀ : Heap} {L : Addr} {s : Shared} {i : Nat} {m₀ m' : Str → Option Value} {k' : Int} {H' : List (Int × Int)} {g v' val' : Int} {c' : Addr} {t1 t2 tv : Tok} {z : Nat} {lp : Str} {stored : List Str} {h' : Heap} {tk : Nat} {it : Obj}
    (F : Fr h₀ L h' m') (N : News h₀ L h' r') (st : LawSt prog w r' tr sl k' ws nm nd S ndn ts fs ma md SA sd SS H') (hI : (I, it) ∈ r') (hf : ¬ Fixed it) (hIo : I ∉ lawAt tr sl md sd SS.hl nd S) (hc : (c', tup [.int g t1, .int v' t2] z) ∈ r')
    (lap : Lap H' (g, v') val' (i + 1)) (hH : H'.length ≤ 3 * (i + 1)) (hk0 : 0 ≤ k') (hk1 : k' ≤ 10 + 3 * ((i + 1 : Nat) : Int)) (hm1 : m' (Str.ofString "cell") = some (.ref c')) (hm2 : m' (Str.ofString "value") = some (.int val' tv))
    (hrest : ∀ y, y ≠ lp → stored.contains y = false → m' y = m₀ y) :
    UnrEnd h₀ L s I it (fun m' r' => (∀ p ∈ r', p.1 ≠ I) ∧ LapInv prog w tr sl ws nm nd S ndn ts fs ma md SA sd SS (i + 1) m' r' ∧ ∀ y, y ≠ lp → stored.contains y = false → m' y = m₀ y) { s with heap := h', toks := tk } := by
  refine UnrEnd.introM2 F N hI hf fun q kq oq => ?_
  exact ⟨oq, ⟨H', c', g, v', t1, t2, z, val', tv, k', hm1, hm2, st.keep kq (fun d hd => by rw [List.mem_singleton.mp hd]; exact hIo), kq.cl _ _ hc .tup, lap, hH, hk0, hk1, lap.kinds.1, lap.kinds.2⟩, hrest⟩
end
theorem head_in {h₀ h : Heap} {L : Addr} {p : Addr × Obj} {r : List (Addr × Obj)} (_ : News h₀ L h (p :: r)) : p ∈ p :: r := .head _
theorem I_stays {tr sl md sd hl nd I : Addr} {S : SymA} {it : Obj} {r r' : List (Addr × Obj)} (kp : Keep (lawAt tr sl md sd hl nd S) r r') (hm : (I, it) ∈ r) (ho : I ∉ lawAt tr sl md sd hl nd S) : (I, it) ∈ r' := kp.ne _ _ hm ho
theorem Lap.add9 {H : List (Int × Int)} {g v9 v : Int} {d : Nat} (h : Lap H (g, v9) v d) (hd : d ≤ 72) : Lap (H ++ [(6, ((14 : Nat) : Int)), (g, v9), (g, v9)]) (2, (H.length : Int)) (v + v) (d + 1) := h.add hd
theorem Lap.sub9 {H : List (Int × Int)} {g v9 v k : Int} {d : Nat} (h : Lap H (g, v9) v d) (h0 : 0 ≤ k) (h1 : k ≤ 8) (hd : d ≤ 72) : Lap (H ++ [(6, ((13 : Nat) : Int)), (g, v9), (5, k)]) (2, (H.length : Int)) (v - k) (d + 1) := h.sub h0 h1 hd
theorem Lap.neg9 {H : List (Int × Int)} {g v9 v : Int} {d : Nat} (h : Lap H (g, v9) v d) (hd : d ≤ 72) : Lap (H ++ [(6, ((12 : Nat) : Int)), (g, v9)]) (2, (H.length : Int)) (-v) (d + 1) := h.neg hd
end Mine
namespace Mine
open PySem.Spec PySem.Calls PyProof.V
def ts1 : List Str := memT ts0
def fs1 : List (Int × Int) := memF ts0 fs0
def ts2 : List Str := (intern (Str.ofString "type_error") ts1).2
def fs2 : List (Int × Int) := (intern ((31 : Int), (2 : Int)) fs1).2
def ts3 : List Str := (intern (Str.ofString "evaluable") ts2).2
theorem ts1_re : intern (Str.ofString "resource_error") ts1 = ((30 : Int), ts1) := by decide +kernel
theorem fs1_re : intern ((30 : Int), (1 : Int)) fs1 = ((32 : Int), fs1) := by decide +kernel
theorem ts1_mem : intern (Str.ofString "memory") ts1 = ((29 : Int), ts1) := by decide +kernel
theorem ts1_sl : intern (Str.ofString "/") ts1 = ((6 : Int), ts1) := by decide +kernel
theorem fs1_sl : intern ((6 : Int), (2 : Int)) fs1 = ((15 : Int), fs1) := by decide +kernel
theorem ts1_te : intern (Str.ofString "type_error") ts1 = ((31 : Int), ts2) := by decide +kernel
theorem fs1_te : intern ((31 : Int), (2 : Int)) fs1 = ((33 : Int), fs2) := by decide +kernel
theorem ts2_ev : intern (Str.ofString "evaluable") ts2 = ((32 : Int), ts3) := by decide +kernel
theorem ts1_len : ts1.length ≤ 100 := by decide +kernel
theorem fs1_len : fs1.length ≤ 100 := by decide +kernel
theorem ts2_len : ts2.length ≤ 100 := by decide +kernel
theorem fs2_len : fs2.length ≤ 100 := by decide +kernel
theorem ts3_len : ts3.length ≤ 100 := by decide +kernel
abbrev dmem : PyData := .tuple [.str (Str.ofString "s"), .int 32, .tuple [.tuple [.str (Str.ofString "a"), .int 29]]]
abbrev dlis : PyData := .tuple [.str (Str.ofString "s"), .int 33, .tuple [.tuple [.str (Str.ofString "a"), .int 32], .tuple [.str (Str.ofString "s"), .int 15, .tuple [.tuple [.str (Str.ofString "a"), .int 1], .tuple [.str (Str.ofString "i"), .int 2]]]]]
theorem memD_is : memD ts0 fs0 = dmem := by
  unfold memD
  rw [show memJ ts0 fs0 = 32 from by decide +kernel, show memI ts0 = 29 from by decide +kernel]
theorem lisT_is : lisT ts3 = ts3 := by decide +kernel
theorem lisF_is : lisF ts3 fs2 = fs2 := by decide +kernel
theorem lisD_is : lisD ts3 fs2 = dlis := by
  unfold lisD
  rw [show lisJ ts3 fs2 = 33 from by decide +kernel, show lisI ts3 = 32 from by decide +kernel]
theorem eqv_mem : PyData.eqv dmem dmem = true := by decide +kernel
theorem eqv_lis : PyData.eqv dlis dlis = true := by decide +kernel
theorem sh_mem : PySem.SeqAt.shaped dmem = true := by decide +kernel
theorem sh_lis : PySem.SeqAt.shaped dlis = true := by decide +kernel
section
variable {prog : Program} {w : World} {A : Around} {E : Value → Shared → Prop} {s : Shared} {h₀ : Heap} {L a b : Addr} {r : List (Addr × Obj)} {d : PyData} {Q : Value → Shared → Prop}
theorem eq_same (N : News h₀ L s.heap r) (ra : RT r (.ref a) d) (rb : RT r (.ref b) d) (hs : PySem.SeqAt.shaped d = true) (he : PyData.eqv d d = true) (hu : A.units + 64 < cLine) (h : Q (.bool true) s) :
    wpAny (model prog w) A (compareOp .Eq (.ref a) (.ref b)) Q E s := PyProof.Rows.eq_dataH (ra.reads N) (rb.reads N) hs hs hu (by rw [he]; exact h)
theorem ne_same (N : News h₀ L s.heap r) (ra : RT r (.ref a) d) (rb : RT r (.ref b) d) (hs : PySem.SeqAt.shaped d = true) (he : PyData.eqv d d = true) (hu : A.units + 64 < cLine) (h : Q (.bool false) s) :
    wpAny (model prog w) A (compareOp .NotEq (.ref a) (.ref b)) Q E s := PyProof.Rows.ne_dataH (ra.reads N) (rb.reads N) hs hs hu (by rw [he]; exact h)
end
section
variable {prog : Program} {w : World} {r r' : List (Addr × Obj)} {tr sl : Addr} {k : Int} {ws : List Value} {nm nd : Addr} {S : SymA} {ndn : Nat} {ts : List Str} {fs : List (Int × Int)} {ma md : Addr} {SA : AreaA} {sd : Addr} {SS : StoreA} {H : List (Int × Int)}
theorem LawSt.sy1 (h : LawSt prog w r tr sl k ws nm nd S ndn ts fs ma md SA sd SS H) : SymSt prog w r SA.sy nd S ndn ts fs := h.e1 ▸ h.sy
theorem LawSt.sy2 (h : LawSt prog w r tr sl k ws nm nd S ndn ts fs ma md SA sd SS H) {ts' : List Str} {fs' : List (Int × Int)} (g : SymSt prog w r' SA.sy nd S ndn ts' fs') : SymSt prog w r' nm nd S ndn ts' fs' := h.e1 ▸ g
theorem LawSt.mem (h : LawSt prog w r tr sl k ws nm nd S ndn ts0 fs0 ma md SA sd SS H) (kp : Keep (symAt S) r r') (g : SymSt prog w r' SA.sy nd S ndn (memT ts0) (memF ts0 fs0)) : LawSt prog w r' tr sl k ws nm nd S ndn ts1 fs1 ma md SA sd SS H :=
  h.symb kp (h.sy2 g) (fun x n e => intern_keep _ _ _ _ (intern_keep _ _ _ _ e)) (fun x n e => intern_keep _ _ _ _ e) (by have := ts1_len; omega) (by have := fs1_len; omega)
theorem LawSt.lis (h : LawSt prog w r tr sl k ws nm nd S ndn ts3 fs2 ma md SA sd SS H) (kp : Keep (symAt S) r r') (g : SymSt prog w r' SA.sy nd S ndn (lisT ts3) (lisF ts3 fs2)) : LawSt prog w r' tr sl k ws nm nd S ndn ts3 fs2 ma md SA sd SS H :=
  h.symb kp (h.sy2 (by rw [lisT_is, lisF_is] at g; exact g)) (fun x n e => e) (fun x n e => e) (by have := ts3_len; omega) (by have := fs2_len; omega)
theorem LawSt.set1 {hvs : List Value} {nh : Nat} (h : LawSt prog w r tr sl k ws nm nd S ndn ts fs ma md SA sd SS H) {i : Nat} {x : Addr} {c : Int × Int} (kp : Keep [SS.hl] r r') (m : (SS.hl, listOf (hvs.set i (.ref x)).toArray nh) ∈ r') (cc : CellsAre r hvs H) (hx : CellAt r (.ref x) c) : LawSt prog w r' tr sl k ws nm nd S ndn ts fs ma md SA sd SS (H.set i c) :=
  h.stor kp m (cellsAre_keep (cellsAre_set cc hx) kp)
end
abbrev tupO (vs : Array Value) : Obj := { cls := Value.type "tuple", data := Data.seq vs }
abbrev dculp : PyData := .tuple [.str (Str.ofString "s"), .int 15, .tuple [.tuple [.str (Str.ofString "a"), .int 1], .tuple [.str (Str.ofString "i"), .int 2]]]
section
variable {h₀ h : Heap} {L D1 D2 D3 D4 : Addr} {r r' : List (Addr × Obj)} {t1 t2 t3 t4 t5 t6 : Tok}
theorem rt_mem (_ : News h₀ L h ((D1, tupO #[.str (Str.ofString "s") t1, .int 32 t2, .ref D2]) :: (D2, tupO #[.ref D3]) :: (D3, tupO #[.str (Str.ofString "a") t3, .int 29 t4]) :: r)) :
    RT ((D1, tupO #[.str (Str.ofString "s") t1, .int 32 t2, .ref D2]) :: (D2, tupO #[.ref D3]) :: (D3, tupO #[.str (Str.ofString "a") t3, .int 29 t4]) :: r) (.ref D1) dmem :=
  RT.tup (n := 0) (.head _) (.cons (.str _ _) (.cons (.int _ _) (.cons (RT.tup (n := 0) (.tail _ (.head _)) (.cons (RT.tup (n := 0) (.tail _ (.tail _ (.head _))) (.cons (.str _ _) (.cons (.int _ _) .nil))) .nil)) .nil)))
theorem rt_culprit (_ : News h₀ L h ((D1, tupO #[.str (Str.ofString "s") t1, .int 15 t2, .ref D2]) :: (D2, tupO #[.ref D4, .ref D3]) :: (D3, tupO #[.str (Str.ofString "i") t3, .int 2 t4]) :: (D4, tupO #[.str (Str.ofString "a") t5, .int 1 t6]) :: r)) :
    RT ((D1, tupO #[.str (Str.ofString "s") t1, .int 15 t2, .ref D2]) :: (D2, tupO #[.ref D4, .ref D3]) :: (D3, tupO #[.str (Str.ofString "i") t3, .int 2 t4]) :: (D4, tupO #[.str (Str.ofString "a") t5, .int 1 t6]) :: r) (.ref D1) dculp :=
  RT.tup (n := 0) (.head _) (.cons (.str _ _) (.cons (.int _ _) (.cons (RT.tup (n := 0) (.tail _ (.head _)) (.cons (RT.tup (n := 0) (.tail _ (.tail _ (.tail _ (.head _)))) (.cons (.str _ _) (.cons (.int _ _) .nil))) (.cons (RT.tup (n := 0) (.tail _ (.tail _ (.head _))) (.cons (.str _ _) (.cons (.int _ _) .nil))) .nil))) .nil)))
theorem rt_due (_ : News h₀ L h ((D1, tupO #[.str (Str.ofString "s") t1, .int 33 t2, .ref D2]) :: (D2, tupO #[.ref D3, .ref D4]) :: (D3, tupO #[.str (Str.ofString "a") t3, .int 32 t4]) :: r)) (rc : RT r (.ref D4) dculp) :
    RT ((D1, tupO #[.str (Str.ofString "s") t1, .int 33 t2, .ref D2]) :: (D2, tupO #[.ref D3, .ref D4]) :: (D3, tupO #[.str (Str.ofString "a") t3, .int 32 t4]) :: r) (.ref D1) dlis :=
  RT.tup (n := 0) (.head _) (.cons (.str _ _) (.cons (.int _ _) (.cons (RT.tup (n := 0) (.tail _ (.head _)) (.cons (RT.tup (n := 0) (.tail _ (.tail _ (.head _))) (.cons (.str _ _) (.cons (.int _ _) .nil))) (.cons (rc.sub fun _ q => .tail _ (.tail _ (.tail _ q))) .nil))) .nil)))
theorem RT.keepL {prog : Program} {w : World} {r9 : List (Addr × Obj)} {tr sl : Addr} {k : Int} {ws : List Value} {nm nd : Addr} {S : SymA} {ndn : Nat} {ts : List Str} {fs : List (Int × Int)} {ma md : Addr} {SA : AreaA} {sd : Addr} {SS : StoreA} {H : List (Int × Int)} {v : Value} {d : PyData}
    (_ : LawSt prog w r9 tr sl k ws nm nd S ndn ts fs ma md SA sd SS H) (a : RT r v d) (kp : Keep (lawAt tr sl md sd SS.hl nd S) r r') : RT r' v d := a.keep kp
end
section
variable {H H1 : List (Int × Int)} {g v9 v : Int} {d : Nat}
theorem Lap.val_law (h : Lap H (g, v9) v d) : ∃ n, n ≤ 4 * d + 1 ∧ Run H n [(g, v9)] [] [] (.val v) := by
  obtain ⟨⟨val, hc⟩, _⟩ := h
  exact hc.val_run
theorem Lap.both_law (h : Lap H (g, v9) v d) : ∃ n, n ≤ 4 * d + 10 ∧ Run (H ++ [(6, ((13 : Nat) : Int)), (g, v9), (g, v9)]) n [(2, (H.length : Int))] [] [] (.val 0) := by
  obtain ⟨⟨val, hc⟩, _⟩ := h
  have h2 := (hc.mono (fun i x => get_app) (fun _ _ => rfl)).both_run (hc.under (Nat.le_refl _)) (get_new 0) (get_new (X := [(6, ((13 : Nat) : Int)), (g, v9), (g, v9)]) 1) (get_new (X := [(6, ((13 : Nat) : Int)), (g, v9), (g, v9)]) 2)
  rw [Int.sub_self] at h2
  exact h2
theorem Lap.mem_law (h : Lap H (g, v9) v d) (hs : ∀ (i : Nat) (x : Int × Int), H[i]? = some x → H1[i]? = some x) (hl : H.length ≤ H1.length) {j : Int} (hj : j = (H1.length : Int) + 2) :
    ∃ n, n ≤ 4 * d + 10 ∧ Run (((H1 ++ [(6, ((14 : Nat) : Int)), (g, v9), (5, 1)]) ++ [(6, ((12 : Nat) : Int)), (2, (H1.length : Int))]).set j.toNat (2, ((H1 ++ [(6, ((14 : Nat) : Int)), (g, v9), (5, 1)]).length : Int))) n [(2, (H1.length : Int))] [] [] .memory := by
  obtain ⟨⟨val, hc⟩, _⟩ := h
  have e : (((H1 ++ [(6, ((14 : Nat) : Int)), (g, v9), (5, 1)]) ++ [(6, ((12 : Nat) : Int)), (2, (H1.length : Int))]).set j.toNat (2, ((H1 ++ [(6, ((14 : Nat) : Int)), (g, v9), (5, 1)]).length : Int))) = H1 ++ [(6, 14), (g, v9), (2, ((H1.length + 3 : Nat) : Int)), (6, 12), (2, (H1.length : Int))] := by
    rw [List.append_assoc, show j.toNat = H1.length + 2 from by omega, set_at, List.length_append]
    rfl
  rw [e]
  have g0 : ∀ k, (H1 ++ [(6, 14), (g, v9), (2, ((H1.length + 3 : Nat) : Int)), (6, 12), (2, (H1.length : Int))])[H1.length + k]? = [(6, 14), (g, v9), (2, ((H1.length + 3 : Nat) : Int)), (6, 12), (2, (H1.length : Int))][k]? := fun k => get_new k
  exact (hc.mono (fun i x q => get_app (hs i x q)) (fun _ _ => rfl)).mem_run (b := H1.length + 3) (hc.under hl) (by omega) (g0 0) (g0 1) (g0 2) (g0 3) (g0 4)
theorem Lap.lis_law (h : Lap H (g, v9) v d) (hs : ∀ (i : Nat) (x : Int × Int), H[i]? = some x → H1[i]? = some x) (hl : H.length ≤ H1.length) {b : Nat} :
    ∃ n, n ≤ 4 * d + 10 ∧ Run (H1 ++ [(6, ((14 : Nat) : Int)), (g, v9), (3, (b : Int))]) n [(2, (H1.length : Int))] [] [] .lis := by
  obtain ⟨⟨val, hc⟩, _⟩ := h
  exact (hc.mono (fun i x q => get_app (hs i x q)) (fun _ _ => rfl)).lis_run (hc.under hl) (get_new 0) (get_new (X := [(6, ((14 : Nat) : Int)), (g, v9), (3, (b : Int))]) 1) (get_new (X := [(6, ((14 : Nat) : Int)), (g, v9), (3, (b : Int))]) 2)
theorem get_set_lt {i j : Nat} {x c : Int × Int} (hij : i < j) (h : H[i]? = some x) : (H.set j c)[i]? = some x := by
  rw [List.getElem?_set_ne (by omega)]; exact h
end
theorem sub5 {H X1 X2 X3 X4 : List (Int × Int)} {c : Int × Int} {j : Int} (hj : j = ((H ++ X1).length : Int) + 2) : ∀ (i : Nat) (x : Int × Int), H[i]? = some x → ((((H ++ X1) ++ X2) ++ X3).set j.toNat c ++ X4)[i]? = some x := fun i x q => get_app (get_set_lt (by
  have := (List.getElem?_eq_some_iff.mp q).1
  rw [List.length_append] at hj
  omega) (get_app (get_app (get_app q))))
theorem done2 {x A B : Str} {u m₀ : Str → Option Value} {va vb : Value} {st rest : List Str} (h : ∀ y, st.contains y = (y == A || y == B || rest.contains y)) (hA : u A = some va) (hB : u B = some vb) :
    (fun y => if y = x then u y else if st.contains y then u y else m₀ y) = (fun y => if y = x then u x else if y = A then some va else if y = B then some vb else if rest.contains y then u y else m₀ y) := by
  funext y
  by_cases h0 : y = x
  · simp [h0]
  · simp only [if_neg h0, h y]
    by_cases hA' : y = A
    · subst hA'; simp [hA]
    · by_cases hB' : y = B
      · subst hB'; simp [hA', hB]
      · simp [hA', hB']
end Mine
namespace Mine
open PySem.Calls Builtin Builtin.ObjectAttr
section
variable {prog : Program} {w : World} {A : Around} {E : Value → Shared → Prop} {s : Shared} {K : Frag} {x C : Addr} {ox : Obj} {od : Option Obj} {name : Str} {expr : Bool} {Q : Value → Shared → Prop}
theorem oga_run {tk : Tok} {v : Value} {Q : Fin → Shared → Prop} (X : K.In s.heap) (I : InstAt s.heap x ox C od) (hf : findObj K C od name = some (.value v)) (h : Q (.done (.ret v)) s) :
    wpAny (model prog w) A (Builtin.«object.__getattribute__» ⟨[.ref x, .str name tk], []⟩) Q E s := by
  have L0 := I.type (M := model prog w)
  have L1 := looks_find (M := model prog w) X I hf
  obtain ⟨hh', g, d, t, os⟩ := s
  refine wpAny_bind (wpAny_pure (wpAny_bind (wpAny_pure (wpAny_bind (L0.at (wpAny_bind (L1.at ?_)))))))
  exact wpAny_pure h
theorem get_exc {v : Value} {hook : Option Value} (X : K.In s.heap) (I : InstAt s.heap x ox C od) (hga : findIn K (.ref C) "__getattribute__" = some (some (.builtin "BaseException.__getattribute__")))
    (hk : findIn K (.ref C) "__getattr__" = some hook) (hm : mroIn K C (.type "BaseException") = some true) (hf : findObj K C od name = some (.value v)) (hh : handedIn v = true) (h : Q v { s with toks := s.toks + 1 }) :
    wpAny (model prog w) A (getAttr (.ref x) name expr) Q E s := by
  have L0 := I.type (M := model prog w)
  have L1 := looks_findIn (M := model prog w) X hga
  have L2 : Looks (model prog w) s.heap (hookBefore (.ref C)) hook := looks_hook X (by rw [if_pos (by rfl)]; exact hk)
  unfold getAttr getAttrBy
  refine wpAny_bind (wpAny_mkText (wpAny_holding (wpAny_bind (L0 _ _ _ _ (fun _ _ e => e) (wpAny_bind (L1 _ _ _ _ (fun _ _ e => e) ?_))))))
  dsimp only
  rw [show (onTheHeap (.ref C) && Value.builtin "BaseException.__getattribute__" == Value.builtin "object.__getattribute__") = false from by rw [show (Value.builtin "BaseException.__getattribute__" == Value.builtin "object.__getattribute__") = false from by decide +kernel, Bool.and_false], if_neg (by decide)]
  refine wpAny_bind (L2 _ _ _ _ (fun _ _ e => e) (wpAny_bind (wpAny_attempt (wpAny_holding ?_))))
  unfold callGetattribute
  rw [show (expr && onTheHeap (Value.builtin "BaseException.__getattribute__")) = false from Bool.and_false _, if_neg (by decide)]
  unfold boundAndCalled
  rw [PySem.F.excAttr_ValueError.ga.bind]
  refine wpAny_bind (wpAny_pure ?_)
  show wpAny _ _ (call (.builtin "BaseException.__getattribute__") [.ref x, .str name s.toks]) _ _ _
  refine wpAny_call ?_
  refine codeAny_call_builtin PySem.F.excAttr_ValueError.ga.plain PySem.F.entry_bexc_ga ?_
  refine @check_slot (model prog w) _ _ { s with toks := s.toks + 1 } "BaseException.__getattribute__" "BaseException" "__getattribute__" (.ref x) [.str name s.toks] [] _ (by decide +kernel) (by decide +kernel) (L0.andThen (looks_mroIn X hm)) (PySem.F.args_bexc_ga (.ref x) (.str name s.toks)) ?_
  refine oga_run (s := { s with toks := s.toks + 1 }) X I hf ?_
  show wpAny _ _ (handedOut v) _ _ _
  rw [handedOut_of hh]; exact wpAny_pure h
end
theorem inst_exc {h₀ h : Heap} {L e C dx : Addr} {vs : Array Value} {es : List DictEntry} {n : Nat} {r : List (Addr × Obj)} (N : News h₀ L h r) (he : (e, excO (.ref C) dx vs) ∈ r) (hd : (dx, dictOf es n) ∈ r) : InstAt h e (excO (.ref C) dx vs) C (some (dictOf es n)) :=
  ⟨(N _ he).1, rfl, rfl, (N _ hd).1⟩
theorem get_excK {prog : Program} {w : World} {A : Around} {E : Value → Shared → Prop} {s : Shared} {K : Frag} {h₀ : Heap} {L e C dx : Addr} {m : Str → Option Value} {vs : Array Value} {es : List DictEntry} {n : Nat} {r : List (Addr × Obj)} {name : Str} {expr : Bool} {Q : Value → Shared → Prop} {v : Value} {attr : Option Value} {hook : Option Value}
    (F : Fr h₀ L s.heap m) (X₀ : K.In h₀) (N : News h₀ L s.heap r) (he : (e, excO (.ref C) dx vs) ∈ r) (hd : (dx, dictOf es n) ∈ r) (hga : findIn K (.ref C) "__getattribute__" = some (some (.builtin "BaseException.__getattribute__")))
    (hk : findIn K (.ref C) "__getattr__" = some hook) (hm : mroIn K C (.type "BaseException") = some true) (hh : hasDictIn K C = true) (ha : findIn K (.ref C) name = some attr) (hn : noGet K attr = true) (hl : getL name es = some (some v)) (hv : handedIn v = true) (h : Q v { s with toks := s.toks + 1 }) :
    wpAny (model prog w) A (getAttr (.ref e) name expr) Q E s :=
  get_exc (X₀.keeps F.keep) (inst_exc N he hd) hga hk hm (findObj_own hh ha hn hl) hv h
end Mine
namespace Mine
local macro_rules | `(tactic| walk_at "exec While") => `(tactic| (k_here; k_dflt (refine whl_start 1 ?_)))
local macro_rules | `(tactic| walk_at "ite") => `(tactic| (k_here; first | (refine ite_pos (by first | with_reducible assumption | (simp only [beq_iff_eq, bne_iff_ne, decide_eq_true_eq, ne_eq]; omega)) ?_; walk_say "MY PRUNE") | (refine ite_neg (by first | with_reducible assumption | (simp only [beq_iff_eq, bne_iff_ne, decide_eq_true_eq, ne_eq]; omega)) ?_; walk_say "MY PRUNE")))
local macro_rules | `(tactic| walk_at "subscriptTail") => `(tactic| (k_here; (with_reducible show wpAny _ _ (subscriptTail _ _ (Value.ref _) (Value.int _ _)) _ _ _); (with_unfolding_all refine' item_abs ?k1 ?k2 ?k3 ?k4 ?k5 ?_ ?k6; (case k1 => k_asm); (case k2 => k_mem); (case k3 => assumption); (case k4 => first | assumption | omega); (case k5 => assumption); (case k6 => with_unfolding_all rfl); k_whole); walk_say "MY ITEM"))
local macro_rules | `(tactic| walk_at "compareOp In str ref") => `(tactic| (k_here; k_dflt (refine' in_tupK ?F ?X ?l ?w ?b ?_; (case F => k_asm); (case X => k_asm); (case l => k_is); (case w => kde_strs); (case b => exact rfl); k_whole); walk_say "MY IN"))
local macro_rules | `(tactic| walk_at "call builtin:list.append") => `(tactic| (k_here; (with_reducible show wpAny _ _ (call (Value.builtin _) [Value.ref _, _]) _ _ _); k_dflt (refine' append_L ?k1 ?k2 ?k3 ?z ?_; (case k1 => k_asm); (case k2 => k_asm); (case k3 => k_upd); (case z => first | assumption | omega | (simp only [List.length_append, List.length_cons, List.length_nil]; omega)); k_whole); intro h' F' N'; (try k_sweep); walk_say "MY APPEND"))
local macro_rules | `(tactic| walk_at "call builtin:list.pop") => `(tactic| (k_here; (with_reducible show wpAny _ _ (call (Value.builtin _) [Value.ref _]) _ _ _); k_dflt (refine' pop_L ?k1 ?k2 ?k3 ?z ?_; (case k1 => k_asm); (case k2 => k_asm); (case k3 => k_upd); (case z => first | assumption | omega | (simp only [List.length_append, List.length_cons, List.length_nil]; omega)); k_whole); intro h' F' N'; (try k_sweep); walk_say "MY POP"))
local macro_rules | `(tactic| k_all) => `(tactic| assumption)
local macro_rules | `(tactic| k_mem) => `(tactic| first | with_reducible exact List.Mem.head _ | assumption | (refine' List.Mem.tail _ ?_; k_mem))
local macro_rules | `(tactic| walk_at "truthy ref") => `(tactic| (k_here; (with_reducible show wpAny _ _ (truthy (Value.ref _)) _ _ _); k_dflt (refine' truthy_L ?k1 ?k2 ?k3 ?k4 ?_; (case k1 => k_asm); (case k2 => k_mem); (case k3 => first | assumption | (simp only [List.length_append, List.length_cons, List.length_nil]; omega)); (case k4 => first | exact some_true _ _ | exact none_false); k_whole); walk_say "MY TRUTH"))
local macro_rules | `(tactic| walk_at "call builtin:len") => `(tactic| (k_here; (with_reducible show wpAny _ _ (call (Value.builtin "len") [Value.ref _]) _ _ _); k_dflt (refine' len_L ?k1 ?k2 ?k3 ?_; (case k1 => k_asm); (case k2 => k_mem); (case k3 => first | assumption | (simp only [List.length_append, List.length_cons, List.length_nil]; omega)); k_whole); walk_say "MY LEN"))
local macro_rules | `(tactic| k_mem) => `(tactic| first | with_reducible exact List.mem_cons_self | with_reducible assumption | exact List.Mem.head _ | with_reducible exact SymSt.i (by with_reducible assumption) | with_reducible exact SymSt.d (by with_reducible assumption) | ((with_reducible refine' Keep.any ?kmk _ _ ?kma ?kmb); (case kmk => (with_reducible assumption)); (case kma => k_mem); (case kmb => first | exact .inl (.inl rfl) | exact .inl (.inr ⟨_, rfl⟩) | (refine Or.inr ?_; walk_at "my notin"))) | ((with_reducible refine' List.mem_cons_of_mem _ ?_); k_mem) | assumption | fail "my mem")
local macro_rules | `(tactic| walk_at "my ne0") => `(tactic| first | with_reducible assumption | with_reducible exact Ne.symm (by with_reducible assumption) | k_ne | (exact Ne.symm (by k_ne)) | exact lt_at (by with_reducible assumption) (by with_reducible assumption) | exact Ne.symm (lt_at (by with_reducible assumption) (by with_reducible assumption)) | exact off_at (by with_reducible assumption) (by with_reducible assumption) | exact Ne.symm (off_at (by with_reducible assumption) (by with_reducible assumption)) | fail "my ne0")
local macro_rules | `(tactic| walk_at "my notin") => `(tactic| first | with_reducible assumption | with_reducible exact OffS.sym (by with_reducible assumption) | with_reducible exact OffS.nd (by with_reducible assumption) | (simp only [List.mem_cons, List.not_mem_nil, or_false, not_or]; (repeat' (refine And.intro ?_ ?_)) <;> walk_at "my ne0"))
local macro_rules | `(tactic| walk_at "my sym") => `(tactic| first | with_reducible assumption | (refine' SymSt.keep ?ks1 (.cons [] _ _) (by simp); (case ks1 => walk_at "my sym")) | (refine' SymSt.keep (ds := []) ?ks1 ?ks2 (fun _ _ => List.not_mem_nil); (case ks2 => with_reducible assumption); (case ks1 => walk_at "my sym")) | (refine' SymSt.keepO ?ks1 ?ks2 ?ks3; (case ks2 => with_reducible assumption); (case ks3 => with_reducible assumption); (case ks1 => walk_at "my sym")) | fail "my sym")
local macro_rules | `(tactic| walk_at "my tab") => `(tactic| first | assumption | (refine' PyProof.Rows.TupTab.cons ?kt _; (case kt => walk_at "my tab")) | (refine' tupTab_keep ?kt1 ?kt0 ?kt2; (case kt0 => assumption); (case kt1 => walk_at "my tab"); (case kt2 => walk_at "my notin")) | fail "my tab")
local macro_rules | `(tactic| walk_at "call builtin:list.append") => `(tactic| (k_here; (with_reducible show wpAny _ _ (call (Value.builtin _) [Value.ref _, _]) _ _ _); k_dflt (refine' append_M ?k1 ?k2 ?k3 ?z ?_; (case k1 => k_asm); (case k2 => k_asm); (case k3 => k_mem); (case z => first | assumption | omega | (simp only [List.length_append, List.length_cons, List.length_nil]; omega)); k_whole); intro h' r' F' N' hin kp; (try k_sweep); walk_say "M APPEND"))
local macro_rules | `(tactic| walk_at "getMethod ref") => `(tactic| (k_here; (with_reducible show wpAny _ _ (getMethod (Value.ref _) "get" _) _ _ _); k_dflt (first | (refine' smeth_M ?k1 ?k2 ?k3 ?k4 ?k5 ?_; (case k1 => k_asm); (case k2 => k_mem); (case k4 => assumption); (case k5 => assumption); (case k3 => assumption); k_whole) | (refine' tmeth_M ?k1 ?k2 ?_; (case k1 => k_asm); (case k2 => walk_at "my tab"); k_whole)); walk_say "M METH"))
local macro_rules | `(tactic| walk_at "call builtin:dict.get") => `(tactic| (k_here; k_dflt (first | (refine' sget_M ?k1 ?k2 ?k3 ?k4 ?k5 ?k6 ?_; (case k1 => k_asm); (case k2 => k_mem); (case k4 => assumption); (case k5 => assumption); (case k3 => assumption); (case k6 => assumption); k_whole) | (refine' tget_M ?k1 ?k2 ?k3 ?k4 ?k5 ?_; (case k2 => k_asm); (case k3 => walk_at "my tab"); (case k4 => k_mem); (case k5 => assumption); (case k1 => walk_at "my units"); k_whole)); intro t'; walk_say "M GET"))
local macro_rules | `(tactic| walk_at "my units") => `(tactic| ((try simp only [units_in1, units_deeper, units_under_make, Around.mark_units]); (try dsimp only [ktrTop]); (try simp only [units_in1, units_deeper, units_under_make, Around.mark_units]); omega))
local macro_rules | `(tactic| walk_at "setItem ref str") => `(tactic| (k_here; k_dflt (refine' sset_M ?F ?N ?m ?d ?f ?z ?_; (case F => k_asm); (case N => k_asm); (case m => k_mem); (case d => assumption); (case f => assumption); (case z => first | assumption | omega); k_whole); intro h' r' o' kvs' F' N' hin hd' hf' kp; (try k_sweep); walk_say "M SET"))
local macro_rules | `(tactic| walk_at "setItem ref ref") => `(tactic| (k_here; k_dflt (refine' tset_M ?u ?F ?N ?T ?m ?z ?_; (case F => k_asm); (case N => k_asm); (case T => walk_at "my tab"); (case m => k_mem); (case z => first | assumption | omega); (case u => walk_at "my units"); k_whole); intro h' r' F' N' hT' kp; (try k_sweep); walk_say "M TSET"))
local macro_rules | `(tactic| walk_at "exec For") => `(tactic| (k_here; (with_reducible show wpAny _ _ (exec (Stmt.For (Expr.Name _ _) _ _ [] _) _) _ _ _); (rename Fr _ _ _ _ => lF'); (with_unfolding_all refine' For_invVF lF' ?k1 ?k2 ?_; (case k1 => exact rfl); (case k2 => exact rfl); k_whole); walk_say "MY FOR"))
local macro_rules | `(tactic| walk_at "exec For Name Name cons nil") => `(tactic| (k_here; (rename Fr _ _ _ _ => lF'); (with_unfolding_all refine' For_invVF lF' ?k1 ?k2 ?_; (case k1 => exact rfl); (case k2 => exact rfl); k_whole); walk_say "MY FOR"))
local macro_rules | `(tactic| walk_at "exec For Name Call cons nil") => `(tactic| (k_here; (rename Fr _ _ _ _ => lF'); (with_unfolding_all refine' For_invVF lF' ?k1 ?k2 ?_; (case k1 => exact rfl); (case k2 => exact rfl); k_whole); walk_say "MY FOR"))
local macro_rules | `(tactic| walk_at "pyIter ref") => `(tactic| (k_here; (with_reducible show wpAny _ _ (pyIter (Value.ref _)) (fun it s₂ => LoopAtV _ _ _ _ _ _ _ _ _ it s₂) _ _); k_dflt (first | (refine' iter_tupU ?h ?F ?N ?m ?_; (case h => with_unfolding_all rfl); (case F => k_asm); (case N => k_asm); (case m => k_mem); k_whole) | (refine' iter_lstU ?h ?F ?N ?m ?_; (case h => with_unfolding_all rfl); (case F => k_asm); (case N => k_asm); (case m => k_mem); k_whole)); intro i' l1; (try (have hoff := SymSt.offNew l1 (by walk_at "my sym"))); (try k_lt l1); walk_say "MY ITER"))
local macro_rules | `(tactic| walk_at "SeqRest") => `(tactic| (with_unfolding_all first | (refine SeqRest.succ (fun it' h' tk' o' f' F' N' => ?_)) | (refine SeqRest.zero (fun h' tk' F' N' => ?_))))
local macro_rules | `(tactic| walk_at "UnrEnd") => `(tactic| (refine' UnrEnd.introM2 ?F ?N ?hI ?hf ?_; (case F => k_asm); (case N => k_asm); (case hI => k_mem); (case hf => assumption); intro q' kq' oq'; refine ⟨by k_mem, ?_⟩; walk_say "MY UNREND"))
local macro_rules | `(tactic| walk_at "find lt") => `(tactic| first | assumption | exact And.right (by assumption) | exact And.right (And.right (by assumption)) | exact And.right (And.right (And.right (by assumption))) | fail "find lt")
local macro_rules | `(tactic| walk_at "newList") => `(tactic| (k_here; k_dflt (refine' newList_K ?k1 ?k2 ?_; (case k1 => k_asm); (case k2 => k_asm); k_whole); intro l' h' F' N' l1; (try (have hoff := SymSt.offNew l1 (by walk_at "my sym"))); (try k_lt l1); (try k_sweep); walk_say "MY NEWLIST"))
local macro_rules | `(tactic| walk_at "my rt") => `(tactic| first | assumption | with_reducible exact RT.int _ _ | with_reducible exact RT.str _ _ | (refine' RT.tup ?rta ?rtb; (case rta => k_mem); (case rtb => walk_at "my rts")) | (refine' RT.sub ?rta (fun _ h => List.mem_cons_of_mem _ h); (case rta => walk_at "my rt")) | (refine' RT.keep ?rta ?rtb; (case rtb => with_reducible assumption); (case rta => walk_at "my rt")) | fail "my rt")
local macro_rules | `(tactic| walk_at "my rts") => `(tactic| first | exact RTs.nil | (refine' RTs.cons ?rsa ?rsb; (case rsa => walk_at "my rt"); (case rsb => walk_at "my rts")) | fail "my rts")
local macro_rules | `(tactic| walk_at "my keep") => `(tactic| first | with_reducible assumption | exact Keep.refl _ _ | (with_reducible refine' Keep.stepCons ?kpa; (case kpa => walk_at "my keep")) | ((with_reducible refine' Keep.trans ?kpa ?kpb); (case kpb => (with_reducible assumption)); (case kpa => walk_at "my keep")) | ((refine' Keep.trans ?kpa (Keep.wide (ds := []) ?kpb (fun _ h => nomatch h))); (case kpb => (with_reducible assumption)); (case kpa => walk_at "my keep")) | ((with_reducible refine' Keep.stepNew ?kpa ?kpb ?kpc); (case kpb => (with_reducible assumption)); (case kpc => walk_at "my off"); (case kpa => walk_at "my keep")) | fail "my keep")
local macro_rules | `(tactic| walk_at "my off") => `(tactic| first | assumption | exact off_lt (by assumption) | (refine' off_sub ?ofa ?ofb; (case ofa => assumption); (case ofb => (intro p hp; repeat (first | exact hp | refine List.mem_cons_of_mem _ ?_)))) | (refine' off_allLt ?ofa; (case ofa => walk_at "find lt")) | fail "my off")
local macro_rules | `(tactic| walk_at "call type:tuple") => `(tactic| (k_here; (with_reducible show wpAny _ _ (call (Value.type _) [Value.ref _]) _ _ _); k_dflt (refine' tuple_M ?k1 ?k2 ?_; (case k1 => k_asm); (case k2 => k_mem); k_whole); walk_say "MY TUPLE"))
local macro_rules | `(tactic| walk_at "callWith ref") => `(tactic| (k_here; k_dflt (refine' callWith_K0 ?k1 ?k2 ?_; (case k1 => k_in); (case k2 => k_is); k_whole); (try dsimp only [List.nil_append, List.cons_append, List.append_nil]); walk_say "MY CW0"))
local macro_rules | `(tactic| walk_at "eval Name") => `(tactic| (k_here; k_dflt (refine' ld ?k1 ?k2 ?_; (case k1 => k_asm); (case k2 => exact rfl); k_whole)))
local macro_rules | `(tactic| walk_at "subscriptTail") => `(tactic| (k_here; (with_reducible show wpAny _ _ (subscriptTail _ _ (Value.ref _) (Value.int _ _)) _ _ _); k_dflt (refine' item_tupleT ?t ?a ?b ?c ?d ?_; (case a => decide); (case b => decide); (case t => (refine' News.isTup ?tn ?tm; (case tn => k_asm); (case tm => k_mem))); (case c => rfl); (case d => rfl); k_whole)))
local macro_rules | `(tactic| walk_at "getMethod ref") => `(tactic| (k_here; k_dflt (refine' method_inst ?k1 ?k2 ?k3 ?k4 ?k5 ?k6 ?k7 ?_; (case k1 => k_asm); (case k2 => k_asm); (case k3 => k_inst); (case k4 => k_is); (case k5 => k_is); (case k6 => k_is); (case k7 => k_get); k_whole)))
local macro_rules | `(tactic| walk_at "getAttr ref") => `(tactic| (k_here; k_dflt (refine' get_own ?k1 ?k2 ?k3 ?k4 ?k5 ?k6 ?k7 ?k8 ?k9 ?_; (case k1 => k_asm); (case k2 => k_asm); (case k3 => k_inst); (case k4 => k_is); (case k5 => k_is); (case k6 => k_is); (case k7 => k_is); (case k8 => k_get); (case k9 => k_handed); k_whole)))
local macro_rules | `(tactic| walk_at "exec If") => `(tactic| (k_here; refine wpAny_If ?_))
local macro_rules | `(tactic| walk_at "getMethod ref") => `(tactic| (k_here; (with_reducible show wpAny _ _ (getMethod (Value.ref _) (PySem.Str.ofString "append") _) _ _ _); k_dflt (refine' listMethod_K ?N ?m PySem.F.slot_list_append PySem.F.type_list_append ?_; (case N => k_asm); (case m => k_mem))))
local macro_rules | `(tactic| walk_at "getMethod ref") => `(tactic| (k_here; (with_reducible show wpAny _ _ (getMethod (Value.ref _) (PySem.Str.ofString "pop") _) _ _ _); k_dflt (refine' kl_method ?N ?m PySem.F.slot_list_pop PySem.F.type_list_pop ?_; (case N => k_asm); (case m => k_mem))))
local macro_rules | `(tactic| walk_at "subscriptTail Name Constant ref int") => `(tactic| (k_here; (with_reducible show wpAny _ _ (subscriptTail _ _ (Value.ref _) (Value.int _ _)) _ _ _); k_dflt (refine' item_tupleT ?t ?a ?b ?c ?d ?_; (case a => decide); (case b => decide); (case t => (refine' News.isTup ?tn ?tm; (case tn => k_asm); (case tm => k_mem))); (case c => rfl); (case d => rfl); k_whole)))
local macro_rules | `(tactic| walk_at "subscriptTail Subscript Constant ref int") => `(tactic| (k_here; (with_reducible show wpAny _ _ (subscriptTail _ _ (Value.ref _) (Value.int _ _)) _ _ _); k_dflt (refine' item_tupleT ?t ?a ?b ?c ?d ?_; (case a => decide); (case b => decide); (case t => (refine' News.isTup ?tn ?tm; (case tn => k_asm); (case tm => k_mem))); (case c => rfl); (case d => rfl); k_whole)))
local macro_rules | `(tactic| walk_at "getAttr ref") => `(tactic| (k_here; (with_reducible show wpAny _ _ (getAttr (.ref _) _ _) _ _ _); k_dflt (refine' get_excK ?k1 ?k2 ?ie1 ?ie2 ?ie3 ?k4 ?k5 ?k6 ?k7 ?k8 ?k9 ?ka ?kb ?_; (case k1 => k_asm); (case k2 => k_asm); (case ie1 => k_asm); (case ie2 => with_reducible assumption); (case ie3 => with_reducible assumption); (case k4 => k_is); (case k5 => k_is); (case k6 => k_is); (case k7 => k_is); (case k8 => k_is); (case k9 => k_is); (case ka => k_get); (case kb => k_handed); k_whole); walk_say "EXC GET"))
local macro_rules | `(tactic| walk_at "call ref") => `(tactic| (refine held ?_; walk_say "HELD"))
theorem refm_ok {w : World} {p : Program} {loose : List Str} {mean : ExcName → Option Value} {mg mb : Str → Option Value}
  {dp un : Nat} {gd : Option (List Code)} {cn : Str} {cs : Scope} {a : Addr} {ccd : Value} {A₀ : Around} {h₀ : Heap} {L : Addr} {m : Str → Option Value} {news : List (Addr × Obj)} {s : Shared} {Q E : Value → Shared → Prop}
  {ma md : Addr} {SA : AreaA} {mdn : Nat} {sd : Addr} {SS : StoreA} {sdn : Nat} {nd : Addr} {SY : SymA} {ndn : Nat} {hvs : List Value} {nh : Nat} {H : List (Int × Int)} {tvs : List Value} {nt : Nat} {fvs : List Value} {nf : Nat} {c : Addr} {tag v : Int} {t1 t2 : Tok} {n n0 : Nat} {ts : List Str} {fs : List (Int × Int)}
  (B : Below A₀ h₀ [] h₀) (F : Fr h₀ L s.heap m) (X : (hd.heap_39 w.params).In h₀) (N : News h₀ L s.heap news) (T : Top p loose mean mg mb h₀) (hk : cs.kind = .function)
  (hdp : dp + 60 < recursionLimit) (hun : un + 600 < cLine)
  (hG : EvG ma md SA mdn sd SS sdn nd SY ndn hvs nh H tvs nt fvs nf news) (hS : SymSt PySem.Challenge.rw_rh0112_01.row.prog w news SA.sy nd SY ndn ts fs) (hts : ts.length < 800) (hfs : fs.length < 900) (hc : (c, tup [.int tag t1, .int v t2] n) ∈ news) (hrun : Run H n0 [(tag, v)] [] [] .memory) (hn0 : n0 ≤ 20000)
  (ret : ∀ q h' tk r', RT r' (.ref q) (memD ts fs) → Fr h₀ L h' m → News h₀ L h' r' → SymSt PySem.Challenge.rw_rh0112_01.row.prog w r' SA.sy nd SY ndn (memT ts) (memF ts fs) → Keep (symAt SY) news r' → Q (.ref q) { s with heap := h', toks := tk }) :
  wpAny (model PySem.Challenge.rw_rh0112_01.row.prog w) (ktrTop dp un gd cn cs L a ccd [] []) (call (.ref 722) [.ref ma, .ref c]) Q E s := by
  revert X; k_fill; intro X
  refine wpAny_call ?_
  k_dflt (refine' code_defS0 ?k1 ?k2 ?k3 ?k4 ?k5 ?kA ?k6 ?k7 ?k8 ?k9 ?kB ?_ ?cK ?c2 ?c3 ?c4 ?c5; (case kA => exact rfl); (case k2 => k_asm); (case k1 => k_asm); (case k3 => k_asm); (case k4 => k_asm); (case k5 => k_asm); (case k6 => k_is); (case k7 => k_is); (case k8 => ktr_room); (case k9 => first | exact binds_K (by k_in) rfl (by k_is) rfl rfl rfl | exact BindsTo.of_eq rfl); (case kB => exact locs rfl); (case cK => assumption); (case c2 => exact rfl); (case c3 => exact rfl); (case c4 => exact rfl); (case c5 => decide); k_whole; intro g' L' h' FG' F' N' B' X' T' D'; (try dsimp only); (try k_fold))
  k_steps
  unfold Held
  k_dflt (refine' ev_ok (fin := .memory) ?B ?F ?X ?N ?T ?hk ?hdp ?hun hG hS hts hfs hc hrun hn0 ?exm (fun _ _ _ _ _ _ _ h => nomatch h) (fun _ _ _ _ h => nomatch h); (case B => k_asm); (case F => k_asm); (case X => k_asm); (case N => k_asm); (case T => k_asm); (case hk => first | exact rfl | k_asm); (case hdp => first | ((try simp only [depth_under_make, depth_under_kw, depth_in1, depth_deeper]); (try dsimp only [ktrTop]); omega) | ktr_room); (case hun => first | ((try simp only [units_in1, units_deeper, units_under_make, Around.mark_units]); (try dsimp only [ktrTop]); omega) | ktr_units); k_whole)
  intro g2 h2 tk2 e dx t r2 _ FG R hS2 kp hb
  obtain ⟨hsh, key, b, nb, v0, v1, q, nq, gg, v2, b1, b2, b3, b4⟩ := hb
  k_dflt (refine' caughtD R FG ?B ?X ?T ?D KtsTurn.refl ?ex ?q ?_; (case B => assumption); (case X => assumption); (case T => assumption); (case D => assumption); (case ex => k_is); (case q => kts_isx); k_whole)
  intro h3 g3 r3 vs3 tk3 T3 F3 N3 hsub hex B3 X3 TT3 D3
  have c1 := hsub _ b1
  have c2 := hsub _ b2
  have c3 := hsub _ b3
  have hS3 := hS2.keep (ds := []) (Keep.ofSub hsub) (fun _ _ => List.not_mem_nil)
  have kp3 := kp.trans ((Keep.ofSub hsub).wide (fun _ h => nomatch h))
  have b5 := b4.sub hsub
  clear b1 b2 b3 b4 hS2 kp hsub R FG N' F' FG' hG hS
  k_steps
  exact ret _ _ _ _ b5 (by k_asm) (by k_asm) hS3 kp3

theorem refl_ok {w : World} {p : Program} {loose : List Str} {mean : ExcName → Option Value} {mg mb : Str → Option Value}
  {dp un : Nat} {gd : Option (List Code)} {cn : Str} {cs : Scope} {a : Addr} {ccd : Value} {A₀ : Around} {h₀ : Heap} {L : Addr} {m : Str → Option Value} {news : List (Addr × Obj)} {s : Shared} {Q E : Value → Shared → Prop}
  {ma md : Addr} {SA : AreaA} {mdn : Nat} {sd : Addr} {SS : StoreA} {sdn : Nat} {nd : Addr} {SY : SymA} {ndn : Nat} {hvs : List Value} {nh : Nat} {H : List (Int × Int)} {tvs : List Value} {nt : Nat} {fvs : List Value} {nf : Nat} {c : Addr} {tag v : Int} {t1 t2 : Tok} {n n0 : Nat} {ts : List Str} {fs : List (Int × Int)}
  (B : Below A₀ h₀ [] h₀) (F : Fr h₀ L s.heap m) (X : (hd.heap_39 w.params).In h₀) (N : News h₀ L s.heap news) (T : Top p loose mean mg mb h₀) (hk : cs.kind = .function)
  (hdp : dp + 60 < recursionLimit) (hun : un + 600 < cLine)
  (hG : EvG ma md SA mdn sd SS sdn nd SY ndn hvs nh H tvs nt fvs nf news) (hS : SymSt PySem.Challenge.rw_rh0112_01.row.prog w news SA.sy nd SY ndn ts fs) (hts : ts.length < 800) (hfs : fs.length < 900) (hc : (c, tup [.int tag t1, .int v t2] n) ∈ news) (hrun : Run H n0 [(tag, v)] [] [] .lis) (hn0 : n0 ≤ 20000)
  (ret : ∀ q h' tk r', RT r' (.ref q) (lisD ts fs) → Fr h₀ L h' m → News h₀ L h' r' → SymSt PySem.Challenge.rw_rh0112_01.row.prog w r' SA.sy nd SY ndn (lisT ts) (lisF ts fs) → Keep (symAt SY) news r' → Q (.ref q) { s with heap := h', toks := tk }) :
  wpAny (model PySem.Challenge.rw_rh0112_01.row.prog w) (ktrTop dp un gd cn cs L a ccd [] []) (call (.ref 722) [.ref ma, .ref c]) Q E s := by
  revert X; k_fill; intro X
  refine wpAny_call ?_
  k_dflt (refine' code_defS0 ?k1 ?k2 ?k3 ?k4 ?k5 ?kA ?k6 ?k7 ?k8 ?k9 ?kB ?_ ?cK ?c2 ?c3 ?c4 ?c5; (case kA => exact rfl); (case k2 => k_asm); (case k1 => k_asm); (case k3 => k_asm); (case k4 => k_asm); (case k5 => k_asm); (case k6 => k_is); (case k7 => k_is); (case k8 => ktr_room); (case k9 => first | exact binds_K (by k_in) rfl (by k_is) rfl rfl rfl | exact BindsTo.of_eq rfl); (case kB => exact locs rfl); (case cK => assumption); (case c2 => exact rfl); (case c3 => exact rfl); (case c4 => exact rfl); (case c5 => decide); k_whole; intro g' L' h' FG' F' N' B' X' T' D'; (try dsimp only); (try k_fold))
  k_steps
  unfold Held
  k_dflt (refine' ev_ok (fin := .lis) ?B ?F ?X ?N ?T ?hk ?hdp ?hun hG hS hts hfs hc hrun hn0 (fun _ _ _ _ _ _ _ h => nomatch h) ?exm (fun _ _ _ _ h => nomatch h); (case B => k_asm); (case F => k_asm); (case X => k_asm); (case N => k_asm); (case T => k_asm); (case hk => first | exact rfl | k_asm); (case hdp => first | ((try simp only [depth_under_make, depth_under_kw, depth_in1, depth_deeper]); (try dsimp only [ktrTop]); omega) | ktr_room); (case hun => first | ((try simp only [units_in1, units_deeper, units_under_make, Around.mark_units]); (try dsimp only [ktrTop]); omega) | ktr_units); k_whole)
  intro g2 h2 tk2 e dx t r2 _ FG R hS2 kp hb
  obtain ⟨hsh, key, b, nb, v0, v1, q, nq, gg, v2, b1, b2, b3, b4⟩ := hb
  k_dflt (refine' caughtD R FG ?B ?X ?T ?D KtsTurn.refl ?ex ?q ?_; (case B => assumption); (case X => assumption); (case T => assumption); (case D => assumption); (case ex => k_is); (case q => kts_isx); k_whole)
  intro h3 g3 r3 vs3 tk3 T3 F3 N3 hsub hex B3 X3 TT3 D3
  have c1 := hsub _ b1
  have c2 := hsub _ b2
  have c3 := hsub _ b3
  have hS3 := hS2.keep (ds := []) (Keep.ofSub hsub) (fun _ _ => List.not_mem_nil)
  have kp3 := kp.trans ((Keep.ofSub hsub).wide (fun _ h => nomatch h))
  have b5 := b4.sub hsub
  clear b1 b2 b3 b4 hS2 kp hsub R FG N' F' FG' hG hS
  k_steps
  exact ret _ _ _ _ b5 (by k_asm) (by k_asm) hS3 kp3

end Mine
namespace Mine
local macro_rules | `(tactic| walk_at "exec While") => `(tactic| (k_here; k_dflt (refine whl_start 1 ?_)))
local macro_rules | `(tactic| walk_at "ite") => `(tactic| (k_here; first | (refine ite_pos (by first | with_reducible assumption | (simp only [beq_iff_eq, bne_iff_ne, decide_eq_true_eq, ne_eq]; omega)) ?_; walk_say "MY PRUNE") | (refine ite_neg (by first | with_reducible assumption | (simp only [beq_iff_eq, bne_iff_ne, decide_eq_true_eq, ne_eq]; omega)) ?_; walk_say "MY PRUNE")))
local macro_rules | `(tactic| walk_at "subscriptTail") => `(tactic| (k_here; (with_reducible show wpAny _ _ (subscriptTail _ _ (Value.ref _) (Value.int _ _)) _ _ _); (with_unfolding_all refine' item_abs ?k1 ?k2 ?k3 ?k4 ?k5 ?_ ?k6; (case k1 => k_asm); (case k2 => k_mem); (case k3 => assumption); (case k4 => first | assumption | omega); (case k5 => assumption); (case k6 => with_unfolding_all rfl); k_whole); walk_say "MY ITEM"))
local macro_rules | `(tactic| walk_at "compareOp In str ref") => `(tactic| (k_here; k_dflt (refine' in_tupK ?F ?X ?l ?w ?b ?_; (case F => k_asm); (case X => k_asm); (case l => k_is); (case w => kde_strs); (case b => exact rfl); k_whole); walk_say "MY IN"))
local macro_rules | `(tactic| walk_at "call builtin:list.append") => `(tactic| (k_here; (with_reducible show wpAny _ _ (call (Value.builtin _) [Value.ref _, _]) _ _ _); k_dflt (refine' append_L ?k1 ?k2 ?k3 ?z ?_; (case k1 => k_asm); (case k2 => k_asm); (case k3 => k_upd); (case z => first | assumption | omega | (simp only [List.length_append, List.length_cons, List.length_nil]; omega)); k_whole); intro h' F' N'; (try k_sweep); walk_say "MY APPEND"))
local macro_rules | `(tactic| walk_at "call builtin:list.pop") => `(tactic| (k_here; (with_reducible show wpAny _ _ (call (Value.builtin _) [Value.ref _]) _ _ _); k_dflt (refine' pop_L ?k1 ?k2 ?k3 ?z ?_; (case k1 => k_asm); (case k2 => k_asm); (case k3 => k_upd); (case z => first | assumption | omega | (simp only [List.length_append, List.length_cons, List.length_nil]; omega)); k_whole); intro h' F' N'; (try k_sweep); walk_say "MY POP"))
local macro_rules | `(tactic| k_all) => `(tactic| assumption)
local macro_rules | `(tactic| k_mem) => `(tactic| first | with_reducible exact List.Mem.head _ | assumption | (refine' List.Mem.tail _ ?_; k_mem))
local macro_rules | `(tactic| walk_at "truthy ref") => `(tactic| (k_here; (with_reducible show wpAny _ _ (truthy (Value.ref _)) _ _ _); k_dflt (refine' truthy_L ?k1 ?k2 ?k3 ?k4 ?_; (case k1 => k_asm); (case k2 => k_mem); (case k3 => first | assumption | (simp only [List.length_append, List.length_cons, List.length_nil]; omega)); (case k4 => first | exact some_true _ _ | exact none_false); k_whole); walk_say "MY TRUTH"))
local macro_rules | `(tactic| walk_at "call builtin:len") => `(tactic| (k_here; (with_reducible show wpAny _ _ (call (Value.builtin "len") [Value.ref _]) _ _ _); k_dflt (refine' len_L ?k1 ?k2 ?k3 ?_; (case k1 => k_asm); (case k2 => k_mem); (case k3 => first | assumption | (simp only [List.length_append, List.length_cons, List.length_nil]; omega)); k_whole); walk_say "MY LEN"))
local macro_rules | `(tactic| k_mem) => `(tactic| first | with_reducible exact List.mem_cons_self | with_reducible assumption | exact List.Mem.head _ | with_reducible exact SymSt.i (by with_reducible assumption) | with_reducible exact SymSt.d (by with_reducible assumption) | ((with_reducible refine' Keep.any ?kmk _ _ ?kma ?kmb); (case kmk => (with_reducible assumption)); (case kma => k_mem); (case kmb => first | exact .inl (.inl rfl) | exact .inl (.inr ⟨_, rfl⟩) | (refine Or.inr ?_; walk_at "my notin"))) | ((with_reducible refine' List.mem_cons_of_mem _ ?_); k_mem) | assumption | fail "my mem")
local macro_rules | `(tactic| walk_at "my ne0") => `(tactic| first | with_reducible assumption | with_reducible exact Ne.symm (by with_reducible assumption) | k_ne | (exact Ne.symm (by k_ne)) | exact lt_at (by with_reducible assumption) (by with_reducible assumption) | exact Ne.symm (lt_at (by with_reducible assumption) (by with_reducible assumption)) | exact off_at (by with_reducible assumption) (by with_reducible assumption) | exact Ne.symm (off_at (by with_reducible assumption) (by with_reducible assumption)) | fail "my ne0")
local macro_rules | `(tactic| walk_at "my notin") => `(tactic| first | with_reducible assumption | with_reducible exact OffS.sym (by with_reducible assumption) | with_reducible exact OffS.nd (by with_reducible assumption) | (simp only [List.mem_cons, List.not_mem_nil, or_false, not_or]; (repeat' (refine And.intro ?_ ?_)) <;> walk_at "my ne0"))
local macro_rules | `(tactic| walk_at "my sym") => `(tactic| first | with_reducible assumption | (refine' SymSt.keep ?ks1 (.cons [] _ _) (by simp); (case ks1 => walk_at "my sym")) | (refine' SymSt.keep (ds := []) ?ks1 ?ks2 (fun _ _ => List.not_mem_nil); (case ks2 => with_reducible assumption); (case ks1 => walk_at "my sym")) | (refine' SymSt.keepO ?ks1 ?ks2 ?ks3; (case ks2 => with_reducible assumption); (case ks3 => with_reducible assumption); (case ks1 => walk_at "my sym")) | fail "my sym")
local macro_rules | `(tactic| walk_at "my tab") => `(tactic| first | assumption | (refine' PyProof.Rows.TupTab.cons ?kt _; (case kt => walk_at "my tab")) | (refine' tupTab_keep ?kt1 ?kt0 ?kt2; (case kt0 => assumption); (case kt1 => walk_at "my tab"); (case kt2 => walk_at "my notin")) | fail "my tab")
local macro_rules | `(tactic| walk_at "call builtin:list.append") => `(tactic| (k_here; (with_reducible show wpAny _ _ (call (Value.builtin _) [Value.ref _, _]) _ _ _); k_dflt (refine' append_M ?k1 ?k2 ?k3 ?z ?_; (case k1 => k_asm); (case k2 => k_asm); (case k3 => k_mem); (case z => first | assumption | omega | (simp only [List.length_append, List.length_cons, List.length_nil]; omega)); k_whole); intro h' r' F' N' hin kp; (try k_sweep); walk_say "M APPEND"))
local macro_rules | `(tactic| walk_at "getMethod ref") => `(tactic| (k_here; (with_reducible show wpAny _ _ (getMethod (Value.ref _) "get" _) _ _ _); k_dflt (first | (refine' smeth_M ?k1 ?k2 ?k3 ?k4 ?k5 ?_; (case k1 => k_asm); (case k2 => k_mem); (case k4 => assumption); (case k5 => assumption); (case k3 => assumption); k_whole) | (refine' tmeth_M ?k1 ?k2 ?_; (case k1 => k_asm); (case k2 => walk_at "my tab"); k_whole)); walk_say "M METH"))
local macro_rules | `(tactic| walk_at "call builtin:dict.get") => `(tactic| (k_here; k_dflt (first | (refine' sget_M ?k1 ?k2 ?k3 ?k4 ?k5 ?k6 ?_; (case k1 => k_asm); (case k2 => k_mem); (case k4 => assumption); (case k5 => assumption); (case k3 => assumption); (case k6 => assumption); k_whole) | (refine' tget_M ?k1 ?k2 ?k3 ?k4 ?k5 ?_; (case k2 => k_asm); (case k3 => walk_at "my tab"); (case k4 => k_mem); (case k5 => assumption); (case k1 => walk_at "my units"); k_whole)); intro t'; walk_say "M GET"))
local macro_rules | `(tactic| walk_at "my units") => `(tactic| ((try simp only [units_in1, units_deeper, units_under_make, Around.mark_units]); (try dsimp only [ktrTop]); (try simp only [units_in1, units_deeper, units_under_make, Around.mark_units]); omega))
local macro_rules | `(tactic| walk_at "setItem ref str") => `(tactic| (k_here; k_dflt (refine' sset_M ?F ?N ?m ?d ?f ?z ?_; (case F => k_asm); (case N => k_asm); (case m => k_mem); (case d => assumption); (case f => assumption); (case z => first | assumption | omega); k_whole); intro h' r' o' kvs' F' N' hin hd' hf' kp; (try k_sweep); walk_say "M SET"))
local macro_rules | `(tactic| walk_at "setItem ref ref") => `(tactic| (k_here; k_dflt (refine' tset_M ?u ?F ?N ?T ?m ?z ?_; (case F => k_asm); (case N => k_asm); (case T => walk_at "my tab"); (case m => k_mem); (case z => first | assumption | omega); (case u => walk_at "my units"); k_whole); intro h' r' F' N' hT' kp; (try k_sweep); walk_say "M TSET"))
local macro_rules | `(tactic| walk_at "exec For") => `(tactic| (k_here; (with_reducible show wpAny _ _ (exec (Stmt.For (Expr.Name _ _) _ _ [] _) _) _ _ _); (rename Fr _ _ _ _ => lF'); (with_unfolding_all refine' For_invVF lF' ?k1 ?k2 ?_; (case k1 => exact rfl); (case k2 => exact rfl); k_whole); walk_say "MY FOR"))
local macro_rules | `(tactic| walk_at "exec For Name Name cons nil") => `(tactic| (k_here; (rename Fr _ _ _ _ => lF'); (with_unfolding_all refine' For_invVF lF' ?k1 ?k2 ?_; (case k1 => exact rfl); (case k2 => exact rfl); k_whole); walk_say "MY FOR"))
local macro_rules | `(tactic| walk_at "exec For Name Call cons nil") => `(tactic| (k_here; (rename Fr _ _ _ _ => lF'); (with_unfolding_all refine' For_invVF lF' ?k1 ?k2 ?_; (case k1 => exact rfl); (case k2 => exact rfl); k_whole); walk_say "MY FOR"))
local macro_rules | `(tactic| walk_at "pyIter ref") => `(tactic| (k_here; (with_reducible show wpAny _ _ (pyIter (Value.ref _)) (fun it s₂ => LoopAtV _ _ _ _ _ _ _ _ _ it s₂) _ _); k_dflt (first | (refine' iter_tupU ?h ?F ?N ?m ?_; (case h => with_unfolding_all rfl); (case F => k_asm); (case N => k_asm); (case m => k_mem); k_whole) | (refine' iter_lstU ?h ?F ?N ?m ?_; (case h => with_unfolding_all rfl); (case F => k_asm); (case N => k_asm); (case m => k_mem); k_whole)); intro i' l1; (try (have hoff := SymSt.offNew l1 (by walk_at "my sym"))); (try k_lt l1); walk_say "MY ITER"))
local macro_rules | `(tactic| walk_at "SeqRest") => `(tactic| (with_unfolding_all first | (refine SeqRest.succ (fun it' h' tk' o' f' F' N' => ?_)) | (refine SeqRest.zero (fun h' tk' F' N' => ?_))))
local macro_rules | `(tactic| walk_at "UnrEnd") => `(tactic| (refine' UnrEnd.introM2 ?F ?N ?hI ?hf ?_; (case F => k_asm); (case N => k_asm); (case hI => k_mem); (case hf => assumption); intro q' kq' oq'; refine ⟨by k_mem, ?_⟩; walk_say "MY UNREND"))
local macro_rules | `(tactic| walk_at "find lt") => `(tactic| first | assumption | exact And.right (by assumption) | exact And.right (And.right (by assumption)) | exact And.right (And.right (And.right (by assumption))) | fail "find lt")
local macro_rules | `(tactic| walk_at "newList") => `(tactic| (k_here; k_dflt (refine' newList_K ?k1 ?k2 ?_; (case k1 => k_asm); (case k2 => k_asm); k_whole); intro l' h' F' N' l1; (try (have hoff := SymSt.offNew l1 (by walk_at "my sym"))); (try k_lt l1); (try k_sweep); walk_say "MY NEWLIST"))
local macro_rules | `(tactic| walk_at "my rt") => `(tactic| first | assumption | with_reducible exact RT.int _ _ | with_reducible exact RT.str _ _ | (refine' RT.tup ?rta ?rtb; (case rta => k_mem); (case rtb => walk_at "my rts")) | (refine' RT.sub ?rta (fun _ h => List.mem_cons_of_mem _ h); (case rta => walk_at "my rt")) | (refine' RT.keep ?rta ?rtb; (case rtb => with_reducible assumption); (case rta => walk_at "my rt")) | fail "my rt")
local macro_rules | `(tactic| walk_at "my rts") => `(tactic| first | exact RTs.nil | (refine' RTs.cons ?rsa ?rsb; (case rsa => walk_at "my rt"); (case rsb => walk_at "my rts")) | fail "my rts")
local macro_rules | `(tactic| walk_at "my keep") => `(tactic| first | with_reducible assumption | exact Keep.refl _ _ | (with_reducible refine' Keep.stepCons ?kpa; (case kpa => walk_at "my keep")) | ((with_reducible refine' Keep.trans ?kpa ?kpb); (case kpb => (with_reducible assumption)); (case kpa => walk_at "my keep")) | ((refine' Keep.trans ?kpa (Keep.wide (ds := []) ?kpb (fun _ h => nomatch h))); (case kpb => (with_reducible assumption)); (case kpa => walk_at "my keep")) | ((with_reducible refine' Keep.stepNew ?kpa ?kpb ?kpc); (case kpb => (with_reducible assumption)); (case kpc => walk_at "my off"); (case kpa => walk_at "my keep")) | fail "my keep")
local macro_rules | `(tactic| walk_at "my off") => `(tactic| first | assumption | exact off_lt (by assumption) | (refine' off_sub ?ofa ?ofb; (case ofa => assumption); (case ofb => (intro p hp; repeat (first | exact hp | refine List.mem_cons_of_mem _ ?_)))) | (refine' off_allLt ?ofa; (case ofa => walk_at "find lt")) | fail "my off")
local macro_rules | `(tactic| walk_at "call type:tuple") => `(tactic| (k_here; (with_reducible show wpAny _ _ (call (Value.type _) [Value.ref _]) _ _ _); k_dflt (refine' tuple_M ?k1 ?k2 ?_; (case k1 => k_asm); (case k2 => k_mem); k_whole); walk_say "MY TUPLE"))
local macro_rules | `(tactic| walk_at "callWith ref") => `(tactic| (k_here; k_dflt (refine' callWith_K0 ?k1 ?k2 ?_; (case k1 => k_in); (case k2 => k_is); k_whole); (try dsimp only [List.nil_append, List.cons_append, List.append_nil]); walk_say "MY CW0"))
local macro_rules | `(tactic| walk_at "pyIter ref") => `(tactic| ((with_reducible show wpAny _ _ (pyIter (Value.ref _)) (fun it s₂ => LoopAtV _ _ _ _ _ _ _ _ _ it s₂) _ _); (rename Fr _ _ _ _ => lF'); (rename News _ _ _ _ => lN'); (rename IsRange _ _ _ _ _ _ _ _ => rgX); (with_unfolding_all refine iter_rangeUnr (by rfl) rgX (range_small1 (by omega)) (range_size1 _) lF' lN' ?_); intro i' l1; refine held ?_; walk_say "MY RANGE"))
local macro_rules | `(tactic| walk_at "setItem ref int") => `(tactic| (k_here; k_dflt (refine' lset_M ?F ?N ?m ?z0 ?z1 ?z ?_; (case F => k_asm); (case N => k_asm); (case m => k_mem); (case z0 => first | assumption | omega); (case z1 => walk_at "my len"); (case z => walk_at "my len"); k_whole); intro h' r' F' N' hin kp; (try k_sweep); walk_say "M LSET"))
local macro_rules | `(tactic| walk_at "my len") => `(tactic| first | assumption | omega | (simp only [List.length_append, List.length_cons, List.length_nil, List.length_set]; omega))
local macro_rules | `(tactic| walk_at "ite") => `(tactic| (k_here; first | (refine ite_pos (by (simp only [beq_iff_eq, bne_iff_ne, decide_eq_true_eq, ne_eq, List.length_append, List.length_cons, List.length_nil]; omega)) ?_; walk_say "MY PRUNE2") | (refine ite_neg (by (simp only [beq_iff_eq, bne_iff_ne, decide_eq_true_eq, ne_eq, List.length_append, List.length_cons, List.length_nil]; omega)) ?_; walk_say "MY PRUNE2")))
local macro_rules | `(tactic| walk_at "find lt") => `(tactic| first | with_reducible assumption | exact And.right (by with_reducible assumption) | exact And.right (And.right (by with_reducible assumption)) | exact And.right (And.right (And.right (by with_reducible assumption))) | exact And.right (And.right (And.right (And.right (by with_reducible assumption)))) | exact And.right (And.right (And.right (And.right (And.right (by with_reducible assumption))))) | exact And.right (And.right (And.right (And.right (And.right (And.right (by with_reducible assumption)))))))
local macro_rules | `(tactic| walk_at "my ne0") => `(tactic| first | with_reducible assumption | with_reducible exact Ne.symm (by with_reducible assumption) | exact lt_at (by with_reducible assumption) (by with_reducible assumption) | exact Ne.symm (lt_at (by with_reducible assumption) (by with_reducible assumption)) | exact off_at (by with_reducible assumption) (by with_reducible assumption) | exact Ne.symm (off_at (by with_reducible assumption) (by with_reducible assumption)) | exact allLt_at (by walk_at "find lt") (by with_reducible assumption) | exact Ne.symm (allLt_at (by walk_at "find lt") (by with_reducible assumption)) | k_ne | (exact Ne.symm (by k_ne)) | fail "my ne0")
local macro_rules | `(tactic| walk_at "pyIter ref") => `(tactic| (k_here; (with_reducible show wpAny _ _ (pyIter (Value.ref _)) (fun it s₂ => LoopAtV _ _ _ _ _ _ _ _ _ it s₂) _ _); k_dflt (refine' iter_lstU2 ?h ?F ?N ?m ?_; (case h => with_unfolding_all rfl); (case F => k_asm); (case N => k_asm); (case m => k_mem); k_whole); intro i' l1 lm; (try k_lt l1); walk_say "MY ITER2"))
local macro_rules | `(tactic| walk_at "getItem ref int") => `(tactic| (k_here; (with_unfolding_all refine' getitem_abs ?k1 ?k2 ?k3 ?k4 ?k5 ?_; (case k1 => k_asm); (case k2 => k_mem); (case k3 => first | assumption | exact rfl); (case k4 => first | assumption | decide | omega); (case k5 => first | assumption | (simp only [List.length_append, List.length_cons, List.length_nil]; omega)); k_whole); walk_say "MY GETITEM"))
local macro_rules | `(tactic| walk_at "subscriptTail") => `(tactic| (k_here; (with_reducible show wpAny _ _ (subscriptTail _ _ (Value.ref _) (Value.int _ _)) _ _ _); (with_unfolding_all refine' item_abs ?k1 ?k2 ?k3 ?k4 ?k5 ?_ ?k6; (case k4 => decide); (case k1 => k_asm); (case k2 => k_mem); (case k3 => exact rfl); (case k5 => first | assumption | (simp only [List.length_append, List.length_cons, List.length_nil, List.length_set]; omega)); (case k6 => with_unfolding_all rfl); k_whole); walk_say "LIT ITEM"))
local macro_rules | `(tactic| walk_at "eval Name") => `(tactic| (k_here; k_dflt (refine' ld ?k1 ?k2 ?_; (case k1 => k_asm); (case k2 => exact rfl); k_whole)))
local macro_rules | `(tactic| walk_at "subscriptTail") => `(tactic| (k_here; (with_reducible show wpAny _ _ (subscriptTail _ _ (Value.ref _) (Value.int _ _)) _ _ _); k_dflt (refine' item_tupleT ?t ?a ?b ?c ?d ?_; (case a => decide); (case b => decide); (case t => (refine' News.isTup ?tn ?tm; (case tn => k_asm); (case tm => k_mem))); (case c => rfl); (case d => rfl); k_whole)))
local macro_rules | `(tactic| walk_at "getMethod ref") => `(tactic| (k_here; k_dflt (refine' method_inst ?k1 ?k2 ?k3 ?k4 ?k5 ?k6 ?k7 ?_; (case k1 => k_asm); (case k2 => k_asm); (case k3 => k_inst); (case k4 => k_is); (case k5 => k_is); (case k6 => k_is); (case k7 => k_get); k_whole)))
local macro_rules | `(tactic| walk_at "getAttr ref") => `(tactic| (k_here; k_dflt (refine' get_own ?k1 ?k2 ?k3 ?k4 ?k5 ?k6 ?k7 ?k8 ?k9 ?_; (case k1 => k_asm); (case k2 => k_asm); (case k3 => k_inst); (case k4 => k_is); (case k5 => k_is); (case k6 => k_is); (case k7 => k_is); (case k8 => k_get); (case k9 => k_handed); k_whole)))
local macro_rules | `(tactic| walk_at "exec If") => `(tactic| (k_here; refine wpAny_If ?_))
local macro_rules | `(tactic| walk_at "getMethod ref") => `(tactic| (k_here; (with_reducible show wpAny _ _ (getMethod (Value.ref _) (PySem.Str.ofString "append") _) _ _ _); k_dflt (refine' listMethod_K ?N ?m PySem.F.slot_list_append PySem.F.type_list_append ?_; (case N => k_asm); (case m => k_mem))))
local macro_rules | `(tactic| walk_at "getMethod ref") => `(tactic| (k_here; (with_reducible show wpAny _ _ (getMethod (Value.ref _) (PySem.Str.ofString "pop") _) _ _ _); k_dflt (refine' kl_method ?N ?m PySem.F.slot_list_pop PySem.F.type_list_pop ?_; (case N => k_asm); (case m => k_mem))))
local macro_rules | `(tactic| walk_at "subscriptTail Name Constant ref int") => `(tactic| (k_here; (with_reducible show wpAny _ _ (subscriptTail _ _ (Value.ref _) (Value.int _ _)) _ _ _); k_dflt (refine' item_tupleT ?t ?a ?b ?c ?d ?_; (case a => decide); (case b => decide); (case t => (refine' News.isTup ?tn ?tm; (case tn => k_asm); (case tm => k_mem))); (case c => rfl); (case d => rfl); k_whole)))
local macro_rules | `(tactic| walk_at "subscriptTail Subscript Constant ref int") => `(tactic| (k_here; (with_reducible show wpAny _ _ (subscriptTail _ _ (Value.ref _) (Value.int _ _)) _ _ _); k_dflt (refine' item_tupleT ?t ?a ?b ?c ?d ?_; (case a => decide); (case b => decide); (case t => (refine' News.isTup ?tn ?tm; (case tn => k_asm); (case tm => k_mem))); (case c => rfl); (case d => rfl); k_whole)))
local macro_rules | `(tactic| walk_at "my kl") => `(tactic| first | exact Keep.refl _ _ | (refine' klFeed ?kla ?klb; (case klb => with_reducible assumption); (case kla => walk_at "my kl")) | (refine' klSto ?kla ?klb; (case klb => with_reducible assumption); (case kla => walk_at "my kl")) | (refine' klSym ?kla ?klb; (case klb => with_reducible assumption); (case kla => walk_at "my kl")) | (refine' Keep.stepCons ?kla; (case kla => walk_at "my kl")) | fail "my kl")
local macro_rules | `(tactic| walk_at "my lapend") => `(tactic| (unfold Held; (rename LawSt _ _ _ _ _ _ _ _ _ _ _ _ _ _ _ _ _ _ _ => stE); (rename News _ _ _ _ => nE); (rename Fr _ _ _ _ => fE); (refine' lap_end fE nE stE ?hI (itR_not_fixed _ _) ?hIo ?hc ?lap ?hH ?k0 ?k1 ?m1 ?m2 ?rest); (case m1 => rfl); (case m2 => rfl); (case hc => with_reducible assumption); (case hIo => with_reducible assumption); (case hI => (refine' I_stays ?ka ?km ?kb; (case km => with_reducible assumption); (case kb => with_reducible assumption); (case ka => walk_at "my kl"))); (case lap => (first | with_reducible refine Lap.add9 (by with_reducible assumption) ?_ | with_reducible refine Lap.neg9 (by with_reducible assumption) ?_ | with_reducible refine Lap.sub9 (by with_reducible assumption) ?_ ?_ ?_) <;> first | with_reducible assumption | omega); (case hH => (simp only [List.length_append, List.length_cons, List.length_nil]; omega)); (case k0 => omega); (case k1 => omega); (case rest => (intro z hz1 hz; simp only [List.contains_cons, List.contains_nil, Bool.or_false, Bool.or_eq_false_iff, beq_eq_false_iff_ne, ne_eq] at hz; simp only [if_neg hz1, if_neg hz.1, if_neg hz.2.1, if_neg hz.2.2.1, if_neg hz.2.2.2]; exact if_neg (fun q => (by simp only [List.contains_cons, List.contains_nil, Bool.or_false, Bool.or_eq_true, beq_iff_eq] at q; exact q.elim hz.1 hz.2.1))))))
local macro_rules | `(tactic| walk_at "my len2") => `(tactic| first | omega | (simp only [List.length_append, List.length_cons, List.length_nil, List.length_set]; omega))
local macro_rules | `(tactic| walk_at "setItem ref int") => `(tactic| (k_here; (with_reducible show wpAny _ _ (setItem (Value.ref _) (Value.int _ _) (Value.ref _)) _ _ _); (rename LawSt _ _ _ _ _ _ _ _ _ _ _ _ _ _ _ _ _ _ _ => st0); (rename News _ _ _ _ => nL); (have st1 := LawSt.at st0 nL (by walk_at "my keep")); clear st0; (obtain ⟨hvs9, nh9, m79, c9⟩ := st1.m7); (have hl9 := c9.1); (simp only [List.length_append, List.length_cons, List.length_nil] at hl9); k_dflt (refine' lset_M ?F ?N m79 ?z0 ?z1 ?z ?_; (case F => k_asm); (case N => k_asm); (case z0 => omega); (case z1 => (first | omega | (simp only [List.length_append, List.length_cons, List.length_nil]; omega))); (case z => omega); k_whole); intro h' r' F' N' hin kp; have st2 := st1.set1 kp hin c9 (CellAt.of (by k_mem)); clear st1 m79 c9 hl9 hin; walk_say "LAW SET"))
local macro_rules | `(tactic| walk_at "my rtl") => `(tactic| first | with_reducible assumption | (refine' RT.keepL ?st ?x ?y; (case st => with_reducible assumption); (case x => with_reducible assumption); (case y => walk_at "my kl")) | fail "my rtl")
local macro_rules | `(tactic| walk_at "compareOp NotEq ref ref") => `(tactic| (k_here; (with_reducible show wpAny _ _ (compareOp _ (Value.ref _) (Value.ref _)) _ _ _); (rename News _ _ _ _ => nL); k_dflt (refine' ne_same (d := dmem) nL ?ra (rt_mem nL) sh_mem eqv_mem ?hu ?_; (case ra => walk_at "my rtl"); (case hu => ke_room); k_whole); walk_say "LAW CMP"))
local macro_rules | `(tactic| walk_at "compareOp Eq ref ref") => `(tactic| (k_here; (with_reducible show wpAny _ _ (compareOp _ (Value.ref _) (Value.ref _)) _ _ _); (rename News _ _ _ _ => nL); k_dflt (refine' eq_same (d := dlis) nL ?ra ?rb sh_lis eqv_lis ?hu ?_; (case ra => walk_at "my rtl"); (case rb => walk_at "my rtl"); (case hu => ke_room); k_whole); walk_say "LAW CMP"))
local macro_rules | `(tactic| walk_at "call ref") => `(tactic| (refine held ?_; walk_say "HELD"))
local macro_rules | `(tactic| walk_at "pyIter ref") => `(tactic| (refine held ?_; walk_say "HELD"))
local macro_rules | `(tactic| walk_at "subscriptTail") => `(tactic| (k_here; (with_reducible show wpAny _ _ (subscriptTail _ _ (Value.ref _) (Value.int _ _)) _ _ _); (with_unfolding_all refine' item_ints ?k1 ?k2 ?k3 ?k4 ?k5 ?k6 ?_ ?k7; (case k1 => k_asm); (case k2 => k_mem); (case k3 => exact all4); (case k4 => omega); (case k5 => (simp only [List.length_cons, List.length_nil]; omega)); (case k6 => simp); (case k7 => with_unfolding_all rfl); k_whole); intro n9 t9; walk_say "INTS ITEM"))
local macro_rules | `(tactic| walk_at "UnrEnd") => `(tactic| (refine held ?_; walk_say "HELD"))
local macro_rules | `(tactic| walk_at "call ref") => `(tactic| (k_here; (with_reducible show wpAny _ _ (call (Value.ref 154) _) _ _ _); k_dflt (refine' symbols_ok ?B ?F ?X ?N ?T ?hk ?hdp ?hun  ?_; (case B => k_asm); (case F => k_asm); (case X => k_asm); (case N => k_asm); (case T => k_asm); (case hk => first | exact rfl | k_asm); (case hdp => first | ((try simp only [depth_under_make, depth_under_kw, depth_in1, depth_deeper]); (try dsimp only [ktrTop]); omega) | ktr_room); (case hun => first | ((try simp only [units_in1, units_deeper, units_under_make, Around.mark_units]); (try dsimp only [ktrTop]); omega) | ktr_units);  k_whole); intro h' tk nm nd S ndn r' F' N' hS hsub hoff; (try k_sweep); walk_say "USE symbols_ok"))
local macro_rules | `(tactic| walk_at "eval IfExp") => `(tactic| (k_here; (with_reducible refine IfExp_ ?_); walk_say "MY IFEXP"))
local macro_rules | `(tactic| walk_at "ite") => `(tactic| (k_here; first | (refine ite_pos (by first | decide | (simp only [beq_iff_eq, bne_iff_ne, decide_eq_true_eq, ne_eq]; omega)) ?_; walk_say "MY PRUNE3") | (refine ite_neg (by first | decide | (simp only [beq_iff_eq, bne_iff_ne, decide_eq_true_eq, ne_eq]; omega)) ?_; walk_say "MY PRUNE3") | (refine ite_both (fun hc => ?_) (fun hc => ?_) <;> (simp only [beq_iff_eq, bne_iff_ne, decide_eq_true_eq, ne_eq, Int.not_lt] at hc); walk_say "MY SPLIT")))
local macro_rules | `(tactic| k_mem) => `(tactic| first | with_reducible exact LawSt.m3 (by with_reducible assumption) | with_reducible exact LawSt.m4 (by with_reducible assumption) | with_reducible exact LawSt.m5 (by with_reducible assumption) | with_reducible exact LawSt.m6 (by with_reducible assumption) | with_reducible exact SymSt.i (LawSt.sy (by with_reducible assumption)) | with_reducible exact SymSt.d (LawSt.sy (by with_reducible assumption)))
local macro_rules | `(tactic| walk_at "eval Subscript List Call") => `(tactic| (k_here; refine Subscript_ ?_; walk_say "MY SUBSCRIPT"))
local macro_rules | `(tactic| walk_at "subscriptTail List Call ref int") => `(tactic| (refine held ?_; walk_say "HELD ITEM2"))
local macro_rules | `(tactic| walk_at "newList") => `(tactic| ((with_reducible show wpAny _ _ (newList [_, _, _, _]) _ _ _); (refine held ?_; walk_say "HELD NEWLIST")))
local macro_rules | `(tactic| walk_at "call ref") => `(tactic| (k_here; (with_reducible show wpAny _ _ (call (Value.ref 715) _) _ _ _); (rename LawSt _ _ _ _ _ _ _ _ _ _ _ _ _ _ _ _ _ _ _ => st0); (rename News _ _ _ _ => nL); (have st1 := LawSt.at st0 nL (by walk_at "my keep")); clear st0; (obtain ⟨t9, n9, m91⟩ := st1.m1); (obtain ⟨n92, m92⟩ := st1.m2); k_dflt (refine' feed_ok ?B ?F ?X ?N ?T ?hk ?hdp ?hun m91 m92 st1.wi (by have := st1.wl; omega) ?k0 ?k1 (by decide) (by decide) st1.ne01 ?_; (case k0 => omega); (case k1 => omega); (case B => k_asm); (case F => k_asm); (case X => k_asm); (case N => k_asm); (case T => k_asm); (case hk => first | exact rfl | k_asm); (case hdp => ktr_room); (case hun => ktr_units); k_whole); intro h' tk' rf t' t2 n' r' hr0 hr1 F' N' hin kp; have st2 := st1.feed kp hin; clear st1 m91 m92 hin; (try k_sweep); walk_say "LAW FEED"))
local macro_rules | `(tactic| walk_at "call ref") => `(tactic| (k_here; (with_reducible show wpAny _ _ (call (Value.ref 109) _) _ _ _); (rename LawSt _ _ _ _ _ _ _ _ _ _ _ _ _ _ _ _ _ _ _ => st0); (rename News _ _ _ _ => nL); (have st1 := LawSt.at st0 nL (by walk_at "my keep")); clear st0; (try (have rd9 := rt_due nL (by walk_at "my rtl"))); k_dflt (first | (refine' func_ok ?B ?F ?X ?N ?T ?hk ?hdp ?hun st1.sy (intern_hit st1.p4) (intern_hit st1.q14) ?z1 ?z2 ?_; (case z1 => (have := st1.z1; omega)); (case z2 => (have := st1.z2; omega)); (case B => k_asm); (case F => k_asm); (case X => k_asm); (case N => k_asm); (case T => k_asm); (case hk => first | exact rfl | k_asm); (case hdp => ktr_room); (case hun => ktr_units); k_whole) | (refine' func_ok ?B ?F ?X ?N ?T ?hk ?hdp ?hun st1.sy (intern_hit st1.p3) (intern_hit st1.q13) ?z1 ?z2 ?_; (case z1 => (have := st1.z1; omega)); (case z2 => (have := st1.z2; omega)); (case B => k_asm); (case F => k_asm); (case X => k_asm); (case N => k_asm); (case T => k_asm); (case hk => first | exact rfl | k_asm); (case hdp => ktr_room); (case hun => ktr_units); k_whole) | (refine' func_ok ?B ?F ?X ?N ?T ?hk ?hdp ?hun st1.sy (intern_hit st1.p3) (intern_hit st1.q12) ?z1 ?z2 ?_; (case z1 => (have := st1.z1; omega)); (case z2 => (have := st1.z2; omega)); (case B => k_asm); (case F => k_asm); (case X => k_asm); (case N => k_asm); (case T => k_asm); (case hk => first | exact rfl | k_asm); (case hdp => ktr_room); (case hun => ktr_units); k_whole)); intro h' tk' t' r' F' N' hS' kp; have st2 := st1.symb kp hS' (fun _ _ h => h) (fun _ _ h => h) st1.z1 st1.z2; clear st1 hS'; (try k_sweep); walk_say "LAW FUNC"))
local macro_rules | `(tactic| walk_at "call ref") => `(tactic| (k_here; (with_reducible show wpAny _ _ (call (Value.ref 384) _) _ _ _); (rename LawSt _ _ _ _ _ _ _ _ _ _ _ _ _ _ _ _ _ _ _ => st0); (rename News _ _ _ _ => nL); (have st1 := LawSt.at st0 nL (by walk_at "my keep")); clear st0; (obtain ⟨hvs9, nh9, m79, c9⟩ := st1.m7); (obtain ⟨fvs9, nf9, hf9, hfs9⟩ := st1.sy.f); k_dflt (first | ((obtain ⟨y9, ta9, tb9, ny9, e9, hy9⟩ := fnAt_of hfs9 st1.q14); refine' struct2_new ?B ?F ?X ?N ?T ?hk ?hdp ?hun st1.m5 st1.m6 m79 c9 st1.ne34 (st1.e2 ▸ st1.sy.i) st1.sy.d hf9 ?hfb e9 ?hf0 ?hf1 st1.ne45 st1.ne48 hy9 ?hcl ?hc1 ?ha1 ?hb1 ?hc2 ?ha2 ?hb2 ?hb ?_; (case hfb => (have := hfs9.1; have := st1.z2; omega)); (case hf0 => decide); (case hf1 => decide); (case hcl => k_mem); (case hc1 => k_mem); (case ha1 => (first | assumption | decide | omega)); (case hb1 => (first | assumption | decide | omega)); (case hc2 => k_mem); (case ha2 => (first | assumption | decide | omega)); (case hb2 => (first | assumption | decide | omega)); (case hb => walk_at "my len2"); (case B => k_asm); (case F => k_asm); (case X => k_asm); (case N => k_asm); (case T => k_asm); (case hk => first | exact rfl | k_asm); (case hdp => ktr_room); (case hun => ktr_units); k_whole) | ((obtain ⟨y9, ta9, tb9, ny9, e9, hy9⟩ := fnAt_of hfs9 st1.q13); refine' struct2_new ?B ?F ?X ?N ?T ?hk ?hdp ?hun st1.m5 st1.m6 m79 c9 st1.ne34 (st1.e2 ▸ st1.sy.i) st1.sy.d hf9 ?hfb e9 ?hf0 ?hf1 st1.ne45 st1.ne48 hy9 ?hcl ?hc1 ?ha1 ?hb1 ?hc2 ?ha2 ?hb2 ?hb ?_; (case hfb => (have := hfs9.1; have := st1.z2; omega)); (case hf0 => decide); (case hf1 => decide); (case hcl => k_mem); (case hc1 => k_mem); (case ha1 => (first | assumption | decide | omega)); (case hb1 => (first | assumption | decide | omega)); (case hc2 => k_mem); (case ha2 => (first | assumption | decide | omega)); (case hb2 => (first | assumption | decide | omega)); (case hb => walk_at "my len2"); (case B => k_asm); (case F => k_asm); (case X => k_asm); (case N => k_asm); (case T => k_asm); (case hk => first | exact rfl | k_asm); (case hdp => ktr_room); (case hun => ktr_units); k_whole) | ((obtain ⟨y9, ta9, tb9, ny9, e9, hy9⟩ := fnAt_of hfs9 st1.q12); refine' struct1_new ?B ?F ?X ?N ?T ?hk ?hdp ?hun st1.m5 st1.m6 m79 c9 st1.ne34 (st1.e2 ▸ st1.sy.i) st1.sy.d hf9 ?hfb e9 ?hf0 ?hf1 st1.ne45 st1.ne48 hy9 ?hcl ?hc1 ?ha1 ?hb1 ?hb ?_; (case hfb => (have := hfs9.1; have := st1.z2; omega)); (case hf0 => decide); (case hf1 => decide); (case hcl => k_mem); (case hc1 => k_mem); (case ha1 => (first | assumption | decide | omega)); (case hb1 => (first | assumption | decide | omega)); (case hb => walk_at "my len2"); (case B => k_asm); (case F => k_asm); (case X => k_asm); (case N => k_asm); (case T => k_asm); (case hk => first | exact rfl | k_asm); (case hdp => ktr_room); (case hun => ktr_units); k_whole)); intro h' tk' x t1 t2 hvs' nh' r' F' N' hx' hh' hC' kp; have st2 := st1.stor kp hh' hC'; clear st1 m79 c9 hf9 hfs9 hh' hC'; (try k_sweep); walk_say "LAW STRUCT"))
local macro_rules | `(tactic| walk_at "call ref") => `(tactic| (k_here; (with_reducible show wpAny _ _ (call (Value.ref 109) [_, Value.str (Str.ofString "resource_error") _, _]) _ _ _); (rename LawSt _ _ _ _ _ _ _ _ _ _ _ _ _ _ _ _ _ _ _ => st0); (rename News _ _ _ _ => nL); (have st1 := LawSt.at st0 nL (by walk_at "my keep")); clear st0; (have gk : LawSt _ _ _ _ _ _ _ _ _ _ _ ts1 fs1 _ _ _ _ _ _ := (by with_reducible exact st1)); clear gk; k_dflt (refine' func_ok ?B ?F ?X ?N ?T ?hk ?hdp ?hun st1.sy ts1_re fs1_re ?z1 ?z2 ?_; (case z1 => (have := st1.z1; omega)); (case z2 => (have := st1.z2; omega)); (case B => k_asm); (case F => k_asm); (case X => k_asm); (case N => k_asm); (case T => k_asm); (case hk => first | exact rfl | k_asm); (case hdp => ktr_room); (case hun => ktr_units); k_whole); intro h' tk' t' r' F' N' hS' kp; have st2 := st1.symb kp hS' (fun _ _ h => h) (fun _ _ h => h) (by have := ts1_len; omega) (by have := fs1_len; omega); clear st1 hS'; (try k_sweep); walk_say "LAW RE"))
local macro_rules | `(tactic| walk_at "call ref") => `(tactic| (k_here; (with_reducible show wpAny _ _ (call (Value.ref 88) [_, Value.str (Str.ofString "memory") _]) _ _ _); (rename LawSt _ _ _ _ _ _ _ _ _ _ _ _ _ _ _ _ _ _ _ => st0); (rename News _ _ _ _ => nL); (have st1 := LawSt.at st0 nL (by walk_at "my keep")); clear st0; (have gk : LawSt _ _ _ _ _ _ _ _ _ _ _ ts1 fs1 _ _ _ _ _ _ := (by with_reducible exact st1)); clear gk; k_dflt (refine' atom_ok ?B ?F ?X ?N ?T ?hk ?hdp ?hun st1.sy ts1_mem ?z1 ?_; (case z1 => (have := st1.z1; omega)); (case B => k_asm); (case F => k_asm); (case X => k_asm); (case N => k_asm); (case T => k_asm); (case hk => first | exact rfl | k_asm); (case hdp => ktr_room); (case hun => ktr_units); k_whole); intro h' tk' t' r' F' N' hS' kp; have st2 := st1.symb kp hS' (fun _ _ h => h) (fun _ _ h => h) (by have := ts1_len; omega) (by have := fs1_len; omega); clear st1 hS'; (try k_sweep); walk_say "LAW MEM"))
local macro_rules | `(tactic| walk_at "call ref") => `(tactic| (k_here; (with_reducible show wpAny _ _ (call (Value.ref 109) [_, Value.str (Str.ofString "/") _, _]) _ _ _); (rename LawSt _ _ _ _ _ _ _ _ _ _ _ _ _ _ _ _ _ _ _ => st0); (rename News _ _ _ _ => nL); (have st1 := LawSt.at st0 nL (by walk_at "my keep")); clear st0; (have gk : LawSt _ _ _ _ _ _ _ _ _ _ _ ts1 fs1 _ _ _ _ _ _ := (by with_reducible exact st1)); clear gk; k_dflt (refine' func_ok ?B ?F ?X ?N ?T ?hk ?hdp ?hun st1.sy ts1_sl fs1_sl ?z1 ?z2 ?_; (case z1 => (have := st1.z1; omega)); (case z2 => (have := st1.z2; omega)); (case B => k_asm); (case F => k_asm); (case X => k_asm); (case N => k_asm); (case T => k_asm); (case hk => first | exact rfl | k_asm); (case hdp => ktr_room); (case hun => ktr_units); k_whole); intro h' tk' t' r' F' N' hS' kp; have st2 := st1.symb kp hS' (fun _ _ h => h) (fun _ _ h => h) (by have := ts1_len; omega) (by have := fs1_len; omega); clear st1 hS'; (try k_sweep); walk_say "LAW SL"))
local macro_rules | `(tactic| walk_at "call ref") => `(tactic| (k_here; (with_reducible show wpAny _ _ (call (Value.ref 109) [_, Value.str (Str.ofString "type_error") _, _]) _ _ _); (rename LawSt _ _ _ _ _ _ _ _ _ _ _ _ _ _ _ _ _ _ _ => st0); (rename News _ _ _ _ => nL); (have st1 := LawSt.at st0 nL (by walk_at "my keep")); clear st0; (have gk : LawSt _ _ _ _ _ _ _ _ _ _ _ ts1 fs1 _ _ _ _ _ _ := (by with_reducible exact st1)); clear gk; (have rc9 := rt_culprit nL); k_dflt (refine' func_ok ?B ?F ?X ?N ?T ?hk ?hdp ?hun st1.sy ts1_te fs1_te ?z1 ?z2 ?_; (case z1 => (have := st1.z1; omega)); (case z2 => (have := st1.z2; omega)); (case B => k_asm); (case F => k_asm); (case X => k_asm); (case N => k_asm); (case T => k_asm); (case hk => first | exact rfl | k_asm); (case hdp => ktr_room); (case hun => ktr_units); k_whole); intro h' tk' t' r' F' N' hS' kp; have st2 := st1.symb kp hS' (intern_keep _ _) (intern_keep _ _) (by have := ts2_len; omega) (by have := fs2_len; omega); clear st1 hS'; (try k_sweep); walk_say "LAW TE"))
local macro_rules | `(tactic| walk_at "call ref") => `(tactic| (k_here; (with_reducible show wpAny _ _ (call (Value.ref 88) [_, Value.str (Str.ofString "evaluable") _]) _ _ _); (rename LawSt _ _ _ _ _ _ _ _ _ _ _ _ _ _ _ _ _ _ _ => st0); (rename News _ _ _ _ => nL); (have st1 := LawSt.at st0 nL (by walk_at "my keep")); clear st0; (have gk : LawSt _ _ _ _ _ _ _ _ _ _ _ ts2 fs2 _ _ _ _ _ _ := (by with_reducible exact st1)); clear gk; k_dflt (refine' atom_ok ?B ?F ?X ?N ?T ?hk ?hdp ?hun st1.sy ts2_ev ?z1 ?_; (case z1 => (have := st1.z1; omega)); (case B => k_asm); (case F => k_asm); (case X => k_asm); (case N => k_asm); (case T => k_asm); (case hk => first | exact rfl | k_asm); (case hdp => ktr_room); (case hun => ktr_units); k_whole); intro h' tk' t' r' F' N' hS' kp; have st2 := st1.symb kp hS' (intern_keep _ _) (fun _ _ h => h) (by have := ts3_len; omega) (by have := fs2_len; omega); clear st1 hS'; (try k_sweep); walk_say "LAW EV"))

theorem law_x : PySem.Challenge.rw_rh0112_01.Holds := hd (by
  k_go0
  all_goals (try k_fold)
  k_steps
  unfold Held
  rename SymSt _ _ _ _ _ _ _ _ _ => hS
  rename IntsAre _ _ => hI
  rename_i hsub hoff h1 lc h2 F2 N2 l1c hoffc
  have htr := hsub _ (.head _)
  have hsl := hsub _ (.tail _ (.head _))
  have otr := hoff _ (.head _)
  have osl := hoff _ (.tail _ (.head _))
  have hal := allInts_of hI
  have hwl := IntsAre.length hI
  rw [List.length_take] at hwl
  k_dflt (refine' areas_ok ?B ?F ?X ?N ?T ?hk ?hdp ?hun ?_; (case B => k_asm); (case F => k_asm); (case X => k_asm); (case N => k_asm); (case T => k_asm); (case hk => first | exact rfl | k_asm); (case hdp => ktr_room); (case hun => ktr_units))
  intro h3 tk3 ma md SA sd SS r3 F3 N3 a1 a2 a3 a4 a5 a6 a7 a8 a9 a10 a11 a12 a13 a14
  have hS3 := hS.keep (ds := []) (Keep.ofSub fun p hp => a8 p (.tail _ hp)) (fun _ _ => List.not_mem_nil)
  have z1 := ts0_len
  have z2 := fs0_len
  obtain ⟨o1, o2, o3, o4, b1, b2, b3, b4⟩ := hS.mem4
  have st := LawSt.mk (prog := PySem.Challenge.rw_rh0112_01.row.prog) (r := r3) (k := 0) (H := []) ⟨_, _, a8 _ (.tail _ htr)⟩ ⟨_, a8 _ (.tail _ hsl)⟩ hS3 a1 a2 a4 a5 ⟨[], 0, a7, rfl, fun k c h => by simp at h⟩ a3 a6 hal (by omega)
    (law_nodup (tr_ne_sl N3 (a8 _ (.tail _ htr)) (a8 _ (.tail _ hsl)) hal) (Nat.ne_of_lt a13) (Nat.ne_of_lt a10) (Nat.ne_of_lt a11) (offY_of otr.1 otr.2.1) (offY_of osl.1 osl.2.1)
      (all7 (a14 _ (.tail _ htr)) (a14 _ (.tail _ hsl)) (a14 _ (.tail _ hS.d)) (a14 _ (.tail _ b1)) (a14 _ (.tail _ b2)) (a14 _ (.tail _ b3)) (a14 _ (.tail _ b4)))
      (all7 (a12 _ (.tail _ htr)) (a12 _ (.tail _ hsl)) (a12 _ (.tail _ hS.d)) (a12 _ (.tail _ b1)) (a12 _ (.tail _ b2)) (a12 _ (.tail _ b3)) (a12 _ (.tail _ b4)))
      (all7 (a9 _ (.tail _ htr)) (a9 _ (.tail _ hsl)) (a9 _ (.tail _ hS.d)) (a9 _ (.tail _ b1)) (a9 _ (.tail _ b2)) (a9 _ (.tail _ b3)) (a9 _ (.tail _ b4)))
      hS.n0 hS.n1 hS.n2 hS.n3 hS.n4 hS.n5 hS.n6 hS.n7 hS.n8 hS.n9)
    ts0_p3 ts0_p4 fs0_q12 fs0_q13 fs0_q14 (by omega) (by omega)
  clear hS hS3 hsub hoff otr osl htr hsl a1 a2 a3 a4 a5 a6 a7 a8 a9 a10 a11 a12 a13 a14 b1 b2 b3 b4 F2 N2 l1c hoffc hal hwl hI
  k_steps
  unfold Held
  rename LawSt _ _ _ _ _ _ _ _ _ _ _ _ _ _ _ _ _ _ _ => st0
  rename News _ _ _ _ => N1
  rename Fr _ _ _ _ => F1
  rename IsRange _ _ _ _ _ _ _ _ => rg
  have st1 := LawSt.at st0 N1 (by walk_at "my keep")
  clear st0
  refine iter_rangeC (by with_unfolding_all rfl) rg (by assumption) (by omega) F1 N1 ?_
  intro I l1
  refine range_stored [Str.ofString "way", Str.ofString "small", Str.ofString "cell", Str.ofString "value"] (LapInv PySem.Challenge.rw_rh0112_01.row.prog _ _ _ _ _ _ _ _ _ _ _ _ _ _ _) ?turn ?done ⟨[], _, _, _, _, _, _, _, _, _, rfl, rfl, st1, .head _, Lap.start (by omega) (by omega), Nat.le_refl _, by omega, by omega, by decide, by decide⟩ (off_lt l1)
  case turn =>
    rintro i u r t h tk hi ⟨H, c, g, v9, t1, t2, z, val, tv, k, hu1, hu2, st, hcm, hlap, hH, hk0, hk1, hg0, hg1⟩ ho F2 N2
    rw [stored2 (A := Str.ofString "cell") (B := Str.ofString "value") (rest := [Str.ofString "way", Str.ofString "small"]) (fun y => by simp only [List.contains_cons, List.contains_nil, Bool.or_false]; cases y == Str.ofString "way" <;> cases y == Str.ofString "small" <;> cases y == Str.ofString "cell" <;> cases y == Str.ofString "value" <;> rfl) hu1 hu2] at F2
    clear F1 N1 st1 rg
    have hIo := st.off ho
    have hI0 := head_in N2
    have hi9 : i < 71 := by omega
    clear hi
    k_steps
    · unfold Held
      k_here; k_dflt (refine' newList_K ?k1 ?k2 ?_; (case k1 => k_asm); (case k2 => k_asm); k_whole); intro l9 h9 F9 N9 l19
      rename LawSt _ _ _ _ _ _ _ _ _ _ _ _ _ _ _ _ _ _ _ => st7
      obtain ⟨t7, n7, m7⟩ := st7.m1
      have hne8 := Ne.symm (lt_at l19 (List.mem_cons_of_mem _ m7))
      clear m7
      walk_say "A1"
      iterate 10 walk1
      rename News _ _ _ _ => N8
      rename Keep _ _ _ => kp8
      rename _ < (4 : Int) => hr8
      rename LawSt _ _ _ _ _ _ _ _ _ _ _ _ _ _ _ _ _ _ _ => st8
      have hm8 := kp8.ne _ _ (.head _) (fun q => hne8 (List.mem_singleton.mp q))
      k_here
      k_dflt (refine' item_ints N8 hm8 all4 ?k4 ?k5 ?k6 ?_ ?k7; (case k4 => assumption); (case k5 => exact hr8); (case k6 => simp); (case k7 => rfl); k_whole)
      intro n9 t9
      clear hm8 hne8 l19
      walk_say "A2"
      k_steps
      all_goals walk_at "my lapend"
    all_goals walk_at "my lapend"
  case done =>
    rintro u r h tk ⟨H, c, g, v9, t1, t2, z, val, tv, k, hu1, hu2, st, hcm, hlap, hH, hk0, hk1, hg0, hg1⟩ F2 N2
    rw [done2 (A := Str.ofString "cell") (B := Str.ofString "value") (rest := [Str.ofString "way", Str.ofString "small"]) (fun y => by simp only [List.contains_cons, List.contains_nil, Bool.or_false]; cases y == Str.ofString "way" <;> cases y == Str.ofString "small" <;> cases y == Str.ofString "cell" <;> cases y == Str.ofString "value" <;> rfl) hu1 hu2] at F2
    clear F1 N1 st1 rg
    k_steps
    unfold Held
    rename LawSt _ _ _ _ _ _ _ _ _ _ _ _ _ _ _ _ _ _ _ => st0
    rename News _ _ _ _ => nL
    have st1 := LawSt.at st0 nL (by walk_at "my keep")
    clear st0
    obtain ⟨hvs9, nh9, tvs9, nt9, fvs9, nf9, hG9⟩ := st1.evG (by walk_at "my len2")
    obtain ⟨n9, hn9, hrun9⟩ := hlap.val_law
    k_dflt (refine' ev_ok (fin := .val val) ?B ?F ?X ?N ?T ?hk ?hdp ?hun hG9 st1.sy1 ?z1 ?z2 (by k_mem) hrun9 ?z3 (fun _ _ _ _ _ _ _ h => nomatch h) (fun _ _ _ _ _ _ _ h => nomatch h) ?_; (case z1 => (have := st1.z1; omega)); (case z2 => (have := st1.z2; omega)); (case z3 => omega); (case B => k_asm); (case F => k_asm); (case X => k_asm); (case N => k_asm); (case T => k_asm); (case hk => first | exact rfl | k_asm); (case hdp => ktr_room); (case hun => ktr_units); k_whole)
    intro v8 h' tk' t' hv8 F' N'
    cases hv8
    clear hG9
    k_steps
    unfold Held
    rename LawSt _ _ _ _ _ _ _ _ _ _ _ _ _ _ _ _ _ _ _ => st0
    rename News _ _ _ _ => nL
    have st1 := LawSt.at st0 nL (by walk_at "my keep")
    clear st0
    obtain ⟨hvs9, nh9, tvs9, nt9, fvs9, nf9, hG9⟩ := st1.evG (by walk_at "my len2")
    obtain ⟨n9, hn9, hrun9⟩ := hlap.both_law
    k_dflt (refine' ev_ok (fin := .val 0) ?B ?F ?X ?N ?T ?hk ?hdp ?hun hG9 st1.sy1 ?z1 ?z2 (by k_mem) hrun9 ?z3 (fun _ _ _ _ _ _ _ h => nomatch h) (fun _ _ _ _ _ _ _ h => nomatch h) ?_; (case z1 => (have := st1.z1; omega)); (case z2 => (have := st1.z2; omega)); (case z3 => omega); (case B => k_asm); (case F => k_asm); (case X => k_asm); (case N => k_asm); (case T => k_asm); (case hk => first | exact rfl | k_asm); (case hdp => ktr_room); (case hun => ktr_units); k_whole)
    intro v8 h' tk' t' hv8 F' N'
    cases hv8
    clear hG9
    k_steps
    unfold Held
    rename LawSt _ _ _ _ _ _ _ _ _ _ _ _ _ _ _ _ _ _ _ => st0
    rename News _ _ _ _ => nL
    have st1 := LawSt.at st0 nL (by walk_at "my keep")
    clear st0
    obtain ⟨hvs9, nh9, tvs9, nt9, fvs9, nf9, hG9⟩ := st1.evG (by walk_at "my len2")
    obtain ⟨n9, hn9, hrun9⟩ := hlap.mem_law (fun i x q => get_app q) (by walk_at "my len2") rfl
    k_dflt (refine' refm_ok ?B ?F ?X ?N ?T ?hk ?hdp ?hun hG9 st1.sy1 ?z1 ?z2 (by k_mem) hrun9 ?z3 ?_; (case z1 => (have := st1.z1; omega)); (case z2 => (have := st1.z2; omega)); (case z3 => omega); (case B => k_asm); (case F => k_asm); (case X => k_asm); (case N => k_asm); (case T => k_asm); (case hk => first | exact rfl | k_asm); (case hdp => ktr_room); (case hun => ktr_units); k_whole)
    intro q8 h' tk' r' hq8 F' N' hS8 kp8
    have st2 := st1.mem kp8 hS8
    rw [memD_is] at hq8
    clear st1 hS8 hG9
    k_steps
    unfold Held
    rename LawSt _ _ _ _ _ _ _ _ _ _ _ _ _ _ _ _ _ _ _ => st0
    rename News _ _ _ _ => nL
    have st1 := LawSt.at st0 nL (by walk_at "my keep")
    clear st0
    obtain ⟨hvs9, nh9, m79, c9⟩ := st1.m7
    k_dflt (refine' list1_new ?B ?F ?X ?N ?T ?hk ?hdp ?hun st1.m5 st1.m6 m79 c9 st1.ne34 ?hcl ?hc1 hg0 hg1 ?hb ?_; (case hcl => k_mem); (case hc1 => k_mem); (case hb => walk_at "my len2"); (case B => k_asm); (case F => k_asm); (case X => k_asm); (case N => k_asm); (case T => k_asm); (case hk => first | exact rfl | k_asm); (case hdp => ktr_room); (case hun => ktr_units); k_whole)
    intro h' tk' x8 t8 t9 hvs8 nh8 r' F' N' hx8 hh8 hC8 kp8
    have st2 := st1.stor kp8 hh8 hC8
    clear st1 m79 c9 hh8 hC8
    k_steps
    unfold Held
    rename LawSt _ _ _ _ _ _ _ _ _ _ _ _ _ _ _ _ _ _ _ => st0
    rename News _ _ _ _ => nL
    have st1 := LawSt.at st0 nL (by walk_at "my keep")
    clear st0
    obtain ⟨hvs9, nh9, tvs9, nt9, fvs9, nf9, hG9⟩ := st1.evG (by walk_at "my len2")
    obtain ⟨n9, hn9, hrun9⟩ := (⟨0, Nat.zero_le 10, Run.lis⟩ : ∃ n, n ≤ 10 ∧ Run _ n [(3, _)] [] [] Fin3.lis)
    k_dflt (refine' refl_ok ?B ?F ?X ?N ?T ?hk ?hdp ?hun hG9 st1.sy1 ?z1 ?z2 (by k_mem) hrun9 ?z3 ?_; (case z1 => (have := st1.z1; omega)); (case z2 => (have := st1.z2; omega)); (case z3 => omega); (case B => k_asm); (case F => k_asm); (case X => k_asm); (case N => k_asm); (case T => k_asm); (case hk => first | exact rfl | k_asm); (case hdp => ktr_room); (case hun => ktr_units); k_whole)
    intro q8 h' tk' r' hq8 F' N' hS8 kp8
    have st2 := st1.lis kp8 hS8
    rw [lisD_is] at hq8
    clear st1 hS8 hG9
    k_steps
    unfold Held
    rename LawSt _ _ _ _ _ _ _ _ _ _ _ _ _ _ _ _ _ _ _ => st0
    rename News _ _ _ _ => nL
    have st1 := LawSt.at st0 nL (by walk_at "my keep")
    clear st0
    obtain ⟨hvs9, nh9, tvs9, nt9, fvs9, nf9, hG9⟩ := st1.evG (by walk_at "my len2")
    obtain ⟨n9, hn9, hrun9⟩ := hlap.lis_law (sub5 rfl) (by walk_at "my len2")
    k_dflt (refine' refl_ok ?B ?F ?X ?N ?T ?hk ?hdp ?hun hG9 st1.sy1 ?z1 ?z2 (by k_mem) hrun9 ?z3 ?_; (case z1 => (have := st1.z1; omega)); (case z2 => (have := st1.z2; omega)); (case z3 => omega); (case B => k_asm); (case F => k_asm); (case X => k_asm); (case N => k_asm); (case T => k_asm); (case hk => first | exact rfl | k_asm); (case hdp => ktr_room); (case hun => ktr_units); k_whole)
    intro q8 h' tk' r' hq8 F' N' hS8 kp8
    have st2 := st1.lis kp8 hS8
    rw [lisD_is] at hq8
    clear st1 hS8 hG9
    k_steps
  )
end Mine
theorem PySem.Challenge.cw_rh0112_01_holds : PySem.Challenge.rw_rh0112_01.Holds := by
  exact Mine.law_x
