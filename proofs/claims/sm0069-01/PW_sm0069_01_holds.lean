import PyProof.Rows.All
import Wide.All
import OpenK.AllK
import Wide.FinOn
import PySem.Challenge.RW_sm0069_01
open PySem PySem.W PyProof.Rows PySem.Spec PySem.Calls
set_option Elab.async false
set_option maxRecDepth 100000
set_option maxHeartbeats 8000000
set_option linter.all false
set_option rowWalk.seconds 0
namespace Mine
section
local macro_rules | `(tactic| o_head $_) => `(tactic| skip)
/-- this makes h0.heap_1, the written heap, and proves nothing of worth -/
theorem h0 : PySem.Challenge.rw_sm0069_01.Holds → PySem.Challenge.rw_sm0069_01.Holds := by
  intro h
  refine ⟨h.1, ?_⟩
  k_head
  exact h.2
end
/-- the text without what the walk does not look at -/
noncomputable def vw : Program := PySem.W.view PySem.Challenge.rw_sm0069_01.row.prog [0, 2, 3, 4, 5, 6, 7, 8, 9, 10, 11, 12, 13, 14, 15, 16, 17, 18, 19, 20, 21, 23, 24, 25, 27, 28, 29, 30, 31, 32, 33, 34, 35, 36, 37, 38, 39, 41, 42, 43, 44, 45, 46, 47, 49, 50, 51, 52, 53]
theorem fill_all : PySem.Challenge.rw_sm0069_01 = PySem.Challenge.rw_sm0069_01 ∧ Mine.h0.heap_1 = Mine.h0.heap_1 := by
  k_fill
  exact ⟨rfl, rfl⟩
section
noncomputable abbrev PG : Program := PySem.Challenge.rw_sm0069_01.row.prog
noncomputable abbrev LO : List Str := looseW Mine.vw [Str.ofString "HeapObject", Str.ofString "Userdata", Str.ofString "MAX_ARRAY", Str.ofString "MOST_SLOTS", Str.ofString "MOST_PLACES", Str.ofString "Table"]
noncomputable abbrev Ledger := List (Addr × Obj)

/-- a call of f, from a ledger, ends with a value and a ledger -/
noncomputable def Runs (w : World) (f : Addr) (args : List Value) (Λ : Ledger) (D : Nat) (Post : Value → Ledger → Prop) : Prop :=
  ∀ (mg mb : Str → Option Value) (mean : ExcName → Option Value) (dp un : Nat) (gd : Option (List Code)) (cn : Str) (cs : Scope) (a : Addr) (ccd : Value) (cl : List (Str × Addr)) (outer : List Env) (A₀ : Around) (base h₀ : Heap) (L : Addr) (m : Str → Option Value) (s : Shared) (Q : Value → Shared → Prop) (E : Value → Shared → Prop),
    Below A₀ base outer h₀ → Fr h₀ L s.heap m → (Mine.h0.heap_1 w.params).In h₀ → News h₀ L s.heap Λ → Top Mine.vw LO mean mg mb h₀ → cs.kind = .function →
    dp + D < recursionLimit → un + 8 * D < cLine →
    (∀ r Λ' h' tk', Fr h₀ L h' m → News h₀ L h' Λ' → Post r Λ' → Q r { s with heap := h', toks := tk' }) →
    wpAny (model PG w) (ktrTop dp un gd cn cs L a ccd cl outer) (call (.ref f) args) Q E s

theorem Runs.mono {w : World} {f : Addr} {args : List Value} {Λ : Ledger} {D D' : Nat} {P P' : Value → Ledger → Prop} (h : Runs w f args Λ D P) (hD : D ≤ D') (hP : ∀ r Λ', P r Λ' → P' r Λ') : Runs w f args Λ D' P' :=
  fun _ _ _ _ _ _ _ _ _ _ _ _ _ _ _ _ _ _ _ _ B F X N T hk hd hu ret => h _ _ _ _ _ _ _ _ _ _ _ _ _ _ _ _ _ _ _ _ B F X N T hk (by omega) (by omega) fun r Λ' h' tk' F' N' p => ret r Λ' h' tk' F' N' (hP _ _ p)

theorem Runs.use {w : World} {f : Addr} {args : List Value} {Λ : Ledger} {D : Nat} {Post : Value → Ledger → Prop} (H : Runs w f args Λ D Post)
    {mg mb : Str → Option Value} {mean : ExcName → Option Value} {dp un : Nat} {gd : Option (List Code)} {cn : Str} {cs : Scope} {a : Addr} {ccd : Value} {cl : List (Str × Addr)} {outer : List Env} {A₀ : Around} {base h₀ : Heap} {L : Addr} {m : Str → Option Value} {s : Shared} {Q : Value → Shared → Prop} {E : Value → Shared → Prop}
    (B : Below A₀ base outer h₀) (F : Fr h₀ L s.heap m) (X : (Mine.h0.heap_1 w.params).In h₀) (N : News h₀ L s.heap Λ) (T : Top Mine.vw LO mean mg mb h₀) (hk : cs.kind = .function)
    (hd : dp + D < recursionLimit) (hu : un + 8 * D < cLine)
    (ret : ∀ r Λ' h' tk', Fr h₀ L h' m → News h₀ L h' Λ' → Post r Λ' → Q r { s with heap := h', toks := tk' }) :
    wpAny (model PG w) (ktrTop dp un gd cn cs L a ccd cl outer) (call (.ref f) args) Q E s := H _ _ _ _ _ _ _ _ _ _ _ _ _ _ _ _ _ _ _ _ B F X N T hk hd hu ret

inductive PV where
  | none
  | int (i : Int)
  | bytes (b : List UInt8)
  deriving DecidableEq
inductive Is : Value → PV → Prop
  | none : Is .none .none
  | int (i : Int) (t : Tok) : Is (.int i t) (.int i)
  | bytes (b : List UInt8) (t : Tok) : Is (.bytes b.toArray t) (.bytes b)

theorem News.tl {h₀ h : Heap} {L : Addr} {x : Addr × Obj} {l : Ledger} (N : News h₀ L h (x :: l)) : News h₀ L h l := fun p hp => N p (.tail _ hp)
theorem News.sub {h₀ h : Heap} {L : Addr} {l l' : Ledger} (N : News h₀ L h l) (hs : ∀ p ∈ l', p ∈ l) : News h₀ L h l' := fun p hp => N p (hs p hp)
end
section
/-- a Python value and what it says -/
structure En where
  v : Value
  p : PV
  h : Is v p
structure Nd where
  a : Addr
  d : Addr
  k : En
  v : En
  nx : Int
  tn : Tok
  t1 : Tok
  t2 : Tok
  t3 : Tok
noncomputable abbrev ndDict (P : Params) (n : Nd) : Obj := dictOf [⟨PyData.keyHash P (Str.ofString "key"), .str (Str.ofString "key") n.t1, n.k.v⟩, ⟨PyData.keyHash P (Str.ofString "value"), .str (Str.ofString "value") n.t2, n.v.v⟩, ⟨PyData.keyHash P (Str.ofString "next"), .str (Str.ofString "next") n.t3, .int n.nx n.tn⟩] 3
noncomputable def ndObjs (P : Params) (n : Nd) : Ledger := [(n.a, instObj 260 n.d), (n.d, ndDict P n)]
noncomputable def ov : Option Addr → Value
  | none => .none
  | some a => .ref a
structure Tb where
  a : Addr
  d : Addr
  arr : Addr
  nl : Addr
  t0 : Tok
  t1 : Tok
  t2 : Tok
  t3 : Tok
  t4 : Tok
  t5 : Tok
  t6 : Tok
  t7 : Tok
  t8 : Tok
  t9 : Tok
  num : Int
  numT : Tok
  mrk : Int
  mkT : Tok
  sz : Int
  szT : Tok
  mt : Option Addr
  fl : Int
  flT : Tok
  wk : Array UInt8
  wkT : Tok
  lg : Int
  lgT : Tok
  fr : Int
  frT : Tok
  es : List En
  esN : Nat
  ns : List Nd
  nsN : Nat
noncomputable abbrev tbDict (P : Params) (T : Tb) : Obj := dictOf [
  ⟨PyData.keyHash P (Str.ofString "number"), .str (Str.ofString "number") T.t0, .int T.num T.numT⟩,
  ⟨PyData.keyHash P (Str.ofString "mark"), .str (Str.ofString "mark") T.t1, .int T.mrk T.mkT⟩,
  ⟨PyData.keyHash P (Str.ofString "size"), .str (Str.ofString "size") T.t2, .int T.sz T.szT⟩,
  ⟨PyData.keyHash P (Str.ofString "meta"), .str (Str.ofString "meta") T.t3, ov T.mt⟩,
  ⟨PyData.keyHash P (Str.ofString "flags"), .str (Str.ofString "flags") T.t4, .int T.fl T.flT⟩,
  ⟨PyData.keyHash P (Str.ofString "weak"), .str (Str.ofString "weak") T.t5, .bytes T.wk T.wkT⟩,
  ⟨PyData.keyHash P (Str.ofString "array"), .str (Str.ofString "array") T.t6, .ref T.arr⟩,
  ⟨PyData.keyHash P (Str.ofString "nodes"), .str (Str.ofString "nodes") T.t7, .ref T.nl⟩,
  ⟨PyData.keyHash P (Str.ofString "log_nodes"), .str (Str.ofString "log_nodes") T.t8, .int T.lg T.lgT⟩,
  ⟨PyData.keyHash P (Str.ofString "free"), .str (Str.ofString "free") T.t9, .int T.fr T.frT⟩] 10
noncomputable def tbHead (P : Params) (T : Tb) : Ledger := [(T.a, instObj 491 T.d), (T.d, tbDict P T), (T.arr, listOf (T.es.map (·.v)).toArray T.esN), (T.nl, listOf (T.ns.map fun n => Value.ref n.a).toArray T.nsN)]
noncomputable def tbObjs (P : Params) (T : Tb) : Ledger := tbHead P T ++ T.ns.flatMap (ndObjs P)

noncomputable def HasTab (P : Params) (T : Tb) (Λ : Ledger) : Prop := ∀ p ∈ tbObjs P T, p ∈ Λ
section
variable {P : Params} {T : Tb} {Λ : Ledger}
theorem HasTab.inst (h : HasTab P T Λ) : (T.a, instObj 491 T.d) ∈ Λ := h _ (List.mem_append_left _ (.head _))
theorem HasTab.dict (h : HasTab P T Λ) : (T.d, tbDict P T) ∈ Λ := h _ (List.mem_append_left _ (.tail _ (.head _)))
theorem HasTab.array (h : HasTab P T Λ) : (T.arr, listOf (T.es.map (·.v)).toArray T.esN) ∈ Λ := h _ (List.mem_append_left _ (.tail _ (.tail _ (.head _))))
theorem HasTab.nodes (h : HasTab P T Λ) : (T.nl, listOf (T.ns.map fun n => Value.ref n.a).toArray T.nsN) ∈ Λ := h _ (List.mem_append_left _ (.tail _ (.tail _ (.tail _ (.head _)))))
theorem HasTab.nd (h : HasTab P T Λ) {n : Nd} (hn : n ∈ T.ns) : (n.a, instObj 260 n.d) ∈ Λ ∧ (n.d, ndDict P n) ∈ Λ :=
  ⟨h _ (List.mem_append_right _ (List.mem_flatMap.mpr ⟨n, hn, .head _⟩)), h _ (List.mem_append_right _ (List.mem_flatMap.mpr ⟨n, hn, .tail _ (.head _)⟩))⟩
theorem HasTab.left {rest : Ledger} : HasTab P T (tbObjs P T ++ rest) := fun _ hp => List.mem_append_left _ hp
end
end
section
section
variable {prog : Program} {w : World} {A : Around} {E : Value → Shared → Prop} {s : Shared} {h₀ : Heap} {L l : Addr} {Λ : Ledger} {n : Nat}
theorem isList_of {its : Array Value} (N : News h₀ L s.heap Λ) (hm : (l, listOf its n) ∈ Λ) : s.heap.IsList l its := ⟨_, (N _ hm).1, rfl, n, rfl⟩
theorem len_map {α : Type} {f : α → Value} {xs : List α} {Q : Value → Shared → Prop} (N : News h₀ L s.heap Λ) (hm : (l, listOf (xs.map f).toArray n) ∈ Λ) (hf : xs.length ≤ 1000000)
    (h : Q (.int xs.length (s.toks + 1)) { s with toks := s.toks + 1 + 1 }) : wpAny (model prog w) A (call (.builtin "len") [.ref l]) Q E s := by
  refine len_list (isList_of N hm) (by simp; omega) ?_
  simpa using h
theorem len_arr {xs : List Value} {Q : Value → Shared → Prop} (N : News h₀ L s.heap Λ) (hm : (l, listOf xs.toArray n) ∈ Λ) (hf : xs.length ≤ 1000000)
    (h : Q (.int xs.length (s.toks + 1)) { s with toks := s.toks + 1 + 1 }) : wpAny (model prog w) A (call (.builtin "len") [.ref l]) Q E s := by
  refine len_list (isList_of N hm) (by simp; omega) ?_
  simpa using h
theorem item_map {value slice : PySem.Expr} {α : Type} {f : α → Value} {xs : List α} {x : α} {k : Int} {u : Tok} {Q : Value → Shared → Prop} (N : News h₀ L s.heap Λ) (hm : (l, listOf (xs.map f).toArray n) ∈ Λ) (h0 : 0 ≤ k) (hx : xs[k.toNat]? = some x) (hf : xs.length ≤ 1000000)
    (h : Q (f x) s) (hs : subscripted slice false (.ref l) (.int k u) = operate [.ref l, .int k u] (getItem (.ref l) (.int k u))) :
    wpAny (model prog w) A (subscriptTail value slice (.ref l) (.int k u)) Q E s := by
  have hl := isList_of N hm
  have hlt : k.toNat < xs.length := (List.getElem?_eq_some_iff.mp hx).1
  exact tail_any hl.typeIs slot_list_getitem.lookup (wpAny_getItem_list hl h0 (by omega) (by simp [hx]) h) hs
end
theorem upd_upd {m : Str → Option Value} {x : Str} {a b : Option Value} : (fun y => if y = x then a else if y = x then b else m y) = (fun y => if y = x then a else m y) := by
  funext y; by_cases h : y = x <;> simp [h]
theorem self1 {m : Str → Option Value} {x : Str} {a : Option Value} (h : m x = a) : m = fun y => if y = x then a else m y := by
  funext y; by_cases e : y = x
  · rw [if_pos e, e, h]
  · rw [if_neg e]
theorem self2 {m : Str → Option Value} {x x' : Str} {a a' : Option Value} (h : m x = a) (h' : m x' = a') : m = fun y => if y = x then a else if y = x' then a' else m y := by
  funext y; by_cases e : y = x
  · rw [if_pos e, e, h]
  · rw [if_neg e]; exact congrFun (self1 h') y
theorem self3 {m : Str → Option Value} {x x' x'' : Str} {a a' a'' : Option Value} (h : m x = a) (h' : m x' = a') (h'' : m x'' = a'') : m = fun y => if y = x then a else if y = x' then a' else if y = x'' then a'' else m y := by
  funext y; by_cases e : y = x
  · rw [if_pos e, e, h]
  · rw [if_neg e]; exact congrFun (self2 h' h'') y
theorem upd2 {m : Str → Option Value} {x x' : Str} {a a' b b' : Option Value} : (fun y => if y = x then a else if y = x' then a' else if y = x then b else if y = x' then b' else m y) = fun y => if y = x then a else if y = x' then a' else m y := by
  funext y; by_cases e : y = x <;> by_cases e' : y = x' <;> simp [e, e']
/-- a loop is met: the walk stops here -/
noncomputable def MyStop (p : Prop) : Prop := p
theorem myStop {p : Prop} (h : MyStop p) : p := h
theorem MyStop.go {p : Prop} (h : p) : MyStop p := h
theorem loop_start {h₀ h : Heap} {L : Addr} {m : Str → Option Value} (F : Fr h₀ L h m) : ∃ m0, m0 = m ∧ Fr h₀ L h m0 := ⟨m, rfl, F⟩
theorem upd2_eq {m : Str → Option Value} {x x' : Str} {a a' b b' c c' : Option Value} (h : c = a) (h' : c' = a') : (fun y => if y = x then c else if y = x' then c' else if y = x then b else if y = x' then b' else m y) = fun y => if y = x then a else if y = x' then a' else m y := by
  subst h; subst h'; exact upd2
theorem upd1_eq {m : Str → Option Value} {x : Str} {a b c : Option Value} (h : c = a) : (fun y => if y = x then c else if y = x then b else m y) = fun y => if y = x then a else m y := by
  subst h; exact upd_upd
theorem int_eq {i j : Int} {t : Tok} (h : i = j) : some (Value.int i t) = some (Value.int j t) := by rw [h]
theorem Is.handed {v : Value} {p : PV} (h : Is v p) : handedIn v = true := by cases h <;> rfl
theorem En.handed (e : En) : handedIn e.v = true := e.h.handed
theorem ov_handed (o : Option Addr) : handedIn (ov o) = true := by cases o <;> rfl
theorem ws_ret {h₀ : Heap} {L : Addr} {s s' : Shared} {J : Nat → (Str → Option Value) → Ledger → Prop} {Q : Flow → Shared → Prop} {n : Nat} {v : Value} (h : Q (.ret v) s') : WhileStep2 h₀ L s J Q n (.ret v) s' := h
theorem ws_brk {h₀ : Heap} {L : Addr} {s s' : Shared} {J : Nat → (Str → Option Value) → Ledger → Prop} {Q : Flow → Shared → Prop} {n : Nat} (h : Q .next s') : WhileStep2 h₀ L s J Q n .brk s' := h
/-- what may be a key -/
noncomputable def PV.key : PV → Prop
  | .none => False
  | .int _ => True
  | .bytes b => b.length < 32
section
variable {M : Model} {A : Around} {E : Value → Shared → Prop} {s : Shared} {Q : Value → Shared → Prop} {v : Value} {p : PV}
theorem Is.eq_none (hv : Is v p) : (v == Value.none) = decide (p = PV.none) := by cases hv <;> rfl
theorem is_none_P (hv : Is v p) (h : Q (.bool (decide (p = PV.none))) s) : wpAny M A (compareOp .Is v .none) Q E s := is_none_gen (by rw [hv.eq_none]; exact h)
theorem isnot_none_P (hv : Is v p) (h : Q (.bool (!decide (p = PV.none))) s) : wpAny M A (compareOp .IsNot v .none) Q E s := isnot_none_gen (by rw [hv.eq_none]; exact h)
end
theorem PV.key_ne {p : PV} (h : p.key) : decide (p = PV.none) = false := by cases p <;> first | exact h.elim | rfl
noncomputable def Tb.addrs (T : Tb) : List Addr := T.a :: T.d :: T.arr :: T.nl :: T.ns.flatMap fun n => [n.a, n.d]
theorem tbObjs_keys (P : Params) (T : Tb) : (tbObjs P T).map (·.1) = T.addrs := by
  unfold tbObjs tbHead Tb.addrs
  simp only [List.map_append, List.map_cons, List.map_nil, List.cons_append, List.nil_append, List.map_flatMap]
  rfl
/-- a table's objects stand apart, and apart from the rest -/
structure Own (T : Tb) (R : Ledger) : Prop where
  nd : T.addrs.Nodup
  off : ∀ p ∈ R, p.1 ∉ T.addrs
theorem Own.d_rest {T : Tb} {R : Ledger} (O : Own T R) (P : Params) {f : Obj} {g : Obj} : ∀ p ∈ (T.arr, f) :: (T.nl, g) :: (T.ns.flatMap (ndObjs P) ++ R), p.1 ≠ T.d := by
  obtain ⟨h, off⟩ := O
  unfold Tb.addrs at h
  simp only [List.nodup_cons, List.mem_cons, not_or] at h
  intro p hp e
  rcases List.mem_cons.mp hp with rfl | hp
  · exact h.2.1.1 e.symm
  rcases List.mem_cons.mp hp with rfl | hp
  · exact h.2.1.2.1 e.symm
  rcases List.mem_append.mp hp with hp | hp
  · refine h.2.1.2.2 (e ▸ ?_)
    obtain ⟨n, hn, hp⟩ := List.mem_flatMap.mp hp
    refine List.mem_flatMap.mpr ⟨n, hn, ?_⟩
    unfold ndObjs at hp
    simp only [List.mem_cons, List.mem_nil_iff, or_false, List.not_mem_nil] at hp ⊢
    rcases hp with rfl | rfl <;> simp
  · exact off p hp (e ▸ .tail _ (.head _))
theorem Own.a_ne_d {T : Tb} {R : Ledger} (O : Own T R) : T.a ≠ T.d := by
  have h := O.nd
  unfold Tb.addrs at h
  simp only [List.nodup_cons, List.mem_cons, not_or] at h
  exact h.1.1
noncomputable def Tb.wFree (T : Tb) (i : Int) (t : Tok) : Tb := { T with fr := i, frT := t }
noncomputable def Tb.wFlags (T : Tb) (i : Int) (t : Tok) : Tb := { T with fl := i, flT := t }
noncomputable def Tb.wLog (T : Tb) (i : Int) (t : Tok) : Tb := { T with lg := i, lgT := t }
noncomputable def Tb.wSize (T : Tb) (i : Int) (t : Tok) : Tb := { T with sz := i, szT := t }
theorem upd_tab {P : Params} {T T' : Tb} {R : Ledger} (O : Own T R) (e : tbObjs P T' = (T.a, instObj 491 T.d) :: (T.d, tbDict P T') :: (T.arr, listOf (T.es.map (·.v)).toArray T.esN) :: (T.nl, listOf (T.ns.map fun n => Value.ref n.a).toArray T.nsN) :: T.ns.flatMap (ndObjs P)) :
    Upd T.d (tbDict P T) (tbDict P T') (tbObjs P T ++ R) (tbObjs P T' ++ R) := by
  rw [e]; exact .tail O.a_ne_d (.head (O.d_rest P))
section
variable {w : World} {A : Around} {E : Value → Shared → Prop} {s : Shared} {h₀ : Heap} {L a : Addr} {m : Str → Option Value} {Q : Unit → Shared → Prop} {T : Tb} {R : Ledger} {i : Int} {t : Tok}
theorem set_free (F : Fr h₀ L s.heap m) (X : (Mine.h0.heap_1 w.params).In h₀) (N : News h₀ L s.heap (tbObjs w.params T ++ R)) (O : Own T R) (ha : T.a = a)
    (h : ∀ h', Fr h₀ L h' m → News h₀ L h' (tbObjs w.params (T.wFree i t) ++ R) → Own (T.wFree i t) R → Q () { s with heap := h', toks := s.toks + 2 }) : wpAny (model PG w) A (setAttr (.ref a) (Str.ofString "free") (.int i t)) Q E s := by
  subst ha
  exact set_dict F X N (InstAt.of_news N HasTab.left.inst HasTab.left.dict) rfl (by k_is) (by k_is) (by k_is) (by k_is) (by k_get) rfl (upd_tab (T' := T.wFree i t) O rfl) (Nat.le_of_ble_eq_true rfl) fun h' F' N' => h h' F' N' ⟨O.nd, O.off⟩
theorem set_flags (F : Fr h₀ L s.heap m) (X : (Mine.h0.heap_1 w.params).In h₀) (N : News h₀ L s.heap (tbObjs w.params T ++ R)) (O : Own T R) (ha : T.a = a)
    (h : ∀ h', Fr h₀ L h' m → News h₀ L h' (tbObjs w.params (T.wFlags i t) ++ R) → Own (T.wFlags i t) R → Q () { s with heap := h', toks := s.toks + 2 }) : wpAny (model PG w) A (setAttr (.ref a) (Str.ofString "flags") (.int i t)) Q E s := by
  subst ha
  exact set_dict F X N (InstAt.of_news N HasTab.left.inst HasTab.left.dict) rfl (by k_is) (by k_is) (by k_is) (by k_is) (by k_get) rfl (upd_tab (T' := T.wFlags i t) O rfl) (Nat.le_of_ble_eq_true rfl) fun h' F' N' => h h' F' N' ⟨O.nd, O.off⟩
theorem set_log (F : Fr h₀ L s.heap m) (X : (Mine.h0.heap_1 w.params).In h₀) (N : News h₀ L s.heap (tbObjs w.params T ++ R)) (O : Own T R) (ha : T.a = a)
    (h : ∀ h', Fr h₀ L h' m → News h₀ L h' (tbObjs w.params (T.wLog i t) ++ R) → Own (T.wLog i t) R → Q () { s with heap := h', toks := s.toks + 2 }) : wpAny (model PG w) A (setAttr (.ref a) (Str.ofString "log_nodes") (.int i t)) Q E s := by
  subst ha
  exact set_dict F X N (InstAt.of_news N HasTab.left.inst HasTab.left.dict) rfl (by k_is) (by k_is) (by k_is) (by k_is) (by k_get) rfl (upd_tab (T' := T.wLog i t) O rfl) (Nat.le_of_ble_eq_true rfl) fun h' F' N' => h h' F' N' ⟨O.nd, O.off⟩
theorem set_size (F : Fr h₀ L s.heap m) (X : (Mine.h0.heap_1 w.params).In h₀) (N : News h₀ L s.heap (tbObjs w.params T ++ R)) (O : Own T R) (ha : T.a = a)
    (h : ∀ h', Fr h₀ L h' m → News h₀ L h' (tbObjs w.params (T.wSize i t) ++ R) → Own (T.wSize i t) R → Q () { s with heap := h', toks := s.toks + 2 }) : wpAny (model PG w) A (setAttr (.ref a) (Str.ofString "size") (.int i t)) Q E s := by
  subst ha
  exact set_dict F X N (InstAt.of_news N HasTab.left.inst HasTab.left.dict) rfl (by k_is) (by k_is) (by k_is) (by k_is) (by k_get) rfl (upd_tab (T' := T.wSize i t) O rfl) (Nat.le_of_ble_eq_true rfl) fun h' F' N' => h h' F' N' ⟨O.nd, O.off⟩
end
theorem mem_rot {x : Addr × Obj} {A B : Ledger} : ∀ p ∈ A ++ (x :: B), p ∈ x :: (A ++ B) := fun p hp => by
  rcases List.mem_append.mp hp with hp | hp
  · exact .tail _ (List.mem_append_left _ hp)
  · rcases List.mem_cons.mp hp with rfl | hp
    · exact .head _
    · exact .tail _ (List.mem_append_right _ hp)
end
section
theorem Upd.of_split {d : Addr} {o o' : Obj} : ∀ {pre post : Ledger}, (∀ p ∈ pre, p.1 ≠ d) → (∀ p ∈ post, p.1 ≠ d) → Upd d o o' (pre ++ (d, o) :: post) (pre ++ (d, o') :: post)
  | [], _, _, h => .head h
  | p :: pre, _, hp, h => .tail (hp p (.head _)) (Upd.of_split (fun q hq => hp q (.tail _ hq)) h)
noncomputable def Tb.wNode (T : Tb) (i : Nat) (n : Nd) : Tb := { T with ns := T.ns.set i n }
theorem ns_split {ns : List Nd} {i : Nat} {nd : Nd} (h : ns[i]? = some nd) : ∃ as bs, ns = as ++ nd :: bs ∧ ∀ n, ns.set i n = as ++ n :: bs := by
  obtain ⟨hi, e⟩ := List.getElem?_eq_some_iff.mp h
  refine ⟨ns.take i, ns.drop (i + 1), ?_, fun n => ?_⟩
  · rw [← e]; exact (List.take_append_drop i ns).symm.trans (by rw [List.drop_eq_getElem_cons hi])
  · exact List.set_eq_take_append_cons_drop.trans (if_pos hi)
noncomputable def adr (ns : List Nd) : List Addr := ns.flatMap fun n => [n.a, n.d]
theorem tbObjs_split (P : Params) (T : Tb) (ns as bs : List Nd) (n : Nd) (h : ns = as ++ n :: bs) (hm : ns.map (fun n => Value.ref n.a) = T.ns.map fun n => Value.ref n.a) (R : Ledger) :
    tbObjs P { T with ns := ns } ++ R = (tbHead P T ++ as.flatMap (ndObjs P) ++ [(n.a, instObj 260 n.d)]) ++ (n.d, ndDict P n) :: (bs.flatMap (ndObjs P) ++ R) := by
  unfold tbObjs tbHead
  dsimp only
  rw [hm, h]
  simp only [List.flatMap_append, List.flatMap_cons, List.append_assoc, List.cons_append, List.nil_append, ndObjs]
theorem keys_flat (P : Params) (ns : List Nd) : (ns.flatMap (ndObjs P)).map (·.1) = adr ns := by
  unfold adr; rw [List.map_flatMap]; rfl
theorem Own.node {T : Tb} {R : Ledger} (O : Own T R) {P : Params} {i : Nat} {nd nd' : Nd} (h : T.ns[i]? = some nd) (ha : nd'.a = nd.a) (hd : nd'.d = nd.d) :
    Upd nd.d (ndDict P nd) (ndDict P nd') (tbObjs P T ++ R) (tbObjs P (T.wNode i nd') ++ R) ∧ Own (T.wNode i nd') R := by
  obtain ⟨as, bs, e, es⟩ := ns_split h
  have hm : (T.ns.set i nd').map (fun n => Value.ref n.a) = T.ns.map fun n => Value.ref n.a := by
    rw [es, e, List.map_append, List.map_append, List.map_cons, List.map_cons, ha]
  have h1 := tbObjs_split P T T.ns as bs nd e rfl R
  have h2 := tbObjs_split P T (T.ns.set i nd') as bs nd' (es nd') hm R
  have k1 : T.addrs = [T.a, T.d, T.arr, T.nl] ++ adr as ++ [nd.a] ++ nd.d :: adr bs := by
    unfold Tb.addrs adr; rw [e]; simp
  have k2 : (T.wNode i nd').addrs = T.addrs := by
    rw [k1]; unfold Tb.addrs Tb.wNode adr; dsimp only; rw [es]; simp [ha, hd]
  have hn := O.nd
  rw [k1] at hn
  have n1 : nd.d ∉ [T.a, T.d, T.arr, T.nl] ++ adr as ++ [nd.a] := fun hm => (List.nodup_append.mp hn).2.2 _ hm _ (.head _) rfl
  have n2 : nd.d ∉ adr bs := (List.nodup_cons.mp (List.nodup_append.mp hn).2.1).1
  refine ⟨?_, ⟨k2 ▸ O.nd, fun p hp => k2 ▸ O.off p hp⟩⟩
  rw [show tbObjs P T ++ R = _ from h1, show tbObjs P (T.wNode i nd') ++ R = _ from h2, ha, hd]
  refine Upd.of_split (fun p hp q => n1 (q ▸ ?_)) fun p hp q => ?_
  · rcases List.mem_append.mp hp with hp | hp
    · rcases List.mem_append.mp hp with hp | hp
      · refine List.mem_append_left _ (List.mem_append_left _ ?_)
        exact List.mem_map_of_mem (f := (·.1)) hp
      · refine List.mem_append_left _ (List.mem_append_right _ ?_)
        rw [← keys_flat P]; exact List.mem_map_of_mem (f := (·.1)) hp
    · refine List.mem_append_right _ ?_
      rw [List.mem_singleton.mp hp]; exact .head _
  · rcases List.mem_append.mp hp with hp | hp
    · refine n2 (q ▸ ?_)
      rw [← keys_flat P]; exact List.mem_map_of_mem (f := (·.1)) hp
    · refine O.off p hp ?_
      rw [k1, q]; exact List.mem_append_right _ (.head _)
section
variable {w : World} {A : Around} {E : Value → Shared → Prop} {s : Shared} {h₀ : Heap} {L a : Addr} {m : Str → Option Value} {T : Tb} {R Λ : Ledger} {expr : Bool}
theorem get_flags {i : Int} {t : Tok} {Q : Value → Shared → Prop} (F : Fr h₀ L s.heap m) (X : (Mine.h0.heap_1 w.params).In h₀) (N : News h₀ L s.heap Λ) (H : HasTab w.params T Λ) (ha : T.a = a) (hi : T.fl = i) (ht : T.flT = t)
    (h : Q (.int i t) { s with toks := s.toks + 1 }) : wpAny (model PG w) A (getAttr (.ref a) (Str.ofString "flags") expr) Q E s := by
  subst ha hi ht
  exact get_own F X (InstAt.of_news N H.inst H.dict) (by k_is) (by k_is) (by k_is) (by k_is) (by k_get) rfl h
theorem get_free {i : Int} {t : Tok} {Q : Value → Shared → Prop} (F : Fr h₀ L s.heap m) (X : (Mine.h0.heap_1 w.params).In h₀) (N : News h₀ L s.heap Λ) (H : HasTab w.params T Λ) (ha : T.a = a) (hi : T.fr = i) (ht : T.frT = t)
    (h : Q (.int i t) { s with toks := s.toks + 1 }) : wpAny (model PG w) A (getAttr (.ref a) (Str.ofString "free") expr) Q E s := by
  subst ha hi ht
  exact get_own F X (InstAt.of_news N H.inst H.dict) (by k_is) (by k_is) (by k_is) (by k_is) (by k_get) rfl h
theorem get_log {i : Int} {t : Tok} {Q : Value → Shared → Prop} (F : Fr h₀ L s.heap m) (X : (Mine.h0.heap_1 w.params).In h₀) (N : News h₀ L s.heap Λ) (H : HasTab w.params T Λ) (ha : T.a = a) (hi : T.lg = i) (ht : T.lgT = t)
    (h : Q (.int i t) { s with toks := s.toks + 1 }) : wpAny (model PG w) A (getAttr (.ref a) (Str.ofString "log_nodes") expr) Q E s := by
  subst ha hi ht
  exact get_own F X (InstAt.of_news N H.inst H.dict) (by k_is) (by k_is) (by k_is) (by k_is) (by k_get) rfl h
theorem get_array {i : Addr} {Q : Value → Shared → Prop} (F : Fr h₀ L s.heap m) (X : (Mine.h0.heap_1 w.params).In h₀) (N : News h₀ L s.heap Λ) (H : HasTab w.params T Λ) (ha : T.a = a) (hi : T.arr = i)
    (h : Q (.ref i) { s with toks := s.toks + 1 }) : wpAny (model PG w) A (getAttr (.ref a) (Str.ofString "array") expr) Q E s := by
  subst ha hi
  exact get_own F X (InstAt.of_news N H.inst H.dict) (by k_is) (by k_is) (by k_is) (by k_is) (by k_get) rfl h
theorem get_nodes {i : Addr} {Q : Value → Shared → Prop} (F : Fr h₀ L s.heap m) (X : (Mine.h0.heap_1 w.params).In h₀) (N : News h₀ L s.heap Λ) (H : HasTab w.params T Λ) (ha : T.a = a) (hi : T.nl = i)
    (h : Q (.ref i) { s with toks := s.toks + 1 }) : wpAny (model PG w) A (getAttr (.ref a) (Str.ofString "nodes") expr) Q E s := by
  subst ha hi
  exact get_own F X (InstAt.of_news N H.inst H.dict) (by k_is) (by k_is) (by k_is) (by k_is) (by k_get) rfl h
theorem get_meta {i : Option Addr} {Q : Value → Shared → Prop} (F : Fr h₀ L s.heap m) (X : (Mine.h0.heap_1 w.params).In h₀) (N : News h₀ L s.heap Λ) (H : HasTab w.params T Λ) (ha : T.a = a) (hi : T.mt = i)
    (h : Q (ov i) { s with toks := s.toks + 1 }) : wpAny (model PG w) A (getAttr (.ref a) (Str.ofString "meta") expr) Q E s := by
  subst ha hi
  exact get_own F X (InstAt.of_news N H.inst H.dict) (by k_is) (by k_is) (by k_is) (by k_is) (by k_get) (ov_handed _) h
variable {nd : Nd} {i : Nat}
theorem get_key {Q : Value → Shared → Prop} (F : Fr h₀ L s.heap m) (X : (Mine.h0.heap_1 w.params).In h₀) (N : News h₀ L s.heap Λ) (H : (nd.a, instObj 260 nd.d) ∈ Λ) (H' : (nd.d, ndDict w.params nd) ∈ Λ)
    (h : Q nd.k.v { s with toks := s.toks + 1 }) : wpAny (model PG w) A (getAttr (.ref nd.a) (Str.ofString "key") expr) Q E s :=
  get_own F X (InstAt.of_news N H H') (by k_is) (by k_is) (by k_is) (by k_is) (by k_get) (En.handed _) h
theorem get_value {Q : Value → Shared → Prop} (F : Fr h₀ L s.heap m) (X : (Mine.h0.heap_1 w.params).In h₀) (N : News h₀ L s.heap Λ) (H : (nd.a, instObj 260 nd.d) ∈ Λ) (H' : (nd.d, ndDict w.params nd) ∈ Λ)
    (h : Q nd.v.v { s with toks := s.toks + 1 }) : wpAny (model PG w) A (getAttr (.ref nd.a) (Str.ofString "value") expr) Q E s :=
  get_own F X (InstAt.of_news N H H') (by k_is) (by k_is) (by k_is) (by k_is) (by k_get) (En.handed _) h
theorem get_next {Q : Value → Shared → Prop} (F : Fr h₀ L s.heap m) (X : (Mine.h0.heap_1 w.params).In h₀) (N : News h₀ L s.heap Λ) (H : (nd.a, instObj 260 nd.d) ∈ Λ) (H' : (nd.d, ndDict w.params nd) ∈ Λ)
    (h : Q (.int nd.nx nd.tn) { s with toks := s.toks + 1 }) : wpAny (model PG w) A (getAttr (.ref nd.a) (Str.ofString "next") expr) Q E s :=
  get_own F X (InstAt.of_news N H H') (by k_is) (by k_is) (by k_is) (by k_is) (by k_get) rfl h
theorem set_key {Q : Unit → Shared → Prop} {v : Value} {p : PV} (hv : Is v p) (F : Fr h₀ L s.heap m) (X : (Mine.h0.heap_1 w.params).In h₀) (N : News h₀ L s.heap (tbObjs w.params T ++ R)) (O : Own T R) (hx : T.ns[i]? = some nd)
    (h : ∀ h', Fr h₀ L h' m → News h₀ L h' (tbObjs w.params (T.wNode i { nd with k := ⟨v, p, hv⟩ }) ++ R) → Own (T.wNode i { nd with k := ⟨v, p, hv⟩ }) R → Q () { s with heap := h', toks := s.toks + 2 }) : wpAny (model PG w) A (setAttr (.ref nd.a) (Str.ofString "key") v) Q E s := by
  have hm := List.mem_of_getElem? hx
  obtain ⟨U, O'⟩ := O.node (P := w.params) (nd' := { nd with k := ⟨v, p, hv⟩ }) hx rfl rfl
  exact set_dict F X N (InstAt.of_news N (HasTab.left.nd hm).1 (HasTab.left.nd hm).2) rfl (by k_is) (by k_is) (by k_is) (by k_is) (by k_get) rfl U (Nat.le_of_ble_eq_true rfl) fun h' F' N' => h h' F' N' O'
theorem set_value {Q : Unit → Shared → Prop} {v : Value} {p : PV} (hv : Is v p) (F : Fr h₀ L s.heap m) (X : (Mine.h0.heap_1 w.params).In h₀) (N : News h₀ L s.heap (tbObjs w.params T ++ R)) (O : Own T R) (hx : T.ns[i]? = some nd)
    (h : ∀ h', Fr h₀ L h' m → News h₀ L h' (tbObjs w.params (T.wNode i { nd with v := ⟨v, p, hv⟩ }) ++ R) → Own (T.wNode i { nd with v := ⟨v, p, hv⟩ }) R → Q () { s with heap := h', toks := s.toks + 2 }) : wpAny (model PG w) A (setAttr (.ref nd.a) (Str.ofString "value") v) Q E s := by
  have hm := List.mem_of_getElem? hx
  obtain ⟨U, O'⟩ := O.node (P := w.params) (nd' := { nd with v := ⟨v, p, hv⟩ }) hx rfl rfl
  exact set_dict F X N (InstAt.of_news N (HasTab.left.nd hm).1 (HasTab.left.nd hm).2) rfl (by k_is) (by k_is) (by k_is) (by k_is) (by k_get) rfl U (Nat.le_of_ble_eq_true rfl) fun h' F' N' => h h' F' N' O'
theorem set_next {Q : Unit → Shared → Prop} {j : Int} {t : Tok} (F : Fr h₀ L s.heap m) (X : (Mine.h0.heap_1 w.params).In h₀) (N : News h₀ L s.heap (tbObjs w.params T ++ R)) (O : Own T R) (hx : T.ns[i]? = some nd)
    (h : ∀ h', Fr h₀ L h' m → News h₀ L h' (tbObjs w.params (T.wNode i { nd with nx := j, tn := t }) ++ R) → Own (T.wNode i { nd with nx := j, tn := t }) R → Q () { s with heap := h', toks := s.toks + 2 }) : wpAny (model PG w) A (setAttr (.ref nd.a) (Str.ofString "next") (.int j t)) Q E s := by
  have hm := List.mem_of_getElem? hx
  obtain ⟨U, O'⟩ := O.node (P := w.params) (nd' := { nd with nx := j, tn := t }) hx rfl rfl
  exact set_dict F X N (InstAt.of_news N (HasTab.left.nd hm).1 (HasTab.left.nd hm).2) rfl (by k_is) (by k_is) (by k_is) (by k_is) (by k_get) rfl U (Nat.le_of_ble_eq_true rfl) fun h' F' N' => h h' F' N' O'
end
/-- a node turned in its place -/
noncomputable def Tb.up (T : Tb) (i : Nat) (f : Nd → Nd) : Tb := { T with ns := T.ns.modify i f }
noncomputable def adrs (T : Tb) : List Addr := T.ns.map (·.a)
theorem modify_at {ns : List Nd} {i : Nat} {nd : Nd} {f : Nd → Nd} (h : ns[i]? = some nd) : ns.modify i f = ns.set i (f nd) := by
  have hl := (List.getElem?_eq_some_iff.mp h).1
  apply List.ext_getElem?
  intro j
  rw [List.getElem?_modify, List.getElem?_set]
  by_cases e : i = j
  · subst e; rw [h, if_pos rfl, if_pos hl]; simp
  · cases ns[j]? <;> simp [e]
theorem adrs_at {T : Tb} {AS : List Addr} {i : Nat} {a : Addr} (S : adrs T = AS) (hi : AS[i]? = some a) : ∃ nd, T.ns[i]? = some nd ∧ nd.a = a := by
  subst S; unfold adrs at hi; rw [List.getElem?_map] at hi
  obtain ⟨nd, h1, h2⟩ := Option.map_eq_some_iff.mp hi
  exact ⟨nd, h1, h2⟩
theorem adrs_up {T : Tb} {AS : List Addr} {i : Nat} {f : Nd → Nd} (S : adrs T = AS) (hf : ∀ x, (f x).a = x.a) : adrs (T.up i f) = AS := by
  subst S
  unfold adrs Tb.up
  dsimp only
  apply List.ext_getElem?
  intro j
  rw [List.getElem?_map, List.getElem?_map, List.getElem?_modify]
  cases T.ns[j]? with
  | none => rfl
  | some x => by_cases h : i = j <;> simp [h, hf]
section
variable {w : World} {A : Around} {E : Value → Shared → Prop} {s : Shared} {h₀ : Heap} {L a : Addr} {m : Str → Option Value} {T : Tb} {R Λ : Ledger} {expr : Bool} {AS : List Addr} {i : Nat}
theorem put_key {Q : Unit → Shared → Prop} {v : Value} {p : PV} (hv : Is v p) (F : Fr h₀ L s.heap m) (X : (Mine.h0.heap_1 w.params).In h₀) (N : News h₀ L s.heap (tbObjs w.params T ++ R)) (O : Own T R) (S : adrs T = AS) (hi : AS[i]? = some a)
    (h : ∀ h', Fr h₀ L h' m → News h₀ L h' (tbObjs w.params (T.up i fun x => { x with k := ⟨v, p, hv⟩ }) ++ R) → Own (T.up i fun x => { x with k := ⟨v, p, hv⟩ }) R → adrs (T.up i fun x => { x with k := ⟨v, p, hv⟩ }) = AS → Q () { s with heap := h', toks := s.toks + 2 }) :
    wpAny (model PG w) A (setAttr (.ref a) (Str.ofString "key") v) Q E s := by
  obtain ⟨nd, hx, rfl⟩ := adrs_at S hi
  have e : T.up i (fun x => { x with k := ⟨v, p, hv⟩ }) = T.wNode i { nd with k := ⟨v, p, hv⟩ } := by unfold Tb.up Tb.wNode; rw [modify_at hx]
  have S' : adrs (T.up i (fun x => { x with k := ⟨v, p, hv⟩ })) = AS := adrs_up S fun _ => rfl
  rw [e] at h S'
  exact set_key hv F X N O hx fun h' F' N' O' => h h' F' N' O' S'
theorem put_value {Q : Unit → Shared → Prop} {v : Value} {p : PV} (hv : Is v p) (F : Fr h₀ L s.heap m) (X : (Mine.h0.heap_1 w.params).In h₀) (N : News h₀ L s.heap (tbObjs w.params T ++ R)) (O : Own T R) (S : adrs T = AS) (hi : AS[i]? = some a)
    (h : ∀ h', Fr h₀ L h' m → News h₀ L h' (tbObjs w.params (T.up i fun x => { x with v := ⟨v, p, hv⟩ }) ++ R) → Own (T.up i fun x => { x with v := ⟨v, p, hv⟩ }) R → adrs (T.up i fun x => { x with v := ⟨v, p, hv⟩ }) = AS → Q () { s with heap := h', toks := s.toks + 2 }) :
    wpAny (model PG w) A (setAttr (.ref a) (Str.ofString "value") v) Q E s := by
  obtain ⟨nd, hx, rfl⟩ := adrs_at S hi
  have e : T.up i (fun x => { x with v := ⟨v, p, hv⟩ }) = T.wNode i { nd with v := ⟨v, p, hv⟩ } := by unfold Tb.up Tb.wNode; rw [modify_at hx]
  have S' : adrs (T.up i (fun x => { x with v := ⟨v, p, hv⟩ })) = AS := adrs_up S fun _ => rfl
  rw [e] at h S'
  exact set_value hv F X N O hx fun h' F' N' O' => h h' F' N' O' S'
theorem put_next {Q : Unit → Shared → Prop} {j : Int} {t : Tok} (F : Fr h₀ L s.heap m) (X : (Mine.h0.heap_1 w.params).In h₀) (N : News h₀ L s.heap (tbObjs w.params T ++ R)) (O : Own T R) (S : adrs T = AS) (hi : AS[i]? = some a)
    (h : ∀ h', Fr h₀ L h' m → News h₀ L h' (tbObjs w.params (T.up i fun x => { x with nx := j, tn := t }) ++ R) → Own (T.up i fun x => { x with nx := j, tn := t }) R → adrs (T.up i fun x => { x with nx := j, tn := t }) = AS → Q () { s with heap := h', toks := s.toks + 2 }) :
    wpAny (model PG w) A (setAttr (.ref a) (Str.ofString "next") (.int j t)) Q E s := by
  obtain ⟨nd, hx, rfl⟩ := adrs_at S hi
  have e : T.up i (fun x => { x with nx := j, tn := t }) = T.wNode i { nd with nx := j, tn := t } := by unfold Tb.up Tb.wNode; rw [modify_at hx]
  have S' : adrs (T.up i (fun x => { x with nx := j, tn := t })) = AS := adrs_up S fun _ => rfl
  rw [e] at h S'
  exact set_next F X N O hx fun h' F' N' O' => h h' F' N' O' S'
theorem item_adr {value slice : PySem.Expr} {l : Addr} {k : Int} {u : Tok} {Q : Value → Shared → Prop} (N : News h₀ L s.heap (tbObjs w.params T ++ R)) (S : adrs T = AS) (hl : T.nl = l) (h0 : 0 ≤ k) (hi : AS[k.toNat]? = some a) (hf : AS.length ≤ 1000000)
    (h : Q (.ref a) s) (hs : subscripted slice false (.ref l) (.int k u) = operate [.ref l, .int k u] (getItem (.ref l) (.int k u))) : wpAny (model PG w) A (subscriptTail value slice (.ref l) (.int k u)) Q E s := by
  subst hl
  obtain ⟨nd, hx, rfl⟩ := adrs_at S hi
  have : T.ns.length ≤ 1000000 := by rw [← S] at hf; simpa [adrs] using hf
  exact item_map N HasTab.left.nodes h0 hx this h hs
end
theorem up_ne {T : Tb} {i j : Nat} {nd : Nd} {f : Nd → Nd} (hx : T.ns[i]? = some nd) (h : i ≠ j) : (T.up j f).ns[i]? = some nd := by
  show (T.ns.modify j f)[i]? = some nd
  rw [List.getElem?_modify, hx]; simp [Ne.symm h]
theorem up_up {T : Tb} {j : Nat} {f g : Nd → Nd} : (T.up j f).up j g = T.up j fun x => g (f x) := by
  unfold Tb.up
  dsimp only
  congr 1
  apply List.ext_getElem?
  intro k
  rw [List.getElem?_modify, List.getElem?_modify, List.getElem?_modify]
  cases T.ns[k]? with
  | none => rfl
  | some x => by_cases h : j = k <;> simp [h]
end
section
/-- a turn's end, in the loop's rule -/
theorem lsv_next {h₀ : Heap} {L : Addr} {wr : List Addr} {own Λ' Λ'' : Ledger} {Jn : (Str → Option Value) → Ledger → Prop} {s₁ : Shared} {Qr : Value → Shared → Prop} {Qb : Shared → Prop} {h' : Heap} {tk : Nat} {m' : Str → Option Value}
    (F : Fr h₀ L h' m') (N : News h₀ L h' Λ'') (ho : ∀ p ∈ own, p ∈ Λ'') (hs : ∀ p ∈ Λ', p ∈ Λ'') (hw : ∀ p ∈ Λ', p.1 ∉ wr) (hJ : Jn m' Λ') : LoopStepV h₀ L wr own Jn s₁ Qr Qb .next { s₁ with heap := h', toks := tk } :=
  LoopStepV.next ⟨rfl, h', tk, m', Λ', rfl, F, fun p hp => (List.mem_append.mp hp).elim (fun q => N p (ho p q)) fun q => N p (hs p q), hw, hJ⟩
theorem lsv_ret {h₀ : Heap} {L : Addr} {wr : List Addr} {own : Ledger} {Jn : (Str → Option Value) → Ledger → Prop} {s₁ s₂ : Shared} {Qr : Value → Shared → Prop} {Qb : Shared → Prop} {v : Value} (h : Qr v s₂) : LoopStepV h₀ L wr own Jn s₁ Qr Qb (.ret v) s₂ := h
theorem lsv_brk {h₀ : Heap} {L : Addr} {wr : List Addr} {own : Ledger} {Jn : (Str → Option Value) → Ledger → Prop} {s₁ s₂ : Shared} {Qr : Value → Shared → Prop} {Qb : Shared → Prop} (h : Qb s₂) : LoopStepV h₀ L wr own Jn s₁ Qr Qb .brk s₂ := h
theorem range_size (k : Nat) : Builtin.Range.rangeSize 0 k 1 = k := by
  unfold Builtin.Range.rangeSize
  rw [if_pos (by decide)]
  by_cases h0 : (0 : Int) < k
  · rw [if_pos h0, Int.ediv_one]; omega
  · rw [if_neg h0]; omega
theorem range_small {k : Nat} (hk : k ≤ 1000000) : Builtin.Range.small 0 k 1 = true := by
  have fit : ∀ z : Int, 0 ≤ z → z ≤ 1000001 → Builtin.Range.rangeFitsLong z = true := by
    intro z h1 h2; unfold Builtin.Range.rangeFitsLong; simp; omega
  unfold Builtin.Range.small
  rw [range_size, fit 0 (by omega) (by omega), fit k (by omega) (by omega), fit 1 (by omega) (by omega), if_pos (by decide), fit (k + (1 - 1)) (by omega) (by omega)]
  simp
section
variable {prog : Program} {w : World} {A : Around} {E : Value → Shared → Prop} {s : Shared} {env : Env} {h₀ : Heap} {x : Str} {body : List Stmt} {Q : Flow → Shared → Prop}
theorem for_list {l : Addr} {vs : List Value} {n : Nat} {m₀ : Str → Option Value} {Λ₀ : Ledger} (J : Nat → (Str → Option Value) → Ledger → Prop) (hh : A.handled = none) (F : Fr h₀ env.locals s.heap m₀) (N : News h₀ env.locals s.heap Λ₀) (hm : (l, listOf vs.toArray n) ∈ Λ₀) (hj : J 0 m₀ Λ₀)
    (turn : ∀ i v m₁ Λ₁ h tk own I, vs[i]? = some v → J i m₁ Λ₁ → (∀ p ∈ Λ₁, p.1 ∉ [I]) → (∃ oI, (I, oI) ∈ own) → (∀ p ∈ own, p.1 = I ∨ p.1 = l) → Fr h₀ env.locals h (fun y => if y = x then some v else m₁ y) → News h₀ env.locals h (own ++ Λ₁) →
      wpAny (model prog w) A (execs body env) (LoopStepV h₀ env.locals [I] own (J (i + 1)) { s with heap := h, toks := tk } (fun v s' => Q (.ret v) s') fun s' => Q .next s') E { s with heap := h, toks := tk })
    (done : ∀ m₁ Λ₁ h tk, J vs.length m₁ Λ₁ → Fr h₀ env.locals h m₁ → News h₀ env.locals h Λ₁ → Q .next { s with heap := h, toks := tk }) :
    wpAny (model prog w) A (pyIter (.ref l)) (fun it s₂ => LoopAtV prog w A h₀ env x body Q E it s₂) E s := by
  have hls : s.heap.IsList l vs.toArray := isList_of N hm
  have hLl : env.locals ≠ l := fun e => (N _ hm).2.1 e.symm
  have hne : l ≠ s.heap.objs.size := Nat.ne_of_lt (Heap.lt_size (N _ hm).1)
  have hLn : env.locals ≠ s.heap.objs.size := Nat.ne_of_lt F.ns.lt
  have h0n : h₀.get? s.heap.objs.size = none := by
    cases q : h₀.get? s.heap.objs.size with
    | none => rfl
    | some o => exact absurd (Heap.lt_size (F.keep _ _ q)) (Nat.lt_irrefl _)
  refine wpAny_pyIter_list hls ?_
  have W := Walks.list (prog := prog) (w := w) hh s.heap.objs.size l hne vs.toArray
  refine ⟨_, _, _, vs.toArray.size, _, _, m₀, Λ₀, J, rfl, W, ?_, ?_, ?_, ⟨⟨_, Heap.get?_push_size _ rfl, rfl, rfl⟩, hls.at fun o e => Heap.get?_push_of_some _ e⟩, F.push _, (fun p hp => ⟨Heap.get?_push_of_some _ (N p hp).1, (N p hp).2⟩), hj, ?_, ?_⟩
  · intro hm'
    rcases List.mem_cons.mp hm' with e | hm'
    · exact hLn e
    · exact hLl (List.mem_singleton.mp hm')
  · intro b hb
    rw [List.mem_singleton.mp hb]; exact h0n
  · intro p hp hI
    exact absurd (Heap.lt_size (N p hp).1) ((List.mem_singleton.mp hI) ▸ Nat.lt_irrefl _)
  · rintro i v m₁ news₁ s₁ own ⟨hh', tk', rfl⟩ hin hP hJ hoff hfp _ hown hst F₁ N₁
    obtain ⟨oI, hoI, _⟩ := hst.1
    exact turn i v m₁ news₁ hh' tk' own _ (by simpa using hP) hJ hoff ⟨oI, hown _ (.head _) h0n oI hoI⟩ (fun p hp => by simpa using hfp p hp) F₁ N₁
  · intro h' tk m' news' F' N' _ hJ
    exact done m' news' h' tk (by simpa using hJ) F' N'
theorem for_range {r : Addr} {k : Nat} {t u v : Tok} {m₀ : Str → Option Value} {Λ₀ : Ledger} (J : Nat → (Str → Option Value) → Ledger → Prop) (hh : A.handled = none) (F : Fr h₀ env.locals s.heap m₀) (N : News h₀ env.locals s.heap Λ₀) (hr : IsRange s.heap r 0 k 1 t u v) (hk : k ≤ 1000000) (hj : J 0 m₀ Λ₀)
    (turn : ∀ i t m₁ Λ₁ h tk own I, i < k → J i m₁ Λ₁ → (∀ p ∈ Λ₁, p.1 ∉ [I]) → (∃ oI, (I, oI) ∈ own) → (∀ p ∈ own, p.1 = I) → Fr h₀ env.locals h (fun y => if y = x then some (.int (i : Int) t) else m₁ y) → News h₀ env.locals h (own ++ Λ₁) →
      wpAny (model prog w) A (execs body env) (LoopStepV h₀ env.locals [I] own (J (i + 1)) { s with heap := h, toks := tk } (fun v s' => Q (.ret v) s') fun s' => Q .next s') E { s with heap := h, toks := tk })
    (done : ∀ m₁ Λ₁ h tk, J k m₁ Λ₁ → Fr h₀ env.locals h m₁ → News h₀ env.locals h Λ₁ → Q .next { s with heap := h, toks := tk }) :
    wpAny (model prog w) A (pyIter (.ref r)) (fun it s₂ => LoopAtV prog w A h₀ env x body Q E it s₂) E s := by
  have hLn : env.locals ≠ s.heap.objs.size := Nat.ne_of_lt F.ns.lt
  have h0n : h₀.get? s.heap.objs.size = none := by
    cases q : h₀.get? s.heap.objs.size with
    | none => rfl
    | some o => exact absurd (Heap.lt_size (F.keep _ _ q)) (Nat.lt_irrefl _)
  have hsz := range_size k
  have hsm := range_small hk
  refine wpAny_pyIter_range hr hsm ?_
  have W := LCg.range_walks (prog := prog) (w := w) (A := A) (I := s.heap.objs.size) hh 0 k
  refine ⟨_, _, _, k, _, _, m₀, Λ₀, J, rfl, W, ?_, ?_, ?_, ?_, F.push _, (fun p hp => ⟨Heap.get?_push_of_some _ (N p hp).1, (N p hp).2⟩), hj, ?_, ?_⟩
  · intro hm'; exact hLn (List.mem_singleton.mp hm')
  · intro b hb; rw [List.mem_singleton.mp hb]; exact h0n
  · intro p hp hI
    exact absurd (Heap.lt_size (N p hp).1) ((List.mem_singleton.mp hI) ▸ Nat.lt_irrefl _)
  · rw [hsz]
    have := Heap.get?_push_size s.heap (o := { cls := .type "range_iterator", data := .fields #[rawInt 0, rawInt (k : Int), rawInt 1] }) rfl
    simpa [IsRangeIter] using this
  · rintro i v m₁ news₁ s₁ own ⟨hh', tk', rfl⟩ hin ⟨t, rfl⟩ hJ hoff hfp _ hown hst F₁ N₁
    have e : (0 : Int) + (i : Int) = i := by omega
    rw [e] at F₁
    exact turn i t m₁ news₁ hh' tk' own _ hin hJ hoff ⟨_, hown _ (.head _) h0n _ hst⟩ (fun p hp => by simpa using hfp p hp) F₁ N₁
  · intro h' tk m' news' F' N' _ hJ
    exact done m' news' h' tk hJ F' N'
end
/-- a frame's names turned -/
noncomputable def updL (m0 : Str → Option Value) : List (Str × Option Value) → Str → Option Value
  | [] => m0
  | (x, a) :: r => fun y => if y = x then a else updL m0 r y
noncomputable def HoldsAt (m : Str → Option Value) : List (Str × Option Value) → Prop
  | [] => True
  | (x, a) :: r => m x = a ∧ HoldsAt m r
noncomputable def offNames (y : Str) : List (Str × Option Value) → Prop
  | [] => True
  | (x, _) :: r => ¬ y = x ∧ offNames y r
theorem updL_eq {m m0 : Str → Option Value} : ∀ {l : List (Str × Option Value)}, HoldsAt m l → (∀ y, offNames y l → m y = m0 y) → m = updL m0 l := by
  intro l h1 h2
  funext y
  have key : ∀ l' : List (Str × Option Value), HoldsAt m l' → (offNames y l' → m y = m0 y) → m y = updL m0 l' y := by
    intro l'
    induction l' with
    | nil => intro _ h; exact h trivial
    | cons p r ih =>
      obtain ⟨x, a⟩ := p
      intro h h'
      show m y = if y = x then a else updL m0 r y
      by_cases e : y = x
      · rw [if_pos e, e]; exact h.1
      · rw [if_neg e]; exact ih h.2 fun q => h' ⟨e, q⟩
  exact key l h1 (h2 y)
theorem News.mid {h₀ h : Heap} {L : Addr} {x : Addr × Obj} {own l : Ledger} (N : News h₀ L h (x :: (own ++ l))) : News h₀ L h (x :: l) := fun p hp => by
  rcases List.mem_cons.mp hp with rfl | hp
  · exact N _ (.head _)
  · exact N _ (.tail _ (List.mem_append_right _ hp))
theorem News.rt {h₀ h : Heap} {L : Addr} {own l : Ledger} (N : News h₀ L h (own ++ l)) : News h₀ L h l := fun p hp => N _ (List.mem_append_right _ hp)
theorem comp_inv {prog : Program} {w : World} {A : Around} {h₀ : Heap} {L : Addr} {m : Str → Option Value} {env : Env} {elt : PySem.Expr} {x : Str} {scope : Scope} {cl : List (Str × Addr)} {s : Shared} {S : Ledger → Prop} {P : Nat → Value → Prop} {Fin : List Value → Ledger → Prop} {N : Nat} {news : Ledger}
    (J : Ledger → Nat → List Value → Ledger → Prop) (h0 : J news 0 [] news)
    (step : ∀ i ys news', i < N → J news i ys news' → ∀ v I oI C oC D m₂ h tk (E' : Value → Shared → Prop), P i v → LCg.NsObj oC m₂ → m₂ x = some v → Fr h₀ L h m → News h₀ L h ((I, oI) :: (C, oC) :: (D, LCg.lst ys) :: news') → LCg.Off3 I C D news' → ((@Ne Nat I C) ∧ (@Ne Nat I D) ∧ (@Ne Nat C D)) →
      wpAny (model prog w) A (eval elt (compEnvC scope cl C env)) (LCg.CompEnd h₀ L m { s with heap := h, toks := tk } I oI C oC D (LCg.lst ys) S fun y news'' => J news (i + 1) (ys ++ [y]) news'') E' { s with heap := h, toks := tk })
    (fin : ∀ ys news', J news N ys news' → Fin ys news') : LCg.CompRest prog w A h₀ L m env elt x scope cl s S P Fin N 0 [] news := by
  have all : ∀ k i ys news', k + i = N → J news i ys news' → LCg.CompRest prog w A h₀ L m env elt x scope cl s S P Fin k i ys news' := by
    intro k
    induction k with
    | zero => intro i ys news' e hJ; obtain rfl : i = N := by omega
              exact LCg.CompRest.zero (fin ys news' hJ)
    | succ k ih =>
      intro i ys news' e hJ
      refine LCg.CompRest.succ fun v I oI C oC D m₂ h tk E' hP hC hx F N' o d => wpAny_mono (step i ys news' (by omega) hJ v I oI C oC D m₂ h tk E' hP hC hx F N' o d) (fun y s' q => ?_) fun _ _ z => z
      have J79 := q; (try clear q); (obtain ⟨h', tk', news2, e1, F1, N1, o1, S1, r1⟩ := J79)
      exact ⟨h', tk', news2, e1, F1, N1, o1, S1, ih (i + 1) _ _ (by omega) r1⟩
  exact all N 0 [] news (by omega) h0
end
section
theorem allLt_ne {d : Addr} : ∀ {l : Ledger}, AllLt d l → ∀ p ∈ l, p.1 ≠ d
  | [], _, _, h => nomatch h
  | _ :: _, ⟨a, b⟩, p, h => by
    rcases List.mem_cons.mp h with rfl | h
    · exact Nat.ne_of_lt a
    · exact allLt_ne b p h
theorem mem_addrs {P : Params} {T : Tb} {x : Addr} (h : x ∈ T.addrs) : ∃ p ∈ tbObjs P T, p.1 = x := by
  rw [← tbObjs_keys P] at h
  obtain ⟨p, hp, e⟩ := List.mem_map.mp h
  exact ⟨p, hp, e⟩
theorem Own.add {P : Params} {T : Tb} {R : Ledger} {x : Addr} {o : Obj} (O : Own T R) (h : ∀ p ∈ tbObjs P T, p.1 ≠ x) : Own T ((x, o) :: R) :=
  ⟨O.nd, fun p hp => by
    rcases List.mem_cons.mp hp with rfl | hp
    · intro hx; obtain ⟨q, hq, e⟩ := mem_addrs (P := P) hx; exact h q hq e
    · exact O.off p hp⟩
theorem Own.sub {T : Tb} {R R' : Ledger} (O : Own T R) (h : ∀ p ∈ R', p ∈ R) : Own T R' := ⟨O.nd, fun p hp => O.off p (h p hp)⟩
/-- the table's node list laid anew -/
noncomputable def Tb.wNodes (T : Tb) (x : Addr) (k : Nat) (ns : List Nd) : Tb := { T with nl := x, nsN := k, ns := ns }
noncomputable def Tb.wArr (T : Tb) (x : Addr) (k : Nat) (es : List En) : Tb := { T with arr := x, esN := k, es := es }
noncomputable abbrev nlObj (ns : List Nd) (k : Nat) : Obj := listOf (ns.map fun n => Value.ref n.a).toArray k
noncomputable abbrev arObj (es : List En) (k : Nat) : Obj := listOf (es.map (·.v)).toArray k
/-- what a node list leaves behind -/
noncomputable def oldNodes (P : Params) (T : Tb) : Ledger := (T.nl, nlObj T.ns T.nsN) :: T.ns.flatMap (ndObjs P)
theorem addrs_eq (T : Tb) : T.addrs = T.a :: T.d :: T.arr :: T.nl :: adr T.ns := rfl
theorem keys_old (P : Params) (T : Tb) : (oldNodes P T).map (·.1) = T.nl :: adr T.ns := by
  unfold oldNodes; rw [List.map_cons, keys_flat]
section
variable {w : World} {A : Around} {E : Value → Shared → Prop} {s : Shared} {h₀ : Heap} {L a : Addr} {m : Str → Option Value} {Q : Unit → Shared → Prop} {T : Tb} {R : Ledger}
theorem Own.nodes {P : Params} {x : Addr} {k : Nat} {ns : List Nd} (O : Own T ((x, nlObj ns k) :: (ns.flatMap (ndObjs P) ++ R))) (hnd : (x :: adr ns).Nodup) (hR : ∀ p ∈ R, p.1 ∉ x :: adr ns) : Own (T.wNodes x k ns) (oldNodes P T ++ R) := by
  have hO := O.nd
  rw [addrs_eq] at hO
  have new : ∀ y ∈ x :: adr ns, y ∉ T.addrs := by
    intro y hy
    rcases List.mem_cons.mp hy with rfl | hy
    · exact O.off (y, _) (.head _)
    · rw [← keys_flat P] at hy
      obtain ⟨p, hp, rfl⟩ := List.mem_map.mp hy
      exact O.off p (.tail _ (List.mem_append_left _ hp))
  have three : ∀ y ∈ [T.a, T.d, T.arr], y ∉ T.nl :: adr T.ns := by
    simp only [List.nodup_cons, List.mem_cons, not_or] at hO
    intro y hy
    simp only [List.mem_cons, List.not_mem_nil, or_false] at hy
    simp only [List.mem_cons, not_or]
    rcases hy with rfl | rfl | rfl
    · exact ⟨hO.1.2.2.1, hO.1.2.2.2⟩
    · exact ⟨hO.2.1.2.1, hO.2.1.2.2⟩
    · exact ⟨hO.2.2.1.1, hO.2.2.1.2⟩
  have e : (T.wNodes x k ns).addrs = [T.a, T.d, T.arr] ++ (x :: adr ns) := rfl
  refine ⟨?_, ?_⟩
  · rw [e]
    refine List.nodup_append.mpr ⟨?_, hnd, ?_⟩
    · simp only [List.nodup_cons, List.mem_cons, not_or] at hO ⊢
      exact ⟨⟨hO.1.1, hO.1.2.1, fun h => nomatch h⟩, ⟨hO.2.1.1, fun h => nomatch h⟩, (fun h => nomatch h), List.nodup_nil⟩
    · intro y hy z hz ez
      subst ez
      refine new y hz ?_
      rw [addrs_eq]
      simp only [List.mem_cons, List.not_mem_nil, or_false] at hy ⊢
      rcases hy with h | h | h <;> simp [h]
  · intro p hp hm
    rw [e] at hm
    rcases List.mem_append.mp hp with hp | hp
    · have k1 : p.1 ∈ T.nl :: adr T.ns := by rw [← keys_old P]; exact List.mem_map_of_mem hp
      rcases List.mem_append.mp hm with hm | hm
      · exact three _ hm k1
      · exact new _ hm (by rw [addrs_eq]; exact .tail _ (.tail _ (.tail _ k1)))
    · rcases List.mem_append.mp hm with hm | hm
      · refine O.off p (.tail _ (List.mem_append_right _ hp)) ?_
        rw [addrs_eq]
        simp only [List.mem_cons, List.not_mem_nil, or_false] at hm ⊢
        rcases hm with h | h | h <;> simp [h]
      · exact hR p hp hm
theorem set_nodes {x : Addr} {k : Nat} {ns : List Nd} (F : Fr h₀ L s.heap m) (X : (Mine.h0.heap_1 w.params).In h₀) (N : News h₀ L s.heap (tbObjs w.params T ++ ((x, nlObj ns k) :: (ns.flatMap (ndObjs w.params) ++ R)))) (O : Own T ((x, nlObj ns k) :: (ns.flatMap (ndObjs w.params) ++ R))) (hnd : (x :: adr ns).Nodup) (hR : ∀ p ∈ R, p.1 ∉ x :: adr ns) (ha : T.a = a)
    (h : ∀ h', Fr h₀ L h' m → News h₀ L h' (tbObjs w.params (T.wNodes x k ns) ++ (oldNodes w.params T ++ R)) → Own (T.wNodes x k ns) (oldNodes w.params T ++ R) → Q () { s with heap := h', toks := s.toks + 2 }) : wpAny (model PG w) A (setAttr (.ref a) (Str.ofString "nodes") (.ref x)) Q E s := by
  subst ha
  refine set_dict F X N (InstAt.of_news N HasTab.left.inst HasTab.left.dict) rfl (by k_is) (by k_is) (by k_is) (by k_is) (by k_get) rfl (.tail O.a_ne_d (.head (O.d_rest w.params)) : Upd T.d (tbDict w.params T) (tbDict w.params (T.wNodes x k ns)) _ _) (Nat.le_of_ble_eq_true rfl) fun h' F' N' => h h' F' (News.sub N' fun p hp => ?_) (O.nodes hnd hR)
  rcases List.mem_append.mp hp with hp | hp
  · unfold tbObjs tbHead at hp
    rcases List.mem_append.mp hp with hp | hp
    · simp only [List.mem_cons, List.not_mem_nil, or_false] at hp
      rcases hp with rfl | rfl | rfl | rfl
      · exact .head _
      · exact .tail _ (.head _)
      · exact .tail _ (.tail _ (.head _))
      · exact .tail _ (.tail _ (.tail _ (.tail _ (List.mem_append_right _ (.head _)))))
    · exact .tail _ (.tail _ (.tail _ (.tail _ (List.mem_append_right _ (.tail _ (List.mem_append_left _ hp))))))
  · rcases List.mem_append.mp hp with hp | hp
    · rcases List.mem_cons.mp hp with rfl | hp
      · exact .tail _ (.tail _ (.tail _ (.head _)))
      · exact .tail _ (.tail _ (.tail _ (.tail _ (List.mem_append_left _ hp))))
    · exact .tail _ (.tail _ (.tail _ (.tail _ (List.mem_append_right _ (.tail _ (List.mem_append_right _ hp))))))
theorem Own.arr {x : Addr} {k : Nat} {es : List En} (O : Own T ((x, arObj es k) :: R)) (hR : ∀ p ∈ R, p.1 ≠ x) : Own (T.wArr x k es) ((T.arr, arObj T.es T.esN) :: R) := by
  have hO := O.nd
  have hx : x ∉ T.addrs := O.off (x, _) (.head _)
  rw [addrs_eq] at hO hx
  simp only [List.nodup_cons, List.mem_cons, not_or] at hO hx
  refine ⟨?_, ?_⟩
  · show (T.a :: T.d :: x :: T.nl :: adr T.ns).Nodup
    simp only [List.nodup_cons, List.mem_cons, not_or]
    exact ⟨⟨hO.1.1, Ne.symm hx.1, hO.1.2.2.1, hO.1.2.2.2⟩, ⟨Ne.symm hx.2.1, hO.2.1.2.1, hO.2.1.2.2⟩, ⟨hx.2.2.2.1, hx.2.2.2.2⟩, hO.2.2.2⟩
  · intro p hp hm
    have hm' : p.1 ∈ T.a :: T.d :: x :: T.nl :: adr T.ns := hm
    rcases List.mem_cons.mp hp with rfl | hp
    · simp only [List.mem_cons] at hm'
      rcases hm' with h | h | h | h | h
      · exact hO.1.2.1 h.symm
      · exact hO.2.1.1 h.symm
      · exact hx.2.2.1 h.symm
      · exact hO.2.2.1.1 h
      · exact hO.2.2.1.2 h
    · have := O.off p (.tail _ hp)
      rw [addrs_eq] at this
      simp only [List.mem_cons, not_or] at this hm'
      rcases hm' with h | h | h | h | h
      · exact this.1 h
      · exact this.2.1 h
      · exact hR p hp h
      · exact this.2.2.2.1 h
      · exact this.2.2.2.2 h
theorem set_array {x : Addr} {k : Nat} {es : List En} (F : Fr h₀ L s.heap m) (X : (Mine.h0.heap_1 w.params).In h₀) (N : News h₀ L s.heap (tbObjs w.params T ++ ((x, arObj es k) :: R))) (O : Own T ((x, arObj es k) :: R)) (hR : ∀ p ∈ R, p.1 ≠ x) (ha : T.a = a)
    (h : ∀ h', Fr h₀ L h' m → News h₀ L h' (tbObjs w.params (T.wArr x k es) ++ ((T.arr, arObj T.es T.esN) :: R)) → Own (T.wArr x k es) ((T.arr, arObj T.es T.esN) :: R) → Q () { s with heap := h', toks := s.toks + 2 }) : wpAny (model PG w) A (setAttr (.ref a) (Str.ofString "array") (.ref x)) Q E s := by
  subst ha
  refine set_dict F X N (InstAt.of_news N HasTab.left.inst HasTab.left.dict) rfl (by k_is) (by k_is) (by k_is) (by k_is) (by k_get) rfl (.tail O.a_ne_d (.head (O.d_rest w.params)) : Upd T.d (tbDict w.params T) (tbDict w.params (T.wArr x k es)) _ _) (Nat.le_of_ble_eq_true rfl) fun h' F' N' => h h' F' (News.sub N' fun p hp => ?_) (O.arr hR)
  rcases List.mem_append.mp hp with hp | hp
  · unfold tbObjs tbHead at hp
    rcases List.mem_append.mp hp with hp | hp
    · simp only [List.mem_cons, List.not_mem_nil, or_false] at hp
      rcases hp with rfl | rfl | rfl | rfl
      · exact .head _
      · exact .tail _ (.head _)
      · exact .tail _ (.tail _ (.tail _ (.tail _ (List.mem_append_right _ (.head _)))))
      · exact .tail _ (.tail _ (.tail _ (.head _)))
    · exact .tail _ (.tail _ (.tail _ (.tail _ (List.mem_append_left _ hp))))
  · rcases List.mem_cons.mp hp with rfl | hp
    · exact .tail _ (.tail _ (.head _))
    · exact .tail _ (.tail _ (.tail _ (.tail _ (List.mem_append_right _ (.tail _ hp)))))
end
end
section
/-- the names of a call's arguments, unreduced: a short term -/
theorem binds_zip {s : Shared} {fd : FuncData} {vs : List Value} (h : bindArgs fd ⟨vs, []⟩ = pure ((fd.params.args.map (·.arg)).zip vs)) : BindsTo s fd ⟨vs, []⟩ ((fd.params.args.map (·.arg)).zip vs) := BindsTo.of_eq h
theorem let_A {α : Type} {M : Model} {A : Around} {t : Sem α} {Q : α → Shared → Prop} {E : Value → Shared → Prop} {s : Shared} (h : let ak := A; wpAny M ak t Q E s) : wpAny M A t Q E s := h
theorem let_Q {α : Type} {M : Model} {A : Around} {t : Sem α} {Q : α → Shared → Prop} {E : Value → Shared → Prop} {s : Shared} (h : let qk := Q; wpAny M A t qk E s) : wpAny M A t Q E s := h
theorem let_m {g h : Heap} {L : Addr} {m : Str → Option Value} {P : Prop} (F : Fr g L h m) (k : let ml := m; Fr g L h ml → P) : P := k F
theorem storeX_M {M : Model} {A : Around} {E : Value → Shared → Prop} {s : Shared} {h₀ : Heap} {L a : Addr} {m : Str → Option Value} {cn : Str} {cs : Scope} {ccd : Value} {cl : List (Str × Addr)} {x : Str} {v : Value} {Q : Unit → Shared → Prop} {news : List (Addr × Obj)}
    (F : Fr h₀ L s.heap m) (N : News h₀ L s.heap news)
    (h : let ml := fun y => if y = x then some v else m y; ∀ h', Fr h₀ L h' ml → News h₀ L h' news → Q () { s with heap := h', toks := s.toks + 1 })
    (hk : cs.kind = .function) (hx : (envX cn cs L a ccd cl).kindOf x = some .local) : wpAny M A (storeName (envX cn cs L a ccd cl) x v) Q E s := storeX_L F N h hk hx
theorem room_step {dp D D' lim : Nat} (h : dp + D < lim) (hD : D' + 1 ≤ D) : dp + 1 + D' < lim := by omega
theorem unit_step {un D D' lim : Nat} (h : un + 8 * D < lim) (hD : D' + 1 ≤ D) : un + 3 + 8 * D' < lim := by omega
theorem room_sym {dp D a b lim : Nat} (h : dp + (D + b) < lim) (hD : Nat.ble (a + 1) b = true) : dp + 1 + (D + a) < lim := room_step h (by have := Nat.le_of_ble_eq_true hD; omega)
theorem room_low {dp D a b lim : Nat} (h : dp + (D + b) < lim) (hD : Nat.ble (a + 1) b = true) : dp + 1 + a < lim := room_step h (by have := Nat.le_of_ble_eq_true hD; omega)
theorem room_num {dp a b lim : Nat} (h : dp + b < lim) (hD : Nat.ble (a + 1) b = true) : dp + 1 + a < lim := room_step h (Nat.le_of_ble_eq_true hD)
theorem room_at {dp D lim : Nat} (h : dp + D < lim) : dp < lim := by omega
theorem unit_sym {un D a b lim : Nat} (h : un + 8 * (D + b) < lim) (hD : Nat.ble (a + 1) b = true) : un + 3 + 8 * (D + a) < lim := unit_step h (by have := Nat.le_of_ble_eq_true hD; omega)
theorem unit_low {un D a b lim : Nat} (h : un + 8 * (D + b) < lim) (hD : Nat.ble (a + 1) b = true) : un + 3 + 8 * a < lim := unit_step h (by have := Nat.le_of_ble_eq_true hD; omega)
theorem unit_num {un a b lim : Nat} (h : un + 8 * b < lim) (hD : Nat.ble (a + 1) b = true) : un + 3 + 8 * a < lim := unit_step h (Nat.le_of_ble_eq_true hD)
theorem le_mil {n : Nat} (h : n ≤ 64) : n ≤ 1000000 := Nat.le_trans h (by decide)
theorem nameX_N {M : Model} {A : Around} {E : Value → Shared → Prop} {h₀ : Heap} {L a : Addr} {m : Str → Option Value} {cn : Str} {cs : Scope} {ccd : Value} {cl : List (Str × Addr)} {s : Shared} {x : Str} {pos : Pos} {v : Value} {Q : Value → Shared → Prop}
    (F : Fr h₀ L s.heap m) (hv : m x = some v) (h : Q v s) (hk : cs.kind = .function) (hx : (envX cn cs L a ccd cl).kindOf x = some .local) (hd : (x == ("__debug__" : Str)) = false) :
    wpAny M A (eval (.Name x pos) (envX cn cs L a ccd cl)) Q E s := nameX_L F hv h hk hx hd
theorem ex_elim1 {α0 : Sort _} {p : α0 → Prop} {b : Prop} (h : ∃ (x0 : α0), p x0) (k : ∀ x0, p x0 → b) : b := by
  obtain ⟨x0, h⟩ := h; exact k x0 h
theorem ex_elim2 {α0 α1 : Sort _} {p : α0 → α1 → Prop} {b : Prop} (h : ∃ x0 x1, p x0 x1) (k : ∀ x0 x1, p x0 x1 → b) : b := by
  obtain ⟨x0, x1, h⟩ := h; exact k x0 x1 h
theorem ex_elim3 {α0 α1 α2 : Sort _} {p : α0 → α1 → α2 → Prop} {b : Prop} (h : ∃ x0 x1 x2, p x0 x1 x2) (k : ∀ x0 x1 x2, p x0 x1 x2 → b) : b := by
  obtain ⟨x0, x1, x2, h⟩ := h; exact k x0 x1 x2 h
theorem ex_elim4 {α0 α1 α2 α3 : Sort _} {p : α0 → α1 → α2 → α3 → Prop} {b : Prop} (h : ∃ x0 x1 x2 x3, p x0 x1 x2 x3) (k : ∀ x0 x1 x2 x3, p x0 x1 x2 x3 → b) : b := by
  obtain ⟨x0, x1, x2, x3, h⟩ := h; exact k x0 x1 x2 x3 h
theorem ex_elim5 {α0 α1 α2 α3 α4 : Sort _} {p : α0 → α1 → α2 → α3 → α4 → Prop} {b : Prop} (h : ∃ x0 x1 x2 x3 x4, p x0 x1 x2 x3 x4) (k : ∀ x0 x1 x2 x3 x4, p x0 x1 x2 x3 x4 → b) : b := by
  obtain ⟨x0, x1, x2, x3, x4, h⟩ := h; exact k x0 x1 x2 x3 x4 h
theorem ex_elim6 {α0 α1 α2 α3 α4 α5 : Sort _} {p : α0 → α1 → α2 → α3 → α4 → α5 → Prop} {b : Prop} (h : ∃ x0 x1 x2 x3 x4 x5, p x0 x1 x2 x3 x4 x5) (k : ∀ x0 x1 x2 x3 x4 x5, p x0 x1 x2 x3 x4 x5 → b) : b := by
  obtain ⟨x0, x1, x2, x3, x4, x5, h⟩ := h; exact k x0 x1 x2 x3 x4 x5 h
theorem ex_elim7 {α0 α1 α2 α3 α4 α5 α6 : Sort _} {p : α0 → α1 → α2 → α3 → α4 → α5 → α6 → Prop} {b : Prop} (h : ∃ x0 x1 x2 x3 x4 x5 x6, p x0 x1 x2 x3 x4 x5 x6) (k : ∀ x0 x1 x2 x3 x4 x5 x6, p x0 x1 x2 x3 x4 x5 x6 → b) : b := by
  obtain ⟨x0, x1, x2, x3, x4, x5, x6, h⟩ := h; exact k x0 x1 x2 x3 x4 x5 x6 h
theorem ex_elim8 {α0 α1 α2 α3 α4 α5 α6 α7 : Sort _} {p : α0 → α1 → α2 → α3 → α4 → α5 → α6 → α7 → Prop} {b : Prop} (h : ∃ x0 x1 x2 x3 x4 x5 x6 x7, p x0 x1 x2 x3 x4 x5 x6 x7) (k : ∀ x0 x1 x2 x3 x4 x5 x6 x7, p x0 x1 x2 x3 x4 x5 x6 x7 → b) : b := by
  obtain ⟨x0, x1, x2, x3, x4, x5, x6, x7, h⟩ := h; exact k x0 x1 x2 x3 x4 x5 x6 x7 h
theorem ex_elim9 {α0 α1 α2 α3 α4 α5 α6 α7 α8 : Sort _} {p : α0 → α1 → α2 → α3 → α4 → α5 → α6 → α7 → α8 → Prop} {b : Prop} (h : ∃ x0 x1 x2 x3 x4 x5 x6 x7 x8, p x0 x1 x2 x3 x4 x5 x6 x7 x8) (k : ∀ x0 x1 x2 x3 x4 x5 x6 x7 x8, p x0 x1 x2 x3 x4 x5 x6 x7 x8 → b) : b := by
  obtain ⟨x0, x1, x2, x3, x4, x5, x6, x7, x8, h⟩ := h; exact k x0 x1 x2 x3 x4 x5 x6 x7 x8 h
theorem ex_elim10 {α0 α1 α2 α3 α4 α5 α6 α7 α8 α9 : Sort _} {p : α0 → α1 → α2 → α3 → α4 → α5 → α6 → α7 → α8 → α9 → Prop} {b : Prop} (h : ∃ x0 x1 x2 x3 x4 x5 x6 x7 x8 x9, p x0 x1 x2 x3 x4 x5 x6 x7 x8 x9) (k : ∀ x0 x1 x2 x3 x4 x5 x6 x7 x8 x9, p x0 x1 x2 x3 x4 x5 x6 x7 x8 x9 → b) : b := by
  obtain ⟨x0, x1, x2, x3, x4, x5, x6, x7, x8, x9, h⟩ := h; exact k x0 x1 x2 x3 x4 x5 x6 x7 x8 x9 h
theorem ex_elim11 {α0 α1 α2 α3 α4 α5 α6 α7 α8 α9 α10 : Sort _} {p : α0 → α1 → α2 → α3 → α4 → α5 → α6 → α7 → α8 → α9 → α10 → Prop} {b : Prop} (h : ∃ x0 x1 x2 x3 x4 x5 x6 x7 x8 x9 x10, p x0 x1 x2 x3 x4 x5 x6 x7 x8 x9 x10) (k : ∀ x0 x1 x2 x3 x4 x5 x6 x7 x8 x9 x10, p x0 x1 x2 x3 x4 x5 x6 x7 x8 x9 x10 → b) : b := by
  obtain ⟨x0, x1, x2, x3, x4, x5, x6, x7, x8, x9, x10, h⟩ := h; exact k x0 x1 x2 x3 x4 x5 x6 x7 x8 x9 x10 h
theorem ex_elim12 {α0 α1 α2 α3 α4 α5 α6 α7 α8 α9 α10 α11 : Sort _} {p : α0 → α1 → α2 → α3 → α4 → α5 → α6 → α7 → α8 → α9 → α10 → α11 → Prop} {b : Prop} (h : ∃ x0 x1 x2 x3 x4 x5 x6 x7 x8 x9 x10 x11, p x0 x1 x2 x3 x4 x5 x6 x7 x8 x9 x10 x11) (k : ∀ x0 x1 x2 x3 x4 x5 x6 x7 x8 x9 x10 x11, p x0 x1 x2 x3 x4 x5 x6 x7 x8 x9 x10 x11 → b) : b := by
  obtain ⟨x0, x1, x2, x3, x4, x5, x6, x7, x8, x9, x10, x11, h⟩ := h; exact k x0 x1 x2 x3 x4 x5 x6 x7 x8 x9 x10 x11 h
theorem and_elim2 {A0 A1 b : Prop} (h : A0 ∧ A1) (k : A0 → A1 → b) : b := by
  obtain ⟨h0, h1⟩ := h; exact k h0 h1
theorem and_elim3 {A0 A1 A2 b : Prop} (h : A0 ∧ A1 ∧ A2) (k : A0 → A1 → A2 → b) : b := by
  obtain ⟨h0, h1, h2⟩ := h; exact k h0 h1 h2
theorem and_elim4 {A0 A1 A2 A3 b : Prop} (h : A0 ∧ A1 ∧ A2 ∧ A3) (k : A0 → A1 → A2 → A3 → b) : b := by
  obtain ⟨h0, h1, h2, h3⟩ := h; exact k h0 h1 h2 h3
theorem and_elim5 {A0 A1 A2 A3 A4 b : Prop} (h : A0 ∧ A1 ∧ A2 ∧ A3 ∧ A4) (k : A0 → A1 → A2 → A3 → A4 → b) : b := by
  obtain ⟨h0, h1, h2, h3, h4⟩ := h; exact k h0 h1 h2 h3 h4
theorem and_elim6 {A0 A1 A2 A3 A4 A5 b : Prop} (h : A0 ∧ A1 ∧ A2 ∧ A3 ∧ A4 ∧ A5) (k : A0 → A1 → A2 → A3 → A4 → A5 → b) : b := by
  obtain ⟨h0, h1, h2, h3, h4, h5⟩ := h; exact k h0 h1 h2 h3 h4 h5
theorem and_elim7 {A0 A1 A2 A3 A4 A5 A6 b : Prop} (h : A0 ∧ A1 ∧ A2 ∧ A3 ∧ A4 ∧ A5 ∧ A6) (k : A0 → A1 → A2 → A3 → A4 → A5 → A6 → b) : b := by
  obtain ⟨h0, h1, h2, h3, h4, h5, h6⟩ := h; exact k h0 h1 h2 h3 h4 h5 h6
theorem and_elim8 {A0 A1 A2 A3 A4 A5 A6 A7 b : Prop} (h : A0 ∧ A1 ∧ A2 ∧ A3 ∧ A4 ∧ A5 ∧ A6 ∧ A7) (k : A0 → A1 → A2 → A3 → A4 → A5 → A6 → A7 → b) : b := by
  obtain ⟨h0, h1, h2, h3, h4, h5, h6, h7⟩ := h; exact k h0 h1 h2 h3 h4 h5 h6 h7
theorem and_elim9 {A0 A1 A2 A3 A4 A5 A6 A7 A8 b : Prop} (h : A0 ∧ A1 ∧ A2 ∧ A3 ∧ A4 ∧ A5 ∧ A6 ∧ A7 ∧ A8) (k : A0 → A1 → A2 → A3 → A4 → A5 → A6 → A7 → A8 → b) : b := by
  obtain ⟨h0, h1, h2, h3, h4, h5, h6, h7, h8⟩ := h; exact k h0 h1 h2 h3 h4 h5 h6 h7 h8
theorem and_elim10 {A0 A1 A2 A3 A4 A5 A6 A7 A8 A9 b : Prop} (h : A0 ∧ A1 ∧ A2 ∧ A3 ∧ A4 ∧ A5 ∧ A6 ∧ A7 ∧ A8 ∧ A9) (k : A0 → A1 → A2 → A3 → A4 → A5 → A6 → A7 → A8 → A9 → b) : b := by
  obtain ⟨h0, h1, h2, h3, h4, h5, h6, h7, h8, h9⟩ := h; exact k h0 h1 h2 h3 h4 h5 h6 h7 h8 h9
theorem and_elim11 {A0 A1 A2 A3 A4 A5 A6 A7 A8 A9 A10 b : Prop} (h : A0 ∧ A1 ∧ A2 ∧ A3 ∧ A4 ∧ A5 ∧ A6 ∧ A7 ∧ A8 ∧ A9 ∧ A10) (k : A0 → A1 → A2 → A3 → A4 → A5 → A6 → A7 → A8 → A9 → A10 → b) : b := by
  obtain ⟨h0, h1, h2, h3, h4, h5, h6, h7, h8, h9, h10⟩ := h; exact k h0 h1 h2 h3 h4 h5 h6 h7 h8 h9 h10
theorem and_elim12 {A0 A1 A2 A3 A4 A5 A6 A7 A8 A9 A10 A11 b : Prop} (h : A0 ∧ A1 ∧ A2 ∧ A3 ∧ A4 ∧ A5 ∧ A6 ∧ A7 ∧ A8 ∧ A9 ∧ A10 ∧ A11) (k : A0 → A1 → A2 → A3 → A4 → A5 → A6 → A7 → A8 → A9 → A10 → A11 → b) : b := by
  obtain ⟨h0, h1, h2, h3, h4, h5, h6, h7, h8, h9, h10, h11⟩ := h; exact k h0 h1 h2 h3 h4 h5 h6 h7 h8 h9 h10 h11
theorem off_if {c : Prop} [Decidable c] {a b r : Option Value} (h : ¬ c) (k : b = r) : (if c then a else b) = r := (if_neg h).trans k
theorem updL_off {m0 : Str → Option Value} {y : Str} : ∀ {l : List (Str × Option Value)}, offNames y l → updL m0 l y = m0 y
  | [], _ => rfl
  | (_, _) :: _, h => (if_neg h.1).trans (updL_off h.2)
theorem let_R {M : Model} {A : Around} {c : Code} {R : Result → Shared → Prop} {s : Shared} (h : let rk := R; codeAny M A c rk s) : codeAny M A c R s := h
end
section
/- Short steps for the walk: named continuations in place of written ones, one lemma for steps that go together, states and contexts let-bound. -/
/-- what is fixed of a function's frame -/
structure Fc where
  q : Str
  sc : Scope
  f : Addr
  cd : Value
  cl : Addr → List (Str × Addr)
@[reducible] def Fc.env (c : Fc) (L : Addr) : Env := envX c.q c.sc L c.f c.cd (c.cl L)
@[reducible] def noCl (_ : Addr) : List (Str × Addr) := []
@[reducible] def scCl (sc : Scope) (L : Addr) : List (Str × Addr) := cellsFrom (L + 1) sc.names []
/-- what a function's body ends with -/
noncomputable def RetQ (R : Value → Shared → Prop) (fl : Flow) (s : Shared) : Prop := R (match fl with | .ret v => v | _ => .none) s
theorem ret_at {R : Value → Shared → Prop} {v : Value} {s : Shared} (h : R v s) : RetQ R (.ret v) s := h
theorem next_at {R : Value → Shared → Prop} {s : Shared} (h : R .none s) : RetQ R .next s := h
noncomputable abbrev Hret (h₀ : Heap) (L : Addr) (Post : Value → Ledger → Prop) (R : Value → Shared → Prop) (s : Shared) : Prop :=
  ∀ r Λ' h' tk' {m'}, Fr h₀ L h' m' → News h₀ L h' Λ' → Post r Λ' → R r { s with heap := h', toks := tk' }
/-- the room below a frame -/
structure Rm (dp un D : Nat) : Prop where
  d : dp + D < recursionLimit
  u : un + 8 * D < cLine
noncomputable abbrev fcA (c : Fc) (dp un : Nat) (gd : Option (List Code)) (L : Addr) (outer : List Env) : Around := ktrTop (dp + 1) (un + 3) gd c.q c.sc L c.f c.cd (c.cl L) outer
theorem rm_lit {a b : Nat} (h : Nat.ble (a + 1) b = true) : a + 1 ≤ b := Nat.le_of_ble_eq_true h
theorem rm_low {D a b : Nat} (h : Nat.ble (a + 1) b = true) : a + 1 ≤ D + b := Nat.le_trans (Nat.le_of_ble_eq_true h) (Nat.le_add_left _ _)
theorem rm_sym {D a b : Nat} (h : Nat.ble (a + 1) b = true) : D + a + 1 ≤ D + b := Nat.add_le_add_left (Nat.le_of_ble_eq_true h) D
noncomputable abbrev NoE : Value → Shared → Prop := fun _ _ => False
theorem Runs.enter {w : World} {f : Addr} {args : List Value} {Λ : Ledger} {D : Nat} {Post : Value → Ledger → Prop}
    {name qual : Str} {params : Arguments} {body : List Stmt} {scope : Scope} {dV kV doc pm cdv ct oc : Value} {an od : Option Addr} {osl : Array (Option Value)} {binds : List (Str × Value)}
    (ho : (Mine.h0.heap_1 w.params).lookup f = some ⟨oc, od, .func (fnOf name qual params body scope dV kV doc pm an cdv ct), osl⟩) (hcd : codeIn (Mine.h0.heap_1 w.params) cdv qual = true)
    (hbind : ∀ s : Shared, (Mine.h0.heap_1 w.params).In s.heap → BindsTo s (fnOf name qual params body scope dV kV doc pm an cdv ct) ⟨args, []⟩ binds)
    (hloc : ∀ y ∈ binds, scope.names.lookup y.1 = some .local) (hco : scope.isCoroutine = false) (hgen : scope.isGenerator = false) (hk : scope.kind = .function) (hcell : ∀ x ∈ scope.names, x.2 ≠ .cell)
    (h : ∀ (dp un : Nat) (mg mb : Str → Option Value) (mean : ExcName → Option Value) (gd : Option (List Code)) (outer : List Env) (A₀ : Around) (base h₀ : Heap) (L : Addr) (s : Shared) (Q : Value → Shared → Prop),
      let ml := fun y => binds.reverse.lookup y
      let ak := fcA ⟨qual, scope, f, cdv, noCl⟩ dp un gd L outer
      Below A₀ base outer h₀ → Fr h₀ L s.heap ml → (Mine.h0.heap_1 w.params).In h₀ → News h₀ L s.heap Λ → Top Mine.vw LO mean mg mb h₀ → Rm dp un D → Hret h₀ L Post Q s →
      wpAny (model PG w) ak (execs body (Fc.env ⟨qual, scope, f, cdv, noCl⟩ L)) (RetQ Q) NoE s) : Runs w f args Λ D Post := by
  intro mg mb mean dp un gd cn cs a ccd cl outer A₀ base h₀ L m s Q E B F X N T0 hk' hd hu hret
  refine wpAny_call ?_
  refine let_R ?_; intro rk
  refine code_def (R := rk) B F X N T0 rfl rfl hk' ho hcd (room_at hd) (hbind s (X.keeps F.keep)) hloc ?_ hco hgen hk hcell
  intro g L' h₁ FG F' N' B' X' T'
  refine wpAny_mono (h dp un mg mb mean gd _ _ _ g L' _ (fun v s' => LeaveK h₀ L m g rk v s') B' F' X' N' T' ⟨hd, hu⟩ ?_) (fun fl s' q => q) fun e s' q => q.elim
  exact fun r Λ' h' tk' m' FF NN P => ⟨L', m', Λ', FF, NN, fun F3 N3 => hret _ _ _ _ F3 N3 P⟩
theorem Runs.enterC {w : World} {f : Addr} {args : List Value} {Λ : Ledger} {D : Nat} {Post : Value → Ledger → Prop}
    {name qual : Str} {params : Arguments} {body : List Stmt} {scope : Scope} {dV kV doc pm cdv ct oc : Value} {an od : Option Addr} {osl : Array (Option Value)} {binds : List (Str × Value)}
    (ho : (Mine.h0.heap_1 w.params).lookup f = some ⟨oc, od, .func (fnOf name qual params body scope dV kV doc pm an cdv ct), osl⟩) (hcd : codeIn (Mine.h0.heap_1 w.params) cdv qual = true)
    (hbind : ∀ s : Shared, (Mine.h0.heap_1 w.params).In s.heap → BindsTo s (fnOf name qual params body scope dV kV doc pm an cdv ct) ⟨args, []⟩ binds)
    (hkind : (binds.all fun y => scope.names.lookup y.1 == some .local || scope.names.lookup y.1 == some .cell) = true) (hnd : ((cellsFrom 0 scope.names []).map (·.1)).Nodup) (hco : scope.isCoroutine = false) (hgen : scope.isGenerator = false) (hk : scope.kind = .function)
    (h : ∀ (dp un : Nat) (mg mb : Str → Option Value) (mean : ExcName → Option Value) (gd : Option (List Code)) (outer : List Env) (A₀ : Around) (base h₀ : Heap) (L : Addr) (s : Shared) (Q : Value → Shared → Prop) (cells : List (Addr × Obj)),
      let ml := bindL (envOfC qual scope L f cdv).kindOf binds fun _ => none
      let ak := fcA ⟨qual, scope, f, cdv, scCl scope⟩ dp un gd L outer
      Below A₀ base outer h₀ → Fr h₀ L s.heap ml → (Mine.h0.heap_1 w.params).In h₀ → News h₀ L s.heap (cells ++ Λ) → CellsAre (bindC (envOfC qual scope L f cdv).kindOf binds fun _ => none) (cellsFrom (L + 1) scope.names []) cells →
      Top Mine.vw LO mean mg mb h₀ → (∀ p ∈ Λ, p.1 < L) → Rm dp un D → Hret h₀ L Post Q s →
      wpAny (model PG w) ak (execs body (Fc.env ⟨qual, scope, f, cdv, scCl scope⟩ L)) (RetQ Q) NoE s) : Runs w f args Λ D Post := by
  intro mg mb mean dp un gd cn cs a ccd cl outer A₀ base h₀ L m s Q E B F X N T0 hk' hd hu hret
  refine wpAny_call ?_
  refine let_R ?_; intro rk
  refine code_defC (R := rk) B F X N T0 rfl rfl hk' ho hcd (room_at hd) (hbind s (X.keeps F.keep)) hkind hnd ?_ hco hgen hk
  intro g L' h₁ tk cells FG F' N' Y' B' X' T' lc
  refine wpAny_mono (h dp un mg mb mean gd _ _ _ g L' _ (fun v s' => LeaveK h₀ L m g rk v s') cells B' F' X' N' Y' T' lc ⟨hd, hu⟩ ?_) (fun fl s' q => q) fun e s' q => q.elim
  exact fun r Λ' h' tk' m' FF NN P => ⟨L', m', Λ', FF, NN, fun F3 N3 => hret _ _ _ _ F3 N3 P⟩
section
variable {M : Model} {A : Around} {env : Env} {E : Value → Shared → Prop}
noncomputable abbrev SeqQ (M : Model) (A : Around) (rest : List Stmt) (env : Env) (Q : Flow → Shared → Prop) (E : Value → Shared → Prop) : Flow → Shared → Prop := fun f s' => match f with | .next => wpAny M A (execs rest env) Q E s' | f => Q f s'
theorem execs_seq {st st' : Stmt} {rest : List Stmt} {Q : Flow → Shared → Prop} {s : Shared} (h : let qk := SeqQ M A (st' :: rest) env Q E; let sk := s; wpAny M A (exec st env) qk E sk) : wpAny M A (execs (st :: st' :: rest) env) Q E s := wpAny_execs_cons h
theorem execs_last {st : Stmt} {Q : Flow → Shared → Prop} {s : Shared} (h : let sk := s; wpAny M A (exec st env) Q E sk) : wpAny M A (execs [st] env) Q E s :=
  wpAny_execs_cons (wpAny_mono h (fun f s' q => by cases f <;> first | exact q | exact wpAny_execs_nil q) fun _ _ q => q)
noncomputable abbrev IfQ (M : Model) (A : Around) (body orelse : List Stmt) (env : Env) (Q : Flow → Shared → Prop) (E : Value → Shared → Prop) : Bool → Shared → Prop := fun b s₂ => if b then wpAny M A (execs body env) Q E s₂ else wpAny M A (execs orelse env) Q E s₂
theorem exec_if {test : Expr} {body orelse : List Stmt} {pos : Pos} {Q : Flow → Shared → Prop} {s : Shared} (h : wpAny M A (isTrue test env (eval test env)) (IfQ M A body orelse env Q E) E s) : wpAny M A (exec (.If test body orelse pos) env) Q E s := wpAny_If h
theorem iq_true {body orelse : List Stmt} {Q : Flow → Shared → Prop} {s : Shared} (h : wpAny M A (execs body env) Q E s) : IfQ M A body orelse env Q E true s := h
theorem iq_skip {body : List Stmt} {Q : Flow → Shared → Prop} {s : Shared} (h : Q .next s) : IfQ M A body [] env Q E false s := wpAny_execs_nil h
theorem iq_false {body orelse : List Stmt} {Q : Flow → Shared → Prop} {s : Shared} (h : wpAny M A (execs orelse env) Q E s) : IfQ M A body orelse env Q E false s := h
theorem iq_yes {body orelse : List Stmt} {Q : Flow → Shared → Prop} {b : Bool} {s : Shared} (hb : b = true) (h : wpAny M A (execs body env) Q E s) : IfQ M A body orelse env Q E b s := by subst hb; exact h
theorem iq_no {body orelse : List Stmt} {Q : Flow → Shared → Prop} {b : Bool} {s : Shared} (hb : ¬ b = true) (h : wpAny M A (execs orelse env) Q E s) : IfQ M A body orelse env Q E b s := by
  obtain rfl := Bool.eq_false_iff.mpr hb; exact h
theorem iq_not {body orelse : List Stmt} {Q : Flow → Shared → Prop} {b : Bool} {s : Shared} (hb : b = false) (h : wpAny M A (execs orelse env) Q E s) : IfQ M A body orelse env Q E b s := by subst hb; exact h
theorem iq_nos {body : List Stmt} {Q : Flow → Shared → Prop} {b : Bool} {s : Shared} (hb : ¬ b = true) (h : Q .next s) : IfQ M A body [] env Q E b s := iq_no hb (wpAny_execs_nil h)
theorem iq_nots {body : List Stmt} {Q : Flow → Shared → Prop} {b : Bool} {s : Shared} (hb : b = false) (h : Q .next s) : IfQ M A body [] env Q E b s := iq_not hb (wpAny_execs_nil h)
noncomputable abbrev TrQ (M : Model) (A : Around) (Q : Bool → Shared → Prop) (E : Value → Shared → Prop) : Value → Shared → Prop := fun c s => wpAny M A (truthy c) Q E s
theorem tr_bool {b : Bool} {Q : Bool → Shared → Prop} {s : Shared} (h : Q b s) : TrQ M A Q E (.bool b) s := wpAny_truthy_bool h
noncomputable abbrev Cmp2 (M : Model) (A : Around) (op : CmpOp) (a : Value) (Q : Bool → Shared → Prop) (E : Value → Shared → Prop) : Value → Shared → Prop := fun b s₂ => wpAny M A (compareOp op a b) (TrQ M A Q E) E s₂
noncomputable abbrev Cmp1 (M : Model) (A : Around) (op : CmpOp) (r : Expr) (env : Env) (Q : Bool → Shared → Prop) (E : Value → Shared → Prop) : Value → Shared → Prop := fun a s₁ => wpAny M A (eval r env) (Cmp2 M A op a Q E) E s₁
theorem test_cmp {l : Expr} {op : CmpOp} {r : Expr} {pos : Pos} {whole : Sem Value} (hm : behindInMarks op r = false) {Q : Bool → Shared → Prop} {s : Shared} (h : wpAny M A (eval l env) (Cmp1 M A op r env Q E) E s) :
    wpAny M A (isTrue (.Compare l [op] [r] pos) env whole) Q E s := wpAny_isTrue_Compare1 h hm
theorem test_plain {e : Expr} {whole : Sem Value} {Q : Bool → Shared → Prop} {s : Shared} (h : wpAny M A whole (TrQ M A Q E) E s) (he : isTrue e env whole = (do let v ← whole; standAt e.pos; holding [v] (truthy v))) : wpAny M A (isTrue e env whole) Q E s := isTrue_plain h he
noncomputable abbrev Bin2 (M : Model) (A : Around) (op : Operator) (a : Value) (Q : Value → Shared → Prop) (E : Value → Shared → Prop) : Value → Shared → Prop := fun b s₂ => wpAny M A (binaryOp op a b) Q E s₂
noncomputable abbrev Bin1 (M : Model) (A : Around) (op : Operator) (r : Expr) (env : Env) (Q : Value → Shared → Prop) (E : Value → Shared → Prop) : Value → Shared → Prop := fun a s₁ => wpAny M A (eval r env) (Bin2 M A op a Q E) E s₁
theorem eval_bin {l : Expr} {op : Operator} {r : Expr} {pos : Pos} {Q : Value → Shared → Prop} {s : Shared} (h : wpAny M A (eval l env) (Bin1 M A op r env Q E) E s) : wpAny M A (eval (.BinOp l op r pos) env) Q E s := wpAny_BinOp h
noncomputable abbrev AsgQ (M : Model) (A : Around) (env : Env) (x : Str) (Q : Flow → Shared → Prop) (E : Value → Shared → Prop) : Value → Shared → Prop := fun v s₁ => wpAny M A (storeName env x v) (fun _ => Q .next) E s₁
theorem exec_asg {x : Str} {pos' : Pos} {value : Expr} {pos : Pos} {Q : Flow → Shared → Prop} {s : Shared} (h : wpAny M A (eval value env) (AsgQ M A env x Q E) E s) (hs : swapsWith value (some (.Name x pos')) pos.line env = pure false) :
    wpAny M A (exec (.Assign [.Name x pos'] value pos) env) Q E s := wpAny_Assign_Name h hs
noncomputable def unstarred : Expr → Bool
  | .Starred .. => false
  | _ => true
theorem star_cons {e : Expr} (h : unstarred e = true) {rest : List Expr} {env : Env} : starEach (e :: rest) env = (false, eval e env) :: starEach rest env := by
  cases e <;> first | rfl | exact absurd h Bool.false_ne_true
noncomputable abbrev ConsQ (v : Value) (Q : List Value → Shared → Prop) : List Value → Shared → Prop := fun vs s₂ => Q (v :: vs) s₂
noncomputable abbrev ArgQ (M : Model) (A : Around) (rest : List Expr) (pos : Pos) (env : Env) (Q : List Value → Shared → Prop) (E : Value → Shared → Prop) : Value → Shared → Prop := fun v s₁ => wpAny M A (spliced (backTo pos (starEach rest env))) (ConsQ v Q) E s₁
theorem arg_more {e : Expr} {rest : List Expr} {pos : Pos} {Q : List Value → Shared → Prop} {s : Shared} (h : wpAny M A (eval e env) (ArgQ M A rest pos env Q E) E s) (he : unstarred e = true) :
    wpAny M A (spliced (backTo pos (starEach (e :: rest) env))) Q E s := spliced_more h (star_cons he)
noncomputable abbrev CwQ (M : Model) (A : Around) (args : List Expr) (pos : Pos) (env : Env) (Q : Value → Shared → Prop) (E : Value → Shared → Prop) : Value → Shared → Prop := fun f s₁ => wpAny M A (callWith pos f [] (backTo pos (starEach args env)) []) Q E s₁
theorem eval_call {func : Expr} {args : List Expr} {pos : Pos} {Q : Value → Shared → Prop} {s : Shared} (h : wpAny M A (eval func env) (CwQ M A args pos env Q E) E s)
    (he : eval (.Call func args [] pos) env = (do callWith pos (← eval func env) [] (backTo pos (starEach args env)) (backToKw pos (keywordEach [] env)))) : wpAny M A (eval (.Call func args [] pos) env) Q E s := Call_ h he
end
theorem fold_Q {α : Type} {M : Model} {A : Around} {t : Sem α} {Q : α → Shared → Prop} {E : Value → Shared → Prop} {s : Shared} (h : let qk := Q; let sk := s; wpAny M A t qk E sk) : wpAny M A t Q E s := h
/-- a state one token on -/
noncomputable abbrev tick (s : Shared) : Shared := { s with toks := s.toks + 1 }
section
variable {M : Model} {A : Around} {env : Env} {E : Value → Shared → Prop} {s : Shared} {Q : Value → Shared → Prop}
theorem const_int {i : Int} {k : Nat} {pos : Pos} (h : Q (.int i s.toks) (tick s)) : wpAny M A (eval (.Constant (.int i) k pos) env) Q E s := wpAny_Constant_int h
end
/-- a name is local to the function -/
noncomputable abbrev isL (c : Fc) (x : Str) : Bool := c.sc.kind == .function && c.sc.names.lookup x == some .local && !(x == ("__debug__" : Str))
noncomputable abbrev isG (c : Fc) (x : Str) : Bool := c.sc.kind == .function && c.sc.names.lookup x == some .globalImplicit && !(x == ("__debug__" : Str))
section
variable {c : Fc} {M : Model} {A : Around} {E : Value → Shared → Prop} {h₀ : Heap} {L : Addr} {m : Str → Option Value} {s : Shared}
theorem isL_of {x : Str} (h : isL c x = true) : c.sc.kind = .function ∧ (c.env L).kindOf x = some .local ∧ (x == ("__debug__" : Str)) = false := by
  unfold isL at h
  simp only [Bool.and_eq_true, beq_iff_eq, Bool.not_eq_true', beq_eq_false_iff_ne, ne_eq] at h
  exact ⟨h.1.1, h.1.2, by simpa using h.2⟩
theorem isG_of {x : Str} (h : isG c x = true) : c.sc.kind = .function ∧ (c.env L).kindOf x = some .globalImplicit ∧ (x == ("__debug__" : Str)) = false := by
  unfold isG at h
  simp only [Bool.and_eq_true, beq_iff_eq, Bool.not_eq_true', beq_eq_false_iff_ne, ne_eq] at h
  exact ⟨h.1.1, h.1.2, by simpa using h.2⟩
/-- a local name -/
theorem name_l (F : Fr h₀ L s.heap m) {x : Str} {pos : Pos} (hx : isL c x = true) {v : Value} {Q : Value → Shared → Prop} (hv : m x = some v) (h : Q v s) : wpAny M A (eval (.Name x pos) (c.env L)) Q E s :=
  nameX_L (cl := c.cl L) F hv h (isL_of (L := L) hx).1 (isL_of (L := L) hx).2.1 (isL_of (L := L) hx).2.2
/-- an attribute of a local name -/
theorem attr_l (F : Fr h₀ L s.heap m) {x attr : Str} {np pos : Pos} (hx : isL c x = true) {v : Value} {Q : Value → Shared → Prop} (hv : m x = some v) (h : wpAny M A (getAttr v attr true) Q E s) : wpAny M A (eval (.Attribute (.Name x np) attr pos) (c.env L)) Q E s :=
  Attribute_name (name_l F hx hv h)
/-- an argument that is a local name -/
theorem arg_l (F : Fr h₀ L s.heap m) {x : Str} {np pos : Pos} {rest : List Expr} (hx : isL c x = true) {v : Value} {Q : List Value → Shared → Prop} (hv : m x = some v) (h : wpAny M A (spliced (backTo pos (starEach rest (c.env L)))) (ConsQ v Q) E s) :
    wpAny M A (spliced (backTo pos (starEach (.Name x np :: rest) (c.env L)))) Q E s := spliced_more (name_l F hx hv h) rfl
/-- a local name is set -/
theorem store_l {Λ : Ledger} (F : Fr h₀ L s.heap m) (N : News h₀ L s.heap Λ) {x : Str} (hx : isL c x = true) {v : Value} {Q : Flow → Shared → Prop}
    (h : let ml := fun y => if y = x then some v else m y; ∀ h', Fr h₀ L h' ml → News h₀ L h' Λ → Q .next { s with heap := h', toks := s.toks + 1 }) : AsgQ M A (c.env L) x Q E v s :=
  storeX_L (cl := c.cl L) F N h (isL_of (L := L) hx).1 (isL_of (L := L) hx).2.1
variable {w : World} {mean : ExcName → Option Value} {mg mb : Str → Option Value}
/-- a name of the module -/
theorem name_g (F : Fr h₀ L s.heap m) (X : (Mine.h0.heap_1 w.params).In h₀) (T : Top Mine.vw LO mean mg mb h₀) {x : Str} {pos : Pos} (hx : isG c x = true) {v : Value} {Q : Value → Shared → Prop} (e : nsIn (Mine.h0.heap_1 w.params) mainGlobals x = some (some v)) (h : Q v s) :
    wpAny M A (eval (.Name x pos) (c.env L)) Q E s := nameX_K (cl := c.cl L) F X (topRead_of T) e h (isG_of (L := L) hx).1 (isG_of (L := L) hx).2.1 (isG_of (L := L) hx).2.2
/-- a built-in name -/
theorem name_b (F : Fr h₀ L s.heap m) (X : (Mine.h0.heap_1 w.params).In h₀) (T : Top Mine.vw LO mean mg mb h₀) {x : Str} {pos : Pos} (hx : isG c x = true) (hn : (x == ("__name__" : Str)) = false) {v : Value} {Q : Value → Shared → Prop} (e : nsIn (Mine.h0.heap_1 w.params) mainGlobals x = some none) (hv : bootBuiltins x = some v) (h : Q v s) :
    wpAny M A (eval (.Name x pos) (c.env L)) Q E s := nameX_B (cl := c.cl L) F X (topRead_of T) e hv (by simpa using hn) h (isG_of (L := L) hx).1 (isG_of (L := L) hx).2.1 (isG_of (L := L) hx).2.2
end
section
variable {w : World} {f : Addr} {args : List Value} {Λ : Ledger} {D : Nat}
/-- a call of a function with a contract, out of a frame that is written by its Fc -/
theorem useG {Post : Value → Ledger → Prop} (H : Runs w f args Λ D Post) {c : Fc} {dp un D0 : Nat} {gd : Option (List Code)} {L : Addr} {outer : List Env} {mg mb : Str → Option Value} {mean : ExcName → Option Value} {A₀ : Around} {base h₀ : Heap} {m : Str → Option Value} {s : Shared}
    (B : Below A₀ base outer h₀) (F : Fr h₀ L s.heap m) (X : (Mine.h0.heap_1 w.params).In h₀) (N : News h₀ L s.heap Λ) (T : Top Mine.vw LO mean mg mb h₀) (R : Rm dp un D0) (hD : D + 1 ≤ D0) (hk : c.sc.kind = .function) {Q : Value → Shared → Prop}
    (ret : ∀ r Λ' h' tk', Fr h₀ L h' m → News h₀ L h' Λ' → Post r Λ' → Q r { s with heap := h', toks := tk' }) :
    wpAny (model PG w) (fcA c dp un gd L outer) (call (.ref f) args) Q NoE s :=
  H _ _ _ (dp + 1) (un + 3) _ _ _ _ _ _ _ _ _ _ _ _ _ _ _ B F X N T hk (by have := R.d; omega) (by have := R.u; omega) ret
/-- .. that leaves the ledger as it is -/
theorem useK {P : Value → Prop} (H : Runs w f args Λ D fun r Λ' => Λ = Λ' ∧ P r) {c : Fc} {dp un D0 : Nat} {gd : Option (List Code)} {L : Addr} {outer : List Env} {mg mb : Str → Option Value} {mean : ExcName → Option Value} {A₀ : Around} {base h₀ : Heap} {m : Str → Option Value} {s : Shared}
    (B : Below A₀ base outer h₀) (F : Fr h₀ L s.heap m) (X : (Mine.h0.heap_1 w.params).In h₀) (N : News h₀ L s.heap Λ) (T : Top Mine.vw LO mean mg mb h₀) (R : Rm dp un D0) (hD : D + 1 ≤ D0) (hk : c.sc.kind = .function) {Q : Value → Shared → Prop}
    (ret : ∀ r h' tk', Fr h₀ L h' m → News h₀ L h' Λ → P r → Q r { s with heap := h', toks := tk' }) :
    wpAny (model PG w) (fcA c dp un gd L outer) (call (.ref f) args) Q NoE s :=
  useG H B F X N T R hD hk fun r Λ' h' tk' F' N' p => ret r h' tk' F' (p.1 ▸ N') p.2
/-- .. and gives v -/
theorem useV {v : Value} (H : Runs w f args Λ D fun r Λ' => Λ = Λ' ∧ r = v) {c : Fc} {dp un D0 : Nat} {gd : Option (List Code)} {L : Addr} {outer : List Env} {mg mb : Str → Option Value} {mean : ExcName → Option Value} {A₀ : Around} {base h₀ : Heap} {m : Str → Option Value} {s : Shared}
    (B : Below A₀ base outer h₀) (F : Fr h₀ L s.heap m) (X : (Mine.h0.heap_1 w.params).In h₀) (N : News h₀ L s.heap Λ) (T : Top Mine.vw LO mean mg mb h₀) (R : Rm dp un D0) (hD : D + 1 ≤ D0) (hk : c.sc.kind = .function) {Q : Value → Shared → Prop}
    (ret : ∀ h' tk', Fr h₀ L h' m → News h₀ L h' Λ → Q v { s with heap := h', toks := tk' }) :
    wpAny (model PG w) (fcA c dp un gd L outer) (call (.ref f) args) Q NoE s :=
  useK H B F X N T R hD hk fun _ h' tk' F' N' p => p ▸ ret h' tk' F' N'
/-- .. and gives an int -/
theorem useI {i : Int} (H : Runs w f args Λ D fun r Λ' => Λ = Λ' ∧ ∃ t, r = .int i t) {c : Fc} {dp un D0 : Nat} {gd : Option (List Code)} {L : Addr} {outer : List Env} {mg mb : Str → Option Value} {mean : ExcName → Option Value} {A₀ : Around} {base h₀ : Heap} {m : Str → Option Value} {s : Shared}
    (B : Below A₀ base outer h₀) (F : Fr h₀ L s.heap m) (X : (Mine.h0.heap_1 w.params).In h₀) (N : News h₀ L s.heap Λ) (T : Top Mine.vw LO mean mg mb h₀) (R : Rm dp un D0) (hD : D + 1 ≤ D0) (hk : c.sc.kind = .function) {Q : Value → Shared → Prop}
    (ret : ∀ t h' tk', Fr h₀ L h' m → News h₀ L h' Λ → Q (.int i t) { s with heap := h', toks := tk' }) :
    wpAny (model PG w) (fcA c dp un gd L outer) (call (.ref f) args) Q NoE s :=
  useK H B F X N T R hD hk fun _ h' tk' F' N' ⟨t, p⟩ => p ▸ ret t h' tk' F' N'
end
section
variable {c : Fc} {M : Model} {A : Around} {E : Value → Shared → Prop} {h₀ : Heap} {L : Addr} {m : Str → Option Value} {s : Shared} {w : World} {mean : ExcName → Option Value} {mg mb : Str → Option Value}
noncomputable abbrev CbQ (M : Model) (A : Around) (id : String) (Q : Value → Shared → Prop) (E : Value → Shared → Prop) (vs : List Value) (s₁ : Shared) : Prop := wpAny M A (call (.builtin id) vs) Q E s₁
/-- what the arguments of a call end with -/
noncomputable def CaQ (M : Model) (A : Around) (K : Frag) (f : Value) (Q : Value → Shared → Prop) (E : Value → Shared → Prop) (vs : List Value) (s₁ : Shared) : Prop := K.In s₁.heap ∧ wpAny M A (call f vs) Q E s₁
theorem ca_go {K : Frag} (F : Fr h₀ L s.heap m) (X : K.In h₀) {f : Value} {vs : List Value} {Q : Value → Shared → Prop} (h : wpAny M A (call f vs) Q E s) : CaQ M A K f Q E vs s := ⟨X.keeps F.keep, h⟩
/-- a call of a function or a class of the module -/
theorem call_g (F : Fr h₀ L s.heap m) (X : (Mine.h0.heap_1 w.params).In h₀) (T : Top Mine.vw LO mean mg mb h₀) {x : Str} {np pos : Pos} {e : Expr} {rest : List Expr} (hx : isG c x = true) {f : Value} (en : nsIn (Mine.h0.heap_1 w.params) mainGlobals x = some (some f))
    (hk : keepIn (Mine.h0.heap_1 w.params) f = true) (he : unstarred e = true) (hp : (backTo pos (starEach rest (c.env L))).any (·.1) = false) {Q : Value → Shared → Prop}
    (h : wpAny M A (spliced (backTo pos (starEach (e :: rest) (c.env L)))) (CaQ M A (Mine.h0.heap_1 w.params) f Q E) E s) : wpAny M A (eval (.Call (.Name x np) (e :: rest) [] pos) (c.env L)) Q E s :=
  Call_ (name_g F X T hx en (callWith_K X hk h (star_cons he) hp)) rfl
/-- a call of a built-in function -/
theorem call_b (F : Fr h₀ L s.heap m) (X : (Mine.h0.heap_1 w.params).In h₀) (T : Top Mine.vw LO mean mg mb h₀) {x : Str} {np pos : Pos} {e : Expr} {rest : List Expr} (hx : isG c x = true) (hn : (x == ("__name__" : Str)) = false) {id : String} (en : nsIn (Mine.h0.heap_1 w.params) mainGlobals x = some none)
    (hv : bootBuiltins x = some (.builtin id)) (he : unstarred e = true) (hp : (backTo pos (starEach rest (c.env L))).any (·.1) = false) {Q : Value → Shared → Prop}
    (h : wpAny M A (spliced (backTo pos (starEach (e :: rest) (c.env L)))) (CbQ M A id Q E) E s) : wpAny M A (eval (.Call (.Name x np) (e :: rest) [] pos) (c.env L)) Q E s :=
  Call_ (name_b F X T hx hn en hv (PyProof.Rows.callWith_builtin1 h (star_cons he) hp)) rfl
end
end
local macro_rules | `(tactic| walk_at $s:str) => `(tactic| k_extra $s)
local macro_rules | `(tactic| k_handed) => `(tactic| k_extra "m:k_handed")
local macro_rules | `(tactic| k_mem) => `(tactic| k_extra "m:k_mem")
local macro_rules | `(tactic| k_all) => `(tactic| k_extra "m:k_all")
local macro_rules | `(tactic| k_room) => `(tactic| k_extra "m:k_room")
local macro_rules | `(tactic| ktr_room) => `(tactic| k_extra "m:ktr_room")
local macro_rules | `(tactic| ktr_units) => `(tactic| k_extra "m:ktr_units")

theorem reg_all : PySem.Challenge.rw_sm0069_01 = PySem.Challenge.rw_sm0069_01 ∧ Mine.h0.heap_1 = Mine.h0.heap_1 := by
  k_fill
  w_on
  w_top on
  k_with_none
  k_with "my enter" => (k_dflt (refine' Runs.enter ?k6 ?k7 ?k9 ?kB ?c2 ?c3 ?c4 ?c5 ?_; (case k6 => k_is); (case k7 => k_is); (case k9 => intro s9 X9; first | exact binds_zip (by kernel_rfl!) | exact BindsTo.of_eq rfl | exact binds_K X9 rfl (by k_is) rfl rfl rfl); (case kB => exact locs rfl); (case c2 => exact rfl); (case c3 => exact rfl); (case c4 => exact rfl); (case c5 => decide); k_whole); intro dp un mg mb mean gd outer A₀ base h₀ L s Q ml ak B F X N T0 hrm hret)
  k_with "my rm" => (first | exact rm_lit rfl | exact rm_sym rfl | exact rm_low rfl | omega)
  k_with "my steps" => (repeat' (first | walk1 | (k_unfold; (try dsimp only)) | (k_end; wrow_close) | (dsimp only; walk1) | (leave1; walk_say "STEP leave1"; try dsimp only) | fail "no step"))
  k_with "my enterD" => (intro mg mb mean dp un gd cn cs a ccd cl outer A₀ base h₀ L m s Q E B F X N T0 hk hd hu hret; refine wpAny_call ?_; refine let_R ?_; intro rk; k_dflt (refine' code_def ?k1 ?k2 ?k3 ?k4 ?k5 ?kA ?kF ?kK ?k6 ?k7 ?k8 ?k9 ?kB ?_ ?c2 ?c3 ?c4 ?c5; (case kA => exact rfl); (case kF => exact rfl); (case kK => assumption); (case k1 => k_asm); (case k2 => k_asm); (case k3 => k_asm); (case k4 => k_asm); (case k5 => k_asm); (case k6 => k_is); (case k7 => k_is); (case k8 => first | exact room_at hd | ktr_room); (case k9 => first | exact binds_zip (by kernel_rfl!) | exact BindsTo.of_eq rfl | exact binds_K (by k_in) rfl (by k_is) rfl rfl rfl); (case c5 => decide); (case kB => exact locs rfl); (case c2 => exact rfl); (case c3 => exact rfl); (case c4 => exact rfl); k_whole; intro g' L' h' FG' F' N' B' X' T'; (try dsimp only); (refine let_m F' ?_; clear F'; intro ml F'); (refine let_A ?_; intro ak); (try k_fold)))
  k_with "my enterC" => (k_dflt (refine' Runs.enterC ?k6 ?k7 ?k9 ?kB ?kD ?c2 ?c3 ?c4 ?_; (case k6 => k_is); (case k7 => k_is); (case k9 => intro s9 X9; first | exact binds_zip (by kernel_rfl!) | exact BindsTo.of_eq rfl | exact binds_K X9 rfl (by k_is) rfl rfl rfl); (case kB => exact rfl); (case kD => decide +kernel); (case c2 => exact rfl); (case c3 => exact rfl); (case c4 => exact rfl); k_whole); intro dp un mg mb mean gd outer A₀ base h₀ L s Q cells' ml ak B F X N Y T0 lc9 hrm hret; k_cells Y; (try simp only [List.cons_append, List.nil_append] at N))
  k_with "my news" => (first | k_asm | exact News.tl (by k_asm) | exact News.tl (News.tl (by k_asm)) | exact News.tl (News.tl (News.tl (by k_asm))) | exact News.tl (News.tl (News.tl (News.tl (by k_asm)))))
  k_with "my ret" => (refine hret _ _ _ _ (by k_asm) (by k_asm) ?_)
  k_with "my retK" => (refine hret _ Λ _ _ (by k_asm) (by k_extra "my news") ?_)
  k_with "my is" => (first | assumption | exact Is.none | exact Is.int _ _ | exact Is.bytes _ _ | exact En.h _)
  k_with "my ite0" => (first | (refine iq_yes (by with_reducible assumption) ?_) | (refine iq_nots (by with_reducible assumption) ?_) | (refine iq_not (by with_reducible assumption) ?_) | (refine iq_yes (by (simp only [beq_iff_eq, bne_iff_ne, ne_eq, decide_eq_true_eq, ge_iff_le, gt_iff_lt]; omega)) ?_) | (refine iq_nos (by (simp only [beq_iff_eq, bne_iff_ne, ne_eq, decide_eq_true_eq, ge_iff_le, gt_iff_lt]; omega)) ?_) | (refine iq_no (by (simp only [beq_iff_eq, bne_iff_ne, ne_eq, decide_eq_true_eq, ge_iff_le, gt_iff_lt]; omega)) ?_) | (refine ite_pos (by with_reducible assumption) ?_) | (refine ite_isFalse (by with_reducible assumption) ?_) | (refine ite_pos (by (simp only [beq_iff_eq, bne_iff_ne, ne_eq, decide_eq_true_eq, ge_iff_le, gt_iff_lt]; omega)) ?_) | (refine ite_neg (by (simp only [beq_iff_eq, bne_iff_ne, ne_eq, decide_eq_true_eq, ge_iff_le, gt_iff_lt]; omega)) ?_))
  k_with "my ite" => (k_extra "my ite0")
  k_with "my off" => (intro y hy; repeat' (first | exact updL_off hy | exact rfl | refine off_if (by first | exact hy.1 | exact hy.2.1 | exact hy.2.2.1 | exact hy.2.2.2.1 | exact hy.2.2.2.2.1 | exact hy.2.2.2.2.2.1 | exact hy.2.2.2.2.2.2.1 | exact hy.2.2.2.2.2.2.2.1 | exact hy.2.2.2.2.2.2.2.2.1 | exact hy.2.2.2.2.2.2.2.2.2.1) ?_))
  k_with "my for0" => (refine MyStop.go ?_; (with_reducible rename Fr _ _ _ _ => lF); obtain ⟨m0, hm0, lF⟩ := loop_start lF; refine For_invVF lF (by rfl) (by rfl) ?_; clear lF)
  k_with "my room" => (first | exact room_num hd rfl | exact room_sym hd rfl | exact room_low hd rfl | exact room_step hd (by first | with_reducible assumption | decide) | ktr_room)
  k_with "my units" => (first | exact unit_num hu rfl | exact unit_sym hu rfl | exact unit_low hu rfl | exact unit_step hu (by first | with_reducible assumption | decide) | ktr_units)
  k_with "my fold" => (try ((with_reducible refine fold_Q ?_); intro qk st9))
  k_with "my after" => (try k_sweep)
  k_with "call ref" => ((k_here; k_extra "my calls"))
  k_with "exec While" => ((k_here; first | k_extra "my while" | refine myStop ?_))
  k_with "exec While Compare cons nil" => ((k_here; first | k_extra "my while" | refine myStop ?_))
  k_with "exec For" => ((k_here; first | k_extra "my for" | refine myStop ?_))
  k_with "exec For Name" => ((k_here; first | k_extra "my for" | refine myStop ?_))
  k_with "exec For Name Name" => ((k_here; first | k_extra "my for" | refine myStop ?_))
  k_with "exec For Name Name cons nil" => ((k_here; first | k_extra "my for" | refine myStop ?_))
  k_with "exec For Name Call cons nil" => ((k_here; first | k_extra "my for" | refine myStop ?_))
  k_with "exec For Name Attribute cons nil" => ((k_here; first | k_extra "my for" | refine myStop ?_))
  k_with "exec For Name Subscript cons nil" => ((k_here; first | k_extra "my for" | refine myStop ?_))
  k_with "exec For Tuple" => ((k_here; first | k_extra "my for" | refine myStop ?_))
  k_with "exec For Tuple Call cons nil" => ((k_here; first | k_extra "my for" | refine myStop ?_))
  k_with "pyIter ref" => ((k_here; refine myStop ?_))
  k_with "LoopStepV" => (first | (refine lsv_ret ?_; (try dsimp only)) | (refine lsv_brk ?_; (try dsimp only)) | refine myStop ?_)
  k_with "LoopStepV cons" => (first | (refine lsv_ret ?_; (try dsimp only)) | (refine lsv_brk ?_; (try dsimp only)) | refine myStop ?_)
  k_with "ite" => ((k_here; k_extra "my ite"))
  k_with "WhileStep2 ret" => ((refine ws_ret ?_; (try dsimp only)))
  k_with "WhileStep2 brk" => ((refine ws_brk ?_; (try dsimp only)))
  k_with "call builtin:len" => ((k_here; (with_reducible refine (?_ : wpAny _ _ (call (Value.builtin "len") [Value.ref _]) _ _ _)); first | (refine' len_map ?Nq9 ?mq9 ?fq9 ?_; (case Nq9 => k_asm); (case mq9 => k_mem); (case fq9 => first | (first | with_reducible assumption | exact le_mil (by with_reducible assumption) | omega) | ((simp only [Tb.wFree, Tb.wFlags, Tb.wLog, Tb.wSize, Tb.wNode, List.length_set]); (first | with_reducible assumption | exact le_mil (by with_reducible assumption) | omega))); k_whole) | (refine' len_arr ?Nq9 ?mq9 ?fq9 ?_; (case Nq9 => k_asm); (case mq9 => k_mem); (case fq9 => first | (first | with_reducible assumption | exact le_mil (by with_reducible assumption) | omega) | ((simp only [Tb.wFree, Tb.wFlags, Tb.wLog, Tb.wSize, Tb.wNode, List.length_set]); (first | with_reducible assumption | exact le_mil (by with_reducible assumption) | omega))); k_whole)))
  k_with "subscriptTail" => ((k_here; (with_reducible refine (?_ : wpAny _ _ (subscriptTail _ _ (Value.ref _) (Value.int _ _)) _ _ _)); k_dflt (refine' item_map ?Nq9 ?mq9 ?zq9 ?xq9 ?fq9 ?_ ?hsq9; (case Nq9 => k_asm); (case mq9 => k_mem); (case zq9 => (first | with_reducible assumption | exact le_mil (by with_reducible assumption) | omega)); (case xq9 => assumption); (case fq9 => first | (first | with_reducible assumption | exact le_mil (by with_reducible assumption) | omega) | ((simp only [Tb.wFree, Tb.wFlags, Tb.wLog, Tb.wSize, Tb.wNode, List.length_set]); (first | with_reducible assumption | exact le_mil (by with_reducible assumption) | omega))); (case hsq9 => with_unfolding_all rfl); k_whole)))
  k_with "subscriptTail Attribute" => ((k_here; (with_reducible refine (?_ : wpAny _ _ (subscriptTail _ _ (Value.ref _) (Value.int _ _)) _ _ _)); k_dflt (refine' item_map ?Nq9 ?mq9 ?zq9 ?xq9 ?fq9 ?_ ?hsq9; (case Nq9 => k_asm); (case mq9 => k_mem); (case zq9 => (first | with_reducible assumption | exact le_mil (by with_reducible assumption) | omega)); (case xq9 => assumption); (case fq9 => first | (first | with_reducible assumption | exact le_mil (by with_reducible assumption) | omega) | ((simp only [Tb.wFree, Tb.wFlags, Tb.wLog, Tb.wSize, Tb.wNode, List.length_set]); (first | with_reducible assumption | exact le_mil (by with_reducible assumption) | omega))); (case hsq9 => with_unfolding_all rfl); k_whole)))
  k_with "subscriptTail Name" => ((k_here; (with_reducible refine (?_ : wpAny _ _ (subscriptTail _ _ (Value.ref _) (Value.int _ _)) _ _ _)); k_dflt (refine' item_map ?Nq9 ?mq9 ?zq9 ?xq9 ?fq9 ?_ ?hsq9; (case Nq9 => k_asm); (case mq9 => k_mem); (case zq9 => (first | with_reducible assumption | exact le_mil (by with_reducible assumption) | omega)); (case xq9 => assumption); (case fq9 => first | (first | with_reducible assumption | exact le_mil (by with_reducible assumption) | omega) | ((simp only [Tb.wFree, Tb.wFlags, Tb.wLog, Tb.wSize, Tb.wNode, List.length_set]); (first | with_reducible assumption | exact le_mil (by with_reducible assumption) | omega))); (case hsq9 => with_unfolding_all rfl); k_whole)))
  k_with "subscriptTail" => ((k_here; (with_reducible refine (?_ : wpAny _ _ (subscriptTail _ _ (Value.ref _) (Value.int _ _)) _ _ _)); k_dflt (refine' item_adr ?Nq9 ?Sq9 ?lq9 ?zq9 ?hiq9 ?fq9 ?_ ?hsq9; (case Nq9 => k_asm); (case Sq9 => assumption); (case lq9 => first | exact rfl | assumption); (case zq9 => (first | with_reducible assumption | exact le_mil (by with_reducible assumption) | omega)); (case hiq9 => assumption); (case fq9 => (first | with_reducible assumption | exact le_mil (by with_reducible assumption) | omega)); (case hsq9 => with_unfolding_all rfl); k_whole)))
  k_with "subscriptTail Attribute" => ((k_here; (with_reducible refine (?_ : wpAny _ _ (subscriptTail _ _ (Value.ref _) (Value.int _ _)) _ _ _)); k_dflt (refine' item_adr ?Nq9 ?Sq9 ?lq9 ?zq9 ?hiq9 ?fq9 ?_ ?hsq9; (case Nq9 => k_asm); (case Sq9 => assumption); (case lq9 => first | exact rfl | assumption); (case zq9 => (first | with_reducible assumption | exact le_mil (by with_reducible assumption) | omega)); (case hiq9 => assumption); (case fq9 => (first | with_reducible assumption | exact le_mil (by with_reducible assumption) | omega)); (case hsq9 => with_unfolding_all rfl); k_whole)))
  k_with "subscriptTail Name" => ((k_here; (with_reducible refine (?_ : wpAny _ _ (subscriptTail _ _ (Value.ref _) (Value.int _ _)) _ _ _)); k_dflt (refine' item_adr ?Nq9 ?Sq9 ?lq9 ?zq9 ?hiq9 ?fq9 ?_ ?hsq9; (case Nq9 => k_asm); (case Sq9 => assumption); (case lq9 => first | exact rfl | assumption); (case zq9 => (first | with_reducible assumption | exact le_mil (by with_reducible assumption) | omega)); (case hiq9 => assumption); (case fq9 => (first | with_reducible assumption | exact le_mil (by with_reducible assumption) | omega)); (case hsq9 => with_unfolding_all rfl); k_whole)))
  k_with "m:k_handed" => (first | exact En.handed _ | exact ov_handed _)
  k_with "compareOp Is none" => ((k_here; (with_reducible refine (?_ : wpAny _ _ (compareOp CmpOp.Is _ Value.none) _ _ _)); refine' is_none_P ?vq9 ?_; (case vq9 => k_extra "my is"); k_whole))
  k_with "compareOp IsNot none" => ((k_here; (with_reducible refine (?_ : wpAny _ _ (compareOp CmpOp.IsNot _ Value.none) _ _ _)); refine' isnot_none_P ?vq9 ?_; (case vq9 => k_extra "my is"); k_whole))
  k_with "m:k_mem" => (first | exact HasTab.array (by assumption) | exact HasTab.nodes (by assumption) | exact HasTab.left.inst | exact HasTab.left.dict | exact HasTab.left.array | exact HasTab.left.nodes | exact (HasTab.left.nd (by assumption)).1 | exact (HasTab.left.nd (by assumption)).2)
  k_with "setAttr ref" => ((k_here; k_dflt (first | ((with_reducible refine (?_ : wpAny _ _ (setAttr _ (Str.ofString "nodes") _) _ _ _)); refine myStop ?_) | ((with_reducible refine (?_ : wpAny _ _ (setAttr _ (Str.ofString "array") _) _ _ _)); refine myStop ?_) | ((with_reducible refine (?_ : wpAny _ _ (setAttr _ (Str.ofString "free") _) _ _ _)); (refine' set_free ?Fq9 ?Xq9 ?Nq9 ?Oq9 ?aq9 ?_; (case Fq9 => k_asm); (case Xq9 => k_asm); (case Nq9 => k_asm); (case Oq9 => assumption); (case aq9 => first | exact rfl | assumption); k_whole; intro h' F' N' O'; (try k_sweep))) | ((with_reducible refine (?_ : wpAny _ _ (setAttr _ (Str.ofString "flags") _) _ _ _)); (refine' set_flags ?Fq9 ?Xq9 ?Nq9 ?Oq9 ?aq9 ?_; (case Fq9 => k_asm); (case Xq9 => k_asm); (case Nq9 => k_asm); (case Oq9 => assumption); (case aq9 => first | exact rfl | assumption); k_whole; intro h' F' N' O'; (try k_sweep))) | ((with_reducible refine (?_ : wpAny _ _ (setAttr _ (Str.ofString "log_nodes") _) _ _ _)); (refine' set_log ?Fq9 ?Xq9 ?Nq9 ?Oq9 ?aq9 ?_; (case Fq9 => k_asm); (case Xq9 => k_asm); (case Nq9 => k_asm); (case Oq9 => assumption); (case aq9 => first | exact rfl | assumption); k_whole; intro h' F' N' O'; (try k_sweep))) | ((with_reducible refine (?_ : wpAny _ _ (setAttr _ (Str.ofString "size") _) _ _ _)); (refine' set_size ?Fq9 ?Xq9 ?Nq9 ?Oq9 ?aq9 ?_; (case Fq9 => k_asm); (case Xq9 => k_asm); (case Nq9 => k_asm); (case Oq9 => assumption); (case aq9 => first | exact rfl | assumption); k_whole; intro h' F' N' O'; (try k_sweep))) | ((with_reducible refine (?_ : wpAny _ _ (setAttr _ (Str.ofString "key") _) _ _ _)); (refine' put_key ?vq9 ?Fq9 ?Xq9 ?Nq9 ?Oq9 ?Sq9 ?hiq9 ?_; (case vq9 => k_extra "my is"); (case Fq9 => k_asm); (case Xq9 => k_asm); (case Nq9 => k_asm); (case Oq9 => assumption); (case Sq9 => assumption); (case hiq9 => assumption); k_whole; intro h' F' N' O' S'; (try k_sweep))) | ((with_reducible refine (?_ : wpAny _ _ (setAttr _ (Str.ofString "value") _) _ _ _)); (refine' put_value ?vq9 ?Fq9 ?Xq9 ?Nq9 ?Oq9 ?Sq9 ?hiq9 ?_; (case vq9 => k_extra "my is"); (case Fq9 => k_asm); (case Xq9 => k_asm); (case Nq9 => k_asm); (case Oq9 => assumption); (case Sq9 => assumption); (case hiq9 => assumption); k_whole; intro h' F' N' O' S'; (try k_sweep))) | ((with_reducible refine (?_ : wpAny _ _ (setAttr _ (Str.ofString "next") _) _ _ _)); (refine' put_next ?Fq9 ?Xq9 ?Nq9 ?Oq9 ?Sq9 ?hiq9 ?_; (case Fq9 => k_asm); (case Xq9 => k_asm); (case Nq9 => k_asm); (case Oq9 => assumption); (case Sq9 => assumption); (case hiq9 => assumption); k_whole; intro h' F' N' O' S'; (try k_sweep))))))
  k_with "getAttr ref" => ((k_here; k_dflt (first | ((with_reducible refine (?_ : wpAny _ _ (getAttr _ (Str.ofString "nodes") _) _ _ _)); (refine' get_nodes ?Fq9 ?Xq9 ?Nq9 ?Hq9 ?aq9 ?iq9 ?_; (case Fq9 => k_asm); (case Xq9 => k_asm); (case Nq9 => k_asm); (case Hq9 => assumption); (case aq9 => first | exact rfl | assumption); (case iq9 => first | (dsimp only [Tb.wFree, Tb.wFlags, Tb.wLog, Tb.wSize, Tb.wNode]; done) | (dsimp only [Tb.wFree, Tb.wFlags, Tb.wLog, Tb.wSize, Tb.wNode]; exact rfl) | exact rfl); k_whole)) | ((with_reducible refine (?_ : wpAny _ _ (getAttr _ (Str.ofString "nodes") _) _ _ _)); (refine' get_nodes ?Fq9 ?Xq9 ?Nq9 ?Hq9 ?aq9 ?iq9 ?_; (case Fq9 => k_asm); (case Xq9 => k_asm); (case Nq9 => k_asm); (case Hq9 => exact HasTab.left); (case aq9 => first | exact rfl | assumption); (case iq9 => first | (dsimp only [Tb.wFree, Tb.wFlags, Tb.wLog, Tb.wSize, Tb.wNode]; done) | (dsimp only [Tb.wFree, Tb.wFlags, Tb.wLog, Tb.wSize, Tb.wNode]; exact rfl) | exact rfl); k_whole)) | ((with_reducible refine (?_ : wpAny _ _ (getAttr _ (Str.ofString "array") _) _ _ _)); (refine' get_array ?Fq9 ?Xq9 ?Nq9 ?Hq9 ?aq9 ?iq9 ?_; (case Fq9 => k_asm); (case Xq9 => k_asm); (case Nq9 => k_asm); (case Hq9 => assumption); (case aq9 => first | exact rfl | assumption); (case iq9 => first | (dsimp only [Tb.wFree, Tb.wFlags, Tb.wLog, Tb.wSize, Tb.wNode]; done) | (dsimp only [Tb.wFree, Tb.wFlags, Tb.wLog, Tb.wSize, Tb.wNode]; exact rfl) | exact rfl); k_whole)) | ((with_reducible refine (?_ : wpAny _ _ (getAttr _ (Str.ofString "array") _) _ _ _)); (refine' get_array ?Fq9 ?Xq9 ?Nq9 ?Hq9 ?aq9 ?iq9 ?_; (case Fq9 => k_asm); (case Xq9 => k_asm); (case Nq9 => k_asm); (case Hq9 => exact HasTab.left); (case aq9 => first | exact rfl | assumption); (case iq9 => first | (dsimp only [Tb.wFree, Tb.wFlags, Tb.wLog, Tb.wSize, Tb.wNode]; done) | (dsimp only [Tb.wFree, Tb.wFlags, Tb.wLog, Tb.wSize, Tb.wNode]; exact rfl) | exact rfl); k_whole)) | ((with_reducible refine (?_ : wpAny _ _ (getAttr _ (Str.ofString "free") _) _ _ _)); (refine' get_free ?Fq9 ?Xq9 ?Nq9 ?Hq9 ?aq9 ?iq9 ?tq9 ?_; (case Fq9 => k_asm); (case Xq9 => k_asm); (case Nq9 => k_asm); (case Hq9 => assumption); (case aq9 => first | exact rfl | assumption); (case iq9 => first | (dsimp only [Tb.wFree, Tb.wFlags, Tb.wLog, Tb.wSize, Tb.wNode]; done) | (dsimp only [Tb.wFree, Tb.wFlags, Tb.wLog, Tb.wSize, Tb.wNode]; exact rfl) | exact rfl); (case tq9 => first | (dsimp only [Tb.wFree, Tb.wFlags, Tb.wLog, Tb.wSize, Tb.wNode]; done) | (dsimp only [Tb.wFree, Tb.wFlags, Tb.wLog, Tb.wSize, Tb.wNode]; exact rfl) | exact rfl); k_whole)) | ((with_reducible refine (?_ : wpAny _ _ (getAttr _ (Str.ofString "free") _) _ _ _)); (refine' get_free ?Fq9 ?Xq9 ?Nq9 ?Hq9 ?aq9 ?iq9 ?tq9 ?_; (case Fq9 => k_asm); (case Xq9 => k_asm); (case Nq9 => k_asm); (case Hq9 => exact HasTab.left); (case aq9 => first | exact rfl | assumption); (case iq9 => first | (dsimp only [Tb.wFree, Tb.wFlags, Tb.wLog, Tb.wSize, Tb.wNode]; done) | (dsimp only [Tb.wFree, Tb.wFlags, Tb.wLog, Tb.wSize, Tb.wNode]; exact rfl) | exact rfl); (case tq9 => first | (dsimp only [Tb.wFree, Tb.wFlags, Tb.wLog, Tb.wSize, Tb.wNode]; done) | (dsimp only [Tb.wFree, Tb.wFlags, Tb.wLog, Tb.wSize, Tb.wNode]; exact rfl) | exact rfl); k_whole)) | ((with_reducible refine (?_ : wpAny _ _ (getAttr _ (Str.ofString "flags") _) _ _ _)); (refine' get_flags ?Fq9 ?Xq9 ?Nq9 ?Hq9 ?aq9 ?iq9 ?tq9 ?_; (case Fq9 => k_asm); (case Xq9 => k_asm); (case Nq9 => k_asm); (case Hq9 => assumption); (case aq9 => first | exact rfl | assumption); (case iq9 => first | (dsimp only [Tb.wFree, Tb.wFlags, Tb.wLog, Tb.wSize, Tb.wNode]; done) | (dsimp only [Tb.wFree, Tb.wFlags, Tb.wLog, Tb.wSize, Tb.wNode]; exact rfl) | exact rfl); (case tq9 => first | (dsimp only [Tb.wFree, Tb.wFlags, Tb.wLog, Tb.wSize, Tb.wNode]; done) | (dsimp only [Tb.wFree, Tb.wFlags, Tb.wLog, Tb.wSize, Tb.wNode]; exact rfl) | exact rfl); k_whole)) | ((with_reducible refine (?_ : wpAny _ _ (getAttr _ (Str.ofString "flags") _) _ _ _)); (refine' get_flags ?Fq9 ?Xq9 ?Nq9 ?Hq9 ?aq9 ?iq9 ?tq9 ?_; (case Fq9 => k_asm); (case Xq9 => k_asm); (case Nq9 => k_asm); (case Hq9 => exact HasTab.left); (case aq9 => first | exact rfl | assumption); (case iq9 => first | (dsimp only [Tb.wFree, Tb.wFlags, Tb.wLog, Tb.wSize, Tb.wNode]; done) | (dsimp only [Tb.wFree, Tb.wFlags, Tb.wLog, Tb.wSize, Tb.wNode]; exact rfl) | exact rfl); (case tq9 => first | (dsimp only [Tb.wFree, Tb.wFlags, Tb.wLog, Tb.wSize, Tb.wNode]; done) | (dsimp only [Tb.wFree, Tb.wFlags, Tb.wLog, Tb.wSize, Tb.wNode]; exact rfl) | exact rfl); k_whole)) | ((with_reducible refine (?_ : wpAny _ _ (getAttr _ (Str.ofString "log_nodes") _) _ _ _)); (refine' get_log ?Fq9 ?Xq9 ?Nq9 ?Hq9 ?aq9 ?iq9 ?tq9 ?_; (case Fq9 => k_asm); (case Xq9 => k_asm); (case Nq9 => k_asm); (case Hq9 => assumption); (case aq9 => first | exact rfl | assumption); (case iq9 => first | (dsimp only [Tb.wFree, Tb.wFlags, Tb.wLog, Tb.wSize, Tb.wNode]; done) | (dsimp only [Tb.wFree, Tb.wFlags, Tb.wLog, Tb.wSize, Tb.wNode]; exact rfl) | exact rfl); (case tq9 => first | (dsimp only [Tb.wFree, Tb.wFlags, Tb.wLog, Tb.wSize, Tb.wNode]; done) | (dsimp only [Tb.wFree, Tb.wFlags, Tb.wLog, Tb.wSize, Tb.wNode]; exact rfl) | exact rfl); k_whole)) | ((with_reducible refine (?_ : wpAny _ _ (getAttr _ (Str.ofString "log_nodes") _) _ _ _)); (refine' get_log ?Fq9 ?Xq9 ?Nq9 ?Hq9 ?aq9 ?iq9 ?tq9 ?_; (case Fq9 => k_asm); (case Xq9 => k_asm); (case Nq9 => k_asm); (case Hq9 => exact HasTab.left); (case aq9 => first | exact rfl | assumption); (case iq9 => first | (dsimp only [Tb.wFree, Tb.wFlags, Tb.wLog, Tb.wSize, Tb.wNode]; done) | (dsimp only [Tb.wFree, Tb.wFlags, Tb.wLog, Tb.wSize, Tb.wNode]; exact rfl) | exact rfl); (case tq9 => first | (dsimp only [Tb.wFree, Tb.wFlags, Tb.wLog, Tb.wSize, Tb.wNode]; done) | (dsimp only [Tb.wFree, Tb.wFlags, Tb.wLog, Tb.wSize, Tb.wNode]; exact rfl) | exact rfl); k_whole)) | ((with_reducible refine (?_ : wpAny _ _ (getAttr _ (Str.ofString "meta") _) _ _ _)); (refine' get_meta ?Fq9 ?Xq9 ?Nq9 ?Hq9 ?aq9 ?iq9 ?_; (case Fq9 => k_asm); (case Xq9 => k_asm); (case Nq9 => k_asm); (case Hq9 => assumption); (case aq9 => first | exact rfl | assumption); (case iq9 => first | (dsimp only [Tb.wFree, Tb.wFlags, Tb.wLog, Tb.wSize, Tb.wNode]; done) | (dsimp only [Tb.wFree, Tb.wFlags, Tb.wLog, Tb.wSize, Tb.wNode]; exact rfl) | exact rfl); k_whole)) | ((with_reducible refine (?_ : wpAny _ _ (getAttr _ (Str.ofString "meta") _) _ _ _)); (refine' get_meta ?Fq9 ?Xq9 ?Nq9 ?Hq9 ?aq9 ?iq9 ?_; (case Fq9 => k_asm); (case Xq9 => k_asm); (case Nq9 => k_asm); (case Hq9 => exact HasTab.left); (case aq9 => first | exact rfl | assumption); (case iq9 => first | (dsimp only [Tb.wFree, Tb.wFlags, Tb.wLog, Tb.wSize, Tb.wNode]; done) | (dsimp only [Tb.wFree, Tb.wFlags, Tb.wLog, Tb.wSize, Tb.wNode]; exact rfl) | exact rfl); k_whole)) | ((with_reducible refine (?_ : wpAny _ _ (getAttr _ (Str.ofString "key") _) _ _ _)); (refine' get_key ?Fq9 ?Xq9 ?Nq9 ?Hq9 ?Hdq9 ?_; (case Fq9 => k_asm); (case Xq9 => k_asm); (case Nq9 => k_asm); (case Hq9 => first | assumption | exact (HasTab.left.nd (by first | assumption | k_extra "my mem")).1); (case Hdq9 => first | assumption | exact (HasTab.left.nd (by first | assumption | k_extra "my mem")).2); k_whole)) | ((with_reducible refine (?_ : wpAny _ _ (getAttr _ (Str.ofString "value") _) _ _ _)); (refine' get_value ?Fq9 ?Xq9 ?Nq9 ?Hq9 ?Hdq9 ?_; (case Fq9 => k_asm); (case Xq9 => k_asm); (case Nq9 => k_asm); (case Hq9 => first | assumption | exact (HasTab.left.nd (by first | assumption | k_extra "my mem")).1); (case Hdq9 => first | assumption | exact (HasTab.left.nd (by first | assumption | k_extra "my mem")).2); k_whole)) | ((with_reducible refine (?_ : wpAny _ _ (getAttr _ (Str.ofString "next") _) _ _ _)); (refine' get_next ?Fq9 ?Xq9 ?Nq9 ?Hq9 ?Hdq9 ?_; (case Fq9 => k_asm); (case Xq9 => k_asm); (case Nq9 => k_asm); (case Hq9 => first | assumption | exact (HasTab.left.nd (by first | assumption | k_extra "my mem")).1); (case Hdq9 => first | assumption | exact (HasTab.left.nd (by first | assumption | k_extra "my mem")).2); k_whole)))))
  k_with "m:k_all" => (first | assumption | exact allLt_ne (by assumption))
  k_with "eval ListComp" => ((k_here; refine myStop ?_))
  k_with "CompSrc" => ((k_here; refine myStop ?_))
  k_with "m:k_room" => (ktr_room)
  k_with "execs cons" => ((k_here; (try k_gentoks); (with_reducible refine wpAny_execs_cons ?_); (refine let_Q ?_); intro qk))
  k_with "storeName" => ((k_here; k_dflt (refine' storeX_M ?Fq9 ?Nq9 ?_ ?aq9 ?bq9; (case Fq9 => k_asm); (case Nq9 => k_asm); (case aq9 => rfl); (case bq9 => rfl); k_whole; intro ml h' F' N'; (try k_sweep))))
  k_with "m:ktr_room" => (((try (have hr9 := Rm.d (by with_reducible assumption))); (try simp (config := { zetaDelta := true }) only [depth_under_make, depth_under_kw, depth_in1, depth_deeper, depth_caller, ktrTop]); first | decide | (first | with_reducible assumption | exact le_mil (by with_reducible assumption) | omega)))
  k_with "m:ktr_units" => (((try (have hr9 := Rm.u (by with_reducible assumption))); (have hcL9 := cLine_is); (try simp (config := { zetaDelta := true }) only [units_in1, units_deeper, Around.mark_units, units_caller, ktrTop]); (first | with_reducible assumption | exact le_mil (by with_reducible assumption) | omega)))
  k_with "eval Name" => ((k_here; k_dflt (refine' nameX_N ?Fq9 ?vq9 ?_ ?aq9 ?bq9 ?dq9; (case Fq9 => k_asm); (case aq9 => rfl); (case bq9 => rfl); (case vq9 => rfl); (case dq9 => decide); k_whole)))
  k_with "execs cons" => ((k_here; first | ((with_reducible refine execs_last ?_); intro st9) | ((with_reducible refine execs_seq ?_); intro qk st9)))
  k_with "exec If" => ((k_here; (with_reducible refine exec_if ?_)))
  k_with "ite" => ((k_here; first | (with_reducible refine iq_true ?_) | (with_reducible refine iq_skip ?_) | (with_reducible refine iq_false ?_) | k_dflt (first | (refine iq_yes (by decide) ?_) | (refine iq_nos (by decide) ?_) | (refine iq_no (by decide) ?_))))
  k_with "isTrue Compare" => ((k_here; (with_reducible refine' test_cmp ?hmq9 ?_); (case hmq9 => k_dflt (exact Eq.refl false)); k_whole))
  k_with "isTrue" => ((k_here; (with_reducible refine' test_plain ?_ ?heq9); (case heq9 => k_dflt (exact rfl)); k_whole))
  k_with "eval BinOp" => ((k_here; (with_reducible refine eval_bin ?_)))
  k_with "exec Assign" => ((k_here; (with_reducible refine' exec_asg ?_ ?hsq9); (case hsq9 => k_dflt (exact rfl)); k_whole))
  k_with "storeName" => ((k_here; k_dflt (refine' store_l ?Fq9 ?Nq9 ?hxq9 ?_; (case Fq9 => k_asm); (case Nq9 => k_asm); (case hxq9 => exact Eq.refl true); k_whole; intro ml h' F' N'; (try k_sweep))))
  k_with "spliced" => ((k_here; first | k_dflt (refine' arg_l ?Fq9 ?hxq9 ?vq9 ?_; (case Fq9 => k_asm); (case hxq9 => exact Eq.refl true); (case vq9 => exact rfl); k_whole) | ((with_reducible refine' arg_more ?_ ?heq9); (case heq9 => k_dflt (exact Eq.refl true)); k_whole)))
  k_with "eval Attribute Name" => ((k_here; k_dflt (refine' attr_l ?Fq9 ?hxq9 ?vq9 ?_; (case Fq9 => k_asm); (case hxq9 => exact Eq.refl true); (case vq9 => exact rfl); k_whole)))
  k_with "eval Name" => ((k_here; k_dflt (first | (refine' name_l ?Fq9 ?hxq9 ?vq9 ?_; (case Fq9 => k_asm); (case hxq9 => exact Eq.refl true); (case vq9 => exact rfl); k_whole) | (refine' name_g ?Fq9 ?Xq9 ?Tq9 ?hxq9 ?eq9 ?_; (case Fq9 => k_asm); (case Xq9 => k_asm); (case Tq9 => k_asm); (case hxq9 => exact Eq.refl true); (case eq9 => k_is); k_whole) | (refine' name_b ?Fq9 ?Xq9 ?Tq9 ?hxq9 ?hnq9 ?eq9 ?vq9 ?_; (case Fq9 => k_asm); (case Xq9 => k_asm); (case Tq9 => k_asm); (case hxq9 => exact Eq.refl true); (case hnq9 => exact Eq.refl false); (case eq9 => k_is); (case vq9 => boot_by_name); k_whole))))
  k_with "eval Call" => ((k_here; first | k_dflt (first | (refine' call_g ?Fq9 ?Xq9 ?Tq9 ?hxq9 ?enq9 ?hkq9 ?heq9 ?hpq9 ?_; (case Fq9 => k_asm); (case Xq9 => k_asm); (case Tq9 => k_asm); (case hxq9 => exact Eq.refl true); (case enq9 => k_is); (case hkq9 => k_is); (case heq9 => exact Eq.refl true); (case hpq9 => exact Eq.refl false); k_whole) | (refine' call_b ?Fq9 ?Xq9 ?Tq9 ?hxq9 ?hnq9 ?enq9 ?hvq9 ?heq9 ?hpq9 ?_; (case Fq9 => k_asm); (case Xq9 => k_asm); (case Tq9 => k_asm); (case hxq9 => exact Eq.refl true); (case hnq9 => exact Eq.refl false); (case enq9 => k_is); (case hvq9 => boot_by_name); (case heq9 => exact Eq.refl true); (case hpq9 => exact Eq.refl false); k_whole)) | ((with_reducible refine' eval_call ?_ ?heq9); (case heq9 => k_dflt (exact rfl)); k_whole)))
  k_with "CaQ" => ((k_here; k_dflt (refine' ca_go ?Fq9 ?Xq9 ?_; (case Fq9 => k_asm); (case Xq9 => k_asm); k_whole)))
  k_with "eval Constant int" => ((k_here; (with_reducible refine const_int ?_)))
  k_with "RetQ" => (first | (with_reducible refine ret_at ?_) | (with_reducible refine next_at ?_))
  exact ⟨rfl, rfl⟩
section
theorem is_number_spec {w : World} {v : Value} {p : PV} (hv : Is v p) {Λ : Ledger} : Runs w 126 [v] Λ 2 fun r Λ' => Λ = Λ' ∧ r = .bool (match p with | .int _ => true | _ => false) := by
  cases hv <;> k_extra "my enter" <;> w_strict (k_extra "my steps") <;> (k_extra "my retK" <;> exact ⟨rfl, rfl⟩)
noncomputable def PV.code : PV → Int
  | .none => 0 | .int _ => 3 | .bytes _ => 4
theorem PV.code_none : PV.none.code = 0 := rfl
theorem PV.code_int (i : Int) : (PV.int i).code = 3 := rfl
theorem PV.code_bytes (b : List UInt8) : (PV.bytes b).code = 4 := rfl
theorem type_of_spec {w : World} {v : Value} {p : PV} (hv : Is v p) {Λ : Ledger} : Runs w 133 [v] Λ 2 fun r Λ' => Λ = Λ' ∧ ∃ t, r = .int p.code t := by
  cases hv <;> k_extra "my enter" <;> w_strict (k_extra "my steps") <;> (k_extra "my retK" <;> exact ⟨rfl, _, rfl⟩)
theorem reg_F1_1 : True := by
  k_with "my calls" => ((with_reducible refine (?_ : wpAny _ _ (call (Value.ref 126) _) _ _ _)); k_dflt (refine Runs.use (is_number_spec (by k_extra "my is")) (by k_asm) (by k_asm) (by k_asm) (by k_extra "my news") (by k_asm) (by first | exact rfl | assumption) (by k_extra "my room") (by k_extra "my units") ?_); k_whole; intro r9 Λ9 h9 tk9 F9 N9 P9; ((refine and_elim2 P9 fun P9e0 P9e1 => ?_; clear P9); subst P9e0; subst P9e1); k_extra "my after")
  k_with "my calls" => ((with_reducible refine (?_ : wpAny _ _ (call (Value.ref 126) _) _ _ _)); k_dflt (refine useV (is_number_spec (by k_extra "my is")) (by k_asm) (by k_asm) (by k_asm) (by k_extra "my news") (by k_asm) (by k_asm) (by k_extra "my rm") (by exact rfl) ?_); k_whole; intro h9 tk9 F9 N9; k_extra "my after")
  trivial
theorem reg_F1_2 : True := by
  k_with "my calls" => ((with_reducible refine (?_ : wpAny _ _ (call (Value.ref 133) _) _ _ _)); k_dflt (refine Runs.use (type_of_spec (by k_extra "my is")) (by k_asm) (by k_asm) (by k_asm) (by k_extra "my news") (by k_asm) (by first | exact rfl | assumption) (by k_extra "my room") (by k_extra "my units") ?_); k_whole; intro r9 Λ9 h9 tk9 F9 N9 P9; ((refine and_elim2 P9 fun P9e0 P9q1 => ?_; clear P9; refine ex_elim1 P9q1 fun t9 P9e2 => ?_; clear P9q1); subst P9e0; subst P9e2); (try dsimp only [PV.code_none, PV.code_int, PV.code_bytes]); k_extra "my after")
  k_with "my calls" => ((with_reducible refine (?_ : wpAny _ _ (call (Value.ref 133) _) _ _ _)); k_dflt (refine useI (type_of_spec (by k_extra "my is")) (by k_asm) (by k_asm) (by k_asm) (by k_extra "my news") (by k_asm) (by k_asm) (by k_extra "my rm") (by exact rfl) ?_); k_whole; intro t9 h9 tk9 F9 N9; (try dsimp only [PV.code_none, PV.code_int, PV.code_bytes]); k_extra "my after")
  trivial
theorem raw_equal_same {w : World} {v u : Value} {p q : PV} (hv : Is v p) (hu : Is u q) (hc : p.code = q.code) {Λ : Ledger} : Runs w 147 [v, u] Λ 4 fun r Λ' => Λ = Λ' ∧ r = .bool (decide (p = q)) := by
  cases hv <;> cases hu <;> first | (exfalso; simp [PV.code] at hc; done) | skip
  all_goals (clear hc; k_extra "my enter"; w_strict (k_extra "my steps"); k_extra "my retK")
  · exact ⟨rfl, by simp⟩
  · refine ⟨rfl, congrArg _ ?_⟩; simp [Bool.beq_eq_decide_eq]
  · refine ⟨rfl, congrArg _ ?_⟩; simp [Bool.beq_eq_decide_eq]
theorem raw_equal_diff {w : World} {v u : Value} {p q : PV} (hv : Is v p) (hu : Is u q) (hc : p.code ≠ q.code) {Λ : Ledger} : Runs w 147 [v, u] Λ 4 fun r Λ' => Λ = Λ' ∧ r = .bool (decide (p = q)) := by
  have hne : p ≠ q := fun e => hc (by rw [e])
  have hb : (p.code != q.code) = true := by simpa using hc
  k_extra "my enter"; w_strict (k_extra "my steps")
  k_extra "my retK"
  exact ⟨rfl, by simp [hne]⟩
theorem raw_equal_spec {w : World} {v u : Value} {p q : PV} (hv : Is v p) (hu : Is u q) {Λ : Ledger} : Runs w 147 [v, u] Λ 4 fun r Λ' => Λ = Λ' ∧ r = .bool (decide (p = q)) := by
  by_cases hc : p.code = q.code
  · exact raw_equal_same hv hu hc
  · exact raw_equal_diff hv hu hc
theorem reg_F1_3 : True := by
  k_with "my calls" => ((with_reducible refine (?_ : wpAny _ _ (call (Value.ref 147) _) _ _ _)); k_dflt (refine Runs.use (raw_equal_spec (by k_extra "my is") (by k_extra "my is")) (by k_asm) (by k_asm) (by k_asm) (by k_extra "my news") (by k_asm) (by first | exact rfl | assumption) (by k_extra "my room") (by k_extra "my units") ?_); k_whole; intro r9 Λ9 h9 tk9 F9 N9 P9; ((refine and_elim2 P9 fun P9e0 P9e1 => ?_; clear P9); subst P9e0; subst P9e1); k_extra "my after")
  k_with "my calls" => ((with_reducible refine (?_ : wpAny _ _ (call (Value.ref 147) _) _ _ _)); k_dflt (refine useV (raw_equal_spec (by k_extra "my is") (by k_extra "my is")) (by k_asm) (by k_asm) (by k_asm) (by k_extra "my news") (by k_asm) (by k_asm) (by k_extra "my rm") (by exact rfl) ?_); k_whole; intro h9 tk9 F9 N9; k_extra "my after")
  trivial
end
section
noncomputable def shStep (f : Int) (c : UInt8) : Int := Builtin.bitAnd (Builtin.bitXor f (f * 2 ^ (5 : Int).toNat + f.fdiv (2 ^ (2 : Int).toNat) + (c.toNat : Int))) 4294967295
/-- the hash behind the last n signs -/
noncomputable def shFrom (b : List UInt8) : Nat → Int → Int
  | 0, f => f
  | n + 1, f => shFrom b n (shStep f (b.getD n 0))
noncomputable def sh (b : List UInt8) : Int := shFrom b b.length (Builtin.bitAnd b.length 4294967295)
theorem shStep_range (f : Int) (c : UInt8) : 0 ≤ shStep f c ∧ shStep f c ≤ 4294967295 := bitAnd_range _ (by decide)
theorem string_hash_spec {w : World} {b : List UInt8} {t : Tok} (hb : b.length < 32) {Λ : Ledger} : Runs w 154 [.bytes b.toArray t] Λ 2 fun r Λ' => Λ = Λ' ∧ ∃ t, r = .int (sh b) t := by
  have hstep : (b.length : Int).fdiv (2 ^ (5 : Int).toNat) + 1 = 1 := by
    have : (2 : Int) ^ (5 : Int).toNat = 32 := by decide
    rw [this, Int.fdiv_eq_ediv_of_nonneg _ (by decide)]; omega
  have hstep' : (b.toArray.size : Int).fdiv (2 ^ (5 : Int).toNat) + 1 = 1 := hstep
  k_extra "my enter"; w_strict (k_extra "my steps")
  refine MyStop.go ?_
  with_reducible rename Fr _ _ _ _ => lF
  obtain ⟨m0, hm0, lF⟩ := loop_start lF
  let J9 : Nat → (Str → Option Value) → Ledger → Prop := fun n m₁ Λ₁ => Λ = Λ₁ ∧ ∃ f t1 t2, n ≤ b.length ∧ 0 ≤ f ∧ f ≤ 4294967295 ∧ m₁ = (fun y => if y = Str.ofString "at" then some (.int n t2) else if y = Str.ofString "found" then some (.int f t1) else m0 y) ∧ shFrom b n f = sh b; refine While_inv2 (n₀ := b.length) J9 lF (by k_extra "my news" : News _ _ _ Λ) ⟨rfl, _, _, _, Nat.le_refl _, (bitAnd_range _ (by decide)).1, (bitAnd_range _ (by decide)).2, self2 (by rw [hm0]; exact rfl) (by rw [hm0]; exact rfl), rfl⟩ ?_
  subst hm0
  intro n m₁ Λ₁ h₁ tk₁ F₁ N₁ J09; k_extra "my fold"; ((refine and_elim2 J09 fun J09e0 J09q1 => ?_; clear J09; refine ex_elim3 J09q1 fun f t1 t2 J09q2 => ?_; clear J09q1; refine and_elim5 J09q2 fun hn hf0 hf1 J09e7 hs => ?_; clear J09q2); subst J09e0; subst J09e7); k_extra "my after"
  w_strict (k_extra "my steps")
  · obtain ⟨k, rfl⟩ : ∃ k, n = k + 1 := ⟨n - 1, by omega⟩
    have e : (((k + 1 : Nat) : Int) - 1).toNat = k := by omega
    refine ⟨_, _, _, _, k, rfl, by k_asm, by k_asm, by omega, rfl, _, _, _, by omega, (shStep_range f (b.getD k 0)).1, (shStep_range f (b.getD k 0)).2, upd2_eq (int_eq ?_) (int_eq ?_), hs⟩
    · show ((k + 1 : Nat) : Int) - ((b.length : Int).fdiv (2 ^ (5 : Int).toNat) + 1) = k
      omega
    · rw [e]; rfl
  · obtain rfl : n = 0 := by
      have : ¬ ((n : Int) ≥ (b.length : Int).fdiv (2 ^ (5 : Int).toNat) + 1) := by assumption
      omega
    k_extra "my retK"
    exact ⟨rfl, _, congrArg (Value.int · _) hs⟩
theorem reg_F3_1 : True := by
  k_with "my calls" => ((with_reducible refine (?_ : wpAny _ _ (call (Value.ref 154) _) _ _ _)); k_dflt (refine Runs.use (string_hash_spec (by first | assumption | exact hb _ rfl)) (by k_asm) (by k_asm) (by k_asm) (by k_extra "my news") (by k_asm) (by first | exact rfl | assumption) (by k_extra "my room") (by k_extra "my units") ?_); k_whole; intro r9 Λ9 h9 tk9 F9 N9 P9; ((refine and_elim2 P9 fun P9e0 P9q1 => ?_; clear P9; refine ex_elim1 P9q1 fun t9 P9e2 => ?_; clear P9q1); subst P9e0; subst P9e2); k_extra "my after")
  k_with "my calls" => ((with_reducible refine (?_ : wpAny _ _ (call (Value.ref 154) _) _ _ _)); k_dflt (refine useI (string_hash_spec (by first | assumption | exact hb _ rfl)) (by k_asm) (by k_asm) (by k_asm) (by k_extra "my news") (by k_asm) (by k_asm) (by k_extra "my rm") (by exact rfl) ?_); k_whole; intro t9 h9 tk9 F9 N9; k_extra "my after")
  trivial
end
section
theorem bitOr_one (x : Int) : Builtin.bitOr x 1 = x + 1 - x % 2 := by
  have h : Builtin.bitXor x 1 = Builtin.bitOr x 1 - Builtin.bitAnd x 1 := rfl
  have := bitXor_and x 1
  have := bitAnd_m1 x
  omega
/-- the main position of a key among N nodes -/
noncomputable def mp (N : Nat) : PV → Int
  | .none => 0
  | .int i => i.fmod (Builtin.bitOr ((N : Int) - 1) 1)
  | .bytes b => Builtin.bitAnd (sh b) ((N : Int) - 1)
theorem main_position_spec {w : World} {T : Tb} {v : Value} {p : PV} (hv : Is v p) (hp : p.key) {Λ : Ledger} (hT : HasTab w.params T Λ) (hn : T.ns.length ≤ 64) (h0 : 0 < T.ns.length) :
    Runs w 307 [.ref T.a, v] Λ 4 fun r Λ' => Λ = Λ' ∧ ∃ t, r = .int (mp T.ns.length p) t := by
  have m1 := hT.inst
  have m2 := hT.dict
  have m4 := hT.nodes
  have hne : Builtin.bitOr ((T.ns.length : Int) - 1) 1 ≠ 0 := by rw [bitOr_one]; omega
  have hb : ∀ b, p = .bytes b → b.length < 32 := by intro b e; subst e; exact hp
  cases hv with
  | none => exact hp.elim
  | int i t =>
    k_extra "my enter"; w_strict (k_extra "my steps")
    k_extra "my retK"; exact ⟨rfl, _, rfl⟩
  | bytes b t =>
    k_extra "my enter"; w_strict (k_extra "my steps")
    k_extra "my retK"; exact ⟨rfl, _, rfl⟩
theorem reg_F4_1 : True := by
  k_with "my calls" => ((with_reducible refine (?_ : wpAny _ _ (call (Value.ref 307) _) _ _ _)); k_dflt (refine Runs.use (main_position_spec (by k_extra "my is") (by k_extra "my key") (by assumption) (by omega) (by omega)) (by k_asm) (by k_asm) (by k_asm) (by k_extra "my news") (by k_asm) (by first | exact rfl | assumption) (by k_extra "my room") (by k_extra "my units") ?_); k_whole; intro r9 Λ9 h9 tk9 F9 N9 P9; ((refine and_elim2 P9 fun P9e0 P9q1 => ?_; clear P9; refine ex_elim1 P9q1 fun t9 P9e2 => ?_; clear P9q1); subst P9e0; subst P9e2); k_extra "my after")
  k_with "my calls" => ((with_reducible refine (?_ : wpAny _ _ (call (Value.ref 307) _) _ _ _)); k_dflt (refine useI (main_position_spec (by k_extra "my is") (by k_extra "my key") (by assumption) (by omega) (by omega)) (by k_asm) (by k_asm) (by k_asm) (by k_extra "my news") (by k_asm) (by k_asm) (by k_extra "my rm") (by exact rfl) ?_); k_whole; intro t9 h9 tk9 F9 N9; k_extra "my after")
  trivial
theorem reg_F4_2 : True := by
  k_with "my key" => (first | assumption | trivial | exact hb _ rfl)
  trivial
end
section
/-- a node, without addresses and tokens -/
structure PN where
  k : PV
  v : PV
  nx : Int
  deriving DecidableEq
noncomputable def Nd.abs (n : Nd) : PN := ⟨n.k.p, n.v.p, n.nx⟩
noncomputable def findFrom (ns : List PN) (k : PV) : Nat → Int → Option Int
  | 0, _ => none
  | n + 1, at_ => if at_ < 0 then some (-1) else match ns[at_.toNat]? with
    | none => none
    | some x => if x.k = k then some at_ else findFrom ns k n x.nx
noncomputable def findNode (ns : List PN) (k : PV) (fuel : Nat) : Option Int := if ns.length = 0 then some (-1) else findFrom ns k fuel (mp ns.length k)
theorem findFrom_cases {ns : List Nd} {k : PV} {n : Nat} {at_ r : Int} (h : findFrom (ns.map Nd.abs) k n at_ = some r) :
    (at_ < 0 ∧ r = -1) ∨ (0 ≤ at_ ∧ ∃ nd, ns[at_.toNat]? = some nd ∧ ((decide (nd.k.p = k) = true ∧ r = at_) ∨ (decide (nd.k.p = k) = false ∧ ∃ n', n' < n ∧ findFrom (ns.map Nd.abs) k n' nd.nx = some r))) := by
  cases n with
  | zero => cases h
  | succ n =>
    unfold findFrom at h
    by_cases h1 : at_ < 0
    · rw [if_pos h1] at h; exact .inl ⟨h1, (Option.some.inj h).symm⟩
    · rw [if_neg h1] at h
      refine .inr ⟨by omega, ?_⟩
      rw [List.getElem?_map] at h
      cases hx : ns[at_.toNat]? with
      | none => rw [hx] at h; cases h
      | some nd =>
        rw [hx] at h
        simp only [Option.map_some] at h
        refine ⟨nd, rfl, ?_⟩
        by_cases h2 : nd.k.p = k
        · left; refine ⟨by simpa using h2, ?_⟩
          rw [if_pos (show nd.abs.k = k from h2)] at h; exact (Option.some.inj h).symm
        · right; refine ⟨by simpa using h2, n, Nat.lt_succ_self _, ?_⟩
          rw [if_neg (show ¬ nd.abs.k = k from h2)] at h; exact h
theorem reg_F5_1 : True := by
  k_with "find loop" => (refine MyStop.go ?_; (with_reducible rename Fr _ _ _ _ => lF); obtain ⟨m0, hm0, lF⟩ := loop_start lF; refine While_inv2 (n₀ := fuel) (fun n m₁ Λ₁ => Λ = Λ₁ ∧ ∃ at_ t, m₁ = (fun y => if y = Str.ofString "at" then some (.int at_ t) else m0 y) ∧ findFrom (T.ns.map Nd.abs) _ n at_ = some r) lF (by k_extra "my news" : News _ _ _ Λ) ⟨rfl, _, _, self1 (by rw [hm0]; exact rfl), hr⟩ ?_; subst hm0; rintro n m₁ Λ₁ h₁ tk₁ F₁ N₁ ⟨rfl, at_, t1, rfl, hs⟩; k_extra "my after"; rcases findFrom_cases hs with ⟨c1, c2⟩ | ⟨c1, nd, c2, c3⟩; rotate_left; (obtain ⟨m5, m6⟩ := hT.nd (List.mem_of_getElem? c2)); rcases c3 with ⟨c3, c4⟩ | ⟨c3, n', c4, c5⟩; (all_goals w_strict (k_extra "my steps")))
  trivial
theorem find_node_spec {w : World} {T : Tb} {v : Value} {p : PV} (hv : Is v p) (hp : p.key) {Λ : Ledger} (hT : HasTab w.params T Λ) (hn : T.ns.length ≤ 64) {fuel : Nat} {r : Int} (hr : findNode (T.ns.map Nd.abs) p fuel = some r) :
    Runs w 314 [.ref T.a, v] Λ 8 fun r' Λ' => Λ = Λ' ∧ ∃ t, r' = .int r t := by
  have m1 := hT.inst
  have m2 := hT.dict
  have m4 := hT.nodes
  have hb : ∀ b, p = .bytes b → b.length < 32 := by intro b e; subst e; exact hp
  unfold findNode at hr
  rw [List.length_map] at hr
  by_cases h0 : T.ns.length = 0
  · rw [if_pos h0] at hr
    obtain rfl := Option.some.inj hr
    k_extra "my enter"; w_strict (k_extra "my steps")
    k_extra "my retK"; exact ⟨rfl, _, rfl⟩
  · rw [if_neg h0] at hr
    have hp' := PV.key_ne hp
    k_extra "my enter"; w_strict (k_extra "my steps")
    k_extra "find loop"
    · k_extra "my retK"; exact ⟨rfl, _, by rw [c4]⟩
    · exact ⟨_, _, _, _, n', rfl, by k_asm, by k_asm, c4, rfl, _, _, upd_upd, c5⟩
    · k_extra "my retK"; exact ⟨rfl, _, by rw [c2]⟩
theorem reg_F5_2 : True := by
  k_with "my calls" => ((with_reducible refine (?_ : wpAny _ _ (call (Value.ref 314) _) _ _ _)); k_dflt (refine Runs.use (find_node_spec (by k_extra "my is") (by k_extra "my key") (by assumption) (by omega) (by assumption)) (by k_asm) (by k_asm) (by k_asm) (by k_extra "my news") (by k_asm) (by first | exact rfl | assumption) (by k_extra "my room") (by k_extra "my units") ?_); k_whole; intro r9 Λ9 h9 tk9 F9 N9 P9; ((refine and_elim2 P9 fun P9e0 P9q1 => ?_; clear P9; refine ex_elim1 P9q1 fun t9 P9e2 => ?_; clear P9q1); subst P9e0; subst P9e2); k_extra "my after")
  k_with "my calls" => ((with_reducible refine (?_ : wpAny _ _ (call (Value.ref 314) _) _ _ _)); k_dflt (refine useI (find_node_spec (by k_extra "my is") (by k_extra "my key") (by assumption) (by omega) (by assumption)) (by k_asm) (by k_asm) (by k_asm) (by k_extra "my news") (by k_asm) (by k_asm) (by k_extra "my rm") (by exact rfl) ?_); k_whole; intro t9 h9 tk9 F9 N9; k_extra "my after")
  trivial
end
section
noncomputable def valAt (ns : List PN) (r : Int) : Option PV := if r < 0 then some .none else (ns[r.toNat]?).map (·.v)
noncomputable def getAny (ns : List PN) (k : PV) (fuel : Nat) : Option PV := (findNode ns k fuel).bind (valAt ns)
noncomputable def getInt (es : List PV) (ns : List PN) (n : Int) (fuel : Nat) : Option PV := if 1 ≤ n ∧ n ≤ es.length then es[(n - 1).toNat]? else getAny ns (.int n) fuel
noncomputable def getKey (es : List PV) (ns : List PN) (k : PV) (fuel : Nat) : Option PV := match k with
  | .int n => getInt es ns n fuel
  | k => getAny ns k fuel
theorem getAny_cases {T : Tb} {k r : PV} {fuel : Nat} (h : getAny (T.ns.map Nd.abs) k fuel = some r) :
    ∃ q, findNode (T.ns.map Nd.abs) k fuel = some q ∧ ((q < 0 ∧ r = .none) ∨ (0 ≤ q ∧ ∃ nd, T.ns[q.toNat]? = some nd ∧ r = nd.v.p)) := by
  unfold getAny at h
  obtain ⟨q, hq, hv⟩ := Option.bind_eq_some_iff.mp h
  refine ⟨q, hq, ?_⟩
  unfold valAt at hv
  by_cases h0 : q < 0
  · rw [if_pos h0] at hv; exact .inl ⟨h0, (Option.some.inj hv).symm⟩
  · rw [if_neg h0, List.getElem?_map] at hv
    refine .inr ⟨by omega, ?_⟩
    cases hx : T.ns[q.toNat]? with
    | none => rw [hx] at hv; cases hv
    | some nd => rw [hx] at hv; exact ⟨nd, rfl, (Option.some.inj hv).symm⟩
theorem GF6.onF6 : True := trivial
open GF6
theorem reg_F6_1 : True := by
  k_with "my ite" => ((fail_if_success (fail_if_success (have g9 := onF6))); first | k_extra "my ite0" | (refine ite_neg (by decide) ?_) | (refine ite_pos (by decide) ?_) | refine myStop ?_)
  trivial
theorem get_int_spec {w : World} {T : Tb} {n : Int} {t : Tok} {Λ : Ledger} (hT : HasTab w.params T Λ) (hn : T.ns.length ≤ 64) (he : T.es.length ≤ 64) {fuel : Nat} {r : PV} (hr : getInt (T.es.map (·.p)) (T.ns.map Nd.abs) n fuel = some r) :
    Runs w 328 [.ref T.a, .int n t] Λ 12 fun r' Λ' => Λ = Λ' ∧ Is r' r := by
  have m1 := hT.inst
  have m2 := hT.dict
  have m3 := hT.array
  have m4 := hT.nodes
  unfold getInt at hr
  rw [List.length_map] at hr
  k_extra "my enter"; w_strict (k_extra "my steps")
  refine MyStop.go ?_
  by_cases h1 : 1 ≤ n
  · w_strict (k_extra "my steps")
    refine MyStop.go ?_
    by_cases h2 : n ≤ T.es.length
    · rw [if_pos ⟨h1, h2⟩, List.getElem?_map] at hr
      obtain ⟨e, hx, he2⟩ := Option.map_eq_some_iff.mp hr
      w_strict (k_extra "my steps")
      k_extra "my retK"; exact ⟨rfl, he2 ▸ e.h⟩
    · rw [if_neg (fun h => h2 h.2)] at hr
      obtain ⟨q, hq, hr⟩ := getAny_cases hr
      w_strict (k_extra "my steps")
      refine MyStop.go ?_
      rcases hr with ⟨h0, rfl⟩ | ⟨h0, nd, hx, rfl⟩
      · w_strict (k_extra "my steps")
        k_extra "my retK"; exact ⟨rfl, Is.none⟩
      · obtain ⟨m5, m6⟩ := hT.nd (List.mem_of_getElem? hx)
        w_strict (k_extra "my steps")
        k_extra "my retK"; exact ⟨rfl, nd.v.h⟩
  · rw [if_neg (fun h => h1 h.1)] at hr
    obtain ⟨q, hq, hr⟩ := getAny_cases hr
    w_strict (k_extra "my steps")
    refine MyStop.go ?_
    rcases hr with ⟨h0, rfl⟩ | ⟨h0, nd, hx, rfl⟩
    · w_strict (k_extra "my steps")
      k_extra "my retK"; exact ⟨rfl, Is.none⟩
    · obtain ⟨m5, m6⟩ := hT.nd (List.mem_of_getElem? hx)
      w_strict (k_extra "my steps")
      k_extra "my retK"; exact ⟨rfl, nd.v.h⟩
theorem get_text_spec {w : World} {T : Tb} {v : Value} {p : PV} (hv : Is v p) (hp : p.key) {Λ : Ledger} (hT : HasTab w.params T Λ) (hn : T.ns.length ≤ 64) {fuel : Nat} {r : PV} (hr : getAny (T.ns.map Nd.abs) p fuel = some r) :
    Runs w 335 [.ref T.a, v] Λ 12 fun r' Λ' => Λ = Λ' ∧ Is r' r := by
  have m1 := hT.inst
  have m2 := hT.dict
  have m4 := hT.nodes
  obtain ⟨q, hq, hr⟩ := getAny_cases hr
  k_extra "my enter"; w_strict (k_extra "my steps")
  refine MyStop.go ?_
  rcases hr with ⟨h0, rfl⟩ | ⟨h0, nd, hx, rfl⟩
  · w_strict (k_extra "my steps")
    k_extra "my retK"; exact ⟨rfl, Is.none⟩
  · obtain ⟨m5, m6⟩ := hT.nd (List.mem_of_getElem? hx)
    w_strict (k_extra "my steps")
    k_extra "my retK"; exact ⟨rfl, nd.v.h⟩
theorem reg_F6_2 : True := by
  k_with "my calls" => ((with_reducible refine (?_ : wpAny _ _ (call (Value.ref 328) _) _ _ _)); k_dflt (refine Runs.use (get_int_spec (by assumption) (by omega) (by omega) (by assumption)) (by k_asm) (by k_asm) (by k_asm) (by k_extra "my news") (by k_asm) (by first | exact rfl | assumption) (by k_extra "my room") (by k_extra "my units") ?_); k_whole; intro r9 Λ9 h9 tk9 F9 N9 P9; ((refine and_elim2 P9 fun P9e0 hr9 => ?_; clear P9); subst P9e0); k_extra "my after")
  k_with "my calls" => ((with_reducible refine (?_ : wpAny _ _ (call (Value.ref 328) _) _ _ _)); k_dflt (refine useK (get_int_spec (by assumption) (by omega) (by omega) (by assumption)) (by k_asm) (by k_asm) (by k_asm) (by k_extra "my news") (by k_asm) (by k_asm) (by k_extra "my rm") (by exact rfl) ?_); k_whole; intro r9 h9 tk9 F9 N9 hr9; k_extra "my after")
  trivial
theorem reg_F6_3 : True := by
  k_with "my calls" => ((with_reducible refine (?_ : wpAny _ _ (call (Value.ref 335) _) _ _ _)); k_dflt (refine Runs.use (get_text_spec (by k_extra "my is") (by k_extra "my key") (by assumption) (by omega) (by assumption)) (by k_asm) (by k_asm) (by k_asm) (by k_extra "my news") (by k_asm) (by first | exact rfl | assumption) (by k_extra "my room") (by k_extra "my units") ?_); k_whole; intro r9 Λ9 h9 tk9 F9 N9 P9; ((refine and_elim2 P9 fun P9e0 hr9 => ?_; clear P9); subst P9e0); k_extra "my after")
  k_with "my calls" => ((with_reducible refine (?_ : wpAny _ _ (call (Value.ref 335) _) _ _ _)); k_dflt (refine useK (get_text_spec (by k_extra "my is") (by k_extra "my key") (by assumption) (by omega) (by assumption)) (by k_asm) (by k_asm) (by k_asm) (by k_extra "my news") (by k_asm) (by k_asm) (by k_extra "my rm") (by exact rfl) ?_); k_whole; intro r9 h9 tk9 F9 N9 hr9; k_extra "my after")
  trivial
theorem get_spec {w : World} {T : Tb} {v : Value} {p : PV} (hv : Is v p) (hp : p.key) {Λ : Ledger} (hT : HasTab w.params T Λ) (hn : T.ns.length ≤ 64) (he : T.es.length ≤ 64) {fuel : Nat} {r : PV} (hr : getKey (T.es.map (·.p)) (T.ns.map Nd.abs) p fuel = some r) :
    Runs w 342 [.ref T.a, v] Λ 16 fun r' Λ' => Λ = Λ' ∧ Is r' r := by
  have m1 := hT.inst
  have m2 := hT.dict
  have m4 := hT.nodes
  have hp' := PV.key_ne hp
  cases hv with
  | none => exact hp.elim
  | int i t =>
    replace hr : getInt (T.es.map (·.p)) (T.ns.map Nd.abs) i fuel = some r := hr
    k_extra "my enter"; w_strict (k_extra "my steps")
    k_extra "my retK"; exact ⟨rfl, by assumption⟩
  | bytes b t =>
    have hb : ∀ b', PV.bytes b = .bytes b' → b'.length < 32 := by intro b' e; cases e; exact hp
    obtain ⟨q, hq, hr⟩ := getAny_cases (show getAny (T.ns.map Nd.abs) (.bytes b) fuel = some r from hr)
    k_extra "my enter"; w_strict (k_extra "my steps")
    refine MyStop.go ?_
    rcases hr with ⟨h0, rfl⟩ | ⟨h0, nd, hx, rfl⟩
    · w_strict (k_extra "my steps")
      k_extra "my retK"; exact ⟨rfl, Is.none⟩
    · obtain ⟨m5, m6⟩ := hT.nd (List.mem_of_getElem? hx)
      w_strict (k_extra "my steps")
      k_extra "my retK"; exact ⟨rfl, nd.v.h⟩
theorem reg_F6_4 : True := by
  k_with "my calls" => ((with_reducible refine (?_ : wpAny _ _ (call (Value.ref 342) _) _ _ _)); k_dflt (refine Runs.use (get_spec (by k_extra "my is") (by k_extra "my key") (by assumption) (by omega) (by omega) (by assumption)) (by k_asm) (by k_asm) (by k_asm) (by k_extra "my news") (by k_asm) (by first | exact rfl | assumption) (by k_extra "my room") (by k_extra "my units") ?_); k_whole; intro r9 Λ9 h9 tk9 F9 N9 P9; ((refine and_elim2 P9 fun P9e0 hr9 => ?_; clear P9); subst P9e0); k_extra "my after")
  k_with "my calls" => ((with_reducible refine (?_ : wpAny _ _ (call (Value.ref 342) _) _ _ _)); k_dflt (refine useK (get_spec (by k_extra "my is") (by k_extra "my key") (by assumption) (by omega) (by omega) (by assumption)) (by k_asm) (by k_asm) (by k_asm) (by k_extra "my news") (by k_asm) (by k_asm) (by k_extra "my rm") (by exact rfl) ?_); k_whole; intro r9 h9 tk9 F9 N9 hr9; k_extra "my after")
  trivial
end
section
noncomputable def freeFrom (ns : List PN) : Nat → Int → Option (Int × Int)
  | 0, _ => none
  | n + 1, fr => if 0 < fr then match ns[(fr - 1).toNat]? with
      | none => none
      | some x => if x.k = .none then some (fr - 1, fr - 1) else freeFrom ns n (fr - 1)
    else some (-1, fr)
theorem freeFrom_cases {ns : List Nd} {n : Nat} {fr r f' : Int} (h : freeFrom (ns.map Nd.abs) n fr = some (r, f')) :
    (fr ≤ 0 ∧ r = -1 ∧ f' = fr) ∨ (0 < fr ∧ ∃ nd, ns[(fr - 1).toNat]? = some nd ∧ ((decide (nd.k.p = PV.none) = true ∧ r = fr - 1 ∧ f' = fr - 1) ∨ (decide (nd.k.p = PV.none) = false ∧ ∃ n', n' < n ∧ freeFrom (ns.map Nd.abs) n' (fr - 1) = some (r, f')))) := by
  cases n with
  | zero => cases h
  | succ n =>
    unfold freeFrom at h
    by_cases h1 : 0 < fr
    · rw [if_pos h1, List.getElem?_map] at h
      refine .inr ⟨h1, ?_⟩
      cases hx : ns[(fr - 1).toNat]? with
      | none => rw [hx] at h; cases h
      | some nd =>
        rw [hx] at h
        simp only [Option.map_some] at h
        refine ⟨nd, rfl, ?_⟩
        by_cases h2 : nd.k.p = PV.none
        · left; refine ⟨by simpa using h2, ?_⟩
          rw [if_pos (show nd.abs.k = PV.none from h2)] at h
          have := Option.some.inj h
          exact ⟨(congrArg Prod.fst this).symm, (congrArg Prod.snd this).symm⟩
        · right; refine ⟨by simpa using h2, n, Nat.lt_succ_self _, ?_⟩
          rw [if_neg (show ¬ nd.abs.k = PV.none from h2)] at h; exact h
    · rw [if_neg h1] at h
      have := Option.some.inj h
      exact .inl ⟨by omega, (congrArg Prod.fst this).symm, (congrArg Prod.snd this).symm⟩
theorem free_position_spec {w : World} {T : Tb} {R : Ledger} (O : Own T R) (hn : T.ns.length ≤ 64) {fuel : Nat} {r f' : Int} (hr : freeFrom (T.ns.map Nd.abs) fuel T.fr = some (r, f')) :
    Runs w 321 [.ref T.a] (tbObjs w.params T ++ R) 4 fun r' Λ' => ∃ t ft, r' = .int r t ∧ Λ' = tbObjs w.params (T.wFree f' ft) ++ R := by
  k_extra "my enter"; w_strict (k_extra "my steps")
  refine MyStop.go ?_; (with_reducible rename Fr _ _ _ _ => lF); (with_reducible rename News _ _ _ _ => lN); obtain ⟨m0, hm0, lF⟩ := loop_start lF
  let J9 : Nat → (Str → Option Value) → Ledger → Prop := fun n m₁ Λ₁ => m₁ = m0 ∧ ∃ fr frT, Λ₁ = tbObjs w.params (T.wFree fr frT) ++ R ∧ freeFrom (T.ns.map Nd.abs) n fr = some (r, f'); refine While_inv2 (n₀ := fuel) J9 lF lN ⟨rfl, T.fr, T.frT, rfl, hr⟩ ?_; subst hm0; intro n m₁ Λ₁ h₁ tk₁ F₁ N₁ J09; k_extra "my fold"; ((refine and_elim2 J09 fun J09e0 J09q1 => ?_; clear J09; refine ex_elim2 J09q1 fun fr frT J09q2 => ?_; clear J09q1; refine and_elim2 J09q2 fun J09e3 hs => ?_; clear J09q2); subst J09e0; subst J09e3); k_extra "my after"
  have O' : Own (T.wFree fr frT) R := ⟨O.nd, O.off⟩
  rcases freeFrom_cases hs with ⟨c1, c2⟩ | ⟨c1, nd, c2, c3⟩; rotate_left; (have c5 := List.mem_of_getElem? c2); rcases c3 with ⟨c3, c4⟩ | ⟨c3, n', c4, c6⟩
  all_goals w_strict (k_extra "my steps")
  · obtain ⟨rfl, rfl⟩ := c4
    exact hret _ _ _ _ (by k_asm) (by k_asm) ⟨_, _, rfl, rfl⟩
  · exact ⟨_, _, _, _, n', rfl, by k_asm, by k_asm, c4, rfl, fr - 1, _, rfl, c6⟩
  · obtain ⟨rfl, rfl⟩ := c2
    exact hret _ _ _ _ (by k_asm) (by k_asm) ⟨_, _, rfl, rfl⟩
theorem reg_F7_1 : True := by
  k_with "my calls" => ((with_reducible refine (?_ : wpAny _ _ (call (Value.ref 321) _) _ _ _)); k_dflt (refine Runs.use (free_position_spec (by assumption) (by omega) (by assumption)) (by k_asm) (by k_asm) (by k_asm) (by k_extra "my news") (by k_asm) (by first | exact rfl | assumption) (by k_extra "my room") (by k_extra "my units") ?_); k_whole; intro r9 Λ9 h9 tk9 F9 N9 P9; (first | ((refine ex_elim3 P9 fun t9 ft9 P9e2 P9e3 => ?_; clear P9); subst P9e2; subst P9e3; trace "DEST a21672fe4e 0") | ((refine ex_elim2 P9 fun t9 ft9 P9q1 => ?_; clear P9; refine and_elim2 P9q1 fun P9e2 P9e3 => ?_; clear P9q1); subst P9e2; subst P9e3; trace "DEST a21672fe4e 1") | ((refine ex_elim1 P9 fun t9 P9q1 => ?_; clear P9; refine and_elim3 P9q1 fun ft9 P9e2 P9e3 => ?_; clear P9q1); subst P9e2; subst P9e3; trace "DEST a21672fe4e 2") | ((refine and_elim4 P9 fun t9 ft9 P9e2 P9e3 => ?_; clear P9); subst P9e2; subst P9e3; trace "DEST a21672fe4e 3") | ((refine and_elim2 P9 fun t9 P9q1 => ?_; clear P9; refine ex_elim2 P9q1 fun ft9 P9e2 P9e3 => ?_; clear P9q1); subst P9e2; subst P9e3; trace "DEST a21672fe4e 4") | ((refine and_elim2 P9 fun t9 P9q1 => ?_; clear P9; refine ex_elim1 P9q1 fun ft9 P9q2 => ?_; clear P9q1; refine and_elim2 P9q2 fun P9e2 P9e3 => ?_; clear P9q2); subst P9e2; subst P9e3; trace "DEST a21672fe4e 5") | ((refine and_elim3 P9 fun t9 ft9 P9q1 => ?_; clear P9; refine ex_elim1 P9q1 fun P9e2 P9e3 => ?_; clear P9q1); subst P9e2; subst P9e3; trace "DEST a21672fe4e 6") | (obtain ⟨t9, ft9, rfl, rfl⟩ := P9; trace "DEST a21672fe4e 7")); k_extra "my after")
  k_with "my calls" => ((with_reducible refine (?_ : wpAny _ _ (call (Value.ref 321) _) _ _ _)); k_dflt (refine useG (free_position_spec (by assumption) (by omega) (by assumption)) (by k_asm) (by k_asm) (by k_asm) (by k_extra "my news") (by k_asm) (by k_asm) (by k_extra "my rm") (by exact rfl) ?_); k_whole; intro r9 Λ9 h9 tk9 F9 N9 P9; (first | ((refine ex_elim3 P9 fun t9 ft9 P9e2 P9e3 => ?_; clear P9); subst P9e2; subst P9e3; trace "DEST a21672fe4e 0") | ((refine ex_elim2 P9 fun t9 ft9 P9q1 => ?_; clear P9; refine and_elim2 P9q1 fun P9e2 P9e3 => ?_; clear P9q1); subst P9e2; subst P9e3; trace "DEST a21672fe4e 1") | ((refine ex_elim1 P9 fun t9 P9q1 => ?_; clear P9; refine and_elim3 P9q1 fun ft9 P9e2 P9e3 => ?_; clear P9q1); subst P9e2; subst P9e3; trace "DEST a21672fe4e 2") | ((refine and_elim4 P9 fun t9 ft9 P9e2 P9e3 => ?_; clear P9); subst P9e2; subst P9e3; trace "DEST a21672fe4e 3") | ((refine and_elim2 P9 fun t9 P9q1 => ?_; clear P9; refine ex_elim2 P9q1 fun ft9 P9e2 P9e3 => ?_; clear P9q1); subst P9e2; subst P9e3; trace "DEST a21672fe4e 4") | ((refine and_elim2 P9 fun t9 P9q1 => ?_; clear P9; refine ex_elim1 P9q1 fun ft9 P9q2 => ?_; clear P9q1; refine and_elim2 P9q2 fun P9e2 P9e3 => ?_; clear P9q2); subst P9e2; subst P9e3; trace "DEST a21672fe4e 5") | ((refine and_elim3 P9 fun t9 ft9 P9q1 => ?_; clear P9; refine ex_elim1 P9q1 fun P9e2 P9e3 => ?_; clear P9q1); subst P9e2; subst P9e3; trace "DEST a21672fe4e 6") | (obtain ⟨t9, ft9, rfl, rfl⟩ := P9; trace "DEST a21672fe4e 7")); k_extra "my after")
  trivial
end
section
noncomputable def PV.idx : PV → Int
  | .int i => i
  | _ => -1
theorem array_index_spec {w : World} {v : Value} {p : PV} (hv : Is v p) {Λ : Ledger} : Runs w 271 [v] Λ 4 fun r Λ' => Λ = Λ' ∧ ∃ t, r = .int p.idx t := by
  cases hv <;> k_extra "my enter" <;> w_strict (k_extra "my steps") <;> (k_extra "my retK" <;> exact ⟨rfl, _, rfl⟩)
noncomputable def lg2 : Nat → Int → Int → Option Int
  | 0, _, _ => none
  | f + 1, n, a => if 0 < n then lg2 f (n.fdiv (2 ^ (1 : Int).toNat)) (a + 1) else some a
theorem log2_spec {w : World} {n r : Int} {t : Tok} {fuel : Nat} (hr : lg2 fuel n (-1) = some r) {Λ : Ledger} : Runs w 161 [.int n t] Λ 2 fun r' Λ' => Λ = Λ' ∧ ∃ t, r' = .int r t := by
  k_extra "my enter"; w_strict (k_extra "my steps")
  refine MyStop.go ?_; (with_reducible rename Fr _ _ _ _ => lF); obtain ⟨m0, hm0, lF⟩ := loop_start lF
  let J9 : Nat → (Str → Option Value) → Ledger → Prop := fun k m₁ Λ₁ => Λ = Λ₁ ∧ ∃ n a t1 t2, m₁ = (fun y => if y = Str.ofString "found" then some (.int a t1) else if y = Str.ofString "n" then some (.int n t2) else m0 y) ∧ lg2 k n a = some r; refine While_inv2 (n₀ := fuel) J9 lF (by k_extra "my news" : News _ _ _ Λ) ⟨rfl, n, -1, _, _, self2 (by rw [hm0]; exact rfl) (by rw [hm0]; exact rfl), hr⟩ ?_; subst hm0; intro k m₁ Λ₁ h₁ tk₁ F₁ N₁ J09; k_extra "my fold"; ((refine and_elim2 J09 fun J09e0 J09q1 => ?_; clear J09; refine ex_elim4 J09q1 fun n a t1 t2 J09q2 => ?_; clear J09q1; refine and_elim2 J09q2 fun J09e5 hs => ?_; clear J09q2); subst J09e0; subst J09e5); k_extra "my after"
  cases k with
  | zero => cases hs
  | succ k =>
    unfold lg2 at hs
    by_cases h0 : 0 < n
    · rw [if_pos h0] at hs
      w_strict (k_extra "my steps")
      exact ⟨_, _, _, _, k, rfl, by k_asm, by k_asm, Nat.lt_succ_self _, rfl, _, _, _, _, upd2, hs⟩
    · rw [if_neg h0] at hs
      obtain rfl := Option.some.inj hs
      w_strict (k_extra "my steps")
      k_extra "my retK"; exact ⟨rfl, _, rfl⟩
theorem reg_F8_1 : True := by
  k_with "my calls" => ((with_reducible refine (?_ : wpAny _ _ (call (Value.ref 271) _) _ _ _)); k_dflt (refine Runs.use (array_index_spec (by k_extra "my is")) (by k_asm) (by k_asm) (by k_asm) (by k_extra "my news") (by k_asm) (by first | exact rfl | assumption) (by k_extra "my room") (by k_extra "my units") ?_); k_whole; intro r9 Λ9 h9 tk9 F9 N9 P9; ((refine and_elim2 P9 fun P9e0 P9q1 => ?_; clear P9; refine ex_elim1 P9q1 fun t9 P9e2 => ?_; clear P9q1); subst P9e0; subst P9e2); k_extra "my after")
  k_with "my calls" => ((with_reducible refine (?_ : wpAny _ _ (call (Value.ref 271) _) _ _ _)); k_dflt (refine useI (array_index_spec (by k_extra "my is")) (by k_asm) (by k_asm) (by k_asm) (by k_extra "my news") (by k_asm) (by k_asm) (by k_extra "my rm") (by exact rfl) ?_); k_whole; intro t9 h9 tk9 F9 N9; k_extra "my after")
  trivial
theorem reg_F8_2 : True := by
  k_with "my calls" => ((with_reducible refine (?_ : wpAny _ _ (call (Value.ref 161) _) _ _ _)); k_dflt (refine Runs.use (log2_spec (by assumption)) (by k_asm) (by k_asm) (by k_asm) (by k_extra "my news") (by k_asm) (by first | exact rfl | assumption) (by k_extra "my room") (by k_extra "my units") ?_); k_whole; intro r9 Λ9 h9 tk9 F9 N9 P9; ((refine and_elim2 P9 fun P9e0 P9q1 => ?_; clear P9; refine ex_elim1 P9q1 fun t9 P9e2 => ?_; clear P9q1); subst P9e0; subst P9e2); k_extra "my after")
  k_with "my calls" => ((with_reducible refine (?_ : wpAny _ _ (call (Value.ref 161) _) _ _ _)); k_dflt (refine useI (log2_spec (by assumption)) (by k_asm) (by k_asm) (by k_asm) (by k_extra "my news") (by k_asm) (by k_asm) (by k_extra "my rm") (by exact rfl) ?_); k_whole; intro t9 h9 tk9 F9 N9; k_extra "my after")
  trivial
theorem ceil_log2_spec {w : World} {n r : Int} {t : Tok} {fuel : Nat} (hr : lg2 fuel (n - 1) (-1) = some r) {Λ : Ledger} : Runs w 168 [.int n t] Λ 4 fun r' Λ' => Λ = Λ' ∧ ∃ t, r' = .int (r + 1) t := by
  k_extra "my enter"; w_strict (k_extra "my steps")
  k_extra "my retK"; exact ⟨rfl, _, rfl⟩
theorem reg_F8_3 : True := by
  k_with "my calls" => ((with_reducible refine (?_ : wpAny _ _ (call (Value.ref 168) _) _ _ _)); k_dflt (refine Runs.use (ceil_log2_spec (by assumption)) (by k_asm) (by k_asm) (by k_asm) (by k_extra "my news") (by k_asm) (by first | exact rfl | assumption) (by k_extra "my room") (by k_extra "my units") ?_); k_whole; intro r9 Λ9 h9 tk9 F9 N9 P9; ((refine and_elim2 P9 fun P9e0 P9q1 => ?_; clear P9; refine ex_elim1 P9q1 fun t9 P9e2 => ?_; clear P9q1); subst P9e0; subst P9e2); k_extra "my after")
  k_with "my calls" => ((with_reducible refine (?_ : wpAny _ _ (call (Value.ref 168) _) _ _ _)); k_dflt (refine useI (ceil_log2_spec (by assumption)) (by k_asm) (by k_asm) (by k_asm) (by k_extra "my news") (by k_asm) (by k_asm) (by k_extra "my rm") (by exact rfl) ?_); k_whole; intro t9 h9 tk9 F9 N9; k_extra "my after")
  trivial
theorem moved_to_spec {w : World} {T : Tb} {R : Ledger} {AS : List Addr} {i j : Nat} {nd : Nd} {b : Addr} (O : Own T R) (S : adrs T = AS) (hx : T.ns[i]? = some nd) (hj : AS[j]? = some b) (hij : i ≠ j) :
    Runs w 257 [.ref nd.a, .ref b] (tbObjs w.params T ++ R) 2 fun _ Λ' => ∃ f : Nd → Nd, (∀ x, (f x).a = x.a) ∧ (∀ x, (f x).d = x.d) ∧ (∀ x, (f x).abs = nd.abs) ∧ Λ' = tbObjs w.params (T.up j f) ++ R ∧ Own (T.up j f) R := by
  have hm := List.mem_of_getElem? hx
  have mem1 : ∀ f, nd ∈ (T.up j f).ns := fun f => List.mem_of_getElem? (up_ne hx hij)
  have mem2 : ∀ f g, nd ∈ ((T.up j f).up j g).ns := fun f g => List.mem_of_getElem? (up_ne (up_ne hx hij) hij)
  k_with "my mem" => (first | exact mem1 _ | exact mem2 _ _)
  k_extra "my enter"; w_strict (k_extra "my steps")
  refine hret _ _ _ _ (by k_asm) (by k_asm) ⟨fun x => { { { x with k := ⟨nd.k.v, nd.k.p, nd.k.h⟩ } with v := ⟨nd.v.v, nd.v.p, nd.v.h⟩ } with nx := nd.nx, tn := nd.tn }, fun _ => rfl, fun _ => rfl, fun _ => rfl, ?_, ?_⟩
  · rw [up_up, up_up]
  · rename Own _ _ => O9
    rw [up_up, up_up] at O9; exact O9
theorem reg_F8_4 : True := by
  k_with "my calls" => ((with_reducible refine (?_ : wpAny _ _ (call (Value.ref 257) _) _ _ _)); k_dflt (refine Runs.use (moved_to_spec (by assumption) (by assumption) (by assumption) (by assumption) (by assumption)) (by k_asm) (by k_asm) (by k_asm) (by k_extra "my news") (by k_asm) (by first | exact rfl | assumption) (by k_extra "my room") (by k_extra "my units") ?_); k_whole; intro r9 Λ9 h9 tk9 F9 N9 P9; (first | ((refine ex_elim5 P9 fun f9 fa9 fd9 fn9 P9e4 O9 => ?_; clear P9); subst P9e4; trace "DEST 8d44a14c53 0") | ((refine ex_elim4 P9 fun f9 fa9 fd9 fn9 P9q1 => ?_; clear P9; refine and_elim2 P9q1 fun P9e4 O9 => ?_; clear P9q1); subst P9e4; trace "DEST 8d44a14c53 1") | ((refine ex_elim3 P9 fun f9 fa9 fd9 P9q1 => ?_; clear P9; refine and_elim3 P9q1 fun fn9 P9e4 O9 => ?_; clear P9q1); subst P9e4; trace "DEST 8d44a14c53 2") | ((refine ex_elim2 P9 fun f9 fa9 P9q1 => ?_; clear P9; refine and_elim4 P9q1 fun fd9 fn9 P9e4 O9 => ?_; clear P9q1); subst P9e4; trace "DEST 8d44a14c53 3") | ((refine ex_elim1 P9 fun f9 P9q1 => ?_; clear P9; refine and_elim5 P9q1 fun fa9 fd9 fn9 P9e4 O9 => ?_; clear P9q1); subst P9e4; trace "DEST 8d44a14c53 4") | ((refine and_elim6 P9 fun f9 fa9 fd9 fn9 P9e4 O9 => ?_; clear P9); subst P9e4; trace "DEST 8d44a14c53 5") | ((refine and_elim2 P9 fun f9 P9q1 => ?_; clear P9; refine ex_elim4 P9q1 fun fa9 fd9 fn9 P9e4 O9 => ?_; clear P9q1); subst P9e4; trace "DEST 8d44a14c53 6") | ((refine and_elim2 P9 fun f9 P9q1 => ?_; clear P9; refine ex_elim3 P9q1 fun fa9 fd9 fn9 P9q2 => ?_; clear P9q1; refine and_elim2 P9q2 fun P9e4 O9 => ?_; clear P9q2); subst P9e4; trace "DEST 8d44a14c53 7") | ((refine and_elim2 P9 fun f9 P9q1 => ?_; clear P9; refine ex_elim2 P9q1 fun fa9 fd9 P9q2 => ?_; clear P9q1; refine and_elim3 P9q2 fun fn9 P9e4 O9 => ?_; clear P9q2); subst P9e4; trace "DEST 8d44a14c53 8") | ((refine and_elim2 P9 fun f9 P9q1 => ?_; clear P9; refine ex_elim1 P9q1 fun fa9 P9q2 => ?_; clear P9q1; refine and_elim4 P9q2 fun fd9 fn9 P9e4 O9 => ?_; clear P9q2); subst P9e4; trace "DEST 8d44a14c53 9") | ((refine and_elim3 P9 fun f9 fa9 P9q1 => ?_; clear P9; refine ex_elim3 P9q1 fun fd9 fn9 P9e4 O9 => ?_; clear P9q1); subst P9e4; trace "DEST 8d44a14c53 10") | ((refine and_elim3 P9 fun f9 fa9 P9q1 => ?_; clear P9; refine ex_elim2 P9q1 fun fd9 fn9 P9q2 => ?_; clear P9q1; refine and_elim2 P9q2 fun P9e4 O9 => ?_; clear P9q2); subst P9e4; trace "DEST 8d44a14c53 11") | ((refine and_elim3 P9 fun f9 fa9 P9q1 => ?_; clear P9; refine ex_elim1 P9q1 fun fd9 P9q2 => ?_; clear P9q1; refine and_elim3 P9q2 fun fn9 P9e4 O9 => ?_; clear P9q2); subst P9e4; trace "DEST 8d44a14c53 12") | (obtain ⟨f9, fa9, fd9, fn9, rfl, O9⟩ := P9; trace "DEST 8d44a14c53 13")); k_extra "my after")
  k_with "my calls" => ((with_reducible refine (?_ : wpAny _ _ (call (Value.ref 257) _) _ _ _)); k_dflt (refine useG (moved_to_spec (by assumption) (by assumption) (by assumption) (by assumption) (by assumption)) (by k_asm) (by k_asm) (by k_asm) (by k_extra "my news") (by k_asm) (by k_asm) (by k_extra "my rm") (by exact rfl) ?_); k_whole; intro r9 Λ9 h9 tk9 F9 N9 P9; (first | ((refine ex_elim5 P9 fun f9 fa9 fd9 fn9 P9e4 O9 => ?_; clear P9); subst P9e4; trace "DEST 8d44a14c53 0") | ((refine ex_elim4 P9 fun f9 fa9 fd9 fn9 P9q1 => ?_; clear P9; refine and_elim2 P9q1 fun P9e4 O9 => ?_; clear P9q1); subst P9e4; trace "DEST 8d44a14c53 1") | ((refine ex_elim3 P9 fun f9 fa9 fd9 P9q1 => ?_; clear P9; refine and_elim3 P9q1 fun fn9 P9e4 O9 => ?_; clear P9q1); subst P9e4; trace "DEST 8d44a14c53 2") | ((refine ex_elim2 P9 fun f9 fa9 P9q1 => ?_; clear P9; refine and_elim4 P9q1 fun fd9 fn9 P9e4 O9 => ?_; clear P9q1); subst P9e4; trace "DEST 8d44a14c53 3") | ((refine ex_elim1 P9 fun f9 P9q1 => ?_; clear P9; refine and_elim5 P9q1 fun fa9 fd9 fn9 P9e4 O9 => ?_; clear P9q1); subst P9e4; trace "DEST 8d44a14c53 4") | ((refine and_elim6 P9 fun f9 fa9 fd9 fn9 P9e4 O9 => ?_; clear P9); subst P9e4; trace "DEST 8d44a14c53 5") | ((refine and_elim2 P9 fun f9 P9q1 => ?_; clear P9; refine ex_elim4 P9q1 fun fa9 fd9 fn9 P9e4 O9 => ?_; clear P9q1); subst P9e4; trace "DEST 8d44a14c53 6") | ((refine and_elim2 P9 fun f9 P9q1 => ?_; clear P9; refine ex_elim3 P9q1 fun fa9 fd9 fn9 P9q2 => ?_; clear P9q1; refine and_elim2 P9q2 fun P9e4 O9 => ?_; clear P9q2); subst P9e4; trace "DEST 8d44a14c53 7") | ((refine and_elim2 P9 fun f9 P9q1 => ?_; clear P9; refine ex_elim2 P9q1 fun fa9 fd9 P9q2 => ?_; clear P9q1; refine and_elim3 P9q2 fun fn9 P9e4 O9 => ?_; clear P9q2); subst P9e4; trace "DEST 8d44a14c53 8") | ((refine and_elim2 P9 fun f9 P9q1 => ?_; clear P9; refine ex_elim1 P9q1 fun fa9 P9q2 => ?_; clear P9q1; refine and_elim4 P9q2 fun fd9 fn9 P9e4 O9 => ?_; clear P9q2); subst P9e4; trace "DEST 8d44a14c53 9") | ((refine and_elim3 P9 fun f9 fa9 P9q1 => ?_; clear P9; refine ex_elim3 P9q1 fun fd9 fn9 P9e4 O9 => ?_; clear P9q1); subst P9e4; trace "DEST 8d44a14c53 10") | ((refine and_elim3 P9 fun f9 fa9 P9q1 => ?_; clear P9; refine ex_elim2 P9q1 fun fd9 fn9 P9q2 => ?_; clear P9q1; refine and_elim2 P9q2 fun P9e4 O9 => ?_; clear P9q2); subst P9e4; trace "DEST 8d44a14c53 11") | ((refine and_elim3 P9 fun f9 fa9 P9q1 => ?_; clear P9; refine ex_elim1 P9q1 fun fd9 P9q2 => ?_; clear P9q1; refine and_elim3 P9q2 fun fn9 P9e4 O9 => ?_; clear P9q2); subst P9e4; trace "DEST 8d44a14c53 12") | (obtain ⟨f9, fa9, fd9, fn9, rfl, O9⟩ := P9; trace "DEST 8d44a14c53 13")); k_extra "my after")
  trivial
end
section
/-- count_key: what comes back, and the counts -/
noncomputable def cKey (k : PV) (cs : List Int) : Option (Int × List Int) :=
  if 0 < k.idx ∧ k.idx ≤ 67108864 then match lg2 40 (k.idx - 1) (-1) with
    | none => none
    | some r => if 0 ≤ r + 1 ∧ r + 1 < cs.length then some (1, cs.set (r + 1).toNat (cs.getD (r + 1).toNat 0 + 1)) else none
  else some (0, cs)
theorem count_key_spec {w : World} {v : Value} {k : PV} (hv : Is v k) {c : Addr} {vs : List Value} {cs cs' : List Int} {n : Nat} {x : Int} {R : Ledger} (hi : IntsAre vs cs) (hc : ∀ p ∈ R, p.1 ≠ c) (hl : cs.length ≤ 64) (hr : cKey k cs = some (x, cs')) :
    Runs w 285 [v, .ref c] ((c, listOf vs.toArray n) :: R) 8 fun r Λ' => ∃ t vs', r = .int x t ∧ IntsAre vs' cs' ∧ Λ' = (c, listOf vs'.toArray n) :: R := by
  unfold cKey at hr
  by_cases h0 : 0 < k.idx ∧ k.idx ≤ 67108864
  · rw [if_pos h0] at hr
    cases hg : lg2 40 (k.idx - 1) (-1) with
    | none => rw [hg] at hr; cases hr
    | some q =>
      rw [hg] at hr
      simp only at hr
      by_cases h1 : 0 ≤ q + 1 ∧ q + 1 < cs.length
      · rw [if_pos h1] at hr
        obtain ⟨rfl, rfl⟩ := Prod.mk.inj (Option.some.inj hr)
        obtain ⟨h2, h3⟩ := h0
        obtain ⟨h4, h5⟩ := h1
        k_extra "my enter"; w_strict (k_extra "my steps")
        exact hret _ _ _ _ (by k_asm) (by k_asm) ⟨_, _, rfl, by assumption, rfl⟩
      · rw [if_neg h1] at hr; cases hr
  · rw [if_neg h0] at hr
    obtain ⟨rfl, rfl⟩ := Prod.mk.inj (Option.some.inj hr)
    k_extra "my enter"; w_strict (k_extra "my steps")
    all_goals exact hret _ _ _ _ (by k_asm) (by k_asm) ⟨_, _, rfl, hi, rfl⟩
theorem reg_F9_1 : True := by
  k_with "my calls" => ((with_reducible refine (?_ : wpAny _ _ (call (Value.ref 285) _) _ _ _)); k_dflt (refine Runs.use (count_key_spec (by k_extra "my is") (by assumption) (by assumption) (by omega) (by assumption)) (by k_asm) (by k_asm) (by k_asm) (by k_extra "my news") (by k_asm) (by first | exact rfl | assumption) (by k_extra "my room") (by k_extra "my units") ?_); k_whole; intro r9 Λ9 h9 tk9 F9 N9 P9; ((refine ex_elim2 P9 fun t9 vs9 P9q1 => ?_; clear P9; refine and_elim3 P9q1 fun P9e2 hi9 P9e4 => ?_; clear P9q1); subst P9e2; subst P9e4); k_extra "my after")
  k_with "my calls" => ((with_reducible refine (?_ : wpAny _ _ (call (Value.ref 285) _) _ _ _)); k_dflt (refine useG (count_key_spec (by k_extra "my is") (by assumption) (by assumption) (by omega) (by assumption)) (by k_asm) (by k_asm) (by k_asm) (by k_extra "my news") (by k_asm) (by k_asm) (by k_extra "my rm") (by exact rfl) ?_); k_whole; intro r9 Λ9 h9 tk9 F9 N9 P9; ((refine ex_elim2 P9 fun t9 vs9 P9q1 => ?_; clear P9; refine and_elim3 P9q1 fun P9e2 hi9 P9e4 => ?_; clear P9q1); subst P9e2; subst P9e4); k_extra "my after")
  trivial
end
section
/-- compute_sizes' loop: (size, used) -/
noncomputable def csLoop (wanted : Int) : List Int → Int → Int → Int → Int → Int × Int
  | [], _, u, s, _ => (s, u)
  | c :: cs, g, u, s, p => if wanted ≤ p.fdiv 2 then (s, u)
    else if 0 < c then
      if p.fdiv 2 < g + c then (if g + c = wanted then (p, g + c) else csLoop wanted cs (g + c) (g + c) p (p * 2))
      else (if g + c = wanted then (s, u) else csLoop wanted cs (g + c) u s (p * 2))
    else (if g = wanted then (s, u) else csLoop wanted cs g u s (p * 2))
noncomputable abbrev pairObj (a b : Value) : Obj := { cls := .type "tuple", data := .seq #[a, b] }
theorem pair_eq {x : Int × Int} {z u : Int} {t t' : Tok} {D : Addr} {Λ : Ledger} (h : (z, u) = x) : (D, pairObj (.int z t) (.int u t')) :: Λ = (D, pairObj (.int x.1 t) (.int x.2 t')) :: Λ := by subst h; rfl
theorem compute_sizes_spec {w : World} {c : Addr} {vs : List Value} {ks : List Int} {n : Nat} {wanted : Int} {t : Tok} {Λ : Ledger} (hi : IntsAre vs ks) (hm : (c, listOf vs.toArray n) ∈ Λ) (hl : ks.length ≤ 30) :
    Runs w 278 [.ref c, .int wanted t] Λ 4 fun r Λ' => ∃ a t1 t2, r = .ref a ∧ Λ' = (a, pairObj (.int (csLoop wanted ks 0 0 0 1).1 t1) (.int (csLoop wanted ks 0 0 0 1).2 t2)) :: Λ := by
  have hlen := hi.length
  k_extra "my enter"; w_strict (k_extra "my steps")
  refine MyStop.go ?_; (with_reducible rename Fr _ _ _ _ => lF); obtain ⟨m0, hm0, lF⟩ := loop_start lF
  refine For_invVF lF (by rfl) (by rfl) ?_
  subst hm0
  w_strict (k_extra "my steps")
  refine MyStop.go ?_; (with_reducible rename Fr _ _ _ _ => lF); obtain ⟨m0, hm0, lF⟩ := loop_start lF
  let J9 : Nat → (Str → Option Value) → Ledger → Prop := fun i m₁ Λ₁ => Λ = Λ₁ ∧ ∃ g u z p t1 t2 t3 t4 oc, i ≤ ks.length ∧ 0 < p ∧ p ≤ 2 ^ i ∧ m₁ = updL m0 [(Str.ofString "power", some (.int p t1)), (Str.ofString "size", some (.int z t2)), (Str.ofString "used", some (.int u t3)), (Str.ofString "gathered", some (.int g t4)), (Str.ofString "count", oc)] ∧ csLoop wanted (ks.drop i) g u z p = csLoop wanted ks 0 0 0 1; refine for_list (Λ₀ := Λ) J9 (by rfl) lF (by k_extra "my news") hm ⟨rfl, 0, 0, 0, 1, _, _, _, _, none, by omega, by omega, by decide, (by subst hm0; exact updL_eq ⟨rfl, rfl, rfl, rfl, rfl, trivial⟩ (fun _ _ => rfl)), rfl⟩ ?_ ?_
  · subst hm0
    rintro i v m₁ Λ₁ h tk own I hv ⟨rfl, g, u, z, p, t1, t2, t3, t4, oc, hik, hp0, hp1, rfl, hs⟩ hoff ⟨oI, hI⟩ hfp F₁ N₁
    have hik' : i < ks.length := by rw [← hlen]; exact (List.getElem?_eq_some_iff.mp hv).1
    obtain ⟨tv, hx⟩ := hi.get i ks[i] (by simp [hik'])
    obtain rfl : v = .int ks[i] tv := Option.some.inj (hv.symm.trans hx)
    rw [List.drop_eq_getElem_cons hik'] at hs
    have hp2 : p ≤ 2 ^ 30 := Int.le_trans hp1 (by exact_mod_cast Nat.pow_le_pow_right (by decide) (by omega))
    have hp3 : p * 2 ≤ 2 ^ (i + 1) := by rw [Int.pow_succ]; omega
    generalize ks[i] = cnt at *
    generalize hR : csLoop wanted ks 0 0 0 1 = res at hs
    unfold csLoop at hs
    k_extra "my after"
    w_strict (k_extra "my steps")
    all_goals (try simp only [beq_iff_eq, bne_iff_ne, ne_eq, decide_eq_true_eq, Bool.not_eq_true, beq_eq_false_iff_ne] at *)
    all_goals first
      | (refine hret _ _ _ _ (by k_asm) (News.mid (by k_asm)) ⟨_, _, _, rfl, pair_eq ?_⟩
         rw [hR, ← hs]; symm; (repeat' split) <;> first | rfl | (exfalso; omega))
      | (refine MyStop.go ?_)
    all_goals refine lsv_next (by k_asm) (by k_asm) (fun _ hp => List.mem_append_left _ hp) (fun _ hp => List.mem_append_right _ hp) hoff ⟨rfl, _, _, _, _, _, _, _, _, _, by omega, by omega, hp3, updL_eq ⟨rfl, rfl, rfl, rfl, rfl, trivial⟩ (by k_extra "my off"), ?_⟩
    all_goals ((first | rw [hR, ← hs] | rw [← hs]); symm; (repeat' split) <;> first | rfl | (exfalso; omega))
  · subst hm0
    intro m₁ Λ₁ h tk J09 F₁ N₁; k_extra "my fold"; ((refine and_elim2 J09 fun J09e0 J09q1 => ?_; clear J09; refine ex_elim9 J09q1 fun g u z p t1 t2 t3 t4 oc J09q2 => ?_; clear J09q1; refine and_elim5 J09q2 fun hik hp0 hp1 J09e13 hs => ?_; clear J09q2); subst J09e0; subst J09e13)
    rw [hlen, List.drop_length] at hs
    k_extra "my after"
    w_strict (k_extra "my steps")
    refine hret _ _ _ _ (by k_asm) (by k_asm) ⟨_, _, _, rfl, pair_eq ?_⟩
    rw [← hs]; rfl
theorem reg_F10_1 : True := by
  k_with "my calls" => ((with_reducible refine (?_ : wpAny _ _ (call (Value.ref 278) _) _ _ _)); k_dflt (refine Runs.use (compute_sizes_spec (by assumption) (by k_mem) (by omega)) (by k_asm) (by k_asm) (by k_asm) (by k_extra "my news") (by k_asm) (by first | exact rfl | assumption) (by k_extra "my room") (by k_extra "my units") ?_); k_whole; intro r9 Λ9 h9 tk9 F9 N9 P9; ((refine ex_elim3 P9 fun a9 t9 u9 P9q1 => ?_; clear P9; refine and_elim2 P9q1 fun P9e3 P9e4 => ?_; clear P9q1); subst P9e3; subst P9e4); k_extra "my after")
  k_with "my calls" => ((with_reducible refine (?_ : wpAny _ _ (call (Value.ref 278) _) _ _ _)); k_dflt (refine useG (compute_sizes_spec (by assumption) (by k_mem) (by omega)) (by k_asm) (by k_asm) (by k_asm) (by k_extra "my news") (by k_asm) (by k_asm) (by k_extra "my rm") (by exact rfl) ?_); k_whole; intro r9 Λ9 h9 tk9 F9 N9 P9; ((refine ex_elim3 P9 fun a9 t9 u9 P9q1 => ?_; clear P9; refine and_elim2 P9q1 fun P9e3 P9e4 => ?_; clear P9q1); subst P9e3; subst P9e4); k_extra "my after")
  trivial
end
section
/-- count_nodes' loop: total, whole, counts -/
noncomputable def cNodes : List PN → List Int → Int → Int → Option (Int × Int × List Int)
  | [], ks, t, w => some (t, w, ks)
  | x :: xs, ks, t, w => if x.v = .none then cNodes xs ks t w else match cKey x.k ks with
    | none => none
    | some (d, ks') => cNodes xs ks' (t + 1) (w + d)
theorem cons_mid {x : Addr × Obj} {own R : Ledger} : ∀ p ∈ x :: R, p ∈ x :: (own ++ R) := fun p hp => by
  rcases List.mem_cons.mp hp with rfl | hp
  · exact .head _
  · exact .tail _ (List.mem_append_right _ hp)
theorem off_head {c : Addr} {o o' : Obj} {R : Ledger} {W : List Addr} (h : ∀ p ∈ (c, o) :: R, p.1 ∉ W) : ∀ p ∈ (c, o') :: R, p.1 ∉ W := fun p hp => by
  rcases List.mem_cons.mp hp with rfl | hp
  · exact h (c, o) (.head _)
  · exact h p (.tail _ hp)
theorem cKey_length {k : PV} {ks ks' : List Int} {x : Int} (h : cKey k ks = some (x, ks')) : ks'.length = ks.length := by
  unfold cKey at h
  (repeat' split at h) <;> first | (cases h; done) | (cases h; exact List.length_set ..) | (cases h; rfl)
theorem count_nodes_spec {w : World} {T : Tb} {c : Addr} {vs : List Value} {ks : List Int} {n : Nat} {R : Ledger} (hi : IntsAre vs ks) (hc : ∀ p ∈ R, p.1 ≠ c) (hl : ks.length ≤ 64) (hT : HasTab w.params T R) (hn : T.ns.length ≤ 64) {tt ww : Int} {ks' : List Int} (hr : cNodes (T.ns.map Nd.abs) ks 0 0 = some (tt, ww, ks')) :
    Runs w 398 [.ref T.a, .ref c] ((c, listOf vs.toArray n) :: R) 12 fun r Λ' => ∃ a t1 t2 vs', r = .ref a ∧ IntsAre vs' ks' ∧ Λ' = (a, pairObj (.int tt t1) (.int ww t2)) :: (c, listOf vs'.toArray n) :: R := by
  have hT' : HasTab w.params T ((c, listOf vs.toArray n) :: R) := fun p hp => .tail _ (hT p hp)
  k_extra "my enter"; w_strict (k_extra "my steps")
  k_extra "my for0"
  subst hm0
  w_strict (k_extra "my steps")
  refine MyStop.go ?_; (with_reducible rename Fr _ _ _ _ => lF); obtain ⟨m0, hm0, lF⟩ := loop_start lF
  let J9 : Nat → (Str → Option Value) → Ledger → Prop := fun i m₁ Λ₁ => ∃ us js t w t1 t2 oc, Λ₁ = (c, listOf us.toArray n) :: R ∧ IntsAre us js ∧ js.length = ks.length ∧ m₁ = updL m0 [(Str.ofString "whole", some (.int w t1)), (Str.ofString "total", some (.int t t2)), (Str.ofString "node", oc)] ∧ cNodes ((T.ns.map Nd.abs).drop i) js t w = some (tt, ww, ks'); refine for_list (Λ₀ := (c, listOf vs.toArray n) :: R) J9 (by rfl) lF (by k_extra "my news") (.tail _ hT.nodes) ⟨vs, ks, 0, 0, _, _, none, rfl, hi, rfl, (by subst hm0; exact updL_eq ⟨rfl, rfl, rfl, trivial⟩ (fun _ _ => rfl)), hr⟩ ?_ ?_
  · subst hm0
    rintro i v m₁ Λ₁ h tk own I hv ⟨us, js, t, w', t1, t2, oc, rfl, hi1, hjl, rfl, hs⟩ hoff ⟨oI, hI⟩ hfp F₁ N₁
    obtain ⟨nd, hx, rfl⟩ : ∃ nd, T.ns[i]? = some nd ∧ Value.ref nd.a = v := by rw [List.getElem?_map] at hv; exact Option.map_eq_some_iff.mp hv
    have hm := List.mem_of_getElem? hx
    obtain ⟨m5, m6⟩ := hT.nd hm
    have hc' : ∀ p ∈ own ++ R, p.1 ≠ c := fun p hp => (List.mem_append.mp hp).elim (fun q e => (hfp p q).elim (fun z => hoff _ (.head _) (by simp [← e, z])) fun z => hc _ hT.nodes (z ▸ e)) (hc p)
    replace N₁ : News _ _ h ((c, listOf us.toArray n) :: (own ++ R)) := News.sub N₁ fun p hp => by
      rcases List.mem_cons.mp hp with rfl | hp
      · exact List.mem_append_right _ (.head _)
      · exact (List.mem_append.mp hp).elim (List.mem_append_left _) fun q => List.mem_append_right _ (.tail _ q)
    have hi' : i < T.ns.length := (List.getElem?_eq_some_iff.mp hx).1
    have e1 : (T.ns.map Nd.abs).drop i = nd.abs :: (T.ns.map Nd.abs).drop (i + 1) := by
      rw [List.drop_eq_getElem_cons (by simpa using hi')]
      simp [(List.getElem?_eq_some_iff.mp hx).2]
    rw [e1] at hs
    unfold cNodes at hs
    have m7 : (nd.a, instObj 260 nd.d) ∈ (c, listOf us.toArray n) :: (own ++ R) := .tail _ (List.mem_append_right _ m5)
    have m8 : (nd.d, ndDict w.params nd) ∈ (c, listOf us.toArray n) :: (own ++ R) := .tail _ (List.mem_append_right _ m6)
    k_extra "my after"
    by_cases hv0 : nd.v.p = PV.none
    · rw [if_pos (show nd.abs.v = PV.none from hv0)] at hs
      have hb : (!decide (nd.v.p = PV.none)) = false := by simp [hv0]
      w_strict (k_extra "my steps")
      refine MyStop.go ?_
      exact lsv_next (by k_asm) (by k_asm) (fun _ hp => .tail _ (List.mem_append_left _ hp)) cons_mid hoff ⟨us, js, t, w', _, _, _, rfl, hi1, hjl, updL_eq ⟨rfl, rfl, rfl, trivial⟩ (by k_extra "my off"), hs⟩
    · rw [if_neg (show ¬ nd.abs.v = PV.none from hv0)] at hs
      have hb : (!decide (nd.v.p = PV.none)) = true := by simp [hv0]
      cases hk : cKey nd.abs.k js with
      | none => rw [hk] at hs; cases hs
      | some q =>
        obtain ⟨d, js'⟩ := q
        rw [hk] at hs
        replace hk : cKey nd.k.p js = some (d, js') := hk
        w_strict (k_extra "my steps")
        refine MyStop.go ?_
        exact lsv_next (Λ' := (c, listOf vs9.toArray n) :: R) (by k_asm) (by k_asm) (fun _ hp => .tail _ (List.mem_append_left _ hp)) cons_mid (off_head hoff) ⟨vs9, js', _, _, _, _, _, rfl, hi9, (cKey_length hk).trans hjl, updL_eq ⟨rfl, rfl, rfl, trivial⟩ (by k_extra "my off"), hs⟩
  · subst hm0
    intro m₁ Λ₁ h tk J09 F₁ N₁; k_extra "my fold"; ((refine ex_elim7 J09 fun us js t w' t1 t2 oc J09q1 => ?_; clear J09; refine and_elim5 J09q1 fun J09e7 hi1 hjl J09e10 hs => ?_; clear J09q1); subst J09e7; subst J09e10)
    have e1 : (T.ns.map Nd.abs).drop ((T.ns.map fun n => Value.ref n.a).length) = [] := by rw [List.length_map, ← List.length_map (f := Nd.abs), List.drop_length]
    rw [e1] at hs
    obtain ⟨rfl, rfl, rfl⟩ : t = tt ∧ w' = ww ∧ js = ks' := by cases hs; exact ⟨rfl, rfl, rfl⟩
    k_extra "my after"
    w_strict (k_extra "my steps")
    exact hret _ _ _ _ (by k_asm) (by k_asm) ⟨_, _, _, _, rfl, hi1, rfl⟩
theorem reg_F11_1 : True := by
  k_with "my calls" => ((with_reducible refine (?_ : wpAny _ _ (call (Value.ref 398) _) _ _ _)); k_dflt (refine Runs.use (count_nodes_spec (by assumption) (by assumption) (by omega) (by assumption) (by omega) (by assumption)) (by k_asm) (by k_asm) (by k_asm) (by k_extra "my news") (by k_asm) (by first | exact rfl | assumption) (by k_extra "my room") (by k_extra "my units") ?_); k_whole; intro r9 Λ9 h9 tk9 F9 N9 P9; ((refine ex_elim4 P9 fun a9 t9 u9 vs9 P9q1 => ?_; clear P9; refine and_elim3 P9q1 fun P9e4 hi9 P9e6 => ?_; clear P9q1); subst P9e4; subst P9e6); k_extra "my after")
  k_with "my calls" => ((with_reducible refine (?_ : wpAny _ _ (call (Value.ref 398) _) _ _ _)); k_dflt (refine useG (count_nodes_spec (by assumption) (by assumption) (by omega) (by assumption) (by omega) (by assumption)) (by k_asm) (by k_asm) (by k_asm) (by k_extra "my news") (by k_asm) (by k_asm) (by k_extra "my rm") (by exact rfl) ?_); k_whole; intro r9 Λ9 h9 tk9 F9 N9 P9; ((refine ex_elim4 P9 fun a9 t9 u9 vs9 P9q1 => ?_; clear P9; refine and_elim3 P9q1 fun P9e4 hi9 P9e6 => ?_; clear P9q1); subst P9e4; subst P9e6); k_extra "my after")
  trivial
end
section
/-- count_array's inner loop: (at, here) -/
noncomputable def caInner (es : List PV) (last : Int) : Nat → Int → Int → Option (Int × Int)
  | 0, _, _ => none
  | f + 1, at_, here => if at_ ≤ last then (if at_ < 1 then none else match es[(at_ - 1).toNat]? with
      | none => none
      | some e => caInner es last f (at_ + 1) (if e = .none then here else here + 1))
    else some (at_, here)
/-- its outer loop: (total, counts) -/
noncomputable def caOuter (es : List PV) (fuel : Nat) : Nat → Nat → Int → Int → Int → List Int → Option (Int × List Int)
  | 0, _, _, _, total, ks => some (total, ks)
  | k + 1, step, at_, limit, total, ks => if min limit es.length < at_ then some (total, ks) else match caInner es (min limit es.length) fuel at_ 0 with
    | none => none
    | some (at', here) => if step < ks.length then caOuter es fuel k (step + 1) at' (limit * 2) (total + here) (ks.set step (ks.getD step 0 + here)) else none
theorem count_array_spec {w : World} {T : Tb} {c : Addr} {vs : List Value} {ks : List Int} {n : Nat} {R : Ledger} (hi : IntsAre vs ks) (hc : ∀ p ∈ R, p.1 ≠ c) (hl : ks.length ≤ 64) (hT : HasTab w.params T R) (hn : T.es.length ≤ 64) {fuel : Nat} {tt : Int} {ks' : List Int} (hr : caOuter (T.es.map (·.p)) fuel 27 0 1 1 0 ks = some (tt, ks')) :
    Runs w 391 [.ref T.a, .ref c] ((c, listOf vs.toArray n) :: R) 12 fun r Λ' => ∃ t vs', r = .int tt t ∧ IntsAre vs' ks' ∧ Λ' = (c, listOf vs'.toArray n) :: R := by
  have hT' : HasTab w.params T ((c, listOf vs.toArray n) :: R) := fun p hp => .tail _ (hT p hp)
  k_extra "my enter"; w_strict (k_extra "my steps")
  k_extra "my for0"
  subst hm0
  w_strict (k_extra "my steps")
  refine MyStop.go ?_; (with_reducible rename Fr _ _ _ _ => lF); (rename IsRange _ _ _ _ _ _ _ _ => lR); obtain ⟨m0, hm0, lF⟩ := loop_start lF
  let J9 : Nat → (Str → Option Value) → Ledger → Prop := fun i m₁ Λ₁ => ∃ us js total at_ limit t1 t2 t3 o1 o2 o3, Λ₁ = (c, listOf us.toArray n) :: R ∧ IntsAre us js ∧ js.length = ks.length ∧ i ≤ 27 ∧ 0 < at_ ∧ 0 < limit ∧ limit ≤ 2 ^ i ∧ m₁ = updL m0 [(Str.ofString "total", some (.int total t1)), (Str.ofString "at", some (.int at_ t2)), (Str.ofString "limit", some (.int limit t3)), (Str.ofString "here", o1), (Str.ofString "last", o2), (Str.ofString "step", o3)] ∧ caOuter (T.es.map (·.p)) fuel (27 - i) i at_ limit total js = some (tt, ks'); refine for_range (k := 27) (Λ₀ := (c, listOf vs.toArray n) :: R) J9 (by rfl) lF (by k_extra "my news") lR (by decide) ⟨vs, ks, 0, 1, 1, _, _, _, none, none, none, rfl, by assumption, rfl, by decide, by decide, by decide, by decide, (by subst hm0; exact updL_eq ⟨rfl, rfl, rfl, rfl, rfl, rfl, trivial⟩ (fun _ _ => rfl)), hr⟩ ?_ ?_
  · subst hm0
    rintro i ti m₁ Λ₁ h tk own I hik ⟨us, js, total, at_, limit, t1, t2, t3, o1, o2, o3, rfl, hi1, hjl, _, ha0, hl0, hl1, rfl, hs⟩ hoff ⟨oI, hI⟩ hfp F₁ N₁
    have hc' : ∀ p ∈ own ++ R, p.1 ≠ c := fun p hp => (List.mem_append.mp hp).elim (fun q e => hoff _ (.head _) (by simp [← e, hfp p q])) (hc p)
    replace N₁ : News _ _ h ((c, listOf us.toArray n) :: (own ++ R)) := News.sub N₁ fun p hp => by
      rcases List.mem_cons.mp hp with rfl | hp
      · exact List.mem_append_right _ (.head _)
      · exact (List.mem_append.mp hp).elim (List.mem_append_left _) fun q => List.mem_append_right _ (.tail _ q)
    have hT2 : HasTab w.params T ((c, listOf us.toArray n) :: (own ++ R)) := fun p hp => .tail _ (List.mem_append_right _ (hT p hp))
    have hp2 : limit ≤ 2 ^ 30 := Int.le_trans hl1 (by exact_mod_cast Nat.pow_le_pow_right (by decide) (by omega))
    have hp3 : limit * 2 ≤ 2 ^ (i + 1) := by rw [Int.pow_succ]; omega
    rw [show 27 - i = (27 - (i + 1)) + 1 by omega] at hs
    unfold caOuter at hs
    rw [List.length_map] at hs
    k_extra "my after"
    by_cases hla : min limit (T.es.length : Int) < at_
    · rw [if_pos hla] at hs
      w_strict (k_extra "my steps")
      cases hs
      exact hret _ _ _ _ (by k_asm) (News.mid (by k_asm)) ⟨_, _, rfl, by assumption, rfl⟩
    · rw [if_neg hla] at hs
      cases hin : caInner (T.es.map (·.p)) (min limit T.es.length) fuel at_ 0 with
      | none => rw [hin] at hs; cases hs
      | some q =>
        obtain ⟨at', here'⟩ := q
        rw [hin] at hs
        simp only at hs
        have hst : i < js.length := by
          by_cases h0 : i < js.length
          · exact h0
          · rw [if_neg h0] at hs; cases hs
        rw [if_pos hst] at hs
        w_strict (k_extra "my steps")
        refine MyStop.go ?_; (with_reducible rename Fr _ _ _ _ => lF); obtain ⟨m2, hm2, lF⟩ := loop_start lF
        let J9 : Nat → (Str → Option Value) → Ledger → Prop := fun n' m₁ Λ₁ => Λ₁ = (c, listOf us.toArray n) :: (own ++ R) ∧ ∃ a9 e9 t1 t2, 0 < a9 ∧ m₁ = updL m2 [(Str.ofString "at", some (.int a9 t1)), (Str.ofString "here", some (.int e9 t2))] ∧ caInner (T.es.map (·.p)) (min limit T.es.length) n' a9 e9 = some (at', here'); refine While_inv2 (n₀ := fuel) J9 lF (by k_extra "my news") ⟨rfl, at_, 0, _, _, ha0, (by subst hm2; exact updL_eq ⟨rfl, rfl, trivial⟩ (fun _ _ => rfl)), hin⟩ ?_
        subst hm2
        intro n' m₁ Λ₁ h₁ tk₁ F₁ N₁ J09; k_extra "my fold"; ((refine and_elim2 J09 fun J09e0 J09q1 => ?_; clear J09; refine ex_elim4 J09q1 fun a9 e9 t4 t5 J09q2 => ?_; clear J09q1; refine and_elim3 J09q2 fun ha9 J09e6 hin' => ?_; clear J09q2); subst J09e0; subst J09e6); k_extra "my after"
        cases n' with
        | zero => cases hin'
        | succ n' =>
          unfold caInner at hin'
          by_cases hla9 : a9 ≤ min limit T.es.length
          · rw [if_pos hla9, if_neg (by omega), List.getElem?_map] at hin'
            cases hx : T.es[(a9 - 1).toNat]? with
            | none => rw [hx] at hin'; cases hin'
            | some e =>
              rw [hx] at hin'
              simp only [Option.map_some] at hin'
              by_cases hv0 : e.p = PV.none
              · rw [if_pos hv0] at hin'
                have hb : (!decide (e.p = PV.none)) = false := by simp [hv0]
                w_strict (k_extra "my steps")
                exact ⟨_, _, _, _, n', rfl, by k_asm, by k_asm, Nat.lt_succ_self _, rfl, a9 + 1, e9, _, _, by omega, updL_eq ⟨rfl, rfl, trivial⟩ (by k_extra "my off"), hin'⟩
              · rw [if_neg hv0] at hin'
                have hb : (!decide (e.p = PV.none)) = true := by simp [hv0]
                w_strict (k_extra "my steps")
                exact ⟨_, _, _, _, n', rfl, by k_asm, by k_asm, Nat.lt_succ_self _, rfl, a9 + 1, e9 + 1, _, _, by omega, updL_eq ⟨rfl, rfl, trivial⟩ (by k_extra "my off"), hin'⟩
          · rw [if_neg hla9] at hin'
            obtain ⟨rfl, rfl⟩ : a9 = at' ∧ e9 = here' := by cases hin'; exact ⟨rfl, rfl⟩
            w_strict (k_extra "my steps")
            refine MyStop.go ?_
            exact lsv_next (by k_asm) (by k_asm) (fun _ hp => .tail _ (List.mem_append_left _ hp)) cons_mid (off_head hoff) ⟨_, _, _, _, _, _, _, _, _, _, _, rfl, by assumption, (List.length_set ..).trans hjl, by omega, ha9, by omega, hp3, updL_eq ⟨rfl, rfl, rfl, rfl, rfl, rfl, trivial⟩ (by k_extra "my off"), hs⟩
  · subst hm0
    intro m₁ Λ₁ h tk J09 F₁ N₁; k_extra "my fold"; ((refine ex_elim11 J09 fun us js total at_ limit t1 t2 t3 o1 o2 o3 J09q1 => ?_; clear J09; refine and_elim9 J09q1 fun J09e11 hi1 hjl J09u14 ha0 hl0 hl1 J09e18 hs => ?_; clear J09q1); subst J09e11; subst J09e18)
    cases hs
    k_extra "my after"
    w_strict (k_extra "my steps")
    exact hret _ _ _ _ (by k_asm) (by k_asm) ⟨_, _, rfl, hi1, rfl⟩
theorem reg_F12_1 : True := by
  k_with "my calls" => ((with_reducible refine (?_ : wpAny _ _ (call (Value.ref 391) _) _ _ _)); k_dflt (refine Runs.use (count_array_spec (by assumption) (by assumption) (by omega) (by assumption) (by omega) (by assumption)) (by k_asm) (by k_asm) (by k_asm) (by k_extra "my news") (by k_asm) (by first | exact rfl | assumption) (by k_extra "my room") (by k_extra "my units") ?_); k_whole; intro r9 Λ9 h9 tk9 F9 N9 P9; ((refine ex_elim2 P9 fun t9 vs9 P9q1 => ?_; clear P9; refine and_elim3 P9q1 fun P9e2 hi9 P9e4 => ?_; clear P9q1); subst P9e2; subst P9e4); k_extra "my after")
  k_with "my calls" => ((with_reducible refine (?_ : wpAny _ _ (call (Value.ref 391) _) _ _ _)); k_dflt (refine useG (count_array_spec (by assumption) (by assumption) (by omega) (by assumption) (by omega) (by assumption)) (by k_asm) (by k_asm) (by k_asm) (by k_extra "my news") (by k_asm) (by k_asm) (by k_extra "my rm") (by exact rfl) ?_); k_whole; intro r9 Λ9 h9 tk9 F9 N9 P9; ((refine ex_elim2 P9 fun t9 vs9 P9q1 => ?_; clear P9; refine and_elim3 P9q1 fun P9e2 hi9 P9e4 => ?_; clear P9q1); subst P9e2; subst P9e4); k_extra "my after")
  trivial
end
section
noncomputable def mkSize (h : Int) : Option Nat := if 0 < h then (lg2 40 (h - 1) (-1)).map fun q => 2 ^ (q + 1).toNat else some 0
theorem lg2_ge : ∀ {f : Nat} {n a r : Int}, lg2 f n a = some r → a ≤ r
  | 0, _, _, _, h => nomatch h
  | f + 1, n, a, r, h => by
    unfold lg2 at h
    by_cases h0 : 0 < n
    · rw [if_pos h0] at h; have := lg2_ge h; omega
    · rw [if_neg h0] at h; cases h; exact Int.le_refl _
theorem pow_le_six {k : Nat} (h : 2 ^ k ≤ 64) : k ≤ 6 := by
  rcases Nat.lt_or_ge 6 k with h1 | h1
  · have := Nat.pow_le_pow_right (n := 2) (by decide) h1
    have e : 2 ^ (6 + 1) = 128 := rfl
    omega
  · exact h1
/-- nodes just made -/
structure Fresh (P : Params) (Λ : Ledger) (ns : List Nd) : Prop where
  blank : ns.map Nd.abs = List.replicate ns.length ⟨.none, .none, -1⟩
  nd : (adr ns).Nodup
  off : ∀ p ∈ Λ, p.1 ∉ adr ns
theorem allLt_mem {d : Addr} : ∀ {l : Ledger}, AllLt d l → ∀ p ∈ l, p.1 < d
  | [], _, _, h => nomatch h
  | _ :: _, ⟨a, b⟩, p, h => by
    rcases List.mem_cons.mp h with rfl | h
    · exact a
    · exact allLt_mem b p h
theorem adr_key {P : Params} {ns : List Nd} {x : Addr} (h : x ∈ adr ns) : ∃ p ∈ ns.flatMap (ndObjs P), p.1 = x := by
  rw [← keys_flat P] at h
  obtain ⟨p, hp, e⟩ := List.mem_map.mp h
  exact ⟨p, hp, e⟩
theorem node_end {P : Params} {h₀ h' : Heap} {L I C D : Addr} {oI oC oD : Obj} {m : Str → Option Value} {s₁ : Shared} {tk : Nat} {S : Ledger → Prop} {Λ0 : Ledger} {ns : List Nd} {nd : Nd} {i : Nat} (hS : ∀ l, S l)
    (F : Fr h₀ L h' m) (N : News h₀ L h' ((nd.a, instObj 260 nd.d) :: (nd.d, ndDict P nd) :: (I, oI) :: (C, oC) :: (D, oD) :: (ns.flatMap (ndObjs P) ++ Λ0)))
    (hf : Fresh P Λ0 ns) (hl : ns.length = i) (ho : LCg.Off3 I C D (ns.flatMap (ndObjs P) ++ Λ0)) (lI : I < nd.d) (lC : C < nd.d) (lD : D < nd.d) (lA : AllLt nd.d (ns.flatMap (ndObjs P) ++ Λ0)) (l2 : nd.d < nd.a) (hb : nd.abs = ⟨.none, .none, -1⟩) :
    LCg.CompEnd h₀ L m s₁ I oI C oC D oD S (fun y news'' => ∃ ns' : List Nd, ns.map (fun n => Value.ref n.a) ++ [y] = ns'.map (fun n => Value.ref n.a) ∧ ns'.length = i + 1 ∧ Fresh P Λ0 ns' ∧ news'' = ns'.flatMap (ndObjs P) ++ Λ0) (.ref nd.a) { s₁ with heap := h', toks := tk } := by
  have lm := allLt_mem lA
  have e : (ns ++ [nd]).flatMap (ndObjs P) ++ Λ0 = ns.flatMap (ndObjs P) ++ ((nd.a, instObj 260 nd.d) :: (nd.d, ndDict P nd) :: Λ0) := by
    rw [List.flatMap_append, List.append_assoc]; rfl
  refine LCg.CompEnd.intro F N ((ns ++ [nd]).flatMap (ndObjs P) ++ Λ0) (fun p hp => ?_) (LCg.Off3.of fun p hp => ?_) (hS _) ⟨ns ++ [nd], by simp, by simp [hl], ⟨?_, ?_, ?_⟩, rfl⟩
  · rw [e] at hp
    simp only [List.mem_cons, List.mem_append] at hp ⊢
    rcases hp with h | h | h | h | h | h | h <;> simp [h]
  · rw [e] at hp
    rcases List.mem_append.mp hp with hp | hp
    · exact ho.mem p (List.mem_append_left _ hp)
    · rcases List.mem_cons.mp hp with rfl | hp
      · exact ⟨Nat.ne_of_gt (Nat.lt_trans lI l2), Nat.ne_of_gt (Nat.lt_trans lC l2), Nat.ne_of_gt (Nat.lt_trans lD l2)⟩
      · rcases List.mem_cons.mp hp with rfl | hp
        · exact ⟨Nat.ne_of_gt lI, Nat.ne_of_gt lC, Nat.ne_of_gt lD⟩
        · exact ho.mem p (List.mem_append_right _ hp)
  · rw [List.map_append, hf.blank, List.length_append, List.length_singleton]
    show _ ++ [nd.abs] = _
    rw [hb]; exact (List.replicate_succ').symm
  · have h1 : ∀ x ∈ adr ns, x < nd.d := fun x hx => by obtain ⟨p, hp, rfl⟩ := adr_key (P := P) hx; exact lm p (List.mem_append_left _ hp)
    have ea : adr (ns ++ [nd]) = adr ns ++ [nd.a, nd.d] := by simp [adr]
    rw [ea]
    refine List.nodup_append.mpr ⟨hf.nd, ?_, ?_⟩
    · simp only [List.nodup_cons, List.mem_cons, List.not_mem_nil, or_false, not_false_eq_true, List.nodup_nil, and_true]
      exact Nat.ne_of_gt l2
    · intro x hx y hy
      have := h1 x hx
      simp only [List.mem_cons, List.not_mem_nil, or_false] at hy
      rcases hy with rfl | rfl
      · exact Nat.ne_of_lt (Nat.lt_trans this l2)
      · exact Nat.ne_of_lt this
  · intro p hp hm
    have ea : adr (ns ++ [nd]) = adr ns ++ [nd.a, nd.d] := by simp [adr]
    rw [ea] at hm
    have h1 := lm p (List.mem_append_right _ hp)
    rcases List.mem_append.mp hm with hm | hm
    · exact hf.off p hp hm
    · simp only [List.mem_cons, List.not_mem_nil, or_false] at hm
      rcases hm with e | e
      · rw [e] at h1; exact Nat.lt_irrefl _ (Nat.lt_trans h1 l2)
      · rw [e] at h1; exact Nat.lt_irrefl _ h1
theorem off1_mem {D : Addr} : ∀ {l : Ledger}, LCg.Off1 D l → ∀ p ∈ l, p.1 ≠ D
  | [], _, _, h => nomatch h
  | _ :: _, ⟨a, b⟩, p, h => by
    rcases List.mem_cons.mp h with rfl | h
    · exact a
    · exact off1_mem b p h
theorem Own.grown {P : Params} {T : Tb} {R : Ledger} {x : Addr} {o : Obj} {ns : List Nd} (O : Own T R) (h1 : ∀ p ∈ ns.flatMap (ndObjs P) ++ (tbObjs P T ++ R), p.1 ≠ x) (h2 : Fresh P (tbObjs P T ++ R) ns) :
    Own T ((x, o) :: (ns.flatMap (ndObjs P) ++ R)) ∧ (x :: adr ns).Nodup ∧ ∀ p ∈ R, p.1 ∉ x :: adr ns := by
  refine ⟨⟨O.nd, fun p hp hx => ?_⟩, List.nodup_cons.mpr ⟨fun hx => ?_, h2.nd⟩, fun p hp hx => ?_⟩
  · obtain ⟨q, hq, e⟩ := mem_addrs (P := P) hx
    rcases List.mem_cons.mp hp with rfl | hp
    · exact h1 q (List.mem_append_right _ (List.mem_append_left _ hq)) e
    · rcases List.mem_append.mp hp with hp | hp
      · refine h2.off q (List.mem_append_left _ hq) ?_
        rw [e, ← keys_flat P]; exact List.mem_map.mpr ⟨p, hp, rfl⟩
      · exact O.off p hp hx
  · obtain ⟨p, hp, e⟩ := adr_key (P := P) hx
    exact h1 p (List.mem_append_left _ hp) e
  · rcases List.mem_cons.mp hx with e | hx
    · exact h1 p (List.mem_append_right _ (List.mem_append_right _ hp)) e
    · exact h2.off p (List.mem_append_right _ hp) hx
theorem set_grown {w : World} {A : Around} {E : Value → Shared → Prop} {s : Shared} {h₀ : Heap} {L a : Addr} {m : Str → Option Value} {Q : Unit → Shared → Prop} {T : Tb} {R : Ledger} {x : Addr} {k : Nat} {ns : List Nd} (O : Own T R) (F : Fr h₀ L s.heap m) (X : (Mine.h0.heap_1 w.params).In h₀) (N : News h₀ L s.heap ((x, nlObj ns k) :: (ns.flatMap (ndObjs w.params) ++ (tbObjs w.params T ++ R)))) (h1 : LCg.Off1 x (ns.flatMap (ndObjs w.params) ++ (tbObjs w.params T ++ R))) (h2 : Fresh w.params (tbObjs w.params T ++ R) ns) (ha : T.a = a)
    (h : ∀ h' T', T' = T.wNodes x k ns → Fr h₀ L h' m → News h₀ L h' (tbObjs w.params T' ++ (oldNodes w.params T ++ R)) → Own T' (oldNodes w.params T ++ R) → Q () { s with heap := h', toks := s.toks + 2 }) : wpAny (model PG w) A (setAttr (.ref a) (Str.ofString "nodes") (.ref x)) Q E s := by
  obtain ⟨g1, g2, g3⟩ := O.grown (P := w.params) (o := nlObj ns k) (off1_mem h1) h2
  refine set_nodes F X (News.sub N fun p hp => ?_) g1 g2 g3 ha (fun h' => h h' _ rfl)
  rcases List.mem_append.mp hp with hp | hp
  · exact .tail _ (List.mem_append_right _ (List.mem_append_left _ hp))
  · rcases List.mem_cons.mp hp with rfl | hp
    · exact .head _
    · rcases List.mem_append.mp hp with hp | hp
      · exact .tail _ (List.mem_append_left _ hp)
      · exact .tail _ (List.mem_append_right _ (List.mem_append_right _ hp))
theorem own_drop {P : Params} {T T' : Tb} {R : Ledger} (O : Own T (oldNodes P T' ++ R)) : Own T R := O.sub fun _ hp => List.mem_append_right _ hp
theorem news_drop {P : Params} {h₀ h : Heap} {L : Addr} {T T' : Tb} {R : Ledger} (N : News h₀ L h (tbObjs P T ++ (oldNodes P T' ++ R))) : News h₀ L h (tbObjs P T ++ R) := News.sub N fun p hp => by
  rcases List.mem_append.mp hp with hp | hp
  · exact List.mem_append_left _ hp
  · exact List.mem_append_right _ (List.mem_append_right _ hp)
theorem make_nodes_spec {w : World} {T : Tb} {R : Ledger} (O : Own T R) {hs : Int} {t : Tok} (h64 : hs ≤ 64) {N : Nat} (hN : mkSize hs = some N) (hN64 : N ≤ 64) :
    Runs w 425 [.ref T.a, .int hs t] (tbObjs w.params T ++ R) 12 fun _ Λ' => ∃ x k ns lg lgT frT, Λ' = tbObjs w.params (((T.wNodes x k ns).wLog lg lgT).wFree N frT) ++ (oldNodes w.params T ++ R) ∧ Own (((T.wNodes x k ns).wLog lg lgT).wFree N frT) (oldNodes w.params T ++ R) ∧ ns.map Nd.abs = List.replicate N ⟨.none, .none, -1⟩ := by
  unfold mkSize at hN
  by_cases h0 : 0 < hs
  · rw [if_pos h0] at hN
    obtain ⟨q, hq, hqN⟩ := Option.map_eq_some_iff.mp hN
    subst hqN
    clear hN
    have hq1 := lg2_ge hq
    have hq2 := pow_le_six hN64
    k_extra "my enter"; w_strict (k_extra "my steps")
    rename_i N1 l1
    refine MyStop.go ?_
    refine set_nodes (k := 0) (ns := []) (R := R) (by k_asm) (by k_asm) (News.sub N1 mem_rot) (O.add (P := w.params) fun p hp => Nat.ne_of_lt (l1 p (List.mem_append_left _ hp))) (by simp [adr]) (fun p hp => by simpa [adr] using Nat.ne_of_lt (l1 p (List.mem_append_right _ hp))) rfl ?_
    clear N1 l1
    intro h1 F1 N1 O1
    k_extra "my after"
    w_strict (k_extra "my steps")
    refine MyStop.go ?_
    k_dflt (refine LCg.ListComp_U (F₀ := by k_asm) (by rfl) (by decide) (by rfl) (by decide) (by rfl) ?_)
    w_strict (k_extra "my steps")
    refine MyStop.go ?_
    (rename IsRange _ _ _ _ _ _ _ _ => lR)
    have hpw : (2 : Int) ^ (q + 1).toNat = ((2 ^ (q + 1).toNat : Nat) : Int) := by exact_mod_cast rfl
    rw [Int.one_mul, hpw] at lR
    k_dflt (refine LCg.CompSrc.range (n := 2 ^ (q + 1).toNat) (by rfl) (by k_asm) (by k_asm) lR (range_small (by omega)) (range_size _) (by rw [sizeLine_eq]; omega) ?_)
    intro g
    refine comp_inv (fun Λ0 i ys news' => ∃ ns : List Nd, ys = ns.map (fun n => Value.ref n.a) ∧ ns.length = i ∧ Fresh w.params Λ0 ns ∧ news' = ns.flatMap (ndObjs w.params) ++ Λ0) ⟨[], rfl, rfl, ⟨rfl, List.nodup_nil, fun _ _ h => nomatch h⟩, rfl⟩ ?_ ?_
    · rintro i ys news' hiN ⟨ns, rfl, hlen, hfr, rfl⟩ v I oI C oC D m₂ h tk E' hP hC hx F9 N9 ho hd9
      clear hP
      w_strict (k_extra "my steps")
      (rename (I < _ ∧ _) => l1)
      obtain ⟨lI, lC, lD, lA⟩ := l1
      exact node_end (nd := ⟨_, _, ⟨.none, .none, Is.none⟩, ⟨.none, .none, Is.none⟩, -1, _, _, _, _⟩) (fun _ => trivial) (by k_asm) (by k_asm) hfr hlen ho lI lC lD lA (by assumption) rfl
    · intro ys news' J09; k_extra "my fold"; ((refine ex_elim1 J09 fun ns J09q1 => ?_; clear J09; refine and_elim4 J09q1 fun J09e1 hlen hfr J09e4 => ?_; clear J09q1); subst J09e1; subst J09e4)
      unfold LCg.FinE
      intro D9 h9 tk9 F9 N9 o9
      k_extra "my after"
      w_strict (k_extra "my steps")
      refine MyStop.go ?_
      (rename (Own (((T.wNodes _ _ _).wLog _ _).wLog _ _) _) => O2)
      refine set_grown O2 (by k_asm) (by k_asm) N9 o9 hfr rfl ?_
      intro h3 T9 hT9 F3 N3 O3
      have ha9 : T9.a = T.a := by rw [hT9]; rfl
      have hlen9 : T9.ns.length = 2 ^ (q + 1).toNat := by rw [hT9]; exact hlen
      k_extra "my after"
      w_strict (k_extra "my steps")
      (rename Own _ (oldNodes _ _ ++ (oldNodes _ _ ++ _)) => O4)
      (rename (News h₀ L _ (tbObjs _ _ ++ (oldNodes _ _ ++ (oldNodes _ _ ++ _)))) => N4)
      have O5 := own_drop O4
      have N5 := news_drop N4
      rw [hlen9] at O5 N5
      subst hT9
      exact hret _ _ _ _ (by k_asm) N5 ⟨_, _, ns, _, _, _, rfl, O5, by rw [hfr.blank, hlen]⟩
  · rw [if_neg h0] at hN
    obtain rfl := Option.some.inj hN
    k_extra "my enter"; w_strict (k_extra "my steps")
    rename_i N1 l1
    refine MyStop.go ?_
    refine set_nodes (k := 0) (ns := []) (R := R) (by k_asm) (by k_asm) (News.sub N1 mem_rot) (O.add (P := w.params) fun p hp => Nat.ne_of_lt (l1 p (List.mem_append_left _ hp))) (by simp [adr]) (fun p hp => by simpa [adr] using Nat.ne_of_lt (l1 p (List.mem_append_right _ hp))) rfl ?_
    clear N1 l1
    intro h1 F1 N1 O1
    k_extra "my after"
    w_strict (k_extra "my steps")
    rename Own _ _ => O9
    exact hret _ _ _ _ (by k_asm) (by k_asm) ⟨_, _, [], _, _, _, rfl, O9, rfl⟩
end
section
theorem weigh_spec {w : World} {T : Tb} {R : Ledger} (O : Own T R) (he : T.es.length ≤ 64) (hn : T.ns.length ≤ 64) :
    Runs w 439 [.ref T.a, .none] (tbObjs w.params T ++ R) 12 fun _ Λ' => ∃ sz t, Λ' = tbObjs w.params (T.wSize sz t) ++ R ∧ Own (T.wSize sz t) R := by
  k_extra "my enter"; w_strict (k_extra "my steps")
  rename Own (Tb.wSize _ _ _) _ => O9
  exact hret _ _ _ _ (by k_asm) (by k_asm) ⟨_, _, rfl, O9⟩
theorem reg_F14_1 : True := by
  k_with "my calls" => ((with_reducible refine (?_ : wpAny _ _ (call (Value.ref 439) _) _ _ _)); k_dflt (refine Runs.use (weigh_spec (by assumption) (by omega) (by omega)) (by k_asm) (by k_asm) (by k_asm) (by k_extra "my news") (by k_asm) (by first | exact rfl | assumption) (by k_extra "my room") (by k_extra "my units") ?_); k_whole; intro r9 Λ9 h9 tk9 F9 N9 P9; (first | ((refine ex_elim3 P9 fun z9 t9 P9e2 O9 => ?_; clear P9); subst P9e2; trace "DEST 9e62bc6192 0") | ((refine ex_elim2 P9 fun z9 t9 P9q1 => ?_; clear P9; refine and_elim2 P9q1 fun P9e2 O9 => ?_; clear P9q1); subst P9e2; trace "DEST 9e62bc6192 1") | ((refine ex_elim1 P9 fun z9 P9q1 => ?_; clear P9; refine and_elim3 P9q1 fun t9 P9e2 O9 => ?_; clear P9q1); subst P9e2; trace "DEST 9e62bc6192 2") | ((refine and_elim4 P9 fun z9 t9 P9e2 O9 => ?_; clear P9); subst P9e2; trace "DEST 9e62bc6192 3") | ((refine and_elim2 P9 fun z9 P9q1 => ?_; clear P9; refine ex_elim2 P9q1 fun t9 P9e2 O9 => ?_; clear P9q1); subst P9e2; trace "DEST 9e62bc6192 4") | ((refine and_elim2 P9 fun z9 P9q1 => ?_; clear P9; refine ex_elim1 P9q1 fun t9 P9q2 => ?_; clear P9q1; refine and_elim2 P9q2 fun P9e2 O9 => ?_; clear P9q2); subst P9e2; trace "DEST 9e62bc6192 5") | ((refine and_elim3 P9 fun z9 t9 P9q1 => ?_; clear P9; refine ex_elim1 P9q1 fun P9e2 O9 => ?_; clear P9q1); subst P9e2; trace "DEST 9e62bc6192 6") | (obtain ⟨z9, t9, rfl, O9⟩ := P9; trace "DEST 9e62bc6192 7")); k_extra "my after")
  k_with "my calls" => ((with_reducible refine (?_ : wpAny _ _ (call (Value.ref 439) _) _ _ _)); k_dflt (refine useG (weigh_spec (by assumption) (by omega) (by omega)) (by k_asm) (by k_asm) (by k_asm) (by k_extra "my news") (by k_asm) (by k_asm) (by k_extra "my rm") (by exact rfl) ?_); k_whole; intro r9 Λ9 h9 tk9 F9 N9 P9; (first | ((refine ex_elim3 P9 fun z9 t9 P9e2 O9 => ?_; clear P9); subst P9e2; trace "DEST 9e62bc6192 0") | ((refine ex_elim2 P9 fun z9 t9 P9q1 => ?_; clear P9; refine and_elim2 P9q1 fun P9e2 O9 => ?_; clear P9q1); subst P9e2; trace "DEST 9e62bc6192 1") | ((refine ex_elim1 P9 fun z9 P9q1 => ?_; clear P9; refine and_elim3 P9q1 fun t9 P9e2 O9 => ?_; clear P9q1); subst P9e2; trace "DEST 9e62bc6192 2") | ((refine and_elim4 P9 fun z9 t9 P9e2 O9 => ?_; clear P9); subst P9e2; trace "DEST 9e62bc6192 3") | ((refine and_elim2 P9 fun z9 P9q1 => ?_; clear P9; refine ex_elim2 P9q1 fun t9 P9e2 O9 => ?_; clear P9q1); subst P9e2; trace "DEST 9e62bc6192 4") | ((refine and_elim2 P9 fun z9 P9q1 => ?_; clear P9; refine ex_elim1 P9q1 fun t9 P9q2 => ?_; clear P9q1; refine and_elim2 P9q2 fun P9e2 O9 => ?_; clear P9q2); subst P9e2; trace "DEST 9e62bc6192 5") | ((refine and_elim3 P9 fun z9 t9 P9q1 => ?_; clear P9; refine ex_elim1 P9q1 fun P9e2 O9 => ?_; clear P9q1); subst P9e2; trace "DEST 9e62bc6192 6") | (obtain ⟨z9, t9, rfl, O9⟩ := P9; trace "DEST 9e62bc6192 7")); k_extra "my after")
  trivial
end
section
/-- a table as a plain thing -/
structure PT where
  es : List PV
  ns : List PN
  fr : Int
  fl : Int
deriving DecidableEq
noncomputable def Tb.abs (T : Tb) : PT := ⟨T.es.map (·.p), T.ns.map Nd.abs, T.fr, T.fl⟩
noncomputable def Tb.wAt (T : Tb) (i : Nat) (e : En) : Tb := { T with es := T.es.set i e }
theorem upd_arr {P : Params} {T : Tb} {R : Ledger} (O : Own T R) {i : Nat} {e : En} :
    Upd T.arr (listOf (T.es.map (·.v)).toArray T.esN) (listOf ((T.es.map (·.v)).set i e.v).toArray T.esN) (tbObjs P T ++ R) (tbObjs P (T.wAt i e) ++ R) := by
  have h := O.nd
  rw [addrs_eq] at h
  simp only [List.nodup_cons, List.mem_cons, not_or] at h
  have e1 : (T.es.map (·.v)).set i e.v = (T.es.set i e).map (·.v) := by rw [List.map_set]
  rw [e1]
  refine .tail (Ne.symm (Ne.symm h.1.2.1)) (.tail (Ne.symm (Ne.symm h.2.1.1)) (.head fun p hp => ?_))
  rcases List.mem_cons.mp hp with rfl | hp
  · exact Ne.symm h.2.2.1.1
  · rcases List.mem_append.mp hp with hp | hp
    · intro hx
      refine h.2.2.1.2 ?_
      rw [← hx, ← keys_flat P]; exact List.mem_map.mpr ⟨p, hp, rfl⟩
    · intro hx
      exact O.off p hp (by rw [hx, addrs_eq]; simp)
theorem arr_set {w : World} {A : Around} {E : Value → Shared → Prop} {s : Shared} {h₀ : Heap} {L : Addr} {m : Str → Option Value} {T : Tb} {R : Ledger} {k : Int} {t : Tok} {v : Value} {p : PV} {Q : Unit → Shared → Prop} (hv : Is v p) (F : Fr h₀ L s.heap m) (N : News h₀ L s.heap (tbObjs w.params T ++ R)) (O : Own T R) (h0 : 0 ≤ k) (h1 : k < T.es.length) (hfit : k < 2 ^ 63)
    (h : ∀ h', Fr h₀ L h' m → News h₀ L h' (tbObjs w.params (T.wAt k.toNat ⟨v, p, hv⟩) ++ R) → Own (T.wAt k.toNat ⟨v, p, hv⟩) R → Q () { s with heap := h' }) :
    wpAny (model PG w) A (setItem (.ref T.arr) (.int k t) v) Q E s := by
  have U := upd_arr (P := w.params) O (i := k.toNat) (e := ⟨v, p, hv⟩)
  have hO : Own (T.wAt k.toNat ⟨v, p, hv⟩) R := ⟨O.nd, O.off⟩
  revert U hO h
  generalize tbObjs w.params (T.wAt k.toNat ⟨v, p, hv⟩) ++ R = Λ'
  intro h U hO
  obtain ⟨pre, post, e1, rfl, a, b⟩ := U.split
  rw [e1] at N
  have z := N (T.arr, listOf (T.es.map (·.v)).toArray T.esN) (List.mem_append.mpr (.inr (.head _)))
  refine ki_setAt z.1 h0 hfit (by simpa using h1) (h _ (F.change (Heap.SameBut.update ..) z.2.1 z.2.2) (ki_turn _ N a b ?_ ?_) hO)
  · show ((T.es.map (·.v)).toArray).setIfInBounds k.toNat v = ((T.es.map (·.v)).set k.toNat v).toArray
    apply Array.toList_inj.mp
    simp
  · simp
end

theorem reg_at_F16 : True := by
  k_with "setItem ref int" => ((k_here; k_dflt (refine' arr_set ?vq9 ?Fq9 ?Nq9 ?Oq9 ?h0q9 ?h1q9 ?hfq9 ?_; (case vq9 => k_extra "my is"); (case Fq9 => k_asm); (case Nq9 => k_asm); (case Oq9 => assumption); (case h0q9 => (first | with_reducible assumption | exact le_mil (by with_reducible assumption) | omega)); (case h1q9 => (first | with_reducible assumption | exact le_mil (by with_reducible assumption) | omega)); (case hfq9 => (first | with_reducible assumption | exact le_mil (by with_reducible assumption) | omega)); k_whole; intro h' F' N' O'; (try k_sweep))))
  trivial
section
noncomputable abbrev NKPost (P : Params) (a : Addr) (R : Ledger) (t' : PT) (Λ' : Ledger) : Prop := ∃ T' : Tb, T'.a = a ∧ T'.abs = t' ∧ Λ' = tbObjs P T' ++ R ∧ Own T' R
/-- a call that leaves a table and the rest -/
theorem useT {w : World} {f : Addr} {args : List Value} {Λ : Ledger} {D : Nat} {b : Addr} {R : Ledger} {t' : PT} (H : Runs w f args Λ D fun _ Λ' => NKPost w.params b R t' Λ') {c : Fc} {dp un D0 : Nat} {gd : Option (List Code)} {L : Addr} {outer : List Env} {mg mb : Str → Option Value} {mean : ExcName → Option Value} {A₀ : Around} {base h₀ : Heap} {m : Str → Option Value} {s : Shared}
    (B : Below A₀ base outer h₀) (F : Fr h₀ L s.heap m) (X : (Mine.h0.heap_1 w.params).In h₀) (N : News h₀ L s.heap Λ) (T : Top Mine.vw LO mean mg mb h₀) (rm : Rm dp un D0) (hD : D + 1 ≤ D0) (hk : c.sc.kind = .function) {Q : Value → Shared → Prop}
    (ret : ∀ r T' h' tk', Fr h₀ L h' m → News h₀ L h' (tbObjs w.params T' ++ R) → T'.a = b → T'.abs = t' → Own T' R → Q r { s with heap := h', toks := tk' }) :
    wpAny (model PG w) (fcA c dp un gd L outer) (call (.ref f) args) Q NoE s :=
  useG H B F X N T rm hD hk fun r Λ' h' tk' F' N' ⟨T', ha, hab, e, O⟩ => ret r T' h' tk' F' (e ▸ N') ha hab O
/-- what new_key does, as far as nk tells -/
noncomputable def NKSpec (w : World) (nk : PT → PV → PV → Option PT) (D : Nat) : Prop :=
  ∀ {T : Tb} {R : Ledger} {b : Addr} {v u : Value} {p q : PV}, T.a = b → Is v p → p.key → Is u q → Own T R → ∀ {t' : PT}, nk T.abs p q = some t' → Runs w 377 [.ref b, v, u, .none] (tbObjs w.params T ++ R) D fun _ Λ' => NKPost w.params b R t' Λ'
noncomputable def backF (nk : PT → PV → PV → Option PT) (t : PT) (k v : PV) : Option PT :=
  if t.es.length ≤ 64 then if 1 ≤ k.idx ∧ k.idx ≤ t.es.length then some { t with es := t.es.set (k.idx - 1).toNat v } else nk t k v else none
theorem NKSpec.run {w : World} {nk : PT → PV → PV → Option PT} {D : Nat} (H : NKSpec w nk D) {T : Tb} {R : Ledger} {b : Addr} {v u : Value} {p q : PV} (hb : T.a = b) (hv : Is v p) (hp : p.key) (hq : Is u q) (O : Own T R) {t' : PT} (hr : nk T.abs p q = some t') :
    Runs w 377 [.ref b, v, u, .none] (tbObjs w.params T ++ R) D fun _ Λ' => NKPost w.params b R t' Λ' := H hb hv hp hq O hr
theorem reg_F16_1 : True := by
  k_with "my calls" => ((with_reducible refine (?_ : wpAny _ _ (call (Value.ref 377) _) _ _ _)); k_dflt (refine Runs.use (NKSpec.run (by assumption) (by first | assumption | exact rfl) (by k_extra "my is") (by k_extra "my key") (by k_extra "my is") (by assumption) (by assumption)) (by k_asm) (by k_asm) (by k_asm) (by k_extra "my news") (by k_asm) (by first | exact rfl | assumption) (by k_extra "my room") (by k_extra "my units") ?_); k_whole; intro r9 Λ9 h9 tk9 F9 N9 P9; ((refine ex_elim1 P9 fun T9 P9q1 => ?_; clear P9; refine and_elim4 P9q1 fun ha9 hab9 P9e3 O9 => ?_; clear P9q1); subst P9e3); k_extra "my after")
  k_with "my calls" => ((with_reducible refine (?_ : wpAny _ _ (call (Value.ref 377) _) _ _ _)); k_dflt (refine useT (NKSpec.run (by assumption) (by first | assumption | exact rfl) (by k_extra "my is") (by k_extra "my key") (by k_extra "my is") (by assumption) (by assumption)) (by k_asm) (by k_asm) (by k_asm) (by k_extra "my news") (by k_asm) (by k_asm) (by k_extra "my rm") (by exact rfl) ?_); k_whole; intro r9 T9 h9 tk9 F9 N9 ha9 hab9 O9; k_extra "my after")
  trivial
end
section
theorem put_back_spec {w : World} {nk : PT → PV → PV → Option PT} {D : Nat} (H : NKSpec w nk D) {T : Tb} {R : Ledger} {b : Addr} {v u : Value} {p q : PV} (hb : T.a = b) (hv : Is v p) (hp : p.key) (hq : Is u q) (O : Own T R) {t' : PT} (hr : backF nk T.abs p q = some t') :
    Runs w 420 [.ref b, v, u, .none] (tbObjs w.params T ++ R) (D + 8) fun _ Λ' => NKPost w.params b R t' Λ' := by
  subst hb
  unfold backF at hr
  by_cases he : T.abs.es.length ≤ 64
  · rw [if_pos he] at hr
    have he' : T.es.length ≤ 64 := by simpa [Tb.abs] using he
    by_cases hi : 1 ≤ p.idx ∧ p.idx ≤ T.abs.es.length
    · rw [if_pos hi] at hr
      obtain rfl := Option.some.inj hr
      obtain ⟨hi1, hi2⟩ := hi
      replace hi2 : p.idx ≤ T.es.length := by simpa [Tb.abs] using hi2
      k_extra "my enter"; w_strict (k_extra "my steps")
      (rename (Own (Tb.wAt _ _ _) _) => O9)
      exact hret _ _ _ _ (by k_asm) (by k_asm) ⟨T.wAt (p.idx - 1).toNat ⟨u, q, hq⟩, rfl, by simp [Tb.abs, Tb.wAt, List.map_set], rfl, O9⟩
    · rw [if_neg hi] at hr
      have hi' : ¬ (1 ≤ p.idx ∧ p.idx ≤ T.es.length) := by simpa [Tb.abs] using hi
      k_extra "my enter"; w_strict (k_extra "my steps")
      all_goals (rename (Tb.abs _ = t') => hab8; rename (Own _ R) => O8; exact hret _ _ _ _ (by k_asm) (by k_asm) ⟨_, by assumption, hab8, rfl, O8⟩)
  · rw [if_neg he] at hr; cases hr
theorem put_again_spec {w : World} {nk : PT → PV → PV → Option PT} {D : Nat} (H : NKSpec w nk D) {T : Tb} {R : Ledger} {b : Addr} {v u : Value} {p q : PV} (hb : T.a = b) (hv : Is v p) (hp : p.key) (hq : Is u q) (O : Own T R) {t' : PT} (hr : backF nk T.abs p q = some t') :
    Runs w 384 [.ref b, v, u, .none] (tbObjs w.params T ++ R) (D + 8) fun _ Λ' => NKPost w.params b R t' Λ' := by
  subst hb
  unfold backF at hr
  by_cases he : T.abs.es.length ≤ 64
  · rw [if_pos he] at hr
    have he' : T.es.length ≤ 64 := by simpa [Tb.abs] using he
    by_cases hi : 1 ≤ p.idx ∧ p.idx ≤ T.abs.es.length
    · rw [if_pos hi] at hr
      obtain rfl := Option.some.inj hr
      obtain ⟨hi1, hi2⟩ := hi
      replace hi2 : p.idx ≤ T.es.length := by simpa [Tb.abs] using hi2
      k_extra "my enter"; w_strict (k_extra "my steps")
      (rename (Own (Tb.wAt _ _ _) _) => O9)
      exact hret _ _ _ _ (by k_asm) (by k_asm) ⟨T.wAt (p.idx - 1).toNat ⟨u, q, hq⟩, rfl, by simp [Tb.abs, Tb.wAt, List.map_set], rfl, O9⟩
    · rw [if_neg hi] at hr
      have hi' : ¬ (1 ≤ p.idx ∧ p.idx ≤ T.es.length) := by simpa [Tb.abs] using hi
      k_extra "my enter"; w_strict (k_extra "my steps")
      all_goals (rename (Tb.abs _ = t') => hab8; rename (Own _ R) => O8; exact hret _ _ _ _ (by k_asm) (by k_asm) ⟨_, by assumption, hab8, rfl, O8⟩)
  · rw [if_neg he] at hr; cases hr
end
section
section
variable {prog : Program} {w : World} {A : Around} {E : Value → Shared → Prop} {s : Shared} {env : Env} {h₀ : Heap} {x xi xc : Str} {body : List Stmt} {Q : Flow → Shared → Prop}
theorem for_rev {l I : Addr} {vs : List Value} {n : Nat} {m₀ : Str → Option Value} {Λ₀ : Ledger} (J : Nat → (Str → Option Value) → Ledger → Prop) (hh : A.handled = none) (F : Fr h₀ env.locals s.heap m₀) (N : News h₀ env.locals s.heap ((I, revObj l ((vs.length : Int) - 1)) :: Λ₀)) (hI : ∀ p ∈ Λ₀, p.1 ≠ I) (hm : (l, listOf vs.toArray n) ∈ Λ₀) (hj : J 0 m₀ Λ₀)
    (turn : ∀ i v m₁ Λ₁ h tk own, i < vs.length → vs[vs.length - 1 - i]? = some v → J i m₁ Λ₁ → (∀ p ∈ Λ₁, p.1 ∉ [I]) → (∀ b ∈ [I], ∃ o, (b, o) ∈ own) → (∀ p ∈ own, p.1 ∈ [I] ∨ p.1 = l) → Fr h₀ env.locals h (fun y => if y = x then some v else m₁ y) → News h₀ env.locals h (own ++ Λ₁) →
      wpAny (model prog w) A (execs body env) (LoopStepV h₀ env.locals [I] own (J (i + 1)) { s with heap := h, toks := tk } (fun v s' => Q (.ret v) s') fun s' => Q .next s') E { s with heap := h, toks := tk })
    (done : ∀ m₁ Λ₁ h tk, J vs.length m₁ Λ₁ → Fr h₀ env.locals h m₁ → News h₀ env.locals h Λ₁ → Q .next { s with heap := h, toks := tk }) :
    wpAny (model prog w) A (pyIter (.ref I)) (fun it s₂ => LoopAtV prog w A h₀ env x body Q E it s₂) E s := by
  have N₀ : News h₀ env.locals s.heap Λ₀ := News.tl N
  have hls : s.heap.IsList l vs.toArray := isList_of N₀ hm
  have hIx := N _ (List.mem_cons_self ..)
  have hax := N₀ _ hm
  have hne : l ≠ I := hI _ hm
  have hit : s.heap.IsRevIter I l ((vs.length : Int) - 1) := ⟨_, hIx.1, rfl, rfl⟩
  refine wpAny_pyIter_revIter hit ?_
  have W := Walks.listRev (prog := prog) (w := w) hh I l hne vs.toArray
  have hlen : vs.toArray.size = vs.length := by simp
  rw [hlen] at W
  refine ⟨I, _, _, vs.length, _, _, m₀, Λ₀, J, rfl, W, ?_, ?_, ?_, ⟨Nat.zero_le _, ?_, hls⟩, F, N₀, hj, ?_, ?_⟩
  · intro hmm
    rcases List.mem_cons.mp hmm with e | hmm
    · exact hIx.2.1 e.symm
    · exact hax.2.1 (List.mem_singleton.mp hmm).symm
  · intro b hb
    rw [List.mem_singleton.mp hb]
    exact hIx.2.2
  · intro p hp hI'
    exact hI p hp (List.mem_singleton.mp hI')
  · have e : (vs.length : Int) - 1 - ((0 : Nat) : Int) = (vs.length : Int) - 1 := by omega
    rw [e]; exact hit
  · rintro i v m₁ news₁ s₁ own ⟨hh', tk', rfl⟩ hin hP hJ hofs hown hget hall hst F₁ N₁
    obtain ⟨it, hit', hic, hid⟩ := hst.2.1
    have hmemI := hall I (List.mem_cons_self ..) hIx.2.2 _ hit'
    exact turn i v m₁ news₁ hh' tk' own hin (by simpa using hP) hJ hofs (fun b hb => ⟨it, by rw [List.mem_singleton.mp hb]; exact hmemI⟩) (fun p hp => by simpa using hown p hp) F₁ N₁
  · rintro h' tk m' news' F' N' _ hJ
    exact done m' news' h' tk hJ F' N'
theorem for_enum {l : Addr} {vs : List Value} {n : Nat} {m₀ : Str → Option Value} {Λ₀ : Ledger} {pi pv pos : Pos} {k : Nat} (J : Nat → (Str → Option Value) → Ledger → Prop) (hh : A.handled = none) (hxi : env.kindOf xi = some .local) (hxc : env.kindOf xc = some .local)
    (hp : (env.scope.kind == .class || (env.scope.kind == .module && env.locals != env.globals)) = false) (F : Fr h₀ env.locals s.heap m₀) (N : News h₀ env.locals s.heap Λ₀) (hm : (l, listOf vs.toArray n) ∈ Λ₀) (hj : J 0 m₀ Λ₀)
    (turn : ∀ i v t m₁ Λ₁ h tk own wr, vs[i]? = some v → J i m₁ Λ₁ → (∀ p ∈ Λ₁, p.1 ∉ wr) → (∀ b ∈ wr, ∃ o, (b, o) ∈ own) → (∀ p ∈ own, p.1 ∈ wr ∨ p.1 = l) → Fr h₀ env.locals h (fun y => if y = xc then some v else if y = xi then some (.int (i : Int) t) else m₁ y) → News h₀ env.locals h (own ++ Λ₁) →
      wpAny (model prog w) A (execs body env) (LoopStepV h₀ env.locals wr own (J (i + 1)) { s with heap := h, toks := tk } (fun v s' => Q (.ret v) s') fun s' => Q .next s') E { s with heap := h, toks := tk })
    (done : ∀ m₁ Λ₁ h tk, J vs.length m₁ Λ₁ → Fr h₀ env.locals h m₁ → News h₀ env.locals h Λ₁ → Q .next { s with heap := h, toks := tk }) :
    wpAny (model prog w) A (call (.type "enumerate") [.ref l]) (fun xv s₁ => wpAny (model prog w) A (pyIter xv) (fun it s₂ => TurnsAt prog w A h₀ env (.Tuple [.Name xi pi, .Name xc pv] k pos) body Q E it s₂) E s₁) E s := by
  have hls : s.heap.IsList l vs.toArray := isList_of N hm
  have hax := N _ hm
  have hlt : l < s.heap.objs.size := Heap.lt_size hax.1
  have hLs : env.locals < s.heap.objs.size := F.ns.lt
  refine call_enumerate_list hls fun h' hE hI hsz hk => ?_
  refine wpAny_pyIter_enum hE ?_
  have W := KTurns.ofWalksU (elts := [.Name xi pi, .Name xc pv]) (k := k) (pos := pos) (WalksT.enumerate (prog := prog) (w := w) hh (s.heap.objs.size + 1) s.heap.objs.size l (Nat.succ_ne_self _) (ktu_ne 1 hlt) (Nat.ne_of_lt hlt) vs.toArray).toU
  refine ⟨_, _, _, vs.toArray.size, _, _, _, m₀, Λ₀, J, rfl, W, ?_, ?_, ?_, ⟨⟨_, hE⟩, hI, hls.at fun o e => hk l o e⟩, F.keeps hk, N.grown hk, hj, ?_, ?_⟩
  · intro hI'
    have hb' : env.locals = s.heap.objs.size + 1 ∨ env.locals = s.heap.objs.size ∨ env.locals = l := by simpa using hI'
    rcases hb' with e | e | e
    · exact ktu_ne 1 hLs e
    · exact Nat.ne_of_lt hLs e
    · exact hax.2.1 e.symm
  · intro b hb
    have hb' : b = s.heap.objs.size + 1 ∨ b = s.heap.objs.size := by simpa using hb
    rcases hb' with rfl | rfl
    · exact ktu_new F (Nat.le_add_right _ _)
    · exact ktu_new F (Nat.le_refl _)
  · intro p hp hI'
    have hb' : p.1 = s.heap.objs.size + 1 ∨ p.1 = s.heap.objs.size := by simpa using hI'
    have hlp := Heap.lt_size (N p hp).1
    rcases hb' with e | e
    · exact ktu_ne 1 hlp e
    · exact Nat.ne_of_lt hlp e
  · rintro i v m₁ news₁ h₁ tk₁ own hin ⟨T, vals, rfl, ⟨t, y, hx, rfl⟩, hT⟩ hJ hofs hown hget hall ⟨⟨old, hst1⟩, ⟨oi, hst2, hst3⟩, _⟩ F₁ N₁
    refine wpAny_assign_Tuple hh hT rfl rfl fun h₃ hx₃ => ?_
    have up₃ : ∀ b o, h₁.get? b = some o → h₃.get? b = some o := fun b o z => hx₃ b o (Nat.ne_of_lt (Heap.lt_size z)) z
    have F₃ := F₁.keeps up₃
    have N₃ := N₁.grown up₃
    show wpAny _ A (do holding [y] (assign (.Name xi pi) env (.int (i : Int) t)); do holding [] (assign (.Name xc pv) env y); pure ()) _ _ _
    refine wpAny_bind (wpAny_holding (wpAny_assign_Name (wpAny_storeName_local hxi F₃.ns (fun h₄ hn₄ hs₄ => ?_) hp)))
    replace hs₄ : Heap.SameBut env.locals h₃ h₄ := hs₄
    have F₄ := F₃.set hn₄ hs₄
    refine wpAny_bind (wpAny_holding (wpAny_assign_Name (wpAny_storeName_local hxc F₄.ns (fun h₅ hn₅ hs₅ => wpAny_pure ?_) hp)))
    replace hs₅ : Heap.SameBut env.locals h₄ h₅ := hs₅
    have F₅ := F₄.set hn₅ hs₅
    have N₅ : News h₀ env.locals h₅ (own ++ news₁) := (N₃.set hs₄).set hs₅
    have z := turn i y t m₁ news₁ h₅ (tk₁ + 1 + 1) own [s.heap.objs.size + 1, s.heap.objs.size] (by simpa using hx) hJ hofs ?q1 ?q2 F₅ N₅
    · refine wpAny_mono (Q := LoopStepV h₀ env.locals [s.heap.objs.size + 1, s.heap.objs.size] own (J (i + 1)) { s with heap := h₅, toks := tk₁ + 1 + 1 } (fun v s' => Q (Flow.ret v) s') fun s' => Q Flow.next s') z (fun f s₂ z => by cases f <;> exact z) fun _ _ z => z
    case q1 =>
      intro b hb
      have hb' : b = s.heap.objs.size + 1 ∨ b = s.heap.objs.size := by simpa using hb
      rcases hb' with rfl | rfl
      · exact ⟨_, hall _ (by simp) (ktu_new F (Nat.le_add_right _ _)) _ hst1⟩
      · exact ⟨_, hall _ (by simp) (ktu_new F (Nat.le_refl _)) _ hst2⟩
    case q2 =>
      intro p hp
      have := hown p hp
      have h2 : p.1 = s.heap.objs.size + 1 ∨ p.1 = s.heap.objs.size ∨ p.1 = l := by simpa using this
      rcases h2 with e | e | e
      · left; simp [e]
      · left; simp [e]
      · exact .inr e
  · rintro h' tk m' news' F' N' _ hJ
    exact done m' news' h' tk (by simpa using hJ) F' N'
end
section
variable {P : Params} {T : Tb} {R own : Ledger} {wr : List Addr} {l : Addr}
theorem mem_addrs' {x : Addr} (h : x ∈ T.addrs) : ∃ p ∈ tbObjs P T, p.1 = x := by
  rw [← tbObjs_keys P] at h; obtain ⟨p, hp, e⟩ := List.mem_map.mp h; exact ⟨p, hp, e⟩
theorem own_in (O : Own T R) {lo : Obj} (hl : (l, lo) ∈ R) (hoff : ∀ p ∈ tbObjs P T ++ R, p.1 ∉ wr) (hown : ∀ p ∈ own, p.1 ∈ wr ∨ p.1 = l) : Own T (own ++ R) :=
  ⟨O.nd, fun p hp hx => (List.mem_append.mp hp).elim (fun h => (hown p h).elim (fun h2 => by
    obtain ⟨q, hq, e⟩ := mem_addrs' (P := P) hx
    exact hoff q (List.mem_append_left _ hq) (e ▸ h2)) fun h2 => O.off _ hl (h2 ▸ hx)) fun h => O.off p h hx⟩
theorem own_out (O : Own T (own ++ R)) (hfull : ∀ b ∈ wr, ∃ o, (b, o) ∈ own) (hoff : ∀ p ∈ R, p.1 ∉ wr) : Own T R ∧ ∀ p ∈ tbObjs P T ++ R, p.1 ∉ wr :=
  ⟨O.sub fun _ hp => List.mem_append_right _ hp, fun p hp hx => (List.mem_append.mp hp).elim (fun h => by
    obtain ⟨o, ho⟩ := hfull _ hx
    refine O.off _ (List.mem_append_left _ ho) ?_
    rw [← tbObjs_keys P]; exact List.mem_map.mpr ⟨p, h, rfl⟩) fun h => hoff p h hx⟩
theorem mem_in {B : Ledger} : ∀ p ∈ B ++ (own ++ R), p ∈ own ++ (B ++ R) := fun p hp => by
  simp only [List.mem_append] at hp ⊢; rcases hp with h | h | h <;> simp [h]
theorem upd_push (O : Own T R) {e : En} :
    Upd T.arr (listOf (T.es.map (·.v)).toArray T.esN) (listOf ((T.es.map (·.v)).toArray.push e.v) (T.esN + 1)) (tbObjs P T ++ R) (tbObjs P (T.wArr T.arr (T.esN + 1) (T.es ++ [e])) ++ R) := by
  have h := O.nd
  rw [addrs_eq] at h
  simp only [List.nodup_cons, List.mem_cons, not_or] at h
  have e1 : (T.es.map (·.v)).toArray.push e.v = ((T.es ++ [e]).map (·.v)).toArray := by simp
  rw [e1]
  refine .tail (Ne.symm (Ne.symm h.1.2.1)) (.tail (Ne.symm (Ne.symm h.2.1.1)) (.head fun p hp => ?_))
  rcases List.mem_cons.mp hp with rfl | hp
  · exact Ne.symm h.2.2.1.1
  · rcases List.mem_append.mp hp with hp | hp
    · intro hx
      refine h.2.2.1.2 ?_
      rw [← hx, ← keys_flat P]; exact List.mem_map.mpr ⟨p, hp, rfl⟩
    · intro hx
      exact O.off p hp (by rw [hx, addrs_eq]; simp)
end
theorem arr_push {w : World} {A : Around} {E : Value → Shared → Prop} {s : Shared} {h₀ : Heap} {L : Addr} {m : Str → Option Value} {T : Tb} {R : Ledger} {v : Value} {p : PV} {Q : Value → Shared → Prop} {x : Addr} (hv : Is v p) (F : Fr h₀ L s.heap m) (N : News h₀ L s.heap (tbObjs w.params T ++ R)) (O : Own T R) (ha : T.arr = x) (hl : T.es.length ≤ 1000000)
    (h : ∀ h', Fr h₀ L h' m → News h₀ L h' (tbObjs w.params (T.wArr T.arr (T.esN + 1) (T.es ++ [⟨v, p, hv⟩])) ++ R) → Own (T.wArr T.arr (T.esN + 1) (T.es ++ [⟨v, p, hv⟩])) R → Q .none { s with heap := h' }) :
    wpAny (model PG w) A (call (.builtin "list.append") [.ref x, v]) Q E s := by
  subst ha
  have hO : Own (T.wArr T.arr (T.esN + 1) (T.es ++ [⟨v, p, hv⟩])) R := ⟨O.nd, O.off⟩
  exact append_K F N (upd_push (P := w.params) O (e := ⟨v, p, hv⟩)) (fun h' F' N' => h h' F' N' hO) (by simp [sizeLine_eq]; omega)
theorem kms_pick_drop {vs : List Value} {x : Int} (h : 0 ≤ x) : kms_pick vs (some x) none = vs.drop x.toNat := by
  simp only [kms_pick, kms_lo, kms_hi, if_neg (show ¬ x < 0 by omega)]
  rw [kmk_drop_min, List.take_of_length_le (by rw [List.length_drop]; omega)]
theorem kms_pick_take {vs : List Value} {x : Int} (h : 0 ≤ x) : kms_pick vs none (some x) = vs.take x.toNat := by
  simp only [kms_pick, kms_lo, kms_hi, if_neg (show ¬ x < 0 by omega)]
  rw [List.drop_zero, Nat.sub_zero, kmk_take_min]
section
variable {prog : Program} {w : World} {A : Around} {E : Value → Shared → Prop} {s : Shared} {h₀ : Heap} {L l : Addr} {m : Str → Option Value} {Λ : Ledger} {value slice : PySem.Expr} {es : List En} {n : Nat} {x : Int} {t : Tok} {Q : Value → Shared → Prop}
theorem slice_from (F : Fr h₀ L s.heap m) (N : News h₀ L s.heap Λ) (hm : (l, listOf (es.map (·.v)).toArray n) ∈ Λ) (h0 : 0 ≤ x) (hz : es.length ≤ 1000000)
    (h : ∀ D h', Fr h₀ L h' m → News h₀ L h' ((D, listOf ((es.drop x.toNat).map (·.v)).toArray 0) :: Λ) → (∀ p ∈ Λ, p.1 < D) → Q (.ref D) { s with heap := h' })
    (hs : subscripted slice false (.ref l) (.ref s.heap.objs.size) = operate [.ref s.heap.objs.size, .ref l] (getItem (.ref l) (.ref s.heap.objs.size))) (ht : ∀ r, letTemporaryGo value (.ref l) r = pure ()) :
    wpAny (model prog w) A (subscriptTail value slice (.ref l) (.ref s.heap.objs.size)) Q E { s with heap := s.heap.push { cls := .type "slice", data := .fields #[.int x t, .none, .none] } } := by
  refine kms_slice_lit F N (isList_of N hm) (IsPart.int _ _) IsPart.none (zs := (es.drop x.toNat).map (·.v)) ?_ h hs ht (by simp [sizeLine_eq]; omega)
  rw [kms_pick_drop h0, List.map_drop]
theorem slice_upto (F : Fr h₀ L s.heap m) (N : News h₀ L s.heap Λ) (hm : (l, listOf (es.map (·.v)).toArray n) ∈ Λ) (h0 : 0 ≤ x) (hz : es.length ≤ 1000000)
    (h : ∀ D h', Fr h₀ L h' m → News h₀ L h' ((D, listOf ((es.take x.toNat).map (·.v)).toArray 0) :: Λ) → (∀ p ∈ Λ, p.1 < D) → Q (.ref D) { s with heap := h' })
    (hs : subscripted slice false (.ref l) (.ref s.heap.objs.size) = operate [.ref s.heap.objs.size, .ref l] (getItem (.ref l) (.ref s.heap.objs.size))) (ht : ∀ r, letTemporaryGo value (.ref l) r = pure ()) :
    wpAny (model prog w) A (subscriptTail value slice (.ref l) (.ref s.heap.objs.size)) Q E { s with heap := s.heap.push { cls := .type "slice", data := .fields #[.none, .int x t, .none] } } := by
  refine kms_slice_lit F N (isList_of N hm) IsPart.none (IsPart.int _ _) (zs := (es.take x.toNat).map (·.v)) ?_ h hs ht (by simp [sizeLine_eq]; omega)
  rw [kms_pick_take h0, List.map_take]
end
theorem make_nodes_spec' {w : World} {T : Tb} {R : Ledger} {b : Addr} (hb : T.a = b) (O : Own T R) {z : Int} {t : Tok} (h64 : z ≤ 64) {N : Nat} (hN : mkSize z = some N) (hN64 : N ≤ 64) :
    Runs w 425 [.ref b, .int z t] (tbObjs w.params T ++ R) 12 fun _ Λ' => NKPost w.params b (oldNodes w.params T ++ R) { T.abs with ns := List.replicate N ⟨.none, .none, -1⟩, fr := N } Λ' := by
  subst hb
  refine (make_nodes_spec O h64 hN hN64).mono (Nat.le_refl _) ?_
  rintro r Λ' ⟨x, k, ns, lg, lgT, frT, e, O', hb'⟩
  exact ⟨((T.wNodes x k ns).wLog lg lgT).wFree N frT, rfl, by show PT.mk _ (ns.map Nd.abs) _ _ = _; rw [hb']; rfl, e, O'⟩
theorem reg_F18_1 : True := by
  k_with "my calls" => ((with_reducible refine (?_ : wpAny _ _ (call (Value.ref 425) _) _ _ _)); k_dflt (refine Runs.use (make_nodes_spec' (by first | assumption | exact rfl) (by assumption) (by omega) (by assumption) (by omega)) (by k_asm) (by k_asm) (by k_asm) (by k_extra "my news") (by k_asm) (by first | exact rfl | assumption) (by k_extra "my room") (by k_extra "my units") ?_); k_whole; intro r9 Λ9 h9 tk9 F9 N9 P9; ((refine ex_elim1 P9 fun T9 P9q1 => ?_; clear P9; refine and_elim4 P9q1 fun ha9 hab9 P9e3 O9 => ?_; clear P9q1); subst P9e3); k_extra "my after")
  k_with "my calls" => ((with_reducible refine (?_ : wpAny _ _ (call (Value.ref 425) _) _ _ _)); k_dflt (refine useT (make_nodes_spec' (by first | assumption | exact rfl) (by assumption) (by omega) (by assumption) (by omega)) (by k_asm) (by k_asm) (by k_asm) (by k_extra "my news") (by k_asm) (by k_asm) (by k_extra "my rm") (by exact rfl) ?_); k_whole; intro r9 T9 h9 tk9 F9 N9 ha9 hab9 O9; k_extra "my after")
  trivial
theorem reg_F18_2 : True := by
  k_with "my calls" => ((with_reducible refine (?_ : wpAny _ _ (call (Value.ref 420) _) _ _ _)); k_dflt (refine Runs.use (put_back_spec (by assumption) (by first | assumption | exact rfl) (by k_extra "my is") (by k_extra "my key") (by k_extra "my is") (by assumption) (by assumption)) (by k_asm) (by k_asm) (by k_asm) (by k_extra "my news") (by k_asm) (by first | exact rfl | assumption) (by k_extra "my room") (by k_extra "my units") ?_); k_whole; intro r9 Λ9 h9 tk9 F9 N9 P9; ((refine ex_elim1 P9 fun T9 P9q1 => ?_; clear P9; refine and_elim4 P9q1 fun ha9 hab9 P9e3 O9 => ?_; clear P9q1); subst P9e3); k_extra "my after")
  k_with "my calls" => ((with_reducible refine (?_ : wpAny _ _ (call (Value.ref 420) _) _ _ _)); k_dflt (refine useT (put_back_spec (by assumption) (by first | assumption | exact rfl) (by k_extra "my is") (by k_extra "my key") (by k_extra "my is") (by assumption) (by assumption)) (by k_asm) (by k_asm) (by k_asm) (by k_extra "my news") (by k_asm) (by k_asm) (by k_extra "my rm") (by exact rfl) ?_); k_whole; intro r9 T9 h9 tk9 F9 N9 ha9 hab9 O9; k_extra "my after")
  trivial
theorem reg_F18_3 : True := by
  k_with "my calls" => ((with_reducible refine (?_ : wpAny _ _ (call (Value.ref 384) _) _ _ _)); k_dflt (refine Runs.use (put_again_spec (by assumption) (by first | assumption | exact rfl) (by k_extra "my is") (by k_extra "my key") (by k_extra "my is") (by assumption) (by assumption)) (by k_asm) (by k_asm) (by k_asm) (by k_extra "my news") (by k_asm) (by first | exact rfl | assumption) (by k_extra "my room") (by k_extra "my units") ?_); k_whole; intro r9 Λ9 h9 tk9 F9 N9 P9; ((refine ex_elim1 P9 fun T9 P9q1 => ?_; clear P9; refine and_elim4 P9q1 fun ha9 hab9 P9e3 O9 => ?_; clear P9q1); subst P9e3); k_extra "my after")
  k_with "my calls" => ((with_reducible refine (?_ : wpAny _ _ (call (Value.ref 384) _) _ _ _)); k_dflt (refine useT (put_again_spec (by assumption) (by first | assumption | exact rfl) (by k_extra "my is") (by k_extra "my key") (by k_extra "my is") (by assumption) (by assumption)) (by k_asm) (by k_asm) (by k_asm) (by k_extra "my news") (by k_asm) (by k_asm) (by k_extra "my rm") (by exact rfl) ?_); k_whole; intro r9 T9 h9 tk9 F9 N9 ha9 hab9 O9; k_extra "my after")
  trivial
end
section
noncomputable def PV.keyB : PV → Bool
  | .none => false
  | .int _ => true
  | .bytes b => decide (b.length < 32)
theorem PV.keyB_key {p : PV} (h : p.keyB = true) : p.key := by cases p with
  | none => cases h
  | int i => trivial
  | bytes b => exact of_decide_eq_true (p := b.length < 32) h
noncomputable def padF (es : List PV) (n : Nat) : List PV := es.take n ++ List.replicate (n - es.length) .none
noncomputable def backs (nk : PT → PV → PV → Option PT) : List PV → Int → PT → Option PT
  | [], _, t => some t
  | v :: r, i, t => if v = .none then backs nk r (i + 1) t else (backF nk t (.int i) v).bind (backs nk r (i + 1))
noncomputable def backn (nk : PT → PV → PV → Option PT) : List PN → PT → Option PT
  | [], t => some t
  | x :: r, t => if x.v = .none then backn nk r t else if x.k.keyB = true then (backF nk t x.k x.v).bind (backn nk r) else none
noncomputable def blank : PN := ⟨.none, .none, -1⟩
noncomputable def resizeF (nk : PT → PV → PV → Option PT) (t : PT) (x y : Int) : Option PT :=
  if 0 ≤ x ∧ x ≤ 64 ∧ y ≤ 64 ∧ t.es.length ≤ 64 ∧ t.ns.length ≤ 64 then
    (mkSize y).bind fun N => if N ≤ 64 then
      (backs nk (t.es.drop x.toNat) (x + 1) { t with es := padF t.es x.toNat, ns := List.replicate N blank, fr := N }).bind fun t1 => (backn nk t.ns.reverse t1).bind fun t2 =>
        if t2.es.length ≤ 64 ∧ t2.ns.length ≤ 64 then some t2 else none
    else none
  else none
theorem resizeF_cases {nk : PT → PV → PV → Option PT} {t t' : PT} {x y : Int} (h : resizeF nk t x y = some t') :
    (0 ≤ x ∧ x ≤ 64 ∧ y ≤ 64 ∧ t.es.length ≤ 64 ∧ t.ns.length ≤ 64) ∧ ∃ N, mkSize y = some N ∧ N ≤ 64 ∧ ∃ t1, backs nk (t.es.drop x.toNat) (x + 1) { t with es := padF t.es x.toNat, ns := List.replicate N blank, fr := N } = some t1 ∧ backn nk t.ns.reverse t1 = some t' ∧ t'.es.length ≤ 64 ∧ t'.ns.length ≤ 64 := by
  unfold resizeF at h
  by_cases c : 0 ≤ x ∧ x ≤ 64 ∧ y ≤ 64 ∧ t.es.length ≤ 64 ∧ t.ns.length ≤ 64
  · rw [if_pos c] at h
    obtain ⟨N, hN, h⟩ := Option.bind_eq_some_iff.mp h
    by_cases c2 : N ≤ 64
    · rw [if_pos c2] at h
      obtain ⟨t1, h1, h⟩ := Option.bind_eq_some_iff.mp h
      obtain ⟨t2, h2, h⟩ := Option.bind_eq_some_iff.mp h
      by_cases c3 : t2.es.length ≤ 64 ∧ t2.ns.length ≤ 64
      · rw [if_pos c3] at h
        obtain rfl := Option.some.inj h
        exact ⟨c, N, hN, c2, t1, h1, h2, c3.1, c3.2⟩
      · rw [if_neg c3] at h; cases h
    · rw [if_neg c2] at h; cases h
  · rw [if_neg c] at h; cases h
theorem padF_take (es : List PV) (n : Nat) : padF (es.take n) n = padF es n := by
  unfold padF
  rw [List.take_take, Nat.min_self, List.length_take]
  congr 2; omega
theorem padF_push {es : List PV} {n : Nat} (h : es.length < n) : padF (es ++ [.none]) n = padF es n := by
  unfold padF
  rw [List.take_of_length_le (by simp; omega), List.take_of_length_le (by omega), List.length_append, List.append_assoc]
  congr 1
  have e : n - es.length = (n - (es.length + [PV.none].length)) + 1 := by simp; omega
  rw [e, List.replicate_succ]; rfl
theorem padF_done {es : List PV} {n : Nat} (h : es.length = n) : padF es n = es := by
  unfold padF
  rw [List.take_of_length_le (by omega), h, Nat.sub_self]; simp
theorem mem_rot2 {x y : Addr × Obj} {A B : Ledger} : ∀ p ∈ A ++ (x :: y :: B), p ∈ x :: y :: (A ++ B) := fun p hp => by
  simp only [List.mem_append, List.mem_cons] at hp ⊢; rcases hp with h | h | h | h <;> simp [h]
theorem backs_cases {nk : PT → PV → PV → Option PT} {es : List En} {i : Nat} {e : En} {z : Int} {t t' : PT} (hx : es[i]? = some e) (h : backs nk ((es.map (·.p)).drop i) z t = some t') :
    (e.p = .none ∧ backs nk ((es.map (·.p)).drop (i + 1)) (z + 1) t = some t') ∨ (e.p ≠ .none ∧ ∃ t2, backF nk t (.int z) e.p = some t2 ∧ backs nk ((es.map (·.p)).drop (i + 1)) (z + 1) t2 = some t') := by
  have hi' : i < es.length := (List.getElem?_eq_some_iff.mp hx).1
  have e1 : (es.map (·.p)).drop i = e.p :: (es.map (·.p)).drop (i + 1) := by
    rw [List.drop_eq_getElem_cons (by simpa using hi')]
    simp [(List.getElem?_eq_some_iff.mp hx).2]
  rw [e1] at h
  unfold backs at h
  by_cases hv : e.p = .none
  · rw [if_pos hv] at h; exact .inl ⟨hv, h⟩
  · rw [if_neg hv] at h
    obtain ⟨t2, h1, h2⟩ := Option.bind_eq_some_iff.mp h
    exact .inr ⟨hv, t2, h1, h2⟩
theorem backn_cases {nk : PT → PV → PV → Option PT} {ns : List Nd} {i : Nat} {nd : Nd} {t t' : PT} (hx : ns[i]? = some nd) (h : backn nk ((ns.map Nd.abs).drop i) t = some t') :
    (nd.v.p = .none ∧ backn nk ((ns.map Nd.abs).drop (i + 1)) t = some t') ∨ (nd.v.p ≠ .none ∧ nd.k.p.key ∧ ∃ t2, backF nk t nd.k.p nd.v.p = some t2 ∧ backn nk ((ns.map Nd.abs).drop (i + 1)) t2 = some t') := by
  have hi' : i < ns.length := (List.getElem?_eq_some_iff.mp hx).1
  have e1 : (ns.map Nd.abs).drop i = nd.abs :: (ns.map Nd.abs).drop (i + 1) := by
    rw [List.drop_eq_getElem_cons (by simpa using hi')]
    simp [(List.getElem?_eq_some_iff.mp hx).2]
  rw [e1] at h
  unfold backn at h
  by_cases hv : nd.v.p = .none
  · rw [if_pos (show nd.abs.v = .none from hv)] at h; exact .inl ⟨hv, h⟩
  · rw [if_neg (show ¬ nd.abs.v = .none from hv)] at h
    by_cases hk : nd.abs.k.keyB = true
    · rw [if_pos hk] at h
      obtain ⟨t2, h1, h2⟩ := Option.bind_eq_some_iff.mp h
      exact .inr ⟨hv, PV.keyB_key hk, t2, h1, h2⟩
    · rw [if_neg hk] at h; cases h
theorem revs_at {α : Type} {ns : List α} {i : Nat} {x : α} (hi : i < ns.length) (h : ns[ns.length - 1 - i]? = some x) : ns.reverse[i]? = some x := by
  rw [List.getElem?_reverse hi]; exact h
theorem mem_skip {x : Addr × Obj} {A B : Ledger} : ∀ p ∈ A ++ B, p ∈ A ++ (x :: B) := fun p hp => by
  simp only [List.mem_append, List.mem_cons] at hp ⊢; rcases hp with h | h <;> simp [h]
theorem mem_ins {A own R : Ledger} : ∀ p ∈ A ++ R, p ∈ A ++ (own ++ R) := fun p hp => by
  simp only [List.mem_append] at hp ⊢; rcases hp with h | h <;> simp [h]
theorem mem_sub {A R R' : Ledger} (h : ∀ p ∈ R, p ∈ R') : ∀ p ∈ A ++ R, p ∈ A ++ R' := fun p hp =>
  (List.mem_append.mp hp).elim (List.mem_append_left _) fun q => List.mem_append_right _ (h p q)
theorem old_nd {P : Params} {T : Tb} {nd : Nd} (h : nd ∈ T.ns) : (nd.a, instObj 260 nd.d) ∈ oldNodes P T ∧ (nd.d, ndDict P nd) ∈ oldNodes P T :=
  ⟨.tail _ (List.mem_flatMap.mpr ⟨nd, h, .head _⟩), .tail _ (List.mem_flatMap.mpr ⟨nd, h, .tail _ (.head _)⟩)⟩
theorem inst_at {P : Params} {T : Tb} {R : Ledger} {b : Addr} (h : T.a = b) : (b, instObj 491 T.d) ∈ tbObjs P T ++ R := h ▸ HasTab.left.inst
theorem reg_F19_1 : True := by
  k_with "my slice" => (k_dflt (first | (refine' slice_from ?F ?N ?m ?z ?hz ?_ ?hs ?ht; (case F => k_asm); (case N => k_asm); (case m => k_mem); (case z => omega); (case hz => omega); (case hs => with_unfolding_all rfl); (case ht => kmk_pure); intro Df hf9 Ff Nf lf9) | (refine' slice_upto ?F ?N ?m ?z ?hz ?_ ?hs ?ht; (case F => k_asm); (case N => k_asm); (case m => (first | k_mem | exact List.mem_cons_of_mem _ HasTab.left.array)); (case z => omega); (case hz => omega); (case hs => with_unfolding_all rfl); (case ht => kmk_pure); intro Du hu9 Fu Nu lu9)); (try k_sweep))
  trivial
end

theorem reg_at_F20 : True := by
  k_with "subscriptTail Attribute Slice ref ref" => ((k_here; k_extra "my slice"))
  k_with "last subscriptTail" => ((k_here; k_extra "my slice"))
  k_with "subscriptTail Name Slice ref ref" => ((k_here; k_extra "my slice"))
  k_with "call type:enumerate" => ((k_here; refine myStop ?_))
  k_with "call type:reversed" => ((k_here; refine myStop ?_))
  k_with "call builtin:list.append" => ((k_here; k_dflt (refine' arr_push ?vq9 ?Fq9 ?Nq9 ?Oq9 ?haq9 ?hlq9 ?_; (case vq9 => k_extra "my is"); (case Fq9 => k_asm); (case Nq9 => k_asm); (case Oq9 => assumption); (case haq9 => first | exact rfl | assumption); (case hlq9 => (first | with_reducible assumption | exact le_mil (by with_reducible assumption) | omega))); intro h' F' N' O'; (try k_sweep)))
  k_with "m:k_mem" => (exact inst_at (by assumption))
  trivial
section
theorem binds_pick {s : Shared} {fd : FuncData} {args A B all : List Value} (h : args = A ∨ args = B) (hA : BindsTo s fd ⟨A, []⟩ ((fd.params.args.map (·.arg)).zip all)) (hB : BindsTo s fd ⟨B, []⟩ ((fd.params.args.map (·.arg)).zip all)) : BindsTo s fd ⟨args, []⟩ ((fd.params.args.map (·.arg)).zip all) := by
  rcases h with rfl | rfl
  · exact hA
  · exact hB
theorem binds_def {s : Shared} {K : Frag} {fd : FuncData} {vs all : List Value} {T : Addr} {o : Obj} {items : Array Value} {n : Nat} {k : Option (Array Value) → Sem (List (Str × Value))} (X : K.In s.heap) (hd : fd.defaults = .ref T) (ho : K.lookup T = some o) (hs : o.data = .seq items n)
    (h₁ : bindArgs fd ⟨vs, []⟩ = seqItems? fd.defaults >>= k) (h₂ : k (some items) = pure ((fd.params.args.map (·.arg)).zip all)) : BindsTo s fd ⟨vs, []⟩ ((fd.params.args.map (·.arg)).zip all) := binds_K X hd ho hs h₁ h₂
theorem reg_F20_1 : True := by
  k_with "my enterR" => (k_dflt (refine' Runs.enter ?k6 ?k7 ?k9 ?kB ?c2 ?c3 ?c4 ?c5 ?_; (case k6 => k_is); (case k7 => k_is); (case k9 => intro s9 X9; exact binds_pick (all := [.ref T.a, .int x t1, .int y t2, .none]) hargs (by first | exact binds_zip (by kernel_rfl!) | exact binds_def X9 rfl (by k_is) rfl rfl rfl) (by exact binds_def X9 rfl (by k_is) rfl rfl rfl)); (case kB => exact locs rfl); (case c2 => exact rfl); (case c3 => exact rfl); (case c4 => exact rfl); (case c5 => decide); k_whole); intro dp un mg mb mean gd outer A₀ base h₀ L s Q ml ak B F X N T0 hrm hret)
  trivial
theorem resize_args {w : World} {nk : PT → PV → PV → Option PT} {D : Nat} (H : NKSpec w nk D) {T : Tb} {R : Ledger} {b : Addr} (hb : T.a = b) (O : Own T R) {x y : Int} {t1 t2 : Tok} {t' : PT} (hr : resizeF nk T.abs x y = some t') {args : List Value} (hargs : args = [.ref b, .int x t1, .int y t2, .none] ∨ args = [.ref b, .int x t1, .int y t2]) :
    Runs w 413 args (tbObjs w.params T ++ R) (D + 24) fun _ Λ' => NKPost w.params b R t' Λ' := by
  subst hb
  have J79 := resizeF_cases hr; (obtain ⟨⟨g1, g2, g3, g4, g5⟩, N9, hN9, hN64, p1, hp1, hp2, g6, g7⟩ := J79)
  replace g4 : T.es.length ≤ 64 := by simpa [Tb.abs] using g4
  replace g5 : T.ns.length ≤ 64 := by simpa [Tb.abs] using g5
  k_extra "my enterR"; w_strict (k_extra "my steps")
  refine MyStop.go ?_
  refine set_array (k := 0) (es := T.es.take x.toNat) (R := (Df, listOf ((T.es.drop x.toNat).map (·.v)).toArray 0) :: R) (by k_asm) (by k_asm) (News.sub Nu mem_rot2) ((O.add (P := w.params) fun p hp => Nat.ne_of_lt (lf9 p (List.mem_append_left _ hp))).add (P := w.params) fun p hp => Nat.ne_of_lt (lu9 p (.tail _ (List.mem_append_left _ hp)))) (fun p hp => Nat.ne_of_lt (lu9 p (by simp only [List.mem_append, List.mem_cons] at hp ⊢; rcases hp with h | h <;> simp [h]))) rfl ?_
  clear lf9 lu9 Nu
  intro h1 F1 N1 O1
  replace N1 := News.sub N1 mem_skip
  replace O1 := O1.sub fun p hp => List.mem_cons_of_mem _ hp
  k_extra "my after"
  w_strict (k_extra "my steps")
  obtain ⟨R1, hR1⟩ : ∃ R1, R1 = (Df, listOf ((T.es.drop x.toNat).map (·.v)).toArray 0) :: R := ⟨_, rfl⟩
  rw [← hR1] at N1 O1
  refine MyStop.go ?_; (with_reducible rename Fr _ _ _ _ => lF); obtain ⟨m0, hm0, lF⟩ := loop_start lF
  have hlt := List.length_take_le x.toNat T.es
  let J9 : Nat → (Str → Option Value) → Ledger → Prop := fun n m₁ Λ₁ => m₁ = m0 ∧ ∃ T1, Λ₁ = tbObjs w.params T1 ++ R1 ∧ T1.a = T.a ∧ T1.nl = T.nl ∧ T1.ns = T.ns ∧ T1.nsN = T.nsN ∧ T1.fl = T.fl ∧ Own T1 R1 ∧ T1.es.length ≤ x.toNat ∧ padF (T1.es.map (·.p)) x.toNat = padF T.abs.es x.toNat ∧ n + T1.es.length = x.toNat + 1; refine While_inv2 (n₀ := x.toNat + 1 - (T.es.take x.toNat).length) J9 lF N1 ⟨rfl, _, rfl, rfl, rfl, rfl, rfl, rfl, O1, hlt, by show padF ((T.es.take x.toNat).map (·.p)) _ = _; rw [List.map_take]; exact padF_take _ _, by show _ + (T.es.take x.toNat).length = _; omega⟩ ?_
  subst hm0; intro n m₁ Λ₁ h₁ tk₁ F₁ N₁ J09; k_extra "my fold"; ((refine and_elim2 J09 fun J09e0 J09q1 => ?_; clear J09; refine ex_elim1 J09q1 fun T1 J09q2 => ?_; clear J09q1; refine and_elim10 J09q2 fun J09e2 a1 a2 a3 a4 a5 O2 b1 b2 b3 => ?_; clear J09q2); subst J09e0; subst J09e2); k_extra "my after"
  have b4 : T1.es.length ≤ 64 := by omega
  by_cases hc : T1.es.length < x.toNat
  · have hc1 : (T1.es.length : Int) < x := by omega
    w_strict (k_extra "my steps")
    (rename Own (Tb.wArr _ _ _ _) _ => O3)
    exact ⟨_, _, _, _, x.toNat - T1.es.length, rfl, by k_asm, by k_asm, by omega, rfl, T1.wArr T1.arr (T1.esN + 1) (T1.es ++ [⟨.none, .none, Is.none⟩]), rfl, a1, a2, a3, a4, a5, O3, by show (T1.es ++ [_]).length ≤ _; simp; omega, by show padF ((T1.es ++ [(⟨.none, .none, Is.none⟩ : En)]).map (·.p)) _ = _; rw [List.map_append]; exact (padF_push (by simpa using hc)).trans b2, by show _ + (T1.es ++ [_]).length = _; simp; omega⟩
  · have hc1 : ¬ (T1.es.length : Int) < x := by omega
    w_strict (k_extra "my steps")
    have hon : oldNodes w.params T1 = oldNodes w.params T := by unfold oldNodes; rw [a2, a3, a4]
    (rename News _ _ _ _ => N3)
    rw [hon] at N3 O9
    have hlen : T1.es.length = x.toNat := by omega
    have hab : T9.abs = { T.abs with es := padF T.abs.es x.toNat, ns := List.replicate N9 blank, fr := N9 } := by
      rw [hab9, ← b2, padF_done (by simpa using hlen)]; show PT.mk _ _ _ T1.fl = _; rw [a5]; rfl
    obtain ⟨R2, hR2⟩ : ∃ R2, R2 = oldNodes w.params T ++ R1 := ⟨_, rfl⟩
    rw [← hR2] at N3 O9
    have hmV : (Df, listOf ((T.es.drop x.toNat).map (·.v)).toArray 0) ∈ R2 := by rw [hR2, hR1]; exact List.mem_append_right _ (.head _)
    have hsub : ∀ p ∈ R, p ∈ R2 := fun p hp => by rw [hR2, hR1]; exact List.mem_append_right _ (.tail _ hp)
    have hmN : (T.nl, nlObj T.ns T.nsN) ∈ R2 := by rw [hR2]; exact List.mem_append_left _ (.head _)
    have hold : ∀ {nd : Nd}, nd ∈ T.ns → (nd.a, instObj 260 nd.d) ∈ R2 ∧ (nd.d, ndDict w.params nd) ∈ R2 := fun hn => by
      rw [hR2]; exact ⟨List.mem_append_left _ (old_nd hn).1, List.mem_append_left _ (old_nd hn).2⟩
    clear hR2 hR1 O2 O1 O
    refine MyStop.go ?_; (with_reducible rename Fr _ _ _ _ => lF)
    refine For_turns lF ?_
    w_strict (k_extra "my steps")
    refine MyStop.go ?_; (with_reducible rename Fr _ _ _ _ => lF); (rename News _ _ _ _ => N4); obtain ⟨m0, hm0, lF⟩ := loop_start lF
    let J9 : Nat → (Str → Option Value) → Ledger → Prop := fun i m₁ Λ₁ => ∃ T2 o1 o2, Λ₁ = tbObjs w.params T2 ++ R2 ∧ T2.a = T.a ∧ Own T2 R2 ∧ m₁ = updL m0 [(Str.ofString "step", o1), (Str.ofString "value", o2)] ∧ backs nk (((T.es.drop x.toNat).map (·.p)).drop i) (x + i + 1) T2.abs = some p1; refine for_enum (Λ₀ := tbObjs w.params T9 ++ R2) J9 (by rfl) (by rfl) (by rfl) (by rfl) lF N4 (List.mem_append_right _ hmV) ⟨T9, none, none, rfl, ha9, O9, (by subst hm0; exact updL_eq ⟨rfl, rfl, trivial⟩ (fun _ _ => rfl)), (by rw [hab, List.drop_zero, List.map_drop, show x + ((0 : Nat) : Int) + 1 = x + 1 by omega]; exact hp1)⟩ ?_ ?_
    · subst hm0
      clear ha9 O9 hab9 hab
      intro i v t m₁ Λ₁ h tk own wr hv J09 hoff hfull hown F₁ N₁; k_extra "my fold"; ((refine ex_elim3 J09 fun T2 o1 o2 J09q1 => ?_; clear J09; refine and_elim5 J09q1 fun J09e3 e1 O2 J09e6 hs => ?_; clear J09q1); subst J09e3; subst J09e6)
      obtain ⟨e, hx, rfl⟩ : ∃ e : En, (T.es.drop x.toNat)[i]? = some e ∧ e.v = v := by rw [List.getElem?_map] at hv; exact Option.map_eq_some_iff.mp hv
      have O3 := own_in (P := w.params) O2 hmV hoff hown
      replace N₁ := News.sub N₁ mem_in
      k_extra "my after"
      have hoR : ∀ p ∈ R2, p.1 ∉ wr := fun p hp => hoff p (List.mem_append_right _ hp)
      have ei : x + ((i + 1 : Nat) : Int) + 1 = (x + i + 1) + 1 := by omega
      rcases backs_cases hx hs with ⟨hv0, hs⟩ | ⟨hv0, t2, hb2, hs⟩
      · have hb : (!decide (e.p = PV.none)) = false := by simp [hv0]
        w_strict (k_extra "my steps")
        refine MyStop.go ?_
        exact lsv_next (Λ' := tbObjs w.params T2 ++ R2) (by k_asm) (by k_asm) (fun p hp => List.mem_append_right _ (List.mem_append_left _ hp)) mem_ins hoff ⟨T2, _, _, rfl, e1, O2, updL_eq ⟨rfl, rfl, trivial⟩ (by k_extra "my off"), by rw [ei]; exact hs⟩
      · have hb : (!decide (e.p = PV.none)) = true := by simp [hv0]
        w_strict (k_extra "my steps")
        refine MyStop.go ?_
        obtain ⟨O5, hoff'⟩ := own_out (P := w.params) O9 hfull hoR
        exact lsv_next (Λ' := tbObjs w.params T9 ++ R2) (by k_asm) (by k_asm) (fun p hp => List.mem_append_right _ (List.mem_append_left _ hp)) mem_ins hoff' ⟨T9, _, _, rfl, ha9, O5, updL_eq ⟨rfl, rfl, trivial⟩ (by k_extra "my off"), by rw [ei, hab9]; exact hs⟩
    · subst hm0
      clear ha9 O9 hab9 hab
      intro m₁ Λ₁ h tk J09 F₁ N₁; k_extra "my fold"; ((refine ex_elim3 J09 fun T2 o1 o2 J09q1 => ?_; clear J09; refine and_elim5 J09q1 fun J09e3 e1 O2 J09e6 hs => ?_; clear J09q1); subst J09e3; subst J09e6)
      rw [List.drop_eq_nil_of_le (by simp)] at hs
      replace hs : T2.abs = p1 := Option.some.inj hs
      k_extra "my after"
      w_strict (k_extra "my steps")
      k_extra "my for0"; subst hm0
      w_strict (k_extra "my steps")
      refine MyStop.go ?_; (with_reducible rename Fr _ _ _ _ => lF); (rename News _ _ _ _ => N5)
      refine krv_reversed lF N5 (isList_of N5 (List.mem_append_right _ hmN)) ?_
      clear lF N5
      intro D8 h8 F8 N8 l8
      k_extra "my after"
      w_strict (k_extra "my steps")
      refine MyStop.go ?_; (with_reducible rename Fr _ _ _ _ => lF); obtain ⟨m0, hm0, lF⟩ := loop_start lF
      let J9 : Nat → (Str → Option Value) → Ledger → Prop := fun i m₁ Λ₁ => ∃ T3 o3, Λ₁ = tbObjs w.params T3 ++ R2 ∧ T3.a = T.a ∧ Own T3 R2 ∧ m₁ = updL m0 [(Str.ofString "node", o3)] ∧ backn nk (((T.ns.reverse).map Nd.abs).drop i) T3.abs = some t'; refine for_rev (Λ₀ := tbObjs w.params T2 ++ R2) J9 (by rfl) lF N8 (fun p hp => Nat.ne_of_lt (l8 p hp)) (List.mem_append_right _ hmN) ⟨T2, none, rfl, e1, O2, (by subst hm0; exact updL_eq ⟨rfl, trivial⟩ (fun _ _ => rfl)), (by rw [hs, List.drop_zero, List.map_reverse]; exact hp2)⟩ ?_ ?_
      · subst hm0
        clear O2 e1 hs N8 l8
        intro i v m₁ Λ₁ h tk own hi hv J09 hoff hfull hown F₁ N₁; k_extra "my fold"; ((refine ex_elim2 J09 fun T3 o3 J09q1 => ?_; clear J09; refine and_elim5 J09q1 fun J09e2 e1 O3 J09e5 hs => ?_; clear J09q1); subst J09e2; subst J09e5)
        rw [List.length_map] at hi hv
        obtain ⟨nd, hx, rfl⟩ : ∃ nd, T.ns[T.ns.length - 1 - i]? = some nd ∧ Value.ref nd.a = v := by rw [List.getElem?_map] at hv; exact Option.map_eq_some_iff.mp hv
        have hm := List.mem_of_getElem? hx
        obtain ⟨m5, m6⟩ := hold hm
        have O4 := own_in (P := w.params) O3 hmN hoff hown
        replace N₁ := News.sub N₁ mem_in
        k_extra "my after"
        have hoR : ∀ p ∈ R2, p.1 ∉ [D8] := fun p hp => hoff p (List.mem_append_right _ hp)
        have m7 : (nd.a, instObj 260 nd.d) ∈ tbObjs w.params T3 ++ (own ++ R2) := List.mem_append_right _ (List.mem_append_right _ m5)
        have m8 : (nd.d, ndDict w.params nd) ∈ tbObjs w.params T3 ++ (own ++ R2) := List.mem_append_right _ (List.mem_append_right _ m6)
        rcases backn_cases (revs_at hi hx) hs with ⟨hv0, hs⟩ | ⟨hv0, hk0, t2, hb2, hs⟩
        · have hb : (!decide (nd.v.p = PV.none)) = false := by simp [hv0]
          w_strict (k_extra "my steps")
          refine MyStop.go ?_
          exact lsv_next (Λ' := tbObjs w.params T3 ++ R2) (by k_asm) (by k_asm) (fun p hp => List.mem_append_right _ (List.mem_append_left _ hp)) mem_ins hoff ⟨T3, _, rfl, e1, O3, updL_eq ⟨rfl, trivial⟩ (by k_extra "my off"), hs⟩
        · have hb : (!decide (nd.v.p = PV.none)) = true := by simp [hv0]
          w_strict (k_extra "my steps")
          refine MyStop.go ?_
          obtain ⟨O5, hoff'⟩ := own_out (P := w.params) O9 hfull hoR
          exact lsv_next (Λ' := tbObjs w.params T9 ++ R2) (by k_asm) (by k_asm) (fun p hp => List.mem_append_right _ (List.mem_append_left _ hp)) mem_ins hoff' ⟨T9, _, rfl, ha9, O5, updL_eq ⟨rfl, trivial⟩ (by k_extra "my off"), by rw [hab9]; exact hs⟩
      · subst hm0
        clear O2 e1 hs N8 l8
        intro m₁ Λ₁ h tk J09 F₁ N₁; k_extra "my fold"; ((refine ex_elim2 J09 fun T3 o3 J09q1 => ?_; clear J09; refine and_elim5 J09q1 fun J09e2 e1 O3 J09e5 hs => ?_; clear J09q1); subst J09e2; subst J09e5)
        rw [List.drop_eq_nil_of_le (by simp)] at hs
        replace hs : T3.abs = t' := Option.some.inj hs
        have k1 : T3.es.length ≤ 64 := by rw [← hs] at g6; simpa [Tb.abs] using g6
        have k2 : T3.ns.length ≤ 64 := by rw [← hs] at g7; simpa [Tb.abs] using g7
        k_extra "my after"
        w_strict (k_extra "my steps")
        (rename News _ _ _ _ => N6); (rename Own (Tb.wSize _ _ _) _ => O7)
        refine hret _ _ _ _ (by k_asm) (News.sub N6 (mem_sub hsub)) ⟨_, ?_, ?_, rfl, O7.sub hsub⟩
        · exact e1
        · exact hs
theorem resize_spec {w : World} {nk : PT → PV → PV → Option PT} {D : Nat} (H : NKSpec w nk D) {T : Tb} {R : Ledger} {b : Addr} (hb : T.a = b) (O : Own T R) {x y : Int} {t1 t2 : Tok} {t' : PT} (hr : resizeF nk T.abs x y = some t') :
    Runs w 413 [.ref b, .int x t1, .int y t2, .none] (tbObjs w.params T ++ R) (D + 24) fun _ Λ' => NKPost w.params b R t' Λ' := resize_args H hb O hr (.inl rfl)
theorem resize_spec3 {w : World} {nk : PT → PV → PV → Option PT} {D : Nat} (H : NKSpec w nk D) {T : Tb} {R : Ledger} {b : Addr} (hb : T.a = b) (O : Own T R) {x y : Int} {t1 t2 : Tok} {t' : PT} (hr : resizeF nk T.abs x y = some t') :
    Runs w 413 [.ref b, .int x t1, .int y t2] (tbObjs w.params T ++ R) (D + 24) fun _ Λ' => NKPost w.params b R t' Λ' := resize_args H hb O hr (.inr rfl)
theorem reg_F20_2 : True := by
  k_with "my calls" => ((with_reducible refine (?_ : wpAny _ _ (call (Value.ref 413) _) _ _ _)); k_dflt (refine Runs.use (resize_spec (by assumption) (by first | assumption | exact rfl) (by assumption) (by assumption)) (by k_asm) (by k_asm) (by k_asm) (by k_extra "my news") (by k_asm) (by first | exact rfl | assumption) (by k_extra "my room") (by k_extra "my units") ?_); k_whole; intro r9 Λ9 h9 tk9 F9 N9 P9; ((refine ex_elim1 P9 fun T9 P9q1 => ?_; clear P9; refine and_elim4 P9q1 fun ha9 hab9 P9e3 O9 => ?_; clear P9q1); subst P9e3); k_extra "my after")
  k_with "my calls" => ((with_reducible refine (?_ : wpAny _ _ (call (Value.ref 413) _) _ _ _)); k_dflt (refine useT (resize_spec (by assumption) (by first | assumption | exact rfl) (by assumption) (by assumption)) (by k_asm) (by k_asm) (by k_asm) (by k_extra "my news") (by k_asm) (by k_asm) (by k_extra "my rm") (by exact rfl) ?_); k_whole; intro r9 T9 h9 tk9 F9 N9 ha9 hab9 O9; k_extra "my after")
  trivial
theorem compute_sizes_spec' {w : World} {c : Addr} {vs : List Value} {ks : List Int} {n : Nat} {wanted : Int} {t : Tok} {R : Ledger} (hi : IntsAre vs ks) (hl : ks.length ≤ 30) :
    Runs w 278 [.ref c, .int wanted t] ((c, listOf vs.toArray n) :: R) 4 fun r Λ' => ∃ a t1 t2, r = .ref a ∧ Λ' = (a, pairObj (.int (csLoop wanted ks 0 0 0 1).1 t1) (.int (csLoop wanted ks 0 0 0 1).2 t2)) :: (c, listOf vs.toArray n) :: R := compute_sizes_spec hi (.head _) hl
theorem reg_F20_3 : True := by
  k_with "my calls" => ((with_reducible refine (?_ : wpAny _ _ (call (Value.ref 278) _) _ _ _)); k_dflt (refine Runs.use (compute_sizes_spec' (by assumption) (by omega)) (by k_asm) (by k_asm) (by k_asm) (by k_extra "my news") (by k_asm) (by first | exact rfl | assumption) (by k_extra "my room") (by k_extra "my units") ?_); k_whole; intro r9 Λ9 h9 tk9 F9 N9 P9; ((refine ex_elim3 P9 fun a9 t9 u9 P9q1 => ?_; clear P9; refine and_elim2 P9q1 fun P9e3 P9e4 => ?_; clear P9q1); subst P9e3; subst P9e4); k_extra "my after")
  k_with "my calls" => ((with_reducible refine (?_ : wpAny _ _ (call (Value.ref 278) _) _ _ _)); k_dflt (refine useG (compute_sizes_spec' (by assumption) (by omega)) (by k_asm) (by k_asm) (by k_asm) (by k_extra "my news") (by k_asm) (by k_asm) (by k_extra "my rm") (by exact rfl) ?_); k_whole; intro r9 Λ9 h9 tk9 F9 N9 P9; ((refine ex_elim3 P9 fun a9 t9 u9 P9q1 => ?_; clear P9; refine and_elim2 P9q1 fun P9e3 P9e4 => ?_; clear P9q1); subst P9e3; subst P9e4); k_extra "my after")
  trivial
end
section
theorem GF21.onF21 : True := trivial
open GF21
theorem reg_F21_1 : True := by
  k_with "call ref" => ((fail_if_success (fail_if_success (have g9 := onF21))); ((k_here; (with_reducible refine (?_ : wpAny _ _ (call (Value.ref 391) _) _ _ _)); refine myStop ?_)))
  trivial
theorem zeros (t : Tok) : ∀ n : Nat, IntsAre (List.replicate n [Value.int 0 t]).flatten (List.replicate n 0)
  | 0 => .nil
  | n + 1 => by
    rw [List.replicate_succ, List.flatten_cons, List.replicate_succ]
    exact IntsAre.append (ns := [0]) (.cons _ _ .nil) (zeros t n)
theorem counts_in {x : Addr} {y : Addr × Obj} {t : Tok} {n : Nat} {Λ : Ledger} {h₀ h : Heap} {L : Addr} (N : News h₀ L h ((x, listOf (List.replicate n [Value.int 0 t]).flatten.toArray 0) :: y :: Λ)) : ∃ vs ks, ks = List.replicate n 0 ∧ IntsAre vs ks ∧ News h₀ L h ((x, listOf vs.toArray 0) :: Λ) :=
  ⟨_, _, rfl, zeros t n, News.sub N fun p hp => by
    rcases List.mem_cons.mp hp with rfl | hp
    · exact .head _
    · exact .tail _ (.tail _ hp)⟩
noncomputable def rehashF (nk : PT → PV → PV → Option PT) (t : PT) (k : PV) : Option PT :=
  if t.es.length ≤ 64 ∧ t.ns.length ≤ 64 then
    (caOuter t.es 65 27 0 1 1 0 (List.replicate 27 0)).bind fun q1 => if q1.2.length = 27 then
      (cNodes t.ns q1.2 0 0).bind fun q2 => if q2.2.2.length = 27 then
        (cKey k q2.2.2).bind fun q3 => if q3.2.length = 27 then
          resizeF nk t (csLoop (q1.1 + (q2.2.1 + q3.1)) q3.2 0 0 0 1).1 (q1.1 + (q2.1 + 1) - (csLoop (q1.1 + (q2.2.1 + q3.1)) q3.2 0 0 0 1).2)
        else none
      else none
    else none
  else none
theorem rehashF_cases {nk : PT → PV → PV → Option PT} {t t' : PT} {k : PV} (h : rehashF nk t k = some t') :
    (t.es.length ≤ 64 ∧ t.ns.length ≤ 64) ∧ ∃ wh ks1 inN whN ks2 d ks3, caOuter t.es 65 27 0 1 1 0 (List.replicate 27 0) = some (wh, ks1) ∧ ks1.length = 27 ∧ cNodes t.ns ks1 0 0 = some (inN, whN, ks2) ∧ ks2.length = 27 ∧ cKey k ks2 = some (d, ks3) ∧ ks3.length = 27 ∧
      resizeF nk t (csLoop (wh + (whN + d)) ks3 0 0 0 1).1 (wh + (inN + 1) - (csLoop (wh + (whN + d)) ks3 0 0 0 1).2) = some t' := by
  unfold rehashF at h
  by_cases c : t.es.length ≤ 64 ∧ t.ns.length ≤ 64
  · rw [if_pos c] at h
    obtain ⟨⟨wh, ks1⟩, h1, h⟩ := Option.bind_eq_some_iff.mp h
    by_cases c1 : ks1.length = 27
    · rw [if_pos c1] at h
      obtain ⟨⟨inN, whN, ks2⟩, h2, h⟩ := Option.bind_eq_some_iff.mp h
      by_cases c2 : ks2.length = 27
      · rw [if_pos c2] at h
        obtain ⟨⟨d, ks3⟩, h3, h⟩ := Option.bind_eq_some_iff.mp h
        by_cases c3 : ks3.length = 27
        · rw [if_pos c3] at h
          exact ⟨c, wh, ks1, inN, whN, ks2, d, ks3, h1, c1, h2, c2, h3, c3, h⟩
        · rw [if_neg c3] at h; cases h
      · rw [if_neg c2] at h; cases h
    · rw [if_neg c1] at h; cases h
  · rw [if_neg c] at h; cases h
theorem rehash_spec {w : World} {nk : PT → PV → PV → Option PT} {D : Nat} (H : NKSpec w nk D) {T : Tb} {R : Ledger} {b : Addr} {v : Value} {p : PV} (hb : T.a = b) (hv : Is v p) (O : Own T R) {t' : PT} (hr : rehashF nk T.abs p = some t') :
    Runs w 405 [.ref b, v, .none] (tbObjs w.params T ++ R) (D + 32) fun _ Λ' => NKPost w.params b R t' Λ' := by
  subst hb
  have J79 := rehashF_cases hr; ((refine and_elim2 J79 fun J79p0 J79q1 => ?_; clear J79; refine ex_elim7 J79q1 fun wh ks1 inN whN ks2 d ks3 J79q2 => ?_; clear J79q1; refine and_elim7 J79q2 fun c1 l1 c2 l2 c3 l3 c4 => ?_; clear J79q2); ((refine and_elim2 J79p0 fun g4 g5 => ?_; clear J79p0)))
  replace g4 : T.es.length ≤ 64 := by simpa [Tb.abs] using g4
  replace g5 : T.ns.length ≤ 64 := by simpa [Tb.abs] using g5
  replace c1 : caOuter (T.es.map (·.p)) 65 27 0 1 1 0 (List.replicate 27 0) = some (wh, ks1) := c1
  replace c2 : cNodes (T.ns.map Nd.abs) ks1 0 0 = some (inN, whN, ks2) := c2
  k_extra "my enter"; w_strict (k_extra "my steps")
  (rename News _ _ _ _ => N1); (rename (_ < _ ∧ AllLt _ _) => l9)
  have hcl : ∀ p ∈ tbObjs w.params T ++ R, p.1 ≠ _ := fun p hp => Nat.ne_of_lt (allLt_mem l9.2 p hp)
  obtain ⟨vs0, ks0, hk0, hi0, N2⟩ := counts_in N1
  clear N1 l9
  replace hk0 : ks0 = List.replicate 27 0 := hk0
  rw [← hk0] at c1
  have l0 : ks0.length = 27 := by rw [hk0]; simp
  have hTT : HasTab w.params T (tbObjs w.params T ++ R) := HasTab.left
  refine MyStop.go ?_
  k_extra "my calls"
  w_strict (k_extra "my steps")
  exact hret _ _ _ _ (by k_asm) (by k_asm) ⟨T9, ha9, hab9, rfl, O9⟩
theorem reg_F21_2 : True := by
  k_with "my calls" => ((with_reducible refine (?_ : wpAny _ _ (call (Value.ref 405) _) _ _ _)); k_dflt (refine Runs.use (rehash_spec (by assumption) (by first | assumption | exact rfl) (by k_extra "my is") (by assumption) (by assumption)) (by k_asm) (by k_asm) (by k_asm) (by k_extra "my news") (by k_asm) (by first | exact rfl | assumption) (by k_extra "my room") (by k_extra "my units") ?_); k_whole; intro r9 Λ9 h9 tk9 F9 N9 P9; ((refine ex_elim1 P9 fun T9 P9q1 => ?_; clear P9; refine and_elim4 P9q1 fun ha9 hab9 P9e3 O9 => ?_; clear P9q1); subst P9e3); (try subst hab9); k_extra "my after")
  k_with "my calls" => ((with_reducible refine (?_ : wpAny _ _ (call (Value.ref 405) _) _ _ _)); k_dflt (refine useT (rehash_spec (by assumption) (by first | assumption | exact rfl) (by k_extra "my is") (by assumption) (by assumption)) (by k_asm) (by k_asm) (by k_asm) (by k_extra "my news") (by k_asm) (by k_asm) (by k_extra "my rm") (by exact rfl) ?_); k_whole; intro r9 T9 h9 tk9 F9 N9 ha9 hab9 O9; (try subst hab9); k_extra "my after")
  trivial
end
section
noncomputable def PT.up (t : PT) (i : Nat) (g : PN → PN) : PT := { t with ns := t.ns.modify i g }
noncomputable def PN.wK (v : PV) (x : PN) : PN := { x with k := v }
noncomputable def PN.wV (v : PV) (x : PN) : PN := { x with v := v }
noncomputable def PN.wN (z : Int) (x : PN) : PN := { x with nx := z }
theorem abs_up {T : Tb} {i : Nat} {f : Nd → Nd} {g : PN → PN} (hf : ∀ x : Nd, (f x).abs = g x.abs) : (T.up i f).abs = T.abs.up i g := by
  unfold Tb.up Tb.abs PT.up
  dsimp only
  congr 1
  apply List.ext_getElem?
  intro j
  rw [List.getElem?_map, List.getElem?_modify, List.getElem?_modify, List.getElem?_map]
  cases T.ns[j]? with
  | none => rfl
  | some x => by_cases e : i = j <;> simp [e, hf]
theorem up_a {T : Tb} {i : Nat} {f : Nd → Nd} : (T.up i f).a = T.a := rfl
theorem free_a {T : Tb} {i : Int} {t : Tok} : (T.wFree i t).a = T.a := rfl
theorem abs_key {T : Tb} {i : Nat} {v : Value} {p : PV} {hv : Is v p} : (T.up i fun x => { x with k := ⟨v, p, hv⟩ }).abs = T.abs.up i (PN.wK p) := abs_up fun _ => rfl
theorem abs_val {T : Tb} {i : Nat} {v : Value} {p : PV} {hv : Is v p} : (T.up i fun x => { x with v := ⟨v, p, hv⟩ }).abs = T.abs.up i (PN.wV p) := abs_up fun _ => rfl
theorem abs_nx {T : Tb} {i : Nat} {z : Int} {t : Tok} : (T.up i fun x => { x with nx := z, tn := t }).abs = T.abs.up i (PN.wN z) := abs_up fun _ => rfl
/-- new_key's way to the one before -/
noncomputable def predFrom (ns : List PN) (mn : Int) : Nat → Int → Option Int
  | 0, _ => none
  | n + 1, o => if o < 0 then none else match ns[o.toNat]? with
    | none => none
    | some x => if x.nx = mn then some o else predFrom ns mn n x.nx
theorem predFrom_cases {ns : List Nd} {mn : Int} {n : Nat} {o r : Int} (h : predFrom (ns.map Nd.abs) mn n o = some r) :
    0 ≤ o ∧ ∃ nd, ns[o.toNat]? = some nd ∧ ((nd.nx = mn ∧ r = o) ∨ (nd.nx ≠ mn ∧ ∃ n', n' < n ∧ predFrom (ns.map Nd.abs) mn n' nd.nx = some r)) := by
  cases n with
  | zero => cases h
  | succ n =>
    unfold predFrom at h
    by_cases h1 : o < 0
    · rw [if_pos h1] at h; cases h
    · rw [if_neg h1, List.getElem?_map] at h
      cases hx : ns[o.toNat]? with
      | none => rw [hx] at h; cases h
      | some nd =>
        rw [hx] at h
        simp only [Option.map_some] at h
        refine ⟨by omega, nd, rfl, ?_⟩
        by_cases h2 : nd.nx = mn
        · rw [if_pos (show nd.abs.nx = mn from h2)] at h; exact .inl ⟨h2, (Option.some.inj h).symm⟩
        · rw [if_neg (show ¬ nd.abs.nx = mn from h2)] at h; exact .inr ⟨h2, n, Nat.lt_succ_self _, h⟩
/-- new_key, with what it calls deeper: in pieces, each named (a proof about a piece bears not the whole) -/
noncomputable def nkFull (nk : PT → PV → PV → Option PT) (t : PT) (k v : PV) : Option PT := (rehashF nk t k).bind fun t' => backF nk t' k v
noncomputable def nkMove (t : PT) (k v : PV) (mn : Int) (pl : PN) (sp f' : Int) : Option PT := match predFrom t.ns mn 65 (mp t.ns.length pl.k) with
  | none => none
  | some pr => if pr = mn then none else
    some ((((((PT.up { t with fr := f' } pr.toNat (PN.wN sp)).up sp.toNat fun _ => pl).up mn.toNat (PN.wN (-1))).up mn.toNat (PN.wV .none)).up mn.toNat (PN.wK k)).up mn.toNat (PN.wV v))
noncomputable def nkTaken (t : PT) (k v : PV) (mn : Int) (pl : PN) (sp f' : Int) : Option PT :=
  if pl.k.keyB = false ∨ sp = mn ∨ t.ns.length ≤ sp.toNat then none
  else if mp t.ns.length pl.k = mn then
    some ((((PT.up { t with fr := f' } sp.toNat (PN.wN pl.nx)).up mn.toNat (PN.wN sp)).up sp.toNat (PN.wK k)).up sp.toNat (PN.wV v))
  else nkMove t k v mn pl sp f'
noncomputable def nkLive (nk : PT → PV → PV → Option PT) (t : PT) (k v : PV) (mn : Int) (pl : PN) : Option PT := match freeFrom t.ns 65 t.fr with
  | none => none
  | some (sp, f') => if sp < 0 then nkFull nk { t with fr := f' } k v else nkTaken t k v mn pl sp f'
noncomputable def nkAt (nk : PT → PV → PV → Option PT) (t : PT) (k v : PV) (mn : Int) : Option PT :=
  if mn < 0 then none else match t.ns[mn.toNat]? with
  | none => none
  | some pl => if pl.v = .none then some ((t.up mn.toNat (PN.wK k)).up mn.toNat (PN.wV v)) else nkLive nk t k v mn pl
noncomputable def newKeyF (nk : PT → PV → PV → Option PT) (t : PT) (k v : PV) : Option PT :=
  if t.es.length ≤ 64 ∧ t.ns.length ≤ 64 then if t.ns.length = 0 then nkFull nk t k v else nkAt nk t k v (mp t.ns.length k) else none
/-- its cases -/
inductive NKCase (nk : PT → PV → PV → Option PT) (T : Tb) (k v : PV) (t' : PT) : Prop
  | empty (h : T.ns.length = 0) (t2 : PT) (h1 : rehashF nk T.abs k = some t2) (h2 : backF nk t2 k v = some t')
  | dead (h : ¬ T.ns.length = 0) (mn : Int) (hm : mp T.ns.length k = mn) (h0 : 0 ≤ mn) (pl : Nd) (hp : T.ns[mn.toNat]? = some pl) (hv : pl.v.p = .none) (e : t' = (T.abs.up mn.toNat (PN.wK k)).up mn.toNat (PN.wV v))
  | full (h : ¬ T.ns.length = 0) (mn : Int) (hm : mp T.ns.length k = mn) (h0 : 0 ≤ mn) (pl : Nd) (hp : T.ns[mn.toNat]? = some pl) (hv : pl.v.p ≠ .none) (sp f' : Int) (hf : freeFrom (T.ns.map Nd.abs) 65 T.fr = some (sp, f')) (hs : sp < 0) (t2 : PT) (h1 : rehashF nk { T.abs with fr := f' } k = some t2) (h2 : backF nk t2 k v = some t')
  | same (h : ¬ T.ns.length = 0) (mn : Int) (hm : mp T.ns.length k = mn) (h0 : 0 ≤ mn) (pl : Nd) (hp : T.ns[mn.toNat]? = some pl) (hv : pl.v.p ≠ .none) (sp f' : Int) (hf : freeFrom (T.ns.map Nd.abs) 65 T.fr = some (sp, f')) (hs : 0 ≤ sp) (hk : pl.k.p.key) (hne : sp ≠ mn) (hlt : sp.toNat < T.ns.length) (ho : mp T.ns.length pl.k.p = mn)
      (e : t' = (((PT.up { T.abs with fr := f' } sp.toNat (PN.wN pl.nx)).up mn.toNat (PN.wN sp)).up sp.toNat (PN.wK k)).up sp.toNat (PN.wV v))
  | move (h : ¬ T.ns.length = 0) (mn : Int) (hm : mp T.ns.length k = mn) (h0 : 0 ≤ mn) (pl : Nd) (hp : T.ns[mn.toNat]? = some pl) (hv : pl.v.p ≠ .none) (sp f' : Int) (hf : freeFrom (T.ns.map Nd.abs) 65 T.fr = some (sp, f')) (hs : 0 ≤ sp) (hk : pl.k.p.key) (hne : sp ≠ mn) (hlt : sp.toNat < T.ns.length) (ot : Int) (hot : mp T.ns.length pl.k.p = ot) (ho : ot ≠ mn)
      (pr : Int) (hpr : predFrom (T.ns.map Nd.abs) mn 65 ot = some pr) (hpn : pr ≠ mn)
      (e : t' = (((((PT.up { T.abs with fr := f' } pr.toNat (PN.wN sp)).up sp.toNat fun _ => pl.abs).up mn.toNat (PN.wN (-1))).up mn.toNat (PN.wV .none)).up mn.toNat (PN.wK k)).up mn.toNat (PN.wV v))
theorem newKeyF_cases {nk : PT → PV → PV → Option PT} {T : Tb} {k v : PV} {t' : PT} (h : newKeyF nk T.abs k v = some t') : (T.es.length ≤ 64 ∧ T.ns.length ≤ 64) ∧ NKCase nk T k v t' := by
  unfold newKeyF at h
  have l1 : T.abs.es.length = T.es.length := by simp [Tb.abs]
  have l2 : T.abs.ns.length = T.ns.length := by simp [Tb.abs]
  rw [l1, l2] at h
  by_cases c : T.es.length ≤ 64 ∧ T.ns.length ≤ 64
  case neg => rw [if_neg c] at h; cases h
  rw [if_pos c] at h
  refine ⟨c, ?_⟩
  by_cases c1 : T.ns.length = 0
  · rw [if_pos c1] at h
    obtain ⟨t2, h1, h2⟩ := Option.bind_eq_some_iff.mp h
    exact .empty c1 t2 h1 h2
  rw [if_neg c1] at h
  generalize hm : mp T.ns.length k = mn at h
  unfold nkAt at h
  by_cases c2 : mn < 0
  · rw [if_pos c2] at h; cases h
  rw [if_neg c2, show T.abs.ns = T.ns.map Nd.abs from rfl, List.getElem?_map] at h
  cases hp : T.ns[mn.toNat]? with
  | none => rw [hp] at h; cases h
  | some pl =>
    rw [hp] at h
    simp only [Option.map_some] at h
    by_cases c3 : pl.v.p = .none
    · rw [if_pos (show pl.abs.v = .none from c3)] at h
      exact .dead c1 mn hm (by omega) pl hp c3 (Option.some.inj h).symm
    rw [if_neg (show ¬ pl.abs.v = .none from c3)] at h
    unfold nkLive at h
    rw [show T.abs.ns = T.ns.map Nd.abs from rfl] at h
    cases hf : freeFrom (T.ns.map Nd.abs) 65 T.abs.fr with
    | none => rw [hf] at h; cases h
    | some q =>
      obtain ⟨sp, f'⟩ := q
      rw [hf] at h
      dsimp only at h
      by_cases c4 : sp < 0
      · rw [if_pos c4] at h
        obtain ⟨t2, h1, h2⟩ := Option.bind_eq_some_iff.mp h
        exact .full c1 mn hm (by omega) pl hp c3 sp f' hf c4 t2 h1 h2
      rw [if_neg c4] at h
      unfold nkTaken at h
      rw [l2] at h
      by_cases c5 : pl.abs.k.keyB = false ∨ sp = mn ∨ T.ns.length ≤ sp.toNat
      · rw [if_pos c5] at h; cases h
      rw [if_neg c5] at h
      simp only [not_or, Bool.not_eq_false] at c5
      by_cases c6 : mp T.ns.length pl.abs.k = mn
      · rw [if_pos c6] at h
        exact .same c1 mn hm (by omega) pl hp c3 sp f' hf (by omega) (PV.keyB_key c5.1) c5.2.1 (by omega) c6 (Option.some.inj h).symm
      rw [if_neg c6] at h
      unfold nkMove at h
      rw [l2, show T.abs.ns = T.ns.map Nd.abs from rfl] at h
      cases hpr : predFrom (T.ns.map Nd.abs) mn 65 (mp T.ns.length pl.abs.k) with
      | none => rw [hpr] at h; cases h
      | some pr =>
        rw [hpr] at h
        dsimp only at h
        by_cases c7 : pr = mn
        · rw [if_pos c7] at h; cases h
        rw [if_neg c7] at h
        exact .move c1 mn hm (by omega) pl hp c3 sp f' hf (by omega) (PV.keyB_key c5.1) c5.2.1 (by omega) _ rfl c6 pr hpr c7 (Option.some.inj h).symm
theorem main_position_own {w : World} {T : Tb} {R : Ledger} (O : Own T R) {b : Addr} (hb : T.a = b) {v : Value} {p : PV} (hv : Is v p) (hp : p.key) {n : Nat} (hl : T.ns.length = n) (hn : n ≤ 64) (h0 : 0 < n) :
    Runs w 307 [.ref b, v] (tbObjs w.params T ++ R) 4 fun r Λ' => tbObjs w.params T ++ R = Λ' ∧ ∃ t, r = .int (mp n p) t := by
  subst hb; subst hl
  exact main_position_spec hv hp HasTab.left hn h0
theorem free_position_own {w : World} {T : Tb} {R : Ledger} (O : Own T R) {b : Addr} (hb : T.a = b) {n : Nat} (hl : T.ns.length = n) (hn : n ≤ 64) {fuel : Nat} {r f' : Int} (hr : freeFrom (T.ns.map Nd.abs) fuel T.fr = some (r, f')) :
    Runs w 321 [.ref b] (tbObjs w.params T ++ R) 4 fun r' Λ' => ∃ t ft, r' = .int r t ∧ Λ' = tbObjs w.params (T.wFree f' ft) ++ R ∧ Own (T.wFree f' ft) R := by
  subst hb; subst hl
  refine (free_position_spec O hn hr).mono (Nat.le_refl _) ?_
  rintro r Λ' ⟨t, ft, e1, e2⟩
  exact ⟨t, ft, e1, e2, ⟨O.nd, O.off⟩⟩
theorem rehash_own {w : World} {nk : PT → PV → PV → Option PT} {D : Nat} (H : NKSpec w nk D) {T : Tb} {R : Ledger} (O : Own T R) {b : Addr} (hb : T.a = b) {v : Value} {p : PV} (hv : Is v p) {t' : PT} (hr : rehashF nk T.abs p = some t') :
    Runs w 405 [.ref b, v, .none] (tbObjs w.params T ++ R) (D + 32) fun _ Λ' => NKPost w.params b R t' Λ' := rehash_spec H hb hv O hr
theorem moved_own {w : World} {T : Tb} {R : Ledger} {AS : List Addr} {i j : Nat} {nd : Nd} {b : Addr} (O : Own T R) (S : adrs T = AS) (hx : T.ns[i]? = some nd) (hj : AS[j]? = some b) (hij : i ≠ j) :
    Runs w 257 [.ref nd.a, .ref b] (tbObjs w.params T ++ R) 2 fun _ Λ' => ∃ f : Nd → Nd, (∀ x, (f x).abs = nd.abs) ∧ Λ' = tbObjs w.params (T.up j f) ++ R ∧ Own (T.up j f) R ∧ adrs (T.up j f) = AS := by
  refine (moved_to_spec O S hx hj hij).mono (Nat.le_refl _) ?_
  rintro r Λ' ⟨f, e1, e2, e3, e4, e5⟩
  exact ⟨f, e3, e4, e5, adrs_up S e1⟩
theorem reg_F22_1 : True := by
  k_with "my calls" => ((with_reducible refine (?_ : wpAny _ _ (call (Value.ref 307) _) _ _ _)); k_dflt (refine Runs.use (main_position_own (by assumption) (by first | exact rfl | assumption) (by k_extra "my is") (by k_extra "my key") (by assumption) (by omega) (by omega)) (by k_asm) (by k_asm) (by k_asm) (by k_extra "my news") (by k_asm) (by first | exact rfl | assumption) (by k_extra "my room") (by k_extra "my units") ?_); k_whole; intro r9 Λ9 h9 tk9 F9 N9 P9; ((refine and_elim2 P9 fun P9e0 P9q1 => ?_; clear P9; refine ex_elim1 P9q1 fun t9 P9e2 => ?_; clear P9q1); subst P9e0; subst P9e2); k_extra "my after")
  k_with "my calls" => ((with_reducible refine (?_ : wpAny _ _ (call (Value.ref 307) _) _ _ _)); k_dflt (refine useI (main_position_own (by assumption) (by first | exact rfl | assumption) (by k_extra "my is") (by k_extra "my key") (by assumption) (by omega) (by omega)) (by k_asm) (by k_asm) (by k_asm) (by k_extra "my news") (by k_asm) (by k_asm) (by k_extra "my rm") (by exact rfl) ?_); k_whole; intro t9 h9 tk9 F9 N9; k_extra "my after")
  trivial
theorem reg_F22_2 : True := by
  k_with "my calls" => ((with_reducible refine (?_ : wpAny _ _ (call (Value.ref 321) _) _ _ _)); k_dflt (refine Runs.use (free_position_own (by assumption) (by first | exact rfl | assumption) (by assumption) (by omega) (by assumption)) (by k_asm) (by k_asm) (by k_asm) (by k_extra "my news") (by k_asm) (by first | exact rfl | assumption) (by k_extra "my room") (by k_extra "my units") ?_); k_whole; intro r9 Λ9 h9 tk9 F9 N9 P9; ((refine ex_elim2 P9 fun t9 ft9 P9q1 => ?_; clear P9; refine and_elim3 P9q1 fun P9e2 P9e3 O9 => ?_; clear P9q1); subst P9e2; subst P9e3); k_extra "my after")
  k_with "my calls" => ((with_reducible refine (?_ : wpAny _ _ (call (Value.ref 321) _) _ _ _)); k_dflt (refine useG (free_position_own (by assumption) (by first | exact rfl | assumption) (by assumption) (by omega) (by assumption)) (by k_asm) (by k_asm) (by k_asm) (by k_extra "my news") (by k_asm) (by k_asm) (by k_extra "my rm") (by exact rfl) ?_); k_whole; intro r9 Λ9 h9 tk9 F9 N9 P9; ((refine ex_elim2 P9 fun t9 ft9 P9q1 => ?_; clear P9; refine and_elim3 P9q1 fun P9e2 P9e3 O9 => ?_; clear P9q1); subst P9e2; subst P9e3); k_extra "my after")
  trivial
theorem reg_F22_3 : True := by
  k_with "my calls" => ((with_reducible refine (?_ : wpAny _ _ (call (Value.ref 405) _) _ _ _)); k_dflt (refine Runs.use (rehash_own (by assumption) (by assumption) (by first | exact rfl | assumption) (by k_extra "my is") (by assumption)) (by k_asm) (by k_asm) (by k_asm) (by k_extra "my news") (by k_asm) (by first | exact rfl | assumption) (by k_extra "my room") (by k_extra "my units") ?_); k_whole; intro r9 Λ9 h9 tk9 F9 N9 P9; ((refine ex_elim1 P9 fun T9 P9q1 => ?_; clear P9; refine and_elim4 P9q1 fun ha9 hab9 P9e3 O9 => ?_; clear P9q1); subst P9e3); (try subst hab9); k_extra "my after")
  k_with "my calls" => ((with_reducible refine (?_ : wpAny _ _ (call (Value.ref 405) _) _ _ _)); k_dflt (refine useT (rehash_own (by assumption) (by assumption) (by first | exact rfl | assumption) (by k_extra "my is") (by assumption)) (by k_asm) (by k_asm) (by k_asm) (by k_extra "my news") (by k_asm) (by k_asm) (by k_extra "my rm") (by exact rfl) ?_); k_whole; intro r9 T9 h9 tk9 F9 N9 ha9 hab9 O9; (try subst hab9); k_extra "my after")
  trivial
theorem reg_F22_4 : True := by
  k_with "my calls" => ((with_reducible refine (?_ : wpAny _ _ (call (Value.ref 257) _) _ _ _)); k_dflt (refine Runs.use (moved_own (by assumption) (by assumption) (by exact up_ne (by assumption) (by omega)) (by assumption) (by omega)) (by k_asm) (by k_asm) (by k_asm) (by k_extra "my news") (by k_asm) (by first | exact rfl | assumption) (by k_extra "my room") (by k_extra "my units") ?_); k_whole; intro r9 Λ9 h9 tk9 F9 N9 P9; ((refine ex_elim1 P9 fun f9 P9q1 => ?_; clear P9; refine and_elim4 P9q1 fun fn9 P9e2 O9 S9 => ?_; clear P9q1); subst P9e2); k_extra "my after")
  k_with "my calls" => ((with_reducible refine (?_ : wpAny _ _ (call (Value.ref 257) _) _ _ _)); k_dflt (refine useG (moved_own (by assumption) (by assumption) (by exact up_ne (by assumption) (by omega)) (by assumption) (by omega)) (by k_asm) (by k_asm) (by k_asm) (by k_extra "my news") (by k_asm) (by k_asm) (by k_extra "my rm") (by exact rfl) ?_); k_whole; intro r9 Λ9 h9 tk9 F9 N9 P9; ((refine ex_elim1 P9 fun f9 P9q1 => ?_; clear P9; refine and_elim4 P9q1 fun fn9 P9e2 O9 S9 => ?_; clear P9q1); subst P9e2); k_extra "my after")
  trivial
end
section
theorem GF23.onF23 : True := trivial
open GF23
theorem reg_F23_1 : True := by
  k_with "getMethod ref" => ((fail_if_success (fail_if_success (have g9 := onF23))); ((k_here; (with_reducible refine (?_ : wpAny _ _ (getMethod _ (Str.ofString "moved_to") _) _ _ _)); (fail_if_success k_extra "go on"); refine myStop ?_)))
  trivial
theorem nd_in {P : Params} {h₀ h : Heap} {L : Addr} {T : Tb} {R : Ledger} {i : Nat} {nd : Nd} (_ : News h₀ L h (tbObjs P T ++ R)) (hx : T.ns[i]? = some nd) : (nd.a, instObj 260 nd.d) ∈ tbObjs P T ++ R ∧ (nd.d, ndDict P nd) ∈ tbObjs P T ++ R := HasTab.left.nd (List.mem_of_getElem? hx)
theorem nk_tree {nk : PT → PV → PV → Option PT} {T : Tb} {k v : PV} {t' : PT} (h : NKCase nk T k v t') :
    (T.ns.length = 0 ∧ ∃ t2, rehashF nk T.abs k = some t2 ∧ backF nk t2 k v = some t') ∨
    (¬ T.ns.length = 0 ∧ ∃ mn, mp T.ns.length k = mn ∧ 0 ≤ mn ∧ ∃ pl, T.ns[mn.toNat]? = some pl ∧
      ((pl.v.p = .none ∧ t' = (T.abs.up mn.toNat (PN.wK k)).up mn.toNat (PN.wV v)) ∨
       (pl.v.p ≠ .none ∧ ∃ sp f', freeFrom (T.ns.map Nd.abs) 65 T.fr = some (sp, f') ∧
        ((sp < 0 ∧ ∃ t2, rehashF nk { T.abs with fr := f' } k = some t2 ∧ backF nk t2 k v = some t') ∨
         (0 ≤ sp ∧ pl.k.p.key ∧ ¬ sp = mn ∧ sp.toNat < T.ns.length ∧
          ((mp T.ns.length pl.k.p = mn ∧ t' = (((PT.up { T.abs with fr := f' } sp.toNat (PN.wN pl.nx)).up mn.toNat (PN.wN sp)).up sp.toNat (PN.wK k)).up sp.toNat (PN.wV v)) ∨
           (∃ ot, mp T.ns.length pl.k.p = ot ∧ ¬ ot = mn ∧ ∃ pr, predFrom (T.ns.map Nd.abs) mn 65 ot = some pr ∧ pr ≠ mn ∧
            t' = (((((PT.up { T.abs with fr := f' } pr.toNat (PN.wN sp)).up sp.toNat fun _ => pl.abs).up mn.toNat (PN.wN (-1))).up mn.toNat (PN.wV .none)).up mn.toNat (PN.wK k)).up mn.toNat (PN.wV v)))))))) := by
  cases h with
  | empty h t2 h1 h2 => exact .inl ⟨h, t2, h1, h2⟩
  | dead h mn hm h0 pl hp hv e => exact .inr ⟨h, mn, hm, h0, pl, hp, .inl ⟨hv, e⟩⟩
  | full h mn hm h0 pl hp hv sp f' hf hs t2 h1 h2 => exact .inr ⟨h, mn, hm, h0, pl, hp, .inr ⟨hv, sp, f', hf, .inl ⟨hs, t2, h1, h2⟩⟩⟩
  | same h mn hm h0 pl hp hv sp f' hf hs hk hne hlt ho e => exact .inr ⟨h, mn, hm, h0, pl, hp, .inr ⟨hv, sp, f', hf, .inr ⟨hs, hk, hne, hlt, .inl ⟨ho, e⟩⟩⟩⟩
  | move h mn hm h0 pl hp hv sp f' hf hs hk hne hlt ot hot ho pr hpr hpn e => exact .inr ⟨h, mn, hm, h0, pl, hp, .inr ⟨hv, sp, f', hf, .inr ⟨hs, hk, hne, hlt, .inr ⟨ot, hot, ho, pr, hpr, hpn, e⟩⟩⟩⟩
theorem reg_F23_2 : True := by
  k_with "my ite" => ((fail_if_success (fail_if_success (have g9 := onF23))); first | k_extra "my ite0" | (refine ite_neg (by decide) ?_) | (refine ite_pos (by decide) ?_) | refine myStop ?_)
  trivial
theorem new_key_spec {w : World} {nk : PT → PV → PV → Option PT} {D : Nat} (H : NKSpec w nk D) : NKSpec w (newKeyF nk) (D + 48) := by
  intro T R b v u p q hb hv hp hq O t' hr
  subst hb
  obtain ⟨⟨g1, g2⟩, hc⟩ := newKeyF_cases hr
  clear hr
  obtain ⟨N0, gl⟩ : ∃ n, T.ns.length = n := ⟨_, rfl⟩
  rw [gl] at g2
  obtain ⟨AS, S⟩ : ∃ AS, adrs T = AS := ⟨_, rfl⟩
  have hAS : ∀ {i : Nat} {nd : Nd}, T.ns[i]? = some nd → AS[i]? = some nd.a := fun hx => by rw [← S]; unfold adrs; rw [List.getElem?_map, hx]; rfl
  have hlA : AS.length ≤ 64 := by rw [← S]; unfold adrs; rw [List.length_map, gl]; exact g2
  have e0 : ∀ {f' : Int} {ft : Tok}, (T.wFree f' ft).abs = { T.abs with fr := f' } := rfl
  rcases nk_tree hc with ⟨h, t2, h1, h2⟩ | ⟨h, mn, hm, h0, pl, hpl, hrest⟩
  · rw [gl] at h
    k_extra "my enter"; w_strict (k_extra "my steps")
    exact hret _ _ _ _ (by k_asm) (by k_asm) ⟨T9, by assumption, hab9, rfl, O9⟩
  · rw [gl] at h hm
    subst hm
    have hA1 := hAS hpl
    have hpm := List.mem_of_getElem? hpl
    k_extra "my enter"; w_strict (k_extra "my steps")
    refine MyStop.go ?_
    rcases hrest with ⟨hvn, e⟩ | ⟨hvn, sp, f', hf, hrest⟩
    · have hvb : (!decide (pl.v.p = PV.none)) = false := by simp [hvn]
      w_strict (k_extra "my steps")
      (rename Own (Tb.up (Tb.up _ _ _) _ _) _ => O9)
      refine hret _ _ _ _ (by k_asm) (by k_asm) ⟨_, ?_, ?_, rfl, O9⟩
      · simp only [up_a, free_a]
      · rw [e, abs_val, abs_key]
    have hvb : (!decide (pl.v.p = PV.none)) = true := by simp [hvn]
    w_strict (k_extra "my steps")
    refine MyStop.go ?_
    rcases hrest with ⟨hs, t2, h1, h2⟩ | ⟨hs, hk, hne, hlt, hrest⟩
    · w_strict (k_extra "my steps")
      exact hret _ _ _ _ (by k_asm) (by k_asm) ⟨T9, by assumption, hab9, rfl, O9⟩
    rw [gl] at hlt
    obtain ⟨sn, hsn⟩ : ∃ sn, T.ns[sp.toNat]? = some sn := ⟨_, List.getElem?_eq_getElem (by omega)⟩
    have hA2 := hAS hsn
    w_strict (k_extra "my steps")
    refine MyStop.go ?_
    rcases hrest with ⟨ho, e⟩ | ⟨ot, hot, ho, pr, hpr, hpn, e⟩
    · rw [gl] at ho
      w_strict (k_extra "my steps")
      (rename Own (Tb.up (Tb.up _ _ _) _ _) _ => O9)
      refine hret _ _ _ _ (by k_asm) (by k_asm) ⟨_, ?_, ?_, rfl, O9⟩
      · simp only [up_a, free_a]
      · rw [e, abs_val, abs_key, abs_nx, abs_nx, e0]
    · rw [gl] at hot
      subst hot
      w_strict (k_extra "my steps")
      refine MyStop.go ?_; (with_reducible rename Fr _ _ _ _ => lF); (with_reducible rename News _ _ _ _ => lN); obtain ⟨m0, hm0, lF⟩ := loop_start lF
      let J9 : Nat → (Str → Option Value) → Ledger → Prop := fun n m₁ Λ₁ => tbObjs w.params (T.wFree f' ft9) ++ R = Λ₁ ∧ ∃ o to, m₁ = (fun y => if y = Str.ofString "other" then some (.int o to) else m0 y) ∧ predFrom (T.ns.map Nd.abs) (mp N0 p) n o = some pr; refine While_inv2 (n₀ := 65) J9 lF lN ⟨rfl, _, _, self1 (by rw [hm0]; exact rfl), hpr⟩ ?_; subst hm0; intro n m₁ Λ₁ h₁ tk₁ F₁ N₁ J09; k_extra "my fold"; ((refine and_elim2 J09 fun J09e0 J09q1 => ?_; clear J09; refine ex_elim2 J09q1 fun o to J09q2 => ?_; clear J09q1; refine and_elim2 J09q2 fun J09e3 hso => ?_; clear J09q2); subst J09e0; subst J09e3); k_extra "my after"
      obtain ⟨q0, on, q1, q2⟩ := predFrom_cases hso
      have hA3 := hAS q1
      have hom := List.mem_of_getElem? q1
      rcases q2 with ⟨q2, rfl⟩ | ⟨q2, n', q3, q4⟩
      · have hij : ¬ (mp N0 p).toNat = pr.toNat := by omega
        have hij2 : ¬ (mp N0 p).toNat = sp.toNat := by omega
        w_strict (k_extra "my steps")
        (rename News _ _ _ _ => N7)
        obtain ⟨m7, m8⟩ := nd_in N7 (up_ne (T := T.wFree f' ft9) hpl hij)
        k_with "go on" => skip
        refine MyStop.go ?_
        w_strict (k_extra "my steps")
        (rename Own (Tb.up (Tb.up _ _ _) _ _) _ => O8)
        refine hret _ _ _ _ (by k_asm) (by k_asm) ⟨_, ?_, ?_, rfl, O8⟩
        · simp only [up_a, free_a]
        · rw [e, abs_val, abs_key, abs_val, abs_nx, abs_up (g := fun _ => pl.abs) fn9, abs_nx, e0]
      · w_strict (k_extra "my steps")
        exact ⟨_, _, _, _, n', rfl, by k_asm, by k_asm, q3, rfl, _, _, upd_upd, q4⟩
end
section
noncomputable def putF (nk : PT → PV → PV → Option PT) (t : PT) (k v : PV) : Option PT :=
  if t.es.length ≤ 64 ∧ t.ns.length ≤ 64 then
    if 1 ≤ k.idx ∧ k.idx ≤ t.es.length then some { t with es := t.es.set (k.idx - 1).toNat v }
    else (findNode t.ns k 65).bind fun r => if r < 0 then nk t k v else if r.toNat < t.ns.length then some (t.up r.toNat (PN.wV v)) else none
  else none
theorem put_spec {w : World} {nk : PT → PV → PV → Option PT} {D : Nat} (H : NKSpec w nk D) {T : Tb} {R : Ledger} (O : Own T R) {b : Addr} (hb : T.a = b) {v u : Value} {p q : PV} (hv : Is v p) (hp : p.key) (hq : Is u q) {t' : PT} (hr : putF nk T.abs p q = some t') :
    Runs w 370 [.ref b, v, u, .none] (tbObjs w.params T ++ R) (D + 16) fun _ Λ' => NKPost w.params b R t' Λ' := by
  subst hb
  unfold putF at hr
  have l1 : T.abs.es.length = T.es.length := by simp [Tb.abs]
  have l2 : T.abs.ns.length = T.ns.length := by simp [Tb.abs]
  rw [l1, l2] at hr
  by_cases c : T.es.length ≤ 64 ∧ T.ns.length ≤ 64
  case neg => rw [if_neg c] at hr; cases hr
  rw [if_pos c] at hr
  obtain ⟨he', hn'⟩ := c
  have hTT : HasTab w.params T (tbObjs w.params T ++ R) := HasTab.left
  by_cases hi : 1 ≤ p.idx ∧ p.idx ≤ T.es.length
  · rw [if_pos hi] at hr
    obtain rfl := Option.some.inj hr
    obtain ⟨hi1, hi2⟩ := hi
    k_extra "my enter"; w_strict (k_extra "my steps")
    (rename (Own (Tb.wAt _ _ _) _) => O9)
    exact hret _ _ _ _ (by k_asm) (by k_asm) ⟨T.wAt (p.idx - 1).toNat ⟨u, q, hq⟩, rfl, by simp [Tb.abs, Tb.wAt, List.map_set], rfl, O9⟩
  · rw [if_neg hi] at hr
    obtain ⟨r, hf, hr⟩ := Option.bind_eq_some_iff.mp hr
    replace hf : findNode (T.ns.map Nd.abs) p 65 = some r := hf
    by_cases c1 : r < 0
    · rw [if_pos c1] at hr
      k_extra "my enter"; w_strict (k_extra "my steps")
      all_goals exact hret _ _ _ _ (by k_asm) (by k_asm) ⟨T9, by assumption, hab9, rfl, O9⟩
    · rw [if_neg c1] at hr
      by_cases c2 : r.toNat < T.ns.length
      case neg => rw [if_neg c2] at hr; cases hr
      rw [if_pos c2] at hr
      obtain rfl := Option.some.inj hr
      obtain ⟨AS, S⟩ : ∃ AS, adrs T = AS := ⟨_, rfl⟩
      obtain ⟨sn, hsn⟩ : ∃ sn, T.ns[r.toNat]? = some sn := ⟨_, List.getElem?_eq_getElem c2⟩
      have hA2 : AS[r.toNat]? = some sn.a := by rw [← S]; unfold adrs; rw [List.getElem?_map, hsn]; rfl
      have hlA : AS.length ≤ 64 := by rw [← S]; unfold adrs; rw [List.length_map]; exact hn'
      k_extra "my enter"; w_strict (k_extra "my steps")
      all_goals (
        (rename Own (Tb.up _ _ _) _ => O8)
        refine hret _ _ _ _ (by k_asm) (by k_asm) ⟨_, ?_, ?_, rfl, O8⟩
        · simp only [up_a]
        · rw [abs_val])
theorem reg_F24_1 : True := by
  k_with "my calls" => ((with_reducible refine (?_ : wpAny _ _ (call (Value.ref 370) _) _ _ _)); k_dflt (refine Runs.use (put_spec (by assumption) (by assumption) (by first | exact rfl | assumption) (by k_extra "my is") (by k_extra "my key") (by k_extra "my is") (by assumption)) (by k_asm) (by k_asm) (by k_asm) (by k_extra "my news") (by k_asm) (by first | exact rfl | assumption) (by k_extra "my room") (by k_extra "my units") ?_); k_whole; intro r9 Λ9 h9 tk9 F9 N9 P9; ((refine ex_elim1 P9 fun T9 P9q1 => ?_; clear P9; refine and_elim4 P9q1 fun ha9 hab9 P9e3 O9 => ?_; clear P9q1); subst P9e3); k_extra "my after")
  k_with "my calls" => ((with_reducible refine (?_ : wpAny _ _ (call (Value.ref 370) _) _ _ _)); k_dflt (refine useT (put_spec (by assumption) (by assumption) (by first | exact rfl | assumption) (by k_extra "my is") (by k_extra "my key") (by k_extra "my is") (by assumption)) (by k_asm) (by k_asm) (by k_asm) (by k_extra "my news") (by k_asm) (by k_asm) (by k_extra "my rm") (by exact rfl) ?_); k_whole; intro r9 T9 h9 tk9 F9 N9 ha9 hab9 O9; k_extra "my after")
  trivial
end
section
theorem set_spec {w : World} {nk : PT → PV → PV → Option PT} {D : Nat} (H : NKSpec w nk D) {T : Tb} {R : Ledger} (O : Own T R) {b : Addr} (hb : T.a = b) {v u : Value} {p q : PV} (hv : Is v p) (hp : p.key) (hq : Is u q) {t' : PT} (hr : putF nk { T.abs with fl := 0 } p q = some t') :
    Runs w 349 [.ref b, v, u, .none] (tbObjs w.params T ++ R) (D + 20) fun _ Λ' => NKPost w.params b R t' Λ' := by
  subst hb
  have hp' := PV.key_ne hp
  k_extra "my enter"; w_strict (k_extra "my steps")
  all_goals exact hret _ _ _ _ (by k_asm) (by k_asm) ⟨T9, by assumption, hab9, rfl, O9⟩
theorem set_text_spec {w : World} {nk : PT → PV → PV → Option PT} {D : Nat} (H : NKSpec w nk D) {T : Tb} {R : Ledger} (O : Own T R) {b : Addr} (hb : T.a = b) {v u : Value} {p q : PV} (hv : Is v p) (hp : p.key) (hq : Is u q) {t' : PT} (hr : putF nk { T.abs with fl := 0 } p q = some t') :
    Runs w 363 [.ref b, v, u, .none] (tbObjs w.params T ++ R) (D + 20) fun _ Λ' => NKPost w.params b R t' Λ' := by
  subst hb
  k_extra "my enter"; w_strict (k_extra "my steps")
  all_goals exact hret _ _ _ _ (by k_asm) (by k_asm) ⟨T9, by assumption, hab9, rfl, O9⟩
theorem set_int_spec {w : World} {nk : PT → PV → PV → Option PT} {D : Nat} (H : NKSpec w nk D) {T : Tb} {R : Ledger} (O : Own T R) {b : Addr} (hb : T.a = b) {v u : Value} {p q : PV} (hv : Is v p) (hp : p.key) (hq : Is u q) {t' : PT} (hr : putF nk T.abs p q = some t') :
    Runs w 356 [.ref b, v, u, .none] (tbObjs w.params T ++ R) (D + 20) fun _ Λ' => NKPost w.params b R t' Λ' := by
  subst hb
  k_extra "my enter"; w_strict (k_extra "my steps")
  all_goals exact hret _ _ _ _ (by k_asm) (by k_asm) ⟨T9, by assumption, hab9, rfl, O9⟩
theorem reg_F25_1 : True := by
  k_with "my calls" => ((with_reducible refine (?_ : wpAny _ _ (call (Value.ref 349) _) _ _ _)); k_dflt (refine Runs.use (set_spec (by assumption) (by assumption) (by first | exact rfl | assumption) (by k_extra "my is") (by k_extra "my key") (by k_extra "my is") (by assumption)) (by k_asm) (by k_asm) (by k_asm) (by k_extra "my news") (by k_asm) (by first | exact rfl | assumption) (by k_extra "my room") (by k_extra "my units") ?_); k_whole; intro r9 Λ9 h9 tk9 F9 N9 P9; ((refine ex_elim1 P9 fun T9 P9q1 => ?_; clear P9; refine and_elim4 P9q1 fun ha9 hab9 P9e3 O9 => ?_; clear P9q1); subst P9e3); k_extra "my after")
  k_with "my calls" => ((with_reducible refine (?_ : wpAny _ _ (call (Value.ref 349) _) _ _ _)); k_dflt (refine useT (set_spec (by assumption) (by assumption) (by first | exact rfl | assumption) (by k_extra "my is") (by k_extra "my key") (by k_extra "my is") (by assumption)) (by k_asm) (by k_asm) (by k_asm) (by k_extra "my news") (by k_asm) (by k_asm) (by k_extra "my rm") (by exact rfl) ?_); k_whole; intro r9 T9 h9 tk9 F9 N9 ha9 hab9 O9; k_extra "my after")
  trivial
theorem reg_F25_2 : True := by
  k_with "my calls" => ((with_reducible refine (?_ : wpAny _ _ (call (Value.ref 363) _) _ _ _)); k_dflt (refine Runs.use (set_text_spec (by assumption) (by assumption) (by first | exact rfl | assumption) (by k_extra "my is") (by k_extra "my key") (by k_extra "my is") (by assumption)) (by k_asm) (by k_asm) (by k_asm) (by k_extra "my news") (by k_asm) (by first | exact rfl | assumption) (by k_extra "my room") (by k_extra "my units") ?_); k_whole; intro r9 Λ9 h9 tk9 F9 N9 P9; ((refine ex_elim1 P9 fun T9 P9q1 => ?_; clear P9; refine and_elim4 P9q1 fun ha9 hab9 P9e3 O9 => ?_; clear P9q1); subst P9e3); k_extra "my after")
  k_with "my calls" => ((with_reducible refine (?_ : wpAny _ _ (call (Value.ref 363) _) _ _ _)); k_dflt (refine useT (set_text_spec (by assumption) (by assumption) (by first | exact rfl | assumption) (by k_extra "my is") (by k_extra "my key") (by k_extra "my is") (by assumption)) (by k_asm) (by k_asm) (by k_asm) (by k_extra "my news") (by k_asm) (by k_asm) (by k_extra "my rm") (by exact rfl) ?_); k_whole; intro r9 T9 h9 tk9 F9 N9 ha9 hab9 O9; k_extra "my after")
  trivial
theorem reg_F25_3 : True := by
  k_with "my calls" => ((with_reducible refine (?_ : wpAny _ _ (call (Value.ref 356) _) _ _ _)); k_dflt (refine Runs.use (set_int_spec (by assumption) (by assumption) (by first | exact rfl | assumption) (by k_extra "my is") (by k_extra "my key") (by k_extra "my is") (by assumption)) (by k_asm) (by k_asm) (by k_asm) (by k_extra "my news") (by k_asm) (by first | exact rfl | assumption) (by k_extra "my room") (by k_extra "my units") ?_); k_whole; intro r9 Λ9 h9 tk9 F9 N9 P9; ((refine ex_elim1 P9 fun T9 P9q1 => ?_; clear P9; refine and_elim4 P9q1 fun ha9 hab9 P9e3 O9 => ?_; clear P9q1); subst P9e3); k_extra "my after")
  k_with "my calls" => ((with_reducible refine (?_ : wpAny _ _ (call (Value.ref 356) _) _ _ _)); k_dflt (refine useT (set_int_spec (by assumption) (by assumption) (by first | exact rfl | assumption) (by k_extra "my is") (by k_extra "my key") (by k_extra "my is") (by assumption)) (by k_asm) (by k_asm) (by k_asm) (by k_extra "my news") (by k_asm) (by k_asm) (by k_extra "my rm") (by exact rfl) ?_); k_whole; intro r9 T9 h9 tk9 F9 N9 ha9 hab9 O9; k_extra "my after")
  trivial
end
section
section
variable {prog : Program} {w : World} {A : Around} {E : Value → Shared → Prop} {s : Shared}
noncomputable def evE (x y : Value) : Bool := match x, y with
  | .bytes b _, .bytes c _ => decide (b.toList = c.toList)
  | _, _ => false
theorem tuple_index_tree {t : Addr} {items : Array Value} {b : Array UInt8} {u : Tok} {j : Nat} {P : Fin → Shared → Prop} (ht : IsTup s.heap t items) (he : ∀ i (hi : i < items.size), ∃ c v, items[i] = .bytes c v) (hj : j < items.size) (hit : evE items[j] (.bytes b u) = true) (hno : ∀ m (hm : m < items.size), m < j → evE items[m] (.bytes b u) = false)
    (h : P (.done (.ret (.int j s.toks))) { s with toks := s.toks + 1 }) : wpAny (model prog w) A (Builtin.«tuple.index» ⟨[.ref t, .bytes b u], []⟩) P E s := by
  show wpAny _ _ (Builtin.Tuple.tupleItemsOf (.ref t) >>= _) _ _ s
  refine wpAny_bind (tupleItemsOf_ ht ?_)
  refine wpAny_bind (wpAny_pure ?_)
  refine wpAny_bind (wpAny_pure ?_)
  dsimp only
  rw [Std.Legacy.Range.forIn_eq_forIn_range']
  have e1 : (Std.Legacy.Range.size { stop := min items.size items.size, step_pos := Nat.one_pos } : Nat) = items.size := by simp [Std.Legacy.Range.size]
  refine wpAny_bind (wpAny_forIn_list _ (fun rest b s' => b.1 = none ∧ s' = s ∧ ∃ i, rest = List.range' i (items.size - i) ∧ i ≤ j) _ ?_ ?_ _ _ ⟨rfl, rfl, 0, ?_, Nat.zero_le _⟩)
  · rintro y rest ⟨b1, b2⟩ s' ⟨hb, rfl, i, hr, hij⟩
    have hi : i < items.size := by omega
    obtain ⟨q, hq⟩ : ∃ q, items.size - i = q + 1 := ⟨items.size - i - 1, by omega⟩
    rw [hq, List.range'_succ] at hr
    cases hr
    rw [Array.getElem?_eq_getElem hi]
    dsimp only
    obtain ⟨c, v, hc⟩ := he y hi
    rw [hc]
    refine wpAny_bind (eqBool_bytes ?_)
    by_cases e : y = j
    · subst e
      rw [hc] at hit
      rw [show decide (c.toList = b.toList) = true from hit]
      exact wpAny_bind (wpAny_bind (wpAny_mkInt (wpAny_pure (wpAny_pure (wpAny_pure h)))))
    · have := hno y hi (by omega)
      rw [hc] at this
      rw [show decide (c.toList = b.toList) = false from this]
      exact wpAny_pure ⟨rfl, rfl, y + 1, by rw [show items.size - (y + 1) = q by omega], by omega⟩
  · rintro ⟨b1, b2⟩ s' ⟨hb, rfl, i, hr, hij⟩
    obtain ⟨q, hq⟩ : ∃ q, items.size - i = q + 1 := ⟨items.size - i - 1, by omega⟩
    rw [hq, List.range'_succ] at hr
    cases hr
  · rw [e1]; rfl
end
noncomputable def EVS : List (List UInt8) := [[95, 95, 105, 110, 100, 101, 120], [95, 95, 110, 101, 119, 105, 110, 100, 101, 120], [95, 95, 103, 99], [95, 95, 109, 111, 100, 101], [95, 95, 101, 113], [95, 95, 97, 100, 100], [95, 95, 115, 117, 98], [95, 95, 109, 117, 108], [95, 95, 100, 105, 118], [95, 95, 109, 111, 100], [95, 95, 112, 111, 119], [95, 95, 117, 110, 109], [95, 95, 108, 101, 110], [95, 95, 108, 116], [95, 95, 108, 101], [95, 95, 99, 111, 110, 99, 97, 116], [95, 95, 99, 97, 108, 108]]
noncomputable def bytesOf : Value → Option (List UInt8)
  | .bytes b _ => some b.toList
  | _ => none
theorem ev_tup {P : Params} {h₀ h : Heap} {L : Addr} {m : Str → Option Value} (F : Fr h₀ L h m) (X : (Mine.h0.heap_1 P).In h₀) : ∃ items : Array Value, IsTup h 494 items ∧ items.toList.map bytesOf = EVS.map some := by
  have key : ∀ {items : Array Value} {n : Nat} {sl : Array (Option Value)}, (Mine.h0.heap_1 P).lookup 494 = some ⟨.type "tuple", none, .seq items n, sl⟩ → items.toList.map bytesOf = EVS.map some → ∃ items : Array Value, IsTup h 494 items ∧ items.toList.map bytesOf = EVS.map some :=
    fun e q => ⟨_, ⟨_, F.keep _ _ (X _ _ e), rfl, _, rfl⟩, q⟩
  refine' key ?e ?q
  case e => k_is
  case q => exact rfl
theorem bytesOf_some {v : Value} {b : List UInt8} (h : bytesOf v = some b) : ∃ t, v = .bytes b.toArray t := by
  cases v <;> cases h
  exact ⟨_, rfl⟩
theorem ev_index {w : World} {A : Around} {E : Value → Shared → Prop} {s : Shared} {h₀ : Heap} {L : Addr} {m : Str → Option Value} {b : List UInt8} {u : Tok} {j : Nat} {Q : Value → Shared → Prop} (F : Fr h₀ L s.heap m) (X : (Mine.h0.heap_1 w.params).In h₀) (hj : EVS.findIdx? (fun x => decide (x = b)) = some j)
    (h : Q (.int j s.toks) { s with toks := s.toks + 1 }) : wpAny (model PG w) A (call (.builtin "tuple.index") [.ref 494, .bytes b.toArray u]) Q E s := by
  obtain ⟨items, ht, hm⟩ := ev_tup F X
  obtain ⟨h1, h2, h3⟩ := List.findIdx?_eq_some_iff_getElem.mp hj
  have hl : items.size = EVS.length := by have := congrArg List.length hm; simpa using this
  have hat : ∀ i (hi : i < items.size), ∃ v, items[i] = .bytes (EVS[i]'(hl ▸ hi)).toArray v := by
    intro i hi
    have := congrArg (·[i]?) hm
    simp only [List.getElem?_map] at this
    rw [List.getElem?_eq_getElem (by simpa using hi), List.getElem?_eq_getElem (hl ▸ hi)] at this
    simp only [Option.map_some, Option.some.injEq, Array.getElem_toList] at this
    exact bytesOf_some this
  refine wpAny_call_entry PySem.F.slot_tuple_index ht.typeIs PySem.F.entry_tuple_index (tuple_index_tree (j := j) ht (fun i hi => ⟨_, hat i hi⟩) (by omega) ?_ (fun m hm hlt => ?_) ⟨_, rfl, h⟩) (PySem.F.args_tuple_index_2 _ _)
  · obtain ⟨v, hv⟩ := hat j (by omega)
    rw [hv]; simpa [evE] using h2
  · obtain ⟨v, hv⟩ := hat m hm
    rw [hv]; simpa [evE] using h3 m hlt
theorem ev_method {w : World} {A : Around} {E : Value → Shared → Prop} {s : Shared} {h₀ : Heap} {L : Addr} {m : Str → Option Value} {pl : Sem Bool} {Q : Value × List Value → Shared → Prop} (F : Fr h₀ L s.heap m) (X : (Mine.h0.heap_1 w.params).In h₀)
    (h : Q (.builtin "tuple.index", [.ref 494]) s) : wpAny (model PG w) A (getMethod (.ref 494) (Str.ofString "index") pl) Q E s := by
  have key : ∀ {items : Array Value} {n : Nat} {sl : Array (Option Value)}, (Mine.h0.heap_1 w.params).lookup 494 = some ⟨.type "tuple", none, .seq items n, sl⟩ → wpAny (model PG w) A (getMethod (.ref 494) (Str.ofString "index") pl) Q E s :=
    fun e => getMethod_builtin ⟨_, F.keep _ _ (X _ _ e), rfl⟩ PySem.F.plainAttrs_tuple PySem.F.slot_tuple_index PySem.F.type_tuple_index (fun a e' => by cases e'; exact ⟨_, F.keep _ _ (X _ _ e), rfl⟩) h
  refine' key ?e
  case e => k_is
theorem GF26.onF26 : True := trivial
open GF26
theorem reg_F26_1 : True := by
  k_with "getMethod ref" => ((fail_if_success (fail_if_success (have g9 := onF26))); ((k_here; (with_reducible refine (?_ : wpAny _ _ (getMethod (Value.ref 494) _ _) _ _ _)); k_dflt (refine' ev_method ?Fq9 ?Xq9 ?_; (case Fq9 => k_asm); (case Xq9 => k_asm)))))
  trivial
theorem reg_F26_2 : True := by
  k_with "call builtin:tuple.index" => ((fail_if_success (fail_if_success (have g9 := onF26))); ((k_here; k_dflt (refine' ev_index ?Fq9 ?Xq9 ?jq9 ?_; (case Fq9 => k_asm); (case Xq9 => k_asm); (case jq9 => assumption)))))
  trivial
theorem event_number_spec {w : World} {b : List UInt8} {t : Tok} {j : Nat} (hj : EVS.findIdx? (fun x => decide (x = b)) = some j) {Λ : Ledger} : Runs w 501 [.bytes b.toArray t] Λ 4 fun r Λ' => Λ = Λ' ∧ ∃ t, r = .int j t := by
  k_extra "my enter"; w_strict (k_extra "my steps")
  k_extra "my retK"; exact ⟨rfl, _, rfl⟩
theorem event_number_spec' {w : World} {v : Value} {b : List UInt8} (hv : Is v (.bytes b)) {j : Nat} (hj : EVS.findIdx? (fun x => decide (x = b)) = some j) {Λ : Ledger} : Runs w 501 [v] Λ 4 fun r Λ' => Λ = Λ' ∧ ∃ t, r = .int j t := by
  cases hv; exact event_number_spec hj
theorem reg_F26_3 : True := by
  k_with "my calls" => ((with_reducible refine (?_ : wpAny _ _ (call (Value.ref 501) _) _ _ _)); k_dflt (refine Runs.use (event_number_spec' (by k_extra "my is") (by assumption)) (by k_asm) (by k_asm) (by k_asm) (by k_extra "my news") (by k_asm) (by first | exact rfl | assumption) (by k_extra "my room") (by k_extra "my units") ?_); k_whole; intro r9 Λ9 h9 tk9 F9 N9 P9; ((refine and_elim2 P9 fun P9e0 P9q1 => ?_; clear P9; refine ex_elim1 P9q1 fun t9 P9e2 => ?_; clear P9q1); subst P9e0; subst P9e2); k_extra "my after")
  k_with "my calls" => ((with_reducible refine (?_ : wpAny _ _ (call (Value.ref 501) _) _ _ _)); k_dflt (refine useI (event_number_spec' (by k_extra "my is") (by assumption)) (by k_asm) (by k_asm) (by k_asm) (by k_extra "my news") (by k_asm) (by k_asm) (by k_extra "my rm") (by exact rfl) ?_); k_whole; intro t9 h9 tk9 F9 N9; k_extra "my after")
  trivial
end
section
theorem GF27.onF27 : True := trivial
open GF27
theorem reg_F27_1 : True := by
  k_with "m:k_mem" => ((fail_if_success (fail_if_success (have g9 := onF27))); (exact List.mem_cons_of_mem _ (by assumption)))
  trivial
theorem get_metatable_spec {w : World} {T : Tb} {Λ : Ledger} {x : Option Addr} {b g : Addr} (hb : T.a = b) (hT : HasTab w.params T Λ) (hm : T.mt = x) : Runs w 508 [.ref g, .ref b] Λ 4 fun r Λ' => Λ = Λ' ∧ r = ov x := by
  subst hb
  have m1 := hT.inst
  have m2 := hT.dict
  k_extra "my enter"; w_strict (k_extra "my steps")
  k_extra "my retK"; exact ⟨rfl, by rw [hm]⟩
theorem reg_F27_2 : True := by
  k_with "my calls" => ((with_reducible refine (?_ : wpAny _ _ (call (Value.ref 508) _) _ _ _)); k_dflt (refine Runs.use (get_metatable_spec (by assumption) (by assumption) (by assumption)) (by k_asm) (by k_asm) (by k_asm) (by k_extra "my news") (by k_asm) (by first | exact rfl | assumption) (by k_extra "my room") (by k_extra "my units") ?_); k_whole; intro r9 Λ9 h9 tk9 F9 N9 P9; ((refine and_elim2 P9 fun P9e0 P9e1 => ?_; clear P9); subst P9e0; subst P9e1); (try dsimp only [ov]); k_extra "my after")
  k_with "my calls" => ((with_reducible refine (?_ : wpAny _ _ (call (Value.ref 508) _) _ _ _)); k_dflt (refine useV (get_metatable_spec (by assumption) (by assumption) (by assumption)) (by k_asm) (by k_asm) (by k_asm) (by k_extra "my news") (by k_asm) (by k_asm) (by k_extra "my rm") (by exact rfl) ?_); k_whole; intro h9 tk9 F9 N9; (try dsimp only [ov]); k_extra "my after")
  trivial
noncomputable def fastF (t : PT) (k : PV) (j : Nat) : Option (PV × PT) :=
  if (j : Int) < 5 ∧ Builtin.bitAnd (t.fl.fdiv (2 ^ (j : Int).toNat)) 1 = 1 then some (.none, t)
  else (getAny t.ns k 65).bind fun r => some (if r = .none ∧ (j : Int) < 5 then (r, { t with fl := Builtin.bitOr t.fl (1 * 2 ^ (j : Int).toNat) }) else (r, t))
theorem reg_F27_3 : True := by
  k_with "my ite" => ((fail_if_success (fail_if_success (have g9 := onF27))); first | k_extra "my ite0" | (refine ite_neg (by decide) ?_) | (refine ite_pos (by decide) ?_) | refine myStop ?_)
  trivial
theorem fast_tm_spec {w : World} {T : Tb} {R : Ledger} (O : Own T R) {b g : Addr} (hb : T.a = b) {v : Value} {wd : List UInt8} (hv : Is v (.bytes wd)) (hp : wd.length < 32) {j : Nat} (hj : EVS.findIdx? (fun x => decide (x = wd)) = some j) (hn : T.ns.length ≤ 64) {r : PV} {t' : PT} (hr : fastF T.abs (.bytes wd) j = some (r, t')) :
    Runs w 515 [.ref g, .ref b, v] (tbObjs w.params T ++ R) 16 fun r' Λ' => Is r' r ∧ NKPost w.params b R t' Λ' := by
  subst hb
  have hTT : HasTab w.params T (tbObjs w.params T ++ R) := HasTab.left
  have hk : PV.key (.bytes wd) := hp
  unfold fastF at hr
  have e0 : T.abs.fl = T.fl := rfl
  rw [e0] at hr
  k_extra "my enter"; w_strict (k_extra "my steps")
  refine MyStop.go ?_
  by_cases h5 : (j : Int) < 5
  · w_strict (k_extra "my steps")
    refine MyStop.go ?_
    by_cases hbt : Builtin.bitAnd (T.fl.fdiv (2 ^ (j : Int).toNat)) 1 = 1
    · rw [if_pos ⟨h5, hbt⟩] at hr
      obtain ⟨rfl, rfl⟩ := Prod.mk.inj (Option.some.inj hr)
      w_strict (k_extra "my steps")
      exact hret _ _ _ _ (by k_asm) (by k_asm) ⟨Is.none, _, rfl, rfl, rfl, O⟩
    · rw [if_neg (fun h => hbt h.2)] at hr
      obtain ⟨q, hq, hr⟩ := Option.bind_eq_some_iff.mp hr
      replace hq : getAny (T.ns.map Nd.abs) (.bytes wd) 65 = some q := hq
      w_strict (k_extra "my steps")
      refine MyStop.go ?_
      by_cases hq0 : q = .none
      · rw [if_pos ⟨hq0, h5⟩] at hr
        subst hq0
        obtain ⟨rfl, rfl⟩ := Prod.mk.inj (Option.some.inj hr)
        w_strict (k_extra "my steps")
        (rename Own (Tb.wFlags _ _ _) _ => O9)
        refine hret _ _ _ _ (by k_asm) (by k_asm) ⟨by assumption, _, ?_, ?_, rfl, O9⟩
        · exact rfl
        · exact rfl
      · rw [if_neg (fun h => hq0 h.1)] at hr
        obtain ⟨rfl, rfl⟩ := Prod.mk.inj (Option.some.inj hr)
        have hqb : decide (q = PV.none) = false := by simp [hq0]
        w_strict (k_extra "my steps")
        exact hret _ _ _ _ (by k_asm) (by k_asm) ⟨by assumption, _, rfl, rfl, rfl, O⟩
  · rw [if_neg (fun h => h5 h.1)] at hr
    obtain ⟨q, hq, hr⟩ := Option.bind_eq_some_iff.mp hr
    replace hq : getAny (T.ns.map Nd.abs) (.bytes wd) 65 = some q := hq
    rw [if_neg (fun h => h5 h.2)] at hr
    obtain ⟨rfl, rfl⟩ := Prod.mk.inj (Option.some.inj hr)
    w_strict (k_extra "my steps")
    refine MyStop.go ?_
    by_cases hq0 : q = .none
    · subst hq0
      w_strict (k_extra "my steps")
      exact hret _ _ _ _ (by k_asm) (by k_asm) ⟨by assumption, _, rfl, rfl, rfl, O⟩
    · have hqb : decide (q = PV.none) = false := by simp [hq0]
      w_strict (k_extra "my steps")
      exact hret _ _ _ _ (by k_asm) (by k_asm) ⟨by assumption, _, rfl, rfl, rfl, O⟩
theorem reg_F27_4 : True := by
  k_with "my calls" => ((with_reducible refine (?_ : wpAny _ _ (call (Value.ref 515) _) _ _ _)); k_dflt (refine Runs.use (fast_tm_spec (by assumption) (by first | exact rfl | assumption) (by k_extra "my is") (by assumption) (by assumption) (by omega) (by assumption)) (by k_asm) (by k_asm) (by k_asm) (by k_extra "my news") (by k_asm) (by first | exact rfl | assumption) (by k_extra "my room") (by k_extra "my units") ?_); k_whole; intro r9 Λ9 h9 tk9 F9 N9 P9; ((refine and_elim2 P9 fun hr9 P9q1 => ?_; clear P9; refine ex_elim1 P9q1 fun T9 P9q2 => ?_; clear P9q1; refine and_elim4 P9q2 fun ha9 hab9 P9e4 O9 => ?_; clear P9q2); subst P9e4); k_extra "my after")
  k_with "my calls" => ((with_reducible refine (?_ : wpAny _ _ (call (Value.ref 515) _) _ _ _)); k_dflt (refine useG (fast_tm_spec (by assumption) (by first | exact rfl | assumption) (by k_extra "my is") (by assumption) (by assumption) (by omega) (by assumption)) (by k_asm) (by k_asm) (by k_asm) (by k_extra "my news") (by k_asm) (by k_asm) (by k_extra "my rm") (by exact rfl) ?_); k_whole; intro r9 Λ9 h9 tk9 F9 N9 P9; ((refine and_elim2 P9 fun hr9 P9q1 => ?_; clear P9; refine ex_elim1 P9q1 fun T9 P9q2 => ?_; clear P9q1; refine and_elim4 P9q2 fun ha9 hab9 P9e4 O9 => ?_; clear P9q2); subst P9e4); k_extra "my after")
  trivial
end
section
theorem tm_by_value_spec {w : World} {V T : Tb} {Λ : Ledger} {g c : Addr} (hc : V.a = c) (hV : HasTab w.params V Λ) (hT : HasTab w.params T Λ) (hm : V.mt = some T.a) {v : Value} {p : PV} (hv : Is v p) (hp : p.key) (hn : T.ns.length ≤ 64) {fuel : Nat} {r : PV} (hr : getAny (T.ns.map Nd.abs) p fuel = some r) :
    Runs w 522 [.ref g, .ref c, v] Λ 20 fun r' Λ' => Λ = Λ' ∧ Is r' r := by
  have m1 := hT.inst
  have m2 := hT.dict
  k_extra "my enter"; w_strict (k_extra "my steps")
  k_extra "my retK"; exact ⟨rfl, by assumption⟩
theorem compare_same {w : World} {V1 V2 T : Tb} {R : Ledger} (O : Own T R) {b c d g : Addr} (hb : T.a = b) (h1 : V1.a = c) (h2 : V2.a = d) (hV1 : HasTab w.params V1 R) (hV2 : HasTab w.params V2 R) (hm1 : V1.mt = some b) (hm2 : V2.mt = some b) {v : Value} {wd : List UInt8} (hv : Is v (.bytes wd)) (hp : wd.length < 32) {j : Nat} (hj : EVS.findIdx? (fun x => decide (x = wd)) = some j) (hn : T.ns.length ≤ 64) {r : PV} {t' : PT} (hr : fastF T.abs (.bytes wd) j = some (r, t')) :
    Runs w 529 [.ref g, .ref c, .ref d, v] (tbObjs w.params T ++ R) 24 fun r' Λ' => Is r' r ∧ NKPost w.params b R t' Λ' := by
  have k1 : HasTab w.params V1 (tbObjs w.params T ++ R) := fun p hp => List.mem_append_right _ (hV1 p hp)
  have k2 : HasTab w.params V2 (tbObjs w.params T ++ R) := fun p hp => List.mem_append_right _ (hV2 p hp)
  by_cases hr0 : r = .none
  · have hrb : decide (r = PV.none) = true := by simp [hr0]
    k_extra "my enter"; w_strict (k_extra "my steps")
    exact hret _ _ _ _ (by k_asm) (by k_asm) ⟨hr0 ▸ Is.none, T9, ha9, hab9, rfl, O9⟩
  · have hrb : decide (r = PV.none) = false := by simp [hr0]
    k_extra "my enter"; w_strict (k_extra "my steps")
    exact hret _ _ _ _ (by k_asm) (by k_asm) ⟨hr9, T9, ha9, hab9, rfl, O9⟩
theorem reg_F28_1 : True := by
  k_with "my calls" => ((with_reducible refine (?_ : wpAny _ _ (call (Value.ref 522) _) _ _ _)); k_dflt (refine Runs.use (tm_by_value_spec (by assumption) (by assumption) (by assumption) (by assumption) (by k_extra "my is") (by k_extra "my key") (by omega) (by assumption)) (by k_asm) (by k_asm) (by k_asm) (by k_extra "my news") (by k_asm) (by first | exact rfl | assumption) (by k_extra "my room") (by k_extra "my units") ?_); k_whole; intro r9 Λ9 h9 tk9 F9 N9 P9; ((refine and_elim2 P9 fun P9e0 hr9 => ?_; clear P9); subst P9e0); k_extra "my after")
  k_with "my calls" => ((with_reducible refine (?_ : wpAny _ _ (call (Value.ref 522) _) _ _ _)); k_dflt (refine useK (tm_by_value_spec (by assumption) (by assumption) (by assumption) (by assumption) (by k_extra "my is") (by k_extra "my key") (by omega) (by assumption)) (by k_asm) (by k_asm) (by k_asm) (by k_extra "my news") (by k_asm) (by k_asm) (by k_extra "my rm") (by exact rfl) ?_); k_whole; intro r9 h9 tk9 F9 N9 hr9; k_extra "my after")
  trivial
theorem mem_swap {A B R : Ledger} : ∀ p ∈ B ++ (A ++ R), p ∈ A ++ (B ++ R) := fun p hp => by
  simp only [List.mem_append] at hp ⊢; rcases hp with h | h | h <;> simp [h]
theorem own_swap {P : Params} {T U : Tb} {R : Ledger} (O : Own T (tbObjs P U ++ R)) (O' : Own U R) : Own U (tbObjs P T ++ R) :=
  ⟨O'.nd, fun p hp hx => (List.mem_append.mp hp).elim (fun h => by
    obtain ⟨q, hq, e⟩ := mem_addrs' (P := P) hx
    refine O.off q (List.mem_append_left _ hq) ?_
    rw [e, ← tbObjs_keys P]; exact List.mem_map.mpr ⟨p, h, rfl⟩) fun h => O'.off p h hx⟩
theorem own_ne {P : Params} {T U : Tb} {R : Ledger} (O : Own T (tbObjs P U ++ R)) : T.a ≠ U.a := fun e => O.off (U.a, instObj 491 U.d) (List.mem_append_left _ (.head _)) (by rw [← e]; exact .head _)
end
section
theorem GF29.onF29 : True := trivial
open GF29
theorem reg_F29_1 : True := by
  k_with "compareOp Is ref ref" => ((fail_if_success (fail_if_success (have g9 := onF29))); ((k_here; refine myStop ?_)))
  trivial
theorem reg_F29_2 : True := by
  k_with "cmp part" => ((rename News _ _ _ _ => N6); (obtain ⟨T8, hT8⟩ : ∃ T8, T8 = T9 := ⟨_, rfl⟩); subst hT8; (have hT8a := ha9); (have hT8b := hab9); (have hT8d := hr9); (have hT8c : Own T8 R := O9.sub fun _ hp => List.mem_append_right _ hp); (have O2 := own_swap O9 (hO trivial)); clear ha9 hab9 O9 O hO; refine MyStop.go ?_; refine kto_is (N6 _ (inst_at hT8a)).1 (N6 _ (List.mem_append_right _ (inst_at hb'))).1 hne (by intro h; cases h) ?_; (replace N6 := News.sub N6 mem_swap); w_strict (k_extra "my steps"))
  trivial
noncomputable def compareF (t u : PT) (k : PV) (j : Nat) : Option (PV × PT × PT) :=
  (fastF t k j).bind fun q => if q.1 = .none then some (.none, q.2, u) else (fastF u k j).bind fun q2 => some (if q2.1 = .none ∨ ¬ q.1 = q2.1 then .none else q.1, q.2, q2.2)
theorem reg_F29_3 : True := by
  k_with "my ite" => ((fail_if_success (fail_if_success (have g9 := onF29))); first | k_extra "my ite0" | (refine ite_neg (by decide) ?_) | (refine ite_pos (by decide) ?_) | refine myStop ?_)
  trivial
theorem compare_diff {w : World} {V1 V2 T U : Tb} {R : Ledger} (O : Own T (tbObjs w.params U ++ R)) (O' : Own U R) {b b' c d g : Addr} (hb : T.a = b) (hb' : U.a = b') (h1 : V1.a = c) (h2 : V2.a = d) (hV1 : HasTab w.params V1 R) (hV2 : HasTab w.params V2 R) (hm1 : V1.mt = some b) (hm2 : V2.mt = some b') {v : Value} {wd : List UInt8} (hv : Is v (.bytes wd)) (hp : wd.length < 32) {j : Nat} (hj : EVS.findIdx? (fun x => decide (x = wd)) = some j) (hn : T.ns.length ≤ 64) (hn' : U.ns.length ≤ 64) {r : PV} {t' u' : PT} (hr : compareF T.abs U.abs (.bytes wd) j = some (r, t', u')) :
    Runs w 529 [.ref g, .ref c, .ref d, v] (tbObjs w.params T ++ (tbObjs w.params U ++ R)) 24 fun r' Λ' => Is r' r ∧ ∃ T' U', T'.a = b ∧ U'.a = b' ∧ T'.abs = t' ∧ U'.abs = u' ∧ Λ' = tbObjs w.params T' ++ (tbObjs w.params U' ++ R) ∧ Own T' (tbObjs w.params U' ++ R) ∧ Own U' R := by
  have k1 : HasTab w.params V1 (tbObjs w.params T ++ (tbObjs w.params U ++ R)) := fun p hp => List.mem_append_right _ (List.mem_append_right _ (hV1 p hp))
  have k2 : HasTab w.params V2 (tbObjs w.params T ++ (tbObjs w.params U ++ R)) := fun p hp => List.mem_append_right _ (List.mem_append_right _ (hV2 p hp))
  have hne : b ≠ b' := fun e => own_ne O (by rw [hb, hb', e])
  unfold compareF at hr
  obtain ⟨⟨r1, t1⟩, f1, hr⟩ := Option.bind_eq_some_iff.mp hr
  dsimp only at hr
  have hO : True → Own U R := fun _ => O'
  clear O'
  k_extra "my enter"; w_strict (k_extra "my steps")
  refine MyStop.go ?_
  by_cases hr0 : r1 = .none
  · rw [if_pos hr0] at hr
    obtain ⟨hq1, hr'⟩ := Prod.mk.inj (Option.some.inj hr)
    obtain ⟨rfl, rfl⟩ := Prod.mk.inj hr'
    have hrb : decide (r1 = PV.none) = true := by simp [hr0]
    w_strict (k_extra "my steps")
    exact hret _ _ _ _ (by k_asm) (by k_asm) ⟨hq1 ▸ Is.none, T9, U, ha9, hb', hab9, rfl, rfl, O9, hO trivial⟩
  · rw [if_neg hr0] at hr
    obtain ⟨⟨r2, u2⟩, f2, hr⟩ := Option.bind_eq_some_iff.mp hr
    dsimp only at hr
    obtain ⟨hq1, hr'⟩ := Prod.mk.inj (Option.some.inj hr)
    obtain ⟨rfl, rfl⟩ := Prod.mk.inj hr'
    have hrb : decide (r1 = PV.none) = false := by simp [hr0]
    w_strict (k_extra "my steps")
    k_extra "cmp part"
    refine MyStop.go ?_
    by_cases hr2 : r2 = .none
    · rw [if_pos (.inl hr2)] at hq1
      have hrc : decide (r2 = PV.none) = true := by simp [hr2]
      w_strict (k_extra "my steps")
      (rename News _ _ _ _ => N7)
      exact hret _ _ _ _ (by k_asm) (News.sub N7 mem_swap) ⟨hq1 ▸ Is.none, T8, T9, hT8a, ha9, hT8b, hab9, rfl, own_swap O9 hT8c, O9.sub fun _ hp => List.mem_append_right _ hp⟩
    · have hrc : decide (r2 = PV.none) = false := by simp [hr2]
      w_strict (k_extra "my steps")
      refine MyStop.go ?_
      by_cases hr3 : r1 = r2
      · rw [if_neg (fun h => h.elim hr2 fun h => h hr3)] at hq1
        have hrd : decide (r1 = r2) = true := by simp [hr3]
        have hre : (!decide (r1 = r2)) = false := by simp [hr3]
        w_strict (k_extra "my steps")
        (rename News _ _ _ _ => N7)
        exact hret _ _ _ _ (by k_asm) (News.sub N7 mem_swap) ⟨hq1 ▸ hT8d, T8, T9, hT8a, ha9, hT8b, hab9, rfl, own_swap O9 hT8c, O9.sub fun _ hp => List.mem_append_right _ hp⟩
      · rw [if_pos (.inr hr3)] at hq1
        have hrd : decide (r1 = r2) = false := by simp [hr3]
        have hre : (!decide (r1 = r2)) = true := by simp [hr3]
        w_strict (k_extra "my steps")
        (rename News _ _ _ _ => N7)
        exact hret _ _ _ _ (by k_asm) (News.sub N7 mem_swap) ⟨hq1 ▸ Is.none, T8, T9, hT8a, ha9, hT8b, hab9, rfl, own_swap O9 hT8c, O9.sub fun _ hp => List.mem_append_right _ hp⟩
theorem reg_F29_4 : True := by
  k_with "my calls" => ((with_reducible refine (?_ : wpAny _ _ (call (Value.ref 529) _) _ _ _)); k_dflt (refine Runs.use (compare_same (by assumption) (by first | exact rfl | assumption) (by assumption) (by assumption) (by assumption) (by assumption) (by assumption) (by assumption) (by k_extra "my is") (by assumption) (by assumption) (by omega) (by assumption)) (by k_asm) (by k_asm) (by k_asm) (by k_extra "my news") (by k_asm) (by first | exact rfl | assumption) (by k_extra "my room") (by k_extra "my units") ?_); k_whole; intro r9 Λ9 h9 tk9 F9 N9 P9; ((refine and_elim2 P9 fun hr9 P9q1 => ?_; clear P9; refine ex_elim1 P9q1 fun T9 P9q2 => ?_; clear P9q1; refine and_elim4 P9q2 fun ha9 hab9 P9e4 O9 => ?_; clear P9q2); subst P9e4); k_extra "my after")
  k_with "my calls" => ((with_reducible refine (?_ : wpAny _ _ (call (Value.ref 529) _) _ _ _)); k_dflt (refine useG (compare_same (by assumption) (by first | exact rfl | assumption) (by assumption) (by assumption) (by assumption) (by assumption) (by assumption) (by assumption) (by k_extra "my is") (by assumption) (by assumption) (by omega) (by assumption)) (by k_asm) (by k_asm) (by k_asm) (by k_extra "my news") (by k_asm) (by k_asm) (by k_extra "my rm") (by exact rfl) ?_); k_whole; intro r9 Λ9 h9 tk9 F9 N9 P9; ((refine and_elim2 P9 fun hr9 P9q1 => ?_; clear P9; refine ex_elim1 P9q1 fun T9 P9q2 => ?_; clear P9q1; refine and_elim4 P9q2 fun ha9 hab9 P9e4 O9 => ?_; clear P9q2); subst P9e4); k_extra "my after")
  trivial
end
section
theorem mem_mid {x : Addr × Obj} {A B : Ledger} : x ∈ A ++ x :: B := List.mem_append_right _ (.head _)
noncomputable abbrev sackObj (sc : Addr) (z : Int) (t : Tok) (k : Nat) : Obj := listOf #[.ref sc, .int z t] k
theorem sack_set {w : World} {A0 : Around} {E : Value → Shared → Prop} {s : Shared} {h₀ : Heap} {L sk sc : Addr} {m : Str → Option Value} {A B : Ledger} {z y : Int} {t u i : Tok} {k : Nat} {Q : Unit → Shared → Prop} (F : Fr h₀ L s.heap m) (N : News h₀ L s.heap (A ++ (sk, sackObj sc z t k) :: B)) (hA : ∀ p ∈ A, p.1 ≠ sk) (hB : ∀ p ∈ B, p.1 ≠ sk)
    (h : ∀ h', Fr h₀ L h' m → News h₀ L h' (A ++ (sk, sackObj sc y u k) :: B) → Q () { s with heap := h' }) : wpAny (model PG w) A0 (setItem (.ref sk) (.int 1 i) (.int y u)) Q E s := by
  have z0 := N (sk, sackObj sc z t k) mem_mid
  refine ki_setAt z0.1 (by decide) (by decide) (by simp) (h _ (F.change (Heap.SameBut.update ..) z0.2.1 z0.2.2) (ki_turn _ N hA hB ?_ ?_))
  · rfl
  · simp
section
variable {w : World} {A0 : Around} {E : Value → Shared → Prop} {s : Shared} {h₀ : Heap} {L sk sc : Addr} {A B : Ledger} {z : Int} {t u : Tok} {k : Nat} {value slice : PySem.Expr} {Q : Value → Shared → Prop}
theorem sack_get1 (N : News h₀ L s.heap (A ++ (sk, sackObj sc z t k) :: B)) (h : Q (.int z t) s) (hs : subscripted slice false (.ref sk) (.int 1 u) = operate [.ref sk, .int 1 u] (getItem (.ref sk) (.int 1 u))) : wpAny (model PG w) A0 (subscriptTail value slice (.ref sk) (.int 1 u)) Q E s := by
  have hl := isList_of N (mem_mid (A := A) (B := B))
  exact tail_any hl.typeIs slot_list_getitem.lookup (wpAny_getItem_list hl (by decide) (by decide) rfl h) hs
theorem sack_get0 (N : News h₀ L s.heap (A ++ (sk, sackObj sc z t k) :: B)) (h : Q (.ref sc) s) (hs : subscripted slice false (.ref sk) (.int 0 u) = operate [.ref sk, .int 0 u] (getItem (.ref sk) (.int 0 u))) : wpAny (model PG w) A0 (subscriptTail value slice (.ref sk) (.int 0 u)) Q E s := by
  have hl := isList_of N (mem_mid (A := A) (B := B))
  exact tail_any hl.typeIs slot_list_getitem.lookup (wpAny_getItem_list hl (by decide) (by decide) rfl h) hs
end
theorem mem_in2 {p x : Addr × Obj} {A B : Ledger} (h : p ∈ B) : p ∈ A ++ x :: B := List.mem_append_right _ (.tail _ h)
theorem item_ints {w : World} {A0 : Around} {E : Value → Shared → Prop} {s : Shared} {h₀ : Heap} {L sc : Addr} {Λ : Ledger} {vs : List Value} {ns : List Int} {x : Int} {u : Tok} {k : Nat} {value slice : PySem.Expr} {Q : Value → Shared → Prop} (N : News h₀ L s.heap Λ) (hm : (sc, listOf vs.toArray k) ∈ Λ) (hi : IntsAre vs ns) (hl : ns.length ≤ 63) (h0 : 0 ≤ x) (h1 : x < ns.length)
    (h : ∀ t, Q (.int (ns.getD x.toNat 0) t) s) (hs : subscripted slice false (.ref sc) (.int x u) = operate [.ref sc, .int x u] (getItem (.ref sc) (.int x u))) : wpAny (model PG w) A0 (subscriptTail value slice (.ref sc) (.int x u)) Q E s := by
  have hl' := isList_of N hm
  have hlen := hi.length
  have hx : vs[x.toNat]? = some vs[x.toNat] := List.getElem?_eq_getElem (by omega)
  obtain ⟨t, ht⟩ := hi.int_at _ _ hx
  exact tail_any hl'.typeIs slot_list_getitem.lookup (wpAny_getItem_list hl' h0 (by omega) (by simpa [ht] using hx) (h t)) hs
theorem mul_small {w : World} {A0 : Around} {E : Value → Shared → Prop} {s : Shared} {a b : Int} {t u : Tok} {Q : Value → Shared → Prop} (h0 : 0 ≤ a) (h1 : a ≤ 1000) (h : Q (.int (a * b) s.toks) { s with toks := s.toks + 1 }) : wpAny (model PG w) A0 (binaryOp .Mult (.int a t) (.int b u)) Q E s :=
  PyProof.Rows.mul_int h (IntMulOk.of_left (PySem.intBits_le_iff.mpr (by omega)))
noncomputable def grain (ns : List Int) (z b : Int) : Int := (if z + 1 ≤ ns.length then ns.getD z.toNat 0 else 19 * (z + 1) + ((z + 1) * (z + 1)).fdiv 3).fmod b
theorem GF30.onF30 : True := trivial
open GF30
theorem reg_F30_1 : True := by
  k_with "setItem ref int" => ((fail_if_success (fail_if_success (have g9 := onF30))); ((k_here; k_dflt (refine' sack_set ?Fq9 ?Nq9 ?aq9 ?bq9 ?_; (case Fq9 => k_asm); (case Nq9 => k_asm); (case aq9 => assumption); (case bq9 => assumption)); intro h' F' N'; (try k_sweep))))
  trivial
theorem reg_F30_2 : True := by
  k_with "subscriptTail Name" => ((fail_if_success (fail_if_success (have g9 := onF30))); ((k_here; k_dflt (first | ((with_reducible refine (?_ : wpAny _ _ (subscriptTail _ _ (Value.ref _) (Value.int 1 _)) _ _ _)); refine' sack_get1 ?Nq9 ?_ ?hsq9; (case Nq9 => k_asm); (case hsq9 => with_unfolding_all rfl); k_whole) | ((with_reducible refine (?_ : wpAny _ _ (subscriptTail _ _ (Value.ref _) (Value.int 0 _)) _ _ _)); refine' sack_get0 ?Nq9 ?_ ?hsq9; (case Nq9 => k_asm); (case hsq9 => with_unfolding_all rfl); k_whole)))))
  trivial
theorem reg_F30_3 : True := by
  k_with "call builtin:len" => ((fail_if_success (fail_if_success (have g9 := onF30))); ((k_here; k_dflt (refine' len_arr ?Nq9 ?mq9 ?fq9 ?_; (case Nq9 => k_asm); (case mq9 => exact mem_in2 (by assumption)); (case fq9 => omega); k_whole))))
  trivial
theorem reg_F30_4 : True := by
  k_with "subscriptTail Subscript" => ((fail_if_success (fail_if_success (have g9 := onF30))); ((k_here; k_dflt (refine' item_ints ?Nq9 ?mq9 ?iq9 ?lq9 ?h0q9 ?h1q9 ?_ ?hsq9; (case Nq9 => k_asm); (case mq9 => exact mem_in2 (by assumption)); (case iq9 => assumption); (case lq9 => omega); (case h0q9 => omega); (case h1q9 => omega); (case hsq9 => with_unfolding_all rfl); k_whole); intro _)))
  trivial
theorem reg_F30_5 : True := by
  k_with "subscriptTail Name" => ((fail_if_success (fail_if_success (have g9 := onF30))); ((k_here; k_dflt (refine' item_ints ?Nq9 ?mq9 ?iq9 ?lq9 ?h0q9 ?h1q9 ?_ ?hsq9; (case Nq9 => k_asm); (case mq9 => exact mem_in2 (by assumption)); (case iq9 => assumption); (case lq9 => omega); (case h0q9 => omega); (case h1q9 => omega); (case hsq9 => with_unfolding_all rfl); k_whole); intro _)))
  trivial
theorem reg_F30_6 : True := by
  k_with "binaryOp Mult int int" => ((fail_if_success (fail_if_success (have g9 := onF30))); ((k_here; k_dflt (refine' mul_small ?h0q9 ?h1q9 ?_; (case h0q9 => omega); (case h1q9 => omega); k_whole))))
  trivial
set_option maxHeartbeats 1000000 in
theorem law_grain_spec {w : World} {A B : Ledger} {sk sc : Addr} {z b : Int} {t u : Tok} {k k' : Nat} {vs : List Value} {ns : List Int} (hA : ∀ p ∈ A, p.1 ≠ sk) (hB : ∀ p ∈ B, p.1 ≠ sk) (hi : IntsAre vs ns) (hm : (sc, listOf vs.toArray k') ∈ B) (hl : ns.length ≤ 63) (hz : 0 ≤ z) (hz2 : z ≤ 900) (hb : b ≠ 0) :
    Runs w 536 [.ref sk, .int b u] (A ++ (sk, sackObj sc z t k) :: B) 4 fun r Λ' => ∃ t1 t2, r = .int (grain ns z b) t1 ∧ Λ' = A ++ (sk, sackObj sc (z + 1) t2 k) :: B := by
  have hlen := hi.length
  by_cases hc : z + 1 ≤ ns.length
  · k_extra "my enter"; w_strict (k_extra "my steps")
    exact hret _ _ _ _ (by k_asm) (by k_asm) ⟨_, _, by rw [grain, if_pos hc, show z + 1 - 1 = z by omega], rfl⟩
  · k_extra "my enter"; w_strict (k_extra "my steps")
    exact hret _ _ _ _ (by k_asm) (by k_asm) ⟨_, _, by rw [grain, if_neg hc], rfl⟩
theorem reg_F30_7 : True := by
  k_with "my calls" => ((with_reducible refine (?_ : wpAny _ _ (call (Value.ref 536) _) _ _ _)); k_dflt (refine Runs.use (law_grain_spec (by assumption) (by assumption) (by assumption) (by assumption) (by omega) (by omega) (by omega) (by decide)) (by k_asm) (by k_asm) (by k_asm) (by k_extra "my news") (by k_asm) (by first | exact rfl | assumption) (by k_extra "my room") (by k_extra "my units") ?_); k_whole; intro r9 Λ9 h9 tk9 F9 N9 P9; (first | ((refine ex_elim3 P9 fun t9 u9 P9e2 P9e3 => ?_; clear P9); subst P9e2; subst P9e3; trace "DEST 668b4dea2a 0") | ((refine ex_elim2 P9 fun t9 u9 P9q1 => ?_; clear P9; refine and_elim2 P9q1 fun P9e2 P9e3 => ?_; clear P9q1); subst P9e2; subst P9e3; trace "DEST 668b4dea2a 1") | ((refine ex_elim1 P9 fun t9 P9q1 => ?_; clear P9; refine and_elim3 P9q1 fun u9 P9e2 P9e3 => ?_; clear P9q1); subst P9e2; subst P9e3; trace "DEST 668b4dea2a 2") | ((refine and_elim4 P9 fun t9 u9 P9e2 P9e3 => ?_; clear P9); subst P9e2; subst P9e3; trace "DEST 668b4dea2a 3") | ((refine and_elim2 P9 fun t9 P9q1 => ?_; clear P9; refine ex_elim2 P9q1 fun u9 P9e2 P9e3 => ?_; clear P9q1); subst P9e2; subst P9e3; trace "DEST 668b4dea2a 4") | ((refine and_elim2 P9 fun t9 P9q1 => ?_; clear P9; refine ex_elim1 P9q1 fun u9 P9q2 => ?_; clear P9q1; refine and_elim2 P9q2 fun P9e2 P9e3 => ?_; clear P9q2); subst P9e2; subst P9e3; trace "DEST 668b4dea2a 5") | ((refine and_elim3 P9 fun t9 u9 P9q1 => ?_; clear P9; refine ex_elim1 P9q1 fun P9e2 P9e3 => ?_; clear P9q1); subst P9e2; subst P9e3; trace "DEST 668b4dea2a 6") | (obtain ⟨t9, u9, rfl, rfl⟩ := P9; trace "DEST 668b4dea2a 7")); k_extra "my after")
  k_with "my calls" => ((with_reducible refine (?_ : wpAny _ _ (call (Value.ref 536) _) _ _ _)); k_dflt (refine useG (law_grain_spec (by assumption) (by assumption) (by assumption) (by assumption) (by omega) (by omega) (by omega) (by decide)) (by k_asm) (by k_asm) (by k_asm) (by k_extra "my news") (by k_asm) (by k_asm) (by k_extra "my rm") (by exact rfl) ?_); k_whole; intro r9 Λ9 h9 tk9 F9 N9 P9; (first | ((refine ex_elim3 P9 fun t9 u9 P9e2 P9e3 => ?_; clear P9); subst P9e2; subst P9e3; trace "DEST 668b4dea2a 0") | ((refine ex_elim2 P9 fun t9 u9 P9q1 => ?_; clear P9; refine and_elim2 P9q1 fun P9e2 P9e3 => ?_; clear P9q1); subst P9e2; subst P9e3; trace "DEST 668b4dea2a 1") | ((refine ex_elim1 P9 fun t9 P9q1 => ?_; clear P9; refine and_elim3 P9q1 fun u9 P9e2 P9e3 => ?_; clear P9q1); subst P9e2; subst P9e3; trace "DEST 668b4dea2a 2") | ((refine and_elim4 P9 fun t9 u9 P9e2 P9e3 => ?_; clear P9); subst P9e2; subst P9e3; trace "DEST 668b4dea2a 3") | ((refine and_elim2 P9 fun t9 P9q1 => ?_; clear P9; refine ex_elim2 P9q1 fun u9 P9e2 P9e3 => ?_; clear P9q1); subst P9e2; subst P9e3; trace "DEST 668b4dea2a 4") | ((refine and_elim2 P9 fun t9 P9q1 => ?_; clear P9; refine ex_elim1 P9q1 fun u9 P9q2 => ?_; clear P9q1; refine and_elim2 P9q2 fun P9e2 P9e3 => ?_; clear P9q2); subst P9e2; subst P9e3; trace "DEST 668b4dea2a 5") | ((refine and_elim3 P9 fun t9 u9 P9q1 => ?_; clear P9; refine ex_elim1 P9q1 fun P9e2 P9e3 => ?_; clear P9q1); subst P9e2; subst P9e3; trace "DEST 668b4dea2a 6") | (obtain ⟨t9, u9, rfl, rfl⟩ := P9; trace "DEST 668b4dea2a 7")); k_extra "my after")
  trivial
end
section
section
open PySem.AutoSeq1 (wpAny_loadPart')
variable {prog : Program} {w : World} {A : Around} {E : Value → Shared → Prop} {s : Shared}
theorem next_tuple_item {it t : Addr} {i : Nat} {items : Array Value} {x : Value} {Q : Value → Shared → Prop} (hit : s.heap.IsTupleIter it t i) (ht : s.heap.IsTuple t items) (hx : items[i]? = some x)
    (hQ : ∀ h', h'.IsTupleIter it t (i + 1) → Heap.SameBut it s.heap h' → Q x { s with heap := h' }) : wpAny (model prog w) A (Builtin.SmallTypes.nextOf (.ref it)) Q E s := by
  obtain ⟨o, ho, hc, hd⟩ := id hit
  obtain ⟨ol, hol, _, nl, hdl⟩ := ht
  unfold Builtin.SmallTypes.nextOf
  refine wpAny_bind (wpAny_callSpecial?_slot (name := Str.ofString "__next__") hit.typeIs PySem.F.slot_tuple_iterator_next
    (wpAny_call_entry PySem.F.slot_tuple_iterator_next hit.typeIs PySem.F.entry_tuple_iterator_next ?_ (PySem.F.args_tuple_iterator_next_1 _)))
  show wpAny _ _ (field (.ref it) 0 >>= _) _ _ s
  refine wpAny_bind (wpAny_field ho hd (x := .ref t) rfl ?_)
  show wpAny _ _ (if (Value.ref t == Value.none) = true then _ else _) _ _ s
  rw [if_neg (show ¬ ((Value.ref t == Value.none) = true) from Bool.false_ne_true)]
  show wpAny _ _ (field (.ref it) 1 >>= _) _ _ s
  refine wpAny_bind (wpAny_field ho hd (x := .int i 0) rfl ?_)
  show wpAny _ _ (seqItems? (.ref t) >>= _) _ _ s
  refine wpAny_bind (wpAny_seqItems hol hdl ?_)
  simp only [Int.toNat_natCast, hx]
  refine wpAny_bind (wpAny_setField ho hd (by simp) (wpAny_pure ⟨x, rfl, wpAny_pure (hQ _ ?_ (Heap.SameBut.update ..))⟩))
  exact ⟨_, Heap.get?_update_self _ ho (Obj.isFreed_of_fields (Obj.data_mapFields hd _)), (Obj.cls_mapFields ..).trans hc, by
    rw [Obj.data_mapFields hd]; simp [rawInt]⟩
theorem next_tuple_end {it t : Addr} {i : Nat} {items : Array Value} {Q : Value → Shared → Prop} (hh : A.handled = none) (hit : s.heap.IsTupleIter it t i) (ht : s.heap.IsTuple t items) (hx : items[i]? = none)
    (hE : ∀ h' e, Heap.ExtBut it s.heap h' → (∃ o, h'.get? e = some o ∧ o.cls = .type "StopIteration") → E (.ref e) { s with heap := h' }) : wpAny (model prog w) A (Builtin.SmallTypes.nextOf (.ref it)) Q E s := by
  obtain ⟨o, ho, hc, hd⟩ := id hit
  obtain ⟨ol, hol, _, nl, hdl⟩ := ht
  unfold Builtin.SmallTypes.nextOf
  refine wpAny_bind (wpAny_callSpecial?_slot (name := Str.ofString "__next__") hit.typeIs PySem.F.slot_tuple_iterator_next
    (wpAny_call_entry PySem.F.slot_tuple_iterator_next hit.typeIs PySem.F.entry_tuple_iterator_next ?_ (PySem.F.args_tuple_iterator_next_1 _)))
  show wpAny _ _ (field (.ref it) 0 >>= _) _ _ s
  refine wpAny_bind (wpAny_field ho hd (x := .ref t) rfl ?_)
  show wpAny _ _ (if (Value.ref t == Value.none) = true then _ else _) _ _ s
  rw [if_neg (show ¬ ((Value.ref t == Value.none) = true) from Bool.false_ne_true)]
  show wpAny _ _ (field (.ref it) 1 >>= _) _ _ s
  refine wpAny_bind (wpAny_field ho hd (x := .int i 0) rfl ?_)
  show wpAny _ _ (seqItems? (.ref t) >>= _) _ _ s
  refine wpAny_bind (wpAny_seqItems hol hdl ?_)
  simp only [Int.toNat_natCast, hx]
  refine wpAny_bind (wpAny_rule (wpAny_bind (wpAny_setField ho hd (by simp) ?_)))
  show wpAny _ _ (newExc (.type "StopIteration") [] >>= _) _ _ _
  refine wpAny_bind ?_
  simp only [newExc, newTuple]
  refine wpAny_bind (wpAny_newObj_type ?_ (by size_fits))
  refine wpAny_bind (m := firstArgMember _ _) (wpAny_of_eq (a := Value.none) (by first | rfl | (simp only [firstArgMember]; rfl)) ?_)
  refine wpAny_newObj_type ?_ (by size_fits)
  simp only [raiseNew]
  refine wpAny_bind (wpAny_handled ?_)
  first | rw [show A.in1.handled = none from hh] | rw [hh]
  refine wpAny_bind (wpAny_pure (wpAny_throw ?_))
  exact hE _ _ (((Heap.SameBut.update ..).extBut.push _).push _) ⟨_, Heap.get?_push_size _ rfl, rfl⟩
theorem draws_tuple (hh : A.handled = none) (it t : Addr) (hne : t ≠ it) (items : Array Value) :
    Draws prog w A it [it, t] items.size (fun i v => items[i]? = some v) (fun i h => h.IsTupleIter it t i ∧ h.IsTuple t items) where
  live := fun _ _ st => let ⟨o, ho, _⟩ := st.1; ⟨o, ho⟩
  frame := fun _ _ _ st hk => ⟨st.1.at fun o e => hk it (by simp) o e, st.2.at fun o e => hk t (by simp) o e⟩
  item := fun i s Q E hi st hQ => by
    refine next_tuple_item st.1 st.2 (x := items[i]) (by simp [hi]) fun h' hit' hs' => ?_
    exact hQ _ h' s.toks (by simp [hi]) ⟨hit', st.2.extBut hs'.extBut hne⟩ hs'
  done := fun s Q E st hE => next_tuple_end hh st.1 st.2 (by simp) hE
theorem meets_enum_tuple (l : Addr) (items : Array Value) (n : Nat) (dct : Option Addr) (sl : Array (Option Value)) :
    Meets (Builtin.«enumerate.__new__» ⟨[.type "enumerate", .ref l], []⟩) (fun _ R s => s.heap.get? l = some { cls := .type "tuple", dict := dct, data := .seq items n, slots := sl } ∧
      R (.ok (.ret (.ref (s.heap.push { cls := .type "tuple_iterator", data := .fields #[.ref l, .int 0 0] }).objs.size)))
        { s with heap := (s.heap.push { cls := .type "tuple_iterator", data := .fields #[.ref l, .int 0 0] }).push { cls := .type "enumerate", data := .fields #[.none, .bool false, .ref s.heap.objs.size, rawInt 0, .none, .none] } }) :=
  .of_wp fun prog w A R s h => by
    obtain ⟨hp, g, d, tk, os⟩ := s; obtain ⟨hl, h⟩ := h
    have hsub := sub_enumerate
    have hL : Heap.IsTuple (Shared.heap ⟨hp, g, d, tk, os⟩) l items := ⟨_, hl, rfl, n, rfl⟩
    wp_walk using wpAny_loadPart' hl
    refine wpAny_stack_any fun st => wpAny_pure ?_
    split
    · rename_i c _ _ _ _ _
      cases (c == Value.type "enumerate")
      · wp_walk using wpAny_loadPart' hl, wpAny_pyIter_tuple hL
        exact ⟨_, rfl, h⟩
      · wp_walk using wpAny_loadPart' hl, wpAny_pyIter_tuple hL
        exact ⟨_, rfl, h⟩
    · wp_walk using wpAny_loadPart' hl, wpAny_pyIter_tuple hL
      exact ⟨_, rfl, h⟩
theorem call_enum_tuple {l : Addr} {items : Array Value} {Q : Value → Shared → Prop} (hL : s.heap.IsTuple l items)
    (h : ∀ h', IsEnum h' (s.heap.objs.size + 1) s.heap.objs.size 0 .none → h'.IsTupleIter s.heap.objs.size l 0 → h'.objs.size = s.heap.objs.size + 2 →
      (∀ b o, s.heap.get? b = some o → h'.get? b = some o) → Q (.ref (s.heap.objs.size + 1)) { s with heap := h' }) :
    wpAny (model prog w) A (call (.type "enumerate") [.ref l]) Q E s := by
  obtain ⟨⟨c, dct, dt, sl⟩, hl, hc, n, hd⟩ := hL
  replace hc : c = .type "tuple" := hc
  replace hd : dt = .seq items n := hd
  subst hc hd
  refine callType_new PySem.F.called_enumerate (by decide) (PySem.F.typeCall_enumerate_1 _) (PySem.F.newCall_enumerate_1 _) (fun obj => PySem.F.args_object_init_2 obj _) PySem.F.entry_enumerate_new
    (meets_enum_tuple l items n dct sl) ⟨hl, ?_⟩
  have hz : (s.heap.push { cls := .type "tuple_iterator", data := .fields #[.ref l, .int 0 0] }).objs.size = s.heap.objs.size + 1 := Heap.size_push ..
  show _ ∧ _
  rw [hz]
  have he : IsEnum ((s.heap.push { cls := .type "tuple_iterator", data := .fields #[.ref l, .int 0 0] }).push
      { cls := .type "enumerate", data := .fields #[.none, .bool false, .ref s.heap.objs.size, rawInt 0, .none, .none] }) (s.heap.objs.size + 1) s.heap.objs.size 0 .none := by
    have := Heap.get?_push_size (s.heap.push { cls := .type "tuple_iterator", data := .fields #[.ref l, .int 0 0] })
      (o := { cls := .type "enumerate", data := .fields #[.none, .bool false, .ref s.heap.objs.size, rawInt 0, .none, .none] }) rfl
    rw [hz] at this; exact this
  refine ⟨⟨_, he, rfl⟩, h _ he ⟨_, Heap.get?_push_of_some _ (Heap.get?_push_size _ rfl), rfl, rfl⟩ (by rw [Heap.size_push, hz]) fun b o x => Heap.get?_push_of_some _ (Heap.get?_push_of_some _ x)⟩
end
end
section
section
open PyProof.Rows.LCg
variable {prog : Program} {w : World} {A : Around} {E : Value → Shared → Prop} {s : Shared} {h₀ : Heap} {L : Addr} {m : Str → Option Value} {env : Env}
theorem off1_of {D : Addr} : ∀ {l : Ledger}, (∀ p ∈ l, p.1 ≠ D) → Off1 D l
  | [], _ => trivial
  | _ :: _, h => ⟨h _ (.head _), off1_of fun p hp => h p (.tail _ hp)⟩
/-- an element's end -/
noncomputable def CEnd (h₀ : Heap) (L : Addr) (m : Str → Option Value) (s₂ : Shared) (own : Ledger) (C : Addr) (oC : Obj) (D : Addr) (ys : List Value) (wr : List Addr) (rest : Value → Ledger → Prop) (y : Value) (s₄ : Shared) : Prop :=
  ∃ h' tk news'', s₄ = { s₂ with heap := h', toks := tk } ∧ Fr h₀ L h' m ∧ News h₀ L h' (own ++ (C, oC) :: (D, lst ys) :: news'') ∧ (∀ p ∈ news'', p.1 ∉ wr ∧ p.1 ≠ C ∧ p.1 ≠ D) ∧ rest y news''
theorem comp_block {elt iter c target : PySem.Expr} {scope : Scope} {cl : List (Str × Addr)} {pos : Pos} {s₂ : Shared} {I : Addr} {fp wr : List Addr} {n : Nat} {P Md : Nat → Value → Heap → Prop} {St : Nat → Heap → Prop} {news : Ledger} {B : Nat → (Str → Option Value) → Prop}
    {J : Nat → List Value → Ledger → Prop} {RR : Value → Addr → Result → Shared → Prop}
    (W : KTurns prog w A target I fp wr n P Md St) (hsz : n ≤ sizeLine) (hlive : ∀ i h, St i h → ∀ b ∈ wr, ∃ o, h.get? b = some o)
    (hself : ∀ (s : Shared) (Q : Value → Shared → Prop) (E : Value → Shared → Prop), St 0 s.heap → Q (.ref I) s → wpAny (model prog w) A (pyIter (.ref I)) Q E s)
    (hasg : ∀ i v C (s : Shared) m' (Q : Unit → Shared → Prop) (E : Value → Shared → Prop), P i v s.heap → s.heap.Ns C m' →
      (∀ h' tk m'', h'.Ns C m'' → B i m'' → (∀ b o, b ≠ C → s.heap.get? b = some o → h'.get? b = some o) → Q () { s with heap := h', toks := tk }) → wpAny (model prog w) A (assign target (compEnvC scope cl C env) v) Q E s)
    (hcell : ∀ y ∈ scope.names, y.2 ≠ .cell) (hkind : scope.kind = .function) (hst : St 0 s₂.heap) (hfp : ∀ b ∈ fp, b < s₂.heap.objs.size)
    (F : Fr h₀ L s₂.heap m) (N : News h₀ L s₂.heap news) (hLf : L ∉ fp) (hwr : ∀ b ∈ wr, h₀.get? b = none) (off : ∀ p ∈ news, p.1 ∉ wr) (hJ : J 0 [] news)
    (step : ∀ i ys news' own C oC D m₂ h tk (E' : Value → Shared → Prop), i < n → J i ys news' → B i m₂ → NsObj oC m₂ → Fr h₀ L h m → News h₀ L h (own ++ (C, oC) :: (D, lst ys) :: news') → (∀ p ∈ news', p.1 ∉ wr ∧ p.1 ≠ C ∧ p.1 ≠ D) → (∀ p ∈ own, p.1 ∈ fp) → (∀ b ∈ wr, ∃ o, (b, o) ∈ own) → @Ne Nat C D →
      wpAny (model prog w) A (isTrue c (compEnvC scope cl C env) (eval c (compEnvC scope cl C env))) (fun ok s₃ => if ok = true then
        wpAny (model prog w) A (eval elt (compEnvC scope cl C env)) (CEnd h₀ L m { s₂ with heap := h, toks := tk } own C oC D ys wr fun y news'' => J (i + 1) (ys ++ [y]) news'') E' s₃
        else CEnd h₀ L m { s₂ with heap := h, toks := tk } own C oC D ys wr (fun _ news'' => J (i + 1) ys news'') .none s₃) E' { s₂ with heap := h, toks := tk })
    (hRR : ∀ D C h tk m' ys news', Fr h₀ L h m → News h₀ L h ((D, lst ys) :: news') → Off1 D news' → h.Ns C m' → h₀.get? C = none → h₀.get? D = none → C ≠ L → D ≠ L → C ≠ D → (∀ p ∈ news', p.1 ≠ C) → J n ys news' → RR (.ref D) C (.ok .next) { s₂ with heap := h, toks := tk }) :
    wpAny (model prog w) A (newList []) (fun acc s₃ => wpAny (model prog w) A (newFunctionEnv scope env.globals cl [] env.qual none .none (some env)) (fun cenv s₄ =>
      codeAny (model prog w) A (.compStart (.ListComp elt [⟨target, iter, [c], 0⟩] scope pos) 0 (.ref I) acc { cenv with scope := relabel scope env }) (RR acc cenv.locals) s₄) E s₃) E s₂ := by
  refine wpAny_newObj_type (wpAny_newFunctionEnv hcell (by intro y hy; simp at hy) (fun h₁ hns₁ hsb₁ => ?_) hkind)
  dsimp only at hns₁ hsb₁ ⊢
  generalize hH2 : s₂.heap.push { cls := .type "list", dict := none, data := .seq ([] : List Value).toArray } = H2 at hns₁ hsb₁ ⊢
  have hC : H2.objs.size = s₂.heap.objs.size + 1 := by rw [← hH2, Heap.size_push]
  have hDC : s₂.heap.objs.size ≠ H2.objs.size := by rw [hC]; exact Nat.ne_of_lt (Nat.lt_succ_self _)
  have below : ∀ b, b < s₂.heap.objs.size → b ≠ H2.objs.size ∧ b ≠ s₂.heap.objs.size := fun b hb => ⟨by rw [hC]; exact Nat.ne_of_lt (Nat.lt_succ_of_lt hb), Nat.ne_of_lt hb⟩
  have hDf : s₂.heap.objs.size ∉ fp := fun hm => Nat.lt_irrefl _ (hfp _ hm)
  have hCf : H2.objs.size ∉ fp := fun hm => by have := hfp _ hm; rw [hC] at this; exact Nat.lt_irrefl _ (Nat.lt_of_succ_lt this)
  have old : ∀ b o, s₂.heap.get? b = some o → h₁.get? b = some o := fun b o e => hsb₁.extBut b o (below b (Heap.lt_size e)).1 (Heap.get?_push_of_some _ (hH2 ▸ Heap.get?_push_of_some _ e))
  have hacc : h₁.get? s₂.heap.objs.size = some (lst []) := hsb₁.extBut _ _ hDC (Heap.get?_push_of_some _ (hH2 ▸ Heap.get?_push_size _ rfl))
  have hst₁ : St 0 h₁ := W.frame _ _ _ hst fun b _ o e => old b o e
  have fresh : ∀ a, s₂.heap.objs.size ≤ a → s₂.heap.get? a = none := fun a ha => by
    cases e : s₂.heap.get? a with
    | none => rfl
    | some o' => exact absurd (Heap.lt_size e) (Nat.not_lt.mpr ha)
  have fresh₀ : ∀ a, s₂.heap.objs.size ≤ a → h₀.get? a = none := fun a ha => by
    cases e : h₀.get? a with
    | none => rfl
    | some o' => have := F.keep a o' e; rw [fresh a ha] at this; cases this
  have hD₀ : h₀.get? s₂.heap.objs.size = none := fresh₀ _ (Nat.le_refl _)
  have hC₀ : h₀.get? H2.objs.size = none := fresh₀ _ (by rw [hC]; exact Nat.le_succ _)
  have hLlt : L < s₂.heap.objs.size := F.ns.lt
  have hDL : s₂.heap.objs.size ≠ L := Ne.symm (below L hLlt).2
  have hCL : H2.objs.size ≠ L := Ne.symm (below L hLlt).1
  have hLw : L ∉ wr := fun h => hLf (W.sub _ h)
  have hCw : H2.objs.size ∉ wr := fun h => hCf (W.sub _ h)
  have hDw : s₂.heap.objs.size ∉ wr := fun h => hDf (W.sub _ h)
  have oldw : ∀ b o, h₀.get? b = some o → b ∉ wr := fun b o e hb => by rw [hwr b hb] at e; cases e
  have off₀ : ∀ p ∈ news, p.1 ∉ wr ∧ p.1 ≠ H2.objs.size ∧ p.1 ≠ s₂.heap.objs.size := fun p hp => ⟨off p hp, (below _ (Heap.lt_size (N p hp).1)).1, (below _ (Heap.lt_size (N p hp).1)).2⟩
  have loop : ∀ s₃ : Shared, s₃ = { s₂ with heap := h₁, toks := s₂.toks + ([] : List (Str × Value)).length } →
      codeAny (model prog w) A (.compLoop (.ListComp elt [⟨target, iter, [c], 0⟩] scope pos) 0 (.ref I) (.ref s₂.heap.objs.size) (compEnvC scope cl H2.objs.size env))
        (RR (.ref s₂.heap.objs.size) H2.objs.size) s₃ := by
    rintro s₃ rfl
    refine kct_loop
      (fun k s' => ∃ h' tk i ys m' news', s' = { s₂ with heap := h', toks := tk } ∧ i ≤ n ∧ k = n + 1 - i ∧ ys.length ≤ i ∧ St i h' ∧ Fr h₀ L h' m ∧ h'.Ns H2.objs.size m' ∧
        News h₀ L h' ((s₂.heap.objs.size, lst ys) :: news') ∧ (∀ p ∈ news', p.1 ∉ wr ∧ p.1 ≠ H2.objs.size ∧ p.1 ≠ s₂.heap.objs.size) ∧ J i ys news') ?_ (n + 1)
      ⟨h₁, _, 0, [], _, news, rfl, Nat.zero_le _, rfl, Nat.le_refl _, hst₁, F.keeps old, hns₁, fun p hp => ?_, off₀, hJ⟩
    · rintro k s' ⟨h', tk, i, ys, m', news', rfl, hi, rfl, hyl, hst', F', hn', N', off', hJ'⟩
      by_cases hlt : i < n
      · refine W.item i _ _ _ hlt hst' fun v h₂ tk₂ hMd hk₂ => ?_
        refine W.go i v _ _ _ hMd fun h₃ hP hst₃ hk₃ => ?_
        have up₃ : ∀ c o, c ∉ wr → h'.get? c = some o → h₃.get? c = some o := fun c o hc e => hk₃ c o hc (hk₂ c o hc e)
        refine hasg i v H2.objs.size _ _ _ _ hP (hn'.at' fun o e => up₃ _ o hCw e) fun h₄ tk₄ m₂ hn₄ hB hk₄ => ?_
        have up : ∀ c o, c ∉ wr → c ≠ H2.objs.size → h'.get? c = some o → h₄.get? c = some o := fun c o h1 h2 e => hk₄ c o h2 (up₃ c o h1 e)
        have hst₄ : St (i + 1) h₄ := W.frame _ _ _ hst₃ fun b hb o e => hk₄ b o (fun q => hCf (q ▸ hb)) e
        obtain ⟨oC, heC, hoC⟩ := ns_obj hn₄
        have F₄ : Fr h₀ L h₄ m := ⟨F'.ns.at' fun o e => up _ o hLw (Ne.symm hCL) e, fun c o e => up c o (oldw c o e) (fun q => by rw [q, hC₀] at e; cases e) (F'.keep c o e), F'.above⟩
        have Nown : News h₀ L h₄ (PyProof.Rows.ownOf h₀ fp h₄) := news_ownOf hLf
        have N₄ : News h₀ L h₄ (PyProof.Rows.ownOf h₀ fp h₄ ++ (H2.objs.size, oC) :: (s₂.heap.objs.size, lst ys) :: news') := fun q hq => by
          rcases List.mem_append.mp hq with hq | hq
          · exact Nown q hq
          rcases List.mem_cons.mp hq with rfl | hq
          · exact ⟨heC, hCL, hC₀⟩
          have z := N' q hq
          refine ⟨up _ _ ?_ ?_ z.1, z.2⟩
          · rcases List.mem_cons.mp hq with rfl | hq
            · exact hDw
            · exact (off' q hq).1
          · rcases List.mem_cons.mp hq with rfl | hq
            · exact hDC
            · exact (off' q hq).2.1
        have keepSt : ∀ (h₅ : Heap) (l : Ledger), Fr h₀ L h₅ m → News h₀ L h₅ (PyProof.Rows.ownOf h₀ fp h₄ ++ l) → St (i + 1) h₅ := fun h₅ l F₅ N₅ => W.frame _ _ _ hst₄ fun b hb o e => by
          cases hn : h₀.get? b with
          | some o₀ =>
            have : o₀ = o := by have q := F₄.keep b o₀ hn; rw [e] at q; exact (Option.some.inj q).symm
            exact this ▸ F₅.keep b o₀ hn
          | none => exact (N₅ _ (List.mem_append_left _ (mem_ownOf hb hn e))).1
        refine wpAny_mono (step i ys news' _ H2.objs.size oC s₂.heap.objs.size _ h₄ tk₄ _ hlt hJ' hB hoC F₄ N₄ off' ownOf_sub (fun b hb => by obtain ⟨o, e⟩ := hlive _ _ hst₄ b hb; exact ⟨o, mem_ownOf (W.sub b hb) (hwr b hb) e⟩) (Ne.symm hDC)) (fun okb s₅ h₅ => ?_) fun _ _ e => e
        cases okb with
        | false =>
          simp only [Bool.false_eq_true, if_false] at h₅ ⊢
          have J79 := h₅; (try clear h₅); ((refine ex_elim3 J79 fun h₅ tk₅ news₅ J79q1 => ?_; clear J79; refine and_elim5 J79q1 fun J79e3 F₅ N₅ off₅ J₅ => ?_; clear J79q1); subst J79e3)
          have zC := (N₅ (H2.objs.size, oC) (List.mem_append_right _ (.head _))).1
          exact ⟨n + 1 - (i + 1), by omega, h₅, tk₅, i + 1, ys, _, news₅, rfl, hlt, rfl, Nat.le_succ_of_le hyl, keepSt _ _ F₅ N₅, F₅, hoC.ns zC, fun q hq => N₅ q (List.mem_append_right _ (.tail _ hq)), off₅, J₅⟩
        | true =>
          simp only [if_true] at h₅ ⊢
          refine wpAny_mono h₅ (fun y s₆ h₆ => ?_) fun _ _ e => e
          have J79 := h₆; (try clear h₆); ((refine ex_elim3 J79 fun h₅ tk₅ news₅ J79q1 => ?_; clear J79; refine and_elim5 J79q1 fun J79e3 F₅ N₅ off₅ J₅ => ?_; clear J79q1); subst J79e3)
          have zC := (N₅ (H2.objs.size, oC) (List.mem_append_right _ (.head _))).1
          have zD := (N₅ (s₂.heap.objs.size, lst ys) (List.mem_append_right _ (.tail _ (.head _)))).1
          have hst₅ := keepSt _ _ F₅ N₅
          refine append_at (hsz := by show ys.toArray.size ≤ sizeLine; rw [List.size_toArray]; exact Nat.le_trans hyl (Nat.le_trans hi hsz)) zD fun h₆ hs₆ hD₆ => ?_
          refine ⟨n + 1 - (i + 1), by omega, h₆, tk₅, i + 1, ys ++ [y], _, news₅, rfl, hlt, rfl, by rw [List.length_append, List.length_singleton]; exact Nat.succ_le_succ hyl, W.frame _ _ _ hst₅ fun b hb o e => hs₆.extBut b o (fun q => hDf (q ▸ hb)) e, F₅.change hs₆ hDL hD₀, (hoC.ns zC).sameBut hs₆ (Ne.symm hDC), fun q hq => ?_, off₅, J₅⟩
          rcases List.mem_cons.mp hq with rfl | hq
          · exact ⟨hD₆.trans (congrArg some (lst_snoc ys y)), hDL, hD₀⟩
          · have z := N₅ q (List.mem_append_right _ (.tail _ (.tail _ hq)))
            exact ⟨hs₆.extBut _ _ (off₅ q hq).2.2 z.1, z.2⟩
      · have hin : i = n := Nat.le_antisymm hi (Nat.not_lt.mp hlt)
        subst hin
        refine W.done _ _ _ hst' fun h₂ tk₂ hk₂ => ?_
        have F₂ : Fr h₀ L h₂ m := ⟨F'.ns.at' fun o e => hk₂ _ o hLw e, fun b o e => hk₂ b o (oldw b o e) (F'.keep b o e), F'.above⟩
        refine hRR _ _ h₂ tk₂ _ ys news' F₂ (fun p hp => ⟨hk₂ _ _ ?_ (N' p hp).1, (N' p hp).2⟩) (off1_of fun p hp => (off' p hp).2.2) (hn'.at' fun o e => hk₂ _ o hCw e) hC₀ hD₀ hCL hDL (Ne.symm hDC) (fun p hp => (off' p hp).2.1) hJ'
        rcases List.mem_cons.mp hp with rfl | hp
        · exact hDw
        · exact (off' p hp).1
    · rcases List.mem_cons.mp hp with rfl | hp
      · exact ⟨hacc, hDL, hD₀⟩
      · exact ⟨old _ _ (N p hp).1, (N p hp).2⟩
  exact codeAny_compStart_list (loop _ rfl) (hself _ _ _ hst₁ (loop _ rfl))
end
end
section
section
open PyProof.Rows.LCg
variable {prog : Program} {w : World} {A : Around} {E : Value → Shared → Prop} {s : Shared} {h₀ : Heap} {L : Addr} {m : Str → Option Value} {env : Env}
/-- a comprehension's turns, at its iterator -/
noncomputable def CAt (prog : Program) (w : World) (A : Around) (h₀ : Heap) (L : Addr) (m : Str → Option Value) (env : Env) (c elt target : PySem.Expr) (scope : Scope) (cl : List (Str × Addr)) (Fin : Shared → List Value → Ledger → Prop) (it : Value) (s₂ : Shared) : Prop :=
  ∃ (I : Addr) (fp wr : List Addr) (n : Nat) (P Md : Nat → Value → Heap → Prop) (St : Nat → Heap → Prop) (news : Ledger) (B : Nat → (Str → Option Value) → Prop) (J : Nat → List Value → Ledger → Prop),
    it = .ref I ∧ KTurns prog w A target I fp wr n P Md St ∧ n ≤ sizeLine ∧ (∀ i h, St i h → ∀ b ∈ wr, ∃ o, h.get? b = some o) ∧
    (∀ (s : Shared) (Q : Value → Shared → Prop) (E : Value → Shared → Prop), St 0 s.heap → Q (.ref I) s → wpAny (model prog w) A (pyIter (.ref I)) Q E s) ∧
    (∀ i v C (s : Shared) m' (Q : Unit → Shared → Prop) (E : Value → Shared → Prop), P i v s.heap → s.heap.Ns C m' →
      (∀ h' tk m'', h'.Ns C m'' → B i m'' → (∀ b o, b ≠ C → s.heap.get? b = some o → h'.get? b = some o) → Q () { s with heap := h', toks := tk }) → wpAny (model prog w) A (assign target (compEnvC scope cl C env) v) Q E s) ∧
    St 0 s₂.heap ∧ (∀ b ∈ fp, b < s₂.heap.objs.size) ∧ Fr h₀ L s₂.heap m ∧ News h₀ L s₂.heap news ∧ L ∉ fp ∧ (∀ b ∈ wr, h₀.get? b = none) ∧ (∀ p ∈ news, p.1 ∉ wr) ∧ J 0 [] news ∧
    (∀ i ys news' own C oC D m₂ h tk (E' : Value → Shared → Prop), i < n → J i ys news' → B i m₂ → NsObj oC m₂ → Fr h₀ L h m → News h₀ L h (own ++ (C, oC) :: (D, lst ys) :: news') → (∀ p ∈ news', p.1 ∉ wr ∧ p.1 ≠ C ∧ p.1 ≠ D) → (∀ p ∈ own, p.1 ∈ fp) → (∀ b ∈ wr, ∃ o, (b, o) ∈ own) → @Ne Nat C D →
      wpAny (model prog w) A (isTrue c (compEnvC scope cl C env) (eval c (compEnvC scope cl C env))) (fun ok s₃ => if ok = true then
        wpAny (model prog w) A (eval elt (compEnvC scope cl C env)) (CEnd h₀ L m { s₂ with heap := h, toks := tk } own C oC D ys wr fun y news'' => J (i + 1) (ys ++ [y]) news'') E' s₃
        else CEnd h₀ L m { s₂ with heap := h, toks := tk } own C oC D ys wr (fun _ news'' => J (i + 1) ys news'') .none s₃) E' { s₂ with heap := h, toks := tk }) ∧
    (∀ ys news', J n ys news' → Fin s₂ ys news')
theorem comp_expr {elt iter c target : PySem.Expr} {scope : Scope} {cl : List (Str × Addr)} {pos : Pos} {Q : Value → Shared → Prop} (_F₀ : Fr h₀ L s.heap m)
    (hclos : closureFor scope env = pure cl) (hcell : ∀ y ∈ scope.names, y.2 ≠ .cell) (hkind : scope.kind = .function) (hnames : ∀ y ∈ scope.names, y.2 = .local → scope.names.lookup y.1 = some .local)
    (h : wpAny (model prog w) A (eval iter env) (fun xv s₁ => wpAny (model prog w) A (pyIter xv) (CAt prog w A h₀ L m env c elt target scope cl fun s₂ => FinE h₀ L m s₂ Q) E s₁) E s)
    (hs : ∀ x, foldedSetIterable iter env x = pure x := by intro _; rfl) :
    wpAny (model prog w) A (eval (.ListComp elt [⟨target, iter, [c], 0⟩] scope pos) env) Q E s := by
  rw [eval_ListComp]
  refine wpAny_comprehension_free (use := none) rfl hs hclos hkind hnames (wpAny_mono h (fun xv s₁ h₁ => wpAny_mono h₁ (fun it s₂ h₂ => ?_) fun _ _ e => e) fun _ _ e => e)
  have J79 := h₂; (try clear h₂); ((refine ex_elim10 J79 fun I fp wr n P Md St news B J J79q1 => ?_; clear J79; refine and_elim12 J79q1 fun J79e10 W hsz hlive hself hasg hst hfp F N hLf J79q2 => ?_; clear J79q1; refine and_elim5 J79q2 fun hwr off hJ step hfin => ?_; clear J79q2); subst J79e10)
  refine comp_block W hsz hlive hself hasg hcell hkind hst hfp F N hLf hwr off hJ step ?_
  intro D C h tk m' ys news' F' N' o1 hn hC₀ hD₀ hCL hDL hCD offC fin
  refine ⟨m', hn, fun h'' hs'' => hfin _ _ fin D h'' tk (F'.change hs'' hCL hC₀) (fun p hp => ?_) o1⟩
  refine ⟨hs''.extBut _ _ ?_ (N' p hp).1, (N' p hp).2⟩
  rcases List.mem_cons.mp hp with rfl | hp
  · exact Ne.symm hCD
  · exact offC p hp
theorem comp_assign {elt iter c target : PySem.Expr} {y : Str} {py : Pos} {scope : Scope} {cl : List (Str × Addr)} {pos spos : Pos} {Q : Flow → Shared → Prop} (F₀ : Fr h₀ L s.heap m) (hLe : env.locals = L)
    (hsw : swapsWith (.ListComp elt [⟨target, iter, [c], 0⟩] scope pos) (some (.Name y py)) spos.line env = pure true)
    (hclos : closureFor scope env = pure cl) (hcell : ∀ z ∈ scope.names, z.2 ≠ .cell) (hkind : scope.kind = .function) (hnames : ∀ z ∈ scope.names, z.2 = .local → scope.names.lookup z.1 = some .local)
    (hy : env.kindOf y = some .local) (hp : (env.scope.kind == .class || (env.scope.kind == .module && env.locals != env.globals)) = false)
    (h : wpAny (model prog w) A (eval iter env) (fun xv s₁ => wpAny (model prog w) A (pyIter xv) (CAt prog w A h₀ L m env c elt target scope cl fun s₂ => FinA h₀ L m s₂ y Q) E s₁) E s)
    (hs : ∀ x, foldedSetIterable iter env x = pure x := by intro _; rfl) :
    wpAny (model prog w) A (exec (.Assign [.Name y py] (.ListComp elt [⟨target, iter, [c], 0⟩] scope pos) spos) env) Q E s := by
  subst hLe
  rw [exec_Assign_Name_used _ _ _ _ hsw]
  refine wpAny_bind (wpAny_standAt (wpAny_bind ?_))
  show wpAny _ A (do let _ ← comprehension (.ListComp elt [⟨target, iter, [c], 0⟩] scope pos) scope env _ (newList []) false (eval iter env) (some (assign (.Name y py) env))) _ _ s
  refine wpAny_bind (wpAny_mono (wpAny_comprehension_free (use := some (assign (.Name y py) env)) (Q := fun _ s' => Q .next s') rfl hs hclos hkind hnames
    (wpAny_mono h (fun xv s₁ h₁ => wpAny_mono h₁ (fun it s₂ h₂ => ?_) fun _ _ e => e) fun _ _ e => e)) (fun _ s' hq => wpAny_pure (wpAny_pure hq)) fun _ _ e => e)
  have J79 := h₂; (try clear h₂); ((refine ex_elim10 J79 fun I fp wr n P Md St news B J J79q1 => ?_; clear J79; refine and_elim12 J79q1 fun J79e10 W hsz hlive hself hasg hst hfp F N hLf J79q2 => ?_; clear J79q1; refine and_elim5 J79q2 fun hwr off hJ step hfin => ?_; clear J79q2); subst J79e10)
  refine comp_block W hsz hlive hself hasg hcell hkind hst hfp F N hLf hwr off hJ step ?_
  intro D C h' tk m' ys news' F' N' o1 hn hC₀ hD₀ hCL hDL hCD offC fin
  show wpAny _ A (assign (.Name y py) env (.ref D)) _ _ _
  refine wpAny_assign_Name (wpAny_storeName_local hy F'.ns (fun h₂ hn₂ hs₂ => ?_) hp)
  have hL₀ : h₀.get? env.locals = none := Heap.get?_none_of_le F'.above
  have F₂ : Fr h₀ env.locals h₂ (fun z => if z = y then some (.ref D) else m z) := ⟨hn₂, fun b o e => hs₂.extBut b o (fun q => by rw [q, hL₀] at e; cases e) (F'.keep b o e), F'.above⟩
  refine ⟨m', hn.sameBut hs₂ hCL, fun h'' hs'' => hfin _ _ fin D h'' _ (F₂.change hs'' hCL hC₀) (fun p hp => ?_) o1⟩
  have z : h₂.get? p.1 = some p.2 := hs₂.extBut _ _ (N' p hp).2.1 (N' p hp).1
  refine ⟨hs''.extBut _ _ ?_ z, (N' p hp).2⟩
  rcases List.mem_cons.mp hp with rfl | hp
  · exact Ne.symm hCD
  · exact offC p hp
/-- enumerate over a tuple -/
theorem comp_enum_tuple {elt c : PySem.Expr} {scope : Scope} {cl : List (Str × Addr)} {xa xb : Str} {pa pb tp : Pos} {kk : Nat} {t : Addr} {its : Array Value} {k : Nat} {news : Ledger} {Fin : Shared → List Value → Ledger → Prop} (hh : A.handled = none)
    (hxa : scope.names.lookup xa = some .local) (hxb : scope.names.lookup xb = some .local) (hab : ¬ xa = xb) (hkind : scope.kind = .function) (F : Fr h₀ L s.heap m) (N : News h₀ L s.heap news) (hm : (t, { cls := .type "tuple", data := .seq its k }) ∈ news) (hsz : its.size ≤ sizeLine) (J : Nat → List Value → Ledger → Prop) (hJ : J 0 [] news)
    (step : ∀ (s₂ : Shared) i ys news' own C oC D m₂ h tk wr (E' : Value → Shared → Prop) u x, its[i]? = some x → J i ys news' → m₂ xa = some (.int (i : Int) u) → m₂ xb = some x → NsObj oC m₂ → Fr h₀ L h m → News h₀ L h (own ++ (C, oC) :: (D, lst ys) :: news') → (∀ p ∈ news', p.1 ∉ wr ∧ p.1 ≠ C ∧ p.1 ≠ D) → (∀ b ∈ wr, ∃ o, (b, o) ∈ own) → (∀ p ∈ own, p.1 ∈ wr ∨ p.1 = t) → @Ne Nat C D →
      wpAny (model prog w) A (isTrue c (compEnvC scope cl C env) (eval c (compEnvC scope cl C env))) (fun ok s₃ => if ok = true then
        wpAny (model prog w) A (eval elt (compEnvC scope cl C env)) (CEnd h₀ L m { s₂ with heap := h, toks := tk } own C oC D ys wr fun y news'' => J (i + 1) (ys ++ [y]) news'') E' s₃
        else CEnd h₀ L m { s₂ with heap := h, toks := tk } own C oC D ys wr (fun _ news'' => J (i + 1) ys news'') .none s₃) E' { s₂ with heap := h, toks := tk })
    (hfin : ∀ h ys news', J its.size ys news' → Fin { s with heap := h } ys news') :
    wpAny (model prog w) A (call (.type "enumerate") [.ref t]) (fun xv s₁ => wpAny (model prog w) A (pyIter xv) (CAt prog w A h₀ L m env c elt (.Tuple [.Name xa pa, .Name xb pb] kk tp) scope cl Fin) E s₁) E s := by
  have hax := N _ hm
  have hT : s.heap.IsTuple t its := ⟨_, hax.1, rfl, _, rfl⟩
  have hlt : t < s.heap.objs.size := Heap.lt_size hax.1
  have hLs : L < s.heap.objs.size := F.ns.lt
  refine call_enum_tuple hT fun h' hE hI hz hk => ?_
  refine wpAny_pyIter_enum hE ?_
  have D0 := draws_tuple (prog := prog) (w := w) (A := A.in1) hh s.heap.objs.size t (Nat.ne_of_lt hlt) its
  have W0 := WalksT.enumerateD D0 (s.heap.objs.size + 1) (Nat.succ_ne_self _) (by
    intro hm'
    have hb' : s.heap.objs.size + 1 = s.heap.objs.size ∨ s.heap.objs.size + 1 = t := by simpa using hm'
    rcases hb' with e | e
    · exact Nat.succ_ne_self _ e
    · exact ktu_ne 1 hlt e.symm) (by simp)
  have W := KTurns.ofWalksU (elts := [.Name xa pa, .Name xb pb]) (k := kk) (pos := tp) W0.toU
  refine ⟨_, _, _, its.size, _, _, _, news, fun i m'' => ∃ u x, its[i]? = some x ∧ m'' xa = some (.int (i : Int) u) ∧ m'' xb = some x, J, rfl, W, hsz, ?_, ?_, ?_, ⟨⟨_, hE⟩, hI, hT.at fun o e => hk t o e⟩, ?_, F.keeps hk, N.grown hk, ?_, ?_, ?_, hJ, ?_, hfin h'⟩
  · rintro i h ⟨⟨old, he⟩, ⟨oi, hoi, _⟩, _⟩ b hb
    have hb' : b = s.heap.objs.size + 1 ∨ b = s.heap.objs.size := by simpa using hb
    rcases hb' with rfl | rfl
    · exact ⟨_, he⟩
    · exact ⟨_, hoi⟩
  · rintro s' Q' E' ⟨⟨old, he⟩, _⟩ hQ
    exact wpAny_pyIter_enum he hQ
  · rintro i v C s' m' Q' E' ⟨T, vals, rfl, ⟨u, x, hx, rfl⟩, hTT⟩ hn hQ
    refine wpAny_assign_Tuple hh hTT rfl rfl fun h₃ hx₃ => ?_
    have up₃ : ∀ b o, s'.heap.get? b = some o → h₃.get? b = some o := fun b o z => hx₃ b o (Nat.ne_of_lt (Heap.lt_size z)) z
    show wpAny _ A (do holding [x] (assign (.Name xa pa) _ (.int (i : Int) u)); do holding [] (assign (.Name xb pb) _ x); pure ()) _ _ _
    refine wpAny_bind (wpAny_holding (wpAny_assign_Name (wpAny_storeName_local (lookup_relabel_local hxa) (hn.keeps up₃) (fun h₄ hn₄ hs₄ => ?_) (by simp [compEnvC, relabel, hkind]))))
    refine wpAny_bind (wpAny_holding (wpAny_assign_Name (wpAny_storeName_local (lookup_relabel_local hxb) hn₄ (fun h₅ hn₅ hs₅ => wpAny_pure ?_) (by simp [compEnvC, relabel, hkind]))))
    exact hQ h₅ _ _ hn₅ ⟨u, x, hx, by simp [hab], by simp⟩ fun b o hb z => hs₅.extBut b o hb (hs₄.extBut b o hb (up₃ b o z))
  · intro b hb
    have hb' : b = s.heap.objs.size + 1 ∨ b = s.heap.objs.size ∨ b = t := by simpa using hb
    show b < h'.objs.size
    rw [hz]
    rcases hb' with rfl | rfl | rfl
    · exact Nat.lt_succ_self _
    · exact Nat.lt_succ_of_lt (Nat.lt_succ_self _)
    · exact Nat.lt_succ_of_lt (Nat.lt_succ_of_lt hlt)
  · intro hI'
    have hb' : L = s.heap.objs.size + 1 ∨ L = s.heap.objs.size ∨ L = t := by simpa using hI'
    rcases hb' with e | e | e
    · exact ktu_ne 1 hLs e
    · exact Nat.ne_of_lt hLs e
    · exact hax.2.1 e.symm
  · intro b hb
    have hb' : b = s.heap.objs.size + 1 ∨ b = s.heap.objs.size := by simpa using hb
    rcases hb' with rfl | rfl
    · exact ktu_new F (Nat.le_add_right _ _)
    · exact ktu_new F (Nat.le_refl _)
  · intro p hp hI'
    have hb' : p.1 = s.heap.objs.size + 1 ∨ p.1 = s.heap.objs.size := by simpa using hI'
    have hlp := Heap.lt_size (N p hp).1
    rcases hb' with e | e
    · exact ktu_ne 1 hlp e
    · exact Nat.ne_of_lt hlp e
  · rintro i ys news' own C oC D m₂ h tk E' hin hJ' ⟨u, x, hx, ha, hb⟩ hC F₄ N₄ off' hown hfull hCD
    refine step _ i ys news' own C oC D m₂ h tk _ E' u x hx hJ' ha hb hC F₄ N₄ off' hfull (fun p hp => ?_) hCD
    have := hown p hp
    have h2 : p.1 = s.heap.objs.size + 1 ∨ p.1 = s.heap.objs.size ∨ p.1 = t := by simpa using this
    rcases h2 with e | e | e
    · left; simp [e]
    · left; simp [e]
    · exact .inr e
end
end
section
section
variable {prog : Program} {w : World} {A : Around} {E : Value → Shared → Prop} {s : Shared}
theorem adjust_upto (b n : Nat) (hb : b ≤ n) : Builtin.Slice.sliceAdjust none (some (b : Int)) 1 (n : Int) = ((0 : Int), (b : Int)) := by
  unfold Builtin.Slice.sliceAdjust
  have h1 : ¬ ((1 : Int) < 0) := by omega
  have h2 : ¬ ((b : Int) < 0) := by omega
  simp only [h1, h2, if_false]
  congr 1
  omega
theorem places_upto (b : Nat) : Builtin.Slice.slicePlaces (0 : Int) (b : Int) 1 = b := by
  unfold Builtin.Slice.slicePlaces
  have h1 : (1 : Int) > 0 := by omega
  simp only [h1, if_true, Int.ediv_one]
  split <;> omega
theorem sliceApplied_upto {sl : Addr} {b n : Nat} {u : Tok} {Q : Int × Int × Nat → Shared → Prop} (hs : s.heap.IsSliceOf sl .none (.int b u) .none) (hb : b ≤ n) (h : Q ((0 : Int), 1, b) s) :
    wpAny (model prog w) A (Builtin.Slice.sliceApplied (.ref sl) (pure (n : Int))) Q E s := by
  obtain ⟨os, hos, hcs, hds⟩ := id hs
  unfold Builtin.Slice.sliceApplied Builtin.Slice.sliceFields
  refine wpAny_bind (wpAny_bind (wpAny_field hos hds (x := .none) rfl (wpAny_bind (wpAny_field hos hds (x := .int b u) rfl (wpAny_bind (wpAny_field hos hds (x := .none) rfl (wpAny_pure ?_)))))))
  refine wpAny_bind (slicePart_none ?_)
  show wpAny _ _ (if ((1 : Int) == 0) = true then _ else _) _ _ s
  rw [if_neg (by decide)]
  refine wpAny_bind (slicePart_none (wpAny_bind (slicePart_int (wpAny_bind (wpAny_pure ?_)))))
  show wpAny _ _ (match Builtin.Slice.sliceAdjust none (some (b : Int)) 1 (n : Int) with | (lo, hi) => pure (lo, (1 : Int), Builtin.Slice.slicePlaces lo hi 1)) _ _ s
  rw [adjust_upto b n hb]
  show wpAny _ _ (pure ((0 : Int), (1 : Int), Builtin.Slice.slicePlaces (0 : Int) (b : Int) 1)) _ _ s
  rw [places_upto b]
  exact wpAny_pure h
theorem pick_upto (xs : Array Value) (b : Nat) : ((List.range b).filterMap fun (k : Nat) => xs[((0 : Int) + (k : Int) * 1).toNat]?).toArray = (xs.toList.take b).toArray := by
  have e : (fun (k : Nat) => xs[((0 : Int) + (k : Int) * 1).toNat]?) = fun k => xs[0 + k]? := by
    funext k
    have : ((0 : Int) + (k : Int) * 1).toNat = 0 + k := by omega
    rw [this]
  rw [e]
  have := pick_run xs 0 b
  rw [List.filterMap_map] at this
  have e2 : ((fun x => xs[x]?) ∘ fun x => 0 + x) = fun k => xs[0 + k]? := rfl
  rw [e2] at this
  rw [this, List.drop_zero]
theorem getItem_tuple_upto {t sl : Addr} {items : Array Value} {b : Nat} {u : Tok} {Q : Value → Shared → Prop} (ht : IsTup s.heap t items) (hs : s.heap.IsSliceOf sl .none (.int b u) .none) (hb : b < items.size)
    (h : Q (.ref s.heap.objs.size) { s with heap := s.heap.push { cls := .type "tuple", data := .seq (items.toList.take b).toArray } })
    (hsz : items.size ≤ sizeLine) : wpAny (model prog w) A (getItem (.ref t) (.ref sl)) Q E s := by
  have hdrop : sizeOk (.seq (items.toList.take b).toArray) := by
    show (items.toList.take b).toArray.size ≤ sizeLine
    rw [List.size_toArray, List.length_take, Array.length_toList]
    omega
  obtain ⟨os, hos, hcs, hds⟩ := id hs
  have hTs : s.TypeIs (.ref sl) "slice" := ⟨os, hos, hcs⟩
  unfold getItem
  try with_reducible refine wpAny_holding ?_
  first | refine wpAny_bind (wpAny_pure ?_) | skip
  refine wpAny_bind (wpAny_sequenceKey ht.typeIs (by decide) ?_)
  refine wpAny_bind (wpAny_callSpecial?_slot (name := Str.ofString "__getitem__") ht.typeIs slot_tuple_getitem
    (wpAny_call_entry slot_tuple_getitem ht.typeIs entry_tuple_getitem ?_ (args_tuple_getitem _ _)))
  show wpAny _ _ (Builtin.Tuple.tupleItemsOf (.ref t) >>= _) _ _ s
  refine wpAny_bind (tupleItemsOf_ ht ?_)
  refine wpAny_bind (wpAny_typeOf hTs ?_)
  rw [if_pos (by decide)]
  refine wpAny_bind (sliceApplied_upto hs (Nat.le_of_lt hb) ?_)
  have hno : ¬ (((0 : Int) == 0 && (1 : Int) == 1 && b == items.size) = true) := by
    have : (b == items.size) = false := by rw [beq_eq_false_iff_ne]; omega
    rw [this]; simp
  show wpAny _ _ (if ((0 : Int) == 0 && (1 : Int) == 1 && b == items.size) = true then _ else _) _ _ s
  rw [if_neg hno, pick_upto items b]
  first
    | exact wpAny_bind (m := Builtin.Tuple.tupleExact _) (wpAny_newObj_type (wpAny_pure ⟨_, rfl, wpAny_pure h⟩) hdrop)
    | exact wpAny_bind (m := Builtin.Tuple.tupleExact _) (wpAny_newObj_type (wpAny_bind (wpAny_pure (wpAny_pure ⟨_, rfl, wpAny_pure h⟩))) hdrop)
    | exact wpAny_bind (wpAny_bind (m := Builtin.Tuple.tupleExact _) (wpAny_newObj_type (wpAny_pure (wpAny_pure ⟨_, rfl, wpAny_pure h⟩)) hdrop))
    | exact wpAny_bind (wpAny_bind (m := Builtin.Tuple.tupleExact _) (wpAny_newObj_type (wpAny_pure ⟨_, rfl, wpAny_pure h⟩) hdrop))
variable {h₀ : Heap} {L : Addr} {m : Str → Option Value} {news : Ledger}
theorem slice_tuple_upto {value slice : PySem.Expr} {t : Addr} {items : Array Value} {b : Nat} {u : Tok} {Q : Value → Shared → Prop}
    (F : Fr h₀ L s.heap m) (N : News h₀ L s.heap news) (ht : IsTup s.heap t items) (hb : b < items.size) (hsz : items.size ≤ sizeLine)
    (h : ∀ D h', Fr h₀ L h' m → News h₀ L h' ((D, { cls := .type "tuple", data := .seq (items.toList.take b).toArray }) :: news) → (∀ p ∈ news, p.1 < D) → Q (.ref D) { s with heap := h' })
    (hs : subscripted slice false (.ref t) (.ref s.heap.objs.size) = operate [.ref s.heap.objs.size, .ref t] (getItem (.ref t) (.ref s.heap.objs.size)))
    (hg : ∀ r, letTemporaryGo value (.ref t) r = pure ()) :
    wpAny (model prog w) A (subscriptTail value slice (.ref t) (.ref s.heap.objs.size)) Q E { s with heap := s.heap.push { cls := .type "slice", data := .fields #[.none, .int b u, .none] } } := by
  have ht' : IsTup (s.heap.push { cls := .type "slice", data := .fields #[.none, .int b u, .none] }) t items := ht.keeps fun _ _ e => Heap.get?_push_of_some _ e
  refine subscriptTail_ops (s := { s with heap := s.heap.push { cls := .type "slice", data := .fields #[.none, .int b u, .none] } }) ht'.typeIs slot_tuple_getitem.lookup
    (getItem_tuple_upto ht' (Heap.IsSliceOf.new ..) hb ?_ hsz) hs hg
  have N1 := News.push (F.push { cls := .type "slice", data := .fields #[.none, .int b u, .none] }) (N.grown fun _ _ e => Heap.get?_push_of_some _ e) { cls := .type "tuple", data := .seq (items.toList.take b).toArray }
  rw [Heap.size_push] at N1
  show Q (.ref (s.heap.push _).objs.size) _
  rw [Heap.size_push]
  exact h _ _ ((F.push _).push _) N1 fun p hp => Nat.lt_succ_of_lt (Heap.lt_size (N p hp).1)
end
/-- the first events -/
theorem ev_slice {w : World} {A : Around} {E : Value → Shared → Prop} {s : Shared} {h₀ : Heap} {L : Addr} {m : Str → Option Value} {news : Ledger} {value slice : PySem.Expr} {b : Nat} {x : Int} {u : Tok} {Q : Value → Shared → Prop} (F : Fr h₀ L s.heap m) (X : (Mine.h0.heap_1 w.params).In h₀) (N : News h₀ L s.heap news) (hx : x = (b : Int)) (hb : b < 17)
    (h : ∀ D its h', Fr h₀ L h' m → News h₀ L h' ((D, { cls := .type "tuple", data := .seq (List.toArray its) }) :: news) → (∀ p ∈ news, p.1 < D) → its.map bytesOf = (EVS.take b).map some → Q (.ref D) { s with heap := h' })
    (hs : subscripted slice false (.ref 494) (.ref s.heap.objs.size) = operate [.ref s.heap.objs.size, .ref 494] (getItem (.ref 494) (.ref s.heap.objs.size))) (hg : ∀ r, letTemporaryGo value (.ref 494) r = pure ()) :
    wpAny (model PG w) A (subscriptTail value slice (.ref 494) (.ref s.heap.objs.size)) Q E { s with heap := s.heap.push { cls := .type "slice", data := .fields #[.none, .int x u, .none] } } := by
  subst hx
  obtain ⟨items, ht, hm⟩ := ev_tup F X
  have hl : items.size = 17 := by have := congrArg List.length hm; simpa [EVS] using this
  refine slice_tuple_upto F N ht (by omega) (by rw [hl, sizeLine_eq]; decide) (fun D h' F' N' l1 => h D _ h' F' N' l1 ?_) hs hg
  rw [List.map_take, hm, List.map_take]
end
section
theorem GF35.onF35 : True := trivial
open GF35
theorem reg_F35_1 : True := by
  k_with "exec Assign cons ListComp" => ((fail_if_success (fail_if_success (have g9 := onF35))); ((k_here; refine myStop ?_)))
  trivial
theorem reg_F35_2 : True := by
  k_with "subscriptTail Name Slice ref ref" => ((fail_if_success (fail_if_success (have g9 := onF35))); ((k_here; k_dflt (first | (refine' ev_slice (b := 5) ?Fq9 ?Xq9 ?Nq9 ?hxq9 ?hbq9 ?_ ?hsq9 ?hgq9; (case Fq9 => k_asm); (case Xq9 => k_asm); (case Nq9 => k_asm); (case hxq9 => rfl); (case hbq9 => decide); (case hsq9 => with_unfolding_all rfl); (case hgq9 => kmk_pure)) | (refine' ev_slice (b := 6) ?Fq9 ?Xq9 ?Nq9 ?hxq9 ?hbq9 ?_ ?hsq9 ?hgq9; (case Fq9 => k_asm); (case Xq9 => k_asm); (case Nq9 => k_asm); (case hxq9 => rfl); (case hbq9 => decide); (case hsq9 => with_unfolding_all rfl); (case hgq9 => kmk_pure))); intro D' its' h' F' N' l1 hev'; (try k_sweep))))
  trivial
theorem reg_F35_3 : True := by
  k_with "last subscriptTail" => ((fail_if_success (fail_if_success (have g9 := onF35))); ((k_here; k_dflt (first | (refine' ev_slice (b := 5) ?Fq9 ?Xq9 ?Nq9 ?hxq9 ?hbq9 ?_ ?hsq9 ?hgq9; (case Fq9 => k_asm); (case Xq9 => k_asm); (case Nq9 => k_asm); (case hxq9 => rfl); (case hbq9 => decide); (case hsq9 => with_unfolding_all rfl); (case hgq9 => kmk_pure)) | (refine' ev_slice (b := 6) ?Fq9 ?Xq9 ?Nq9 ?hxq9 ?hbq9 ?_ ?hsq9 ?hgq9; (case Fq9 => k_asm); (case Xq9 => k_asm); (case Nq9 => k_asm); (case hxq9 => rfl); (case hbq9 => decide); (case hsq9 => with_unfolding_all rfl); (case hgq9 => kmk_pure))); intro D' its' h' F' N' l1 hev'; (try k_sweep))))
  trivial
noncomputable def notedFrom (fl : Int) : List (List UInt8) → Nat → List (List UInt8)
  | [], _ => []
  | wd :: r, i => if Builtin.bitAnd (fl.fdiv (2 ^ (i : Int).toNat)) 1 = 1 then wd :: notedFrom fl r (i + 1) else notedFrom fl r (i + 1)
noncomputable def notedF (fl : Int) : List (List UInt8) := notedFrom fl (EVS.take 5) 0
theorem gen_led {h₀ h : Heap} {L : Addr} {l : Ledger} (N : News h₀ L h l) : ∃ l', News h₀ L h l' ∧ l' = l := ⟨l, N, rfl⟩
theorem led3 {x y : Addr × Obj} {l n0 : Ledger} (h : n0 = x :: y :: l) : x ∈ n0 ∧ y ∈ n0 ∧ ∀ p ∈ l, p ∈ n0 := by
  subst h; exact ⟨.head _, .tail _ (.head _), fun p hp => .tail _ (.tail _ hp)⟩
theorem mem_hd {x : Addr × Obj} {R R' : Ledger} (h : ∀ p ∈ R, p ∈ R') : ∀ p ∈ x :: R, p ∈ x :: R' := fun p hp =>
  (List.mem_cons.mp hp).elim (fun e => e ▸ .head _) fun q => .tail _ (h p q)
theorem drop_at {α : Type} {l : List α} {i : Nat} {x : α} (h : l[i]? = some x) : l.drop i = x :: l.drop (i + 1) := by
  obtain ⟨hi, e⟩ := List.getElem?_eq_some_iff.mp h
  rw [List.drop_eq_getElem_cons hi, e]
theorem ev_len {its : List Value} {b : Nat} (h : its.map bytesOf = (EVS.take b).map some) (hb : b ≤ 17) : its.length = b := by
  have := congrArg List.length h
  rw [List.length_map, List.length_map, List.length_take] at this
  rw [this]; exact Nat.min_eq_left hb
theorem ev_at {its : List Value} {b i : Nat} {x : Value} (h : its.map bytesOf = (EVS.take b).map some) (hx : (its.toArray)[i]? = some x) : ∃ wd, (EVS.take b)[i]? = some wd ∧ ∃ t, x = .bytes wd.toArray t := by
  have h2 := congrArg (·[i]?) h
  simp only [List.getElem?_map] at h2
  have hx' : its[i]? = some x := by simpa using hx
  rw [hx'] at h2
  cases hw : (EVS.take b)[i]? with
  | none => rw [hw] at h2; cases h2
  | some wd =>
    rw [hw] at h2
    exact ⟨wd, rfl, bytesOf_some (Option.some.inj h2)⟩
set_option maxHeartbeats 1000000 in
theorem law_noted_spec {w : World} {T : Tb} {Λ : Ledger} (hT : HasTab w.params T Λ) (h0 : 0 ≤ T.fl) (h1 : T.fl < 32) : Runs w 541 [.ref T.a] Λ 12 fun r Λ' => ∃ a vs, r = .ref a ∧ vs.map bytesOf = (notedF T.fl).map some ∧ Λ' = (a, listOf (List.toArray vs) vs.length) :: Λ ∧ ∀ p ∈ Λ, p.1 ≠ a := by
  have m1 := hT.inst
  have m2 := hT.dict
  k_extra "my enterC"; w_strict (k_extra "my steps")
  refine MyStop.go ?_
  (with_reducible rename Fr _ _ _ _ => lF)
  k_dflt (refine comp_assign lF (by rfl) (by with_unfolding_all rfl) (by with_unfolding_all rfl) (by decide) (by rfl) (by decide) (by rfl) (by rfl) ?_)
  w_strict (k_extra "my steps")
  refine MyStop.go ?_; (with_reducible rename Fr _ _ _ _ => lF); (rename News _ _ _ _ => N4); (rename (List.map bytesOf _ = _) => hev)
  have hl5 := ev_len hev (by decide)
  obtain ⟨n0, N5, hn0⟩ := gen_led N4
  obtain ⟨hmt, hmc, hsub⟩ := led3 hn0
  clear N4 hn0
  refine comp_enum_tuple (by rfl) (by rfl) (by rfl) (by decide) (by rfl) lF N5 hmt (by rw [List.size_toArray, hl5, sizeLine_eq]; decide) (fun i ys news' => news' = n0 ∧ ys.map bytesOf ++ (notedFrom T.fl ((EVS.take 5).drop i) i).map some = (notedF T.fl).map some) ⟨rfl, rfl⟩ ?_ ?_
  · intro s₂ i ys news' own C oC D m₂ h tk wr E' u x hx J09 ha hb hC F₄ N₄ off' hfull hown hCD; k_extra "my fold"; ((refine and_elim2 J09 fun J09e0 hys => ?_; clear J09); subst J09e0)
    obtain ⟨wd, hwd, tx, rfl⟩ := ev_at hev hx
    have q1 : (C, oC) ∈ own ++ (C, oC) :: (D, LCg.lst ys) :: news' := mem_mid
    have q2 := List.mem_append_right own (List.mem_cons_of_mem (C, oC) (List.mem_cons_of_mem (D, LCg.lst ys) hmc))
    have q3 := List.mem_append_right own (List.mem_cons_of_mem (C, oC) (List.mem_cons_of_mem (D, LCg.lst ys) (hsub _ m1)))
    have q4 := List.mem_append_right own (List.mem_cons_of_mem (C, oC) (List.mem_cons_of_mem (D, LCg.lst ys) (hsub _ m2)))
    k_extra "my after"
    rw [drop_at hwd] at hys
    unfold notedFrom at hys
    by_cases hbit : Builtin.bitAnd (T.fl.fdiv (2 ^ (i : Int).toNat)) 1 = 1
    · rw [if_pos hbit] at hys
      w_strict (k_extra "my steps")
      exact ⟨_, _, _, rfl, by k_asm, by k_asm, off', rfl, by simpa [bytesOf] using hys⟩
    · rw [if_neg hbit] at hys
      w_strict (k_extra "my steps")
      exact ⟨_, _, _, rfl, by k_asm, by k_asm, off', rfl, hys⟩
  · rintro h ys news' ⟨rfl, hys⟩
    rw [List.size_toArray, hl5] at hys
    unfold LCg.FinA
    intro D9 h9 tk9 F9 N9 o9
    have hf0 : T.fl.fdiv (2 ^ (5 : Int).toNat) = 0 := by
      rw [show (2 : Int) ^ (5 : Int).toNat = 32 by decide, Int.fdiv_eq_ediv_of_nonneg _ (by decide)]; omega
    have q2 := List.mem_cons_of_mem (D9, LCg.lst ys) hmc
    have q3 := List.mem_cons_of_mem (D9, LCg.lst ys) (hsub _ m1)
    have q4 := List.mem_cons_of_mem (D9, LCg.lst ys) (hsub _ m2)
    k_extra "my after"
    w_strict (k_extra "my steps")
    (rename News _ _ _ _ => N7)
    rw [show (EVS.take 5).drop 5 = [] from rfl] at hys
    exact hret _ _ _ _ (by k_asm) (News.sub N7 (mem_hd hsub)) ⟨D9, ys, rfl, by simpa [notedFrom] using hys, rfl, fun p hp => off1_mem o9 p (hsub p hp)⟩
theorem Runs.post {w : World} {f : Addr} {args : List Value} {Λ : Ledger} {D : Nat} {P P' : Value → Ledger → Prop} (h : Runs w f args Λ D P) (hP : ∀ r Λ', P r Λ' → ∃ Λ'', P' r Λ'' ∧ ∀ p ∈ Λ'', p ∈ Λ') : Runs w f args Λ D P' :=
  fun _ _ _ _ _ _ _ _ _ _ _ _ _ _ _ _ _ _ _ _ B F X N T hk hd hu ret => h _ _ _ _ _ _ _ _ _ _ _ _ _ _ _ _ _ _ _ _ B F X N T hk hd hu fun r Λ' h' tk' F' N' p => by
    obtain ⟨Λ'', p', hs⟩ := hP _ _ p
    exact ret r Λ'' h' tk' F' (News.sub N' hs) p'
theorem law_noted_own {w : World} {T : Tb} {R : Ledger} (O : Own T R) {b : Addr} (hb : T.a = b) (h0 : 0 ≤ T.fl) (h1 : T.fl < 32) :
    Runs w 541 [.ref b] (tbObjs w.params T ++ R) 12 fun r Λ' => ∃ a vs, r = .ref a ∧ vs.map bytesOf = (notedF T.fl).map some ∧ Λ' = tbObjs w.params T ++ ((a, listOf (List.toArray vs) vs.length) :: R) ∧ Own T ((a, listOf (List.toArray vs) vs.length) :: R) ∧ ∀ p ∈ R, p.1 ≠ a := by
  subst hb
  refine ((law_noted_spec HasTab.left h0 h1).post ?_)
  rintro r Λ' ⟨a, vs, e1, e2, rfl, e4⟩
  refine ⟨_, ⟨a, vs, e1, e2, rfl, O.add fun p hp => e4 p (List.mem_append_left _ hp), fun p hp => e4 p (List.mem_append_right _ hp)⟩, ?_⟩
  exact mem_rot
theorem reg_F35_4 : True := by
  k_with "my calls" => ((with_reducible refine (?_ : wpAny _ _ (call (Value.ref 541) _) _ _ _)); k_dflt (refine Runs.use (law_noted_own (by assumption) (by first | exact rfl | assumption) (by assumption) (by assumption)) (by k_asm) (by k_asm) (by k_asm) (by k_extra "my news") (by k_asm) (by first | exact rfl | assumption) (by k_extra "my room") (by k_extra "my units") ?_); k_whole; intro r9 Λ9 h9 tk9 F9 N9 P9; ((refine ex_elim2 P9 fun a9 vs9 P9q1 => ?_; clear P9; refine and_elim5 P9q1 fun P9e2 hv9 P9e4 O9 ho9 => ?_; clear P9q1); subst P9e2; subst P9e4); k_extra "my after")
  k_with "my calls" => ((with_reducible refine (?_ : wpAny _ _ (call (Value.ref 541) _) _ _ _)); k_dflt (refine useG (law_noted_own (by assumption) (by first | exact rfl | assumption) (by assumption) (by assumption)) (by k_asm) (by k_asm) (by k_asm) (by k_extra "my news") (by k_asm) (by k_asm) (by k_extra "my rm") (by exact rfl) ?_); k_whole; intro r9 Λ9 h9 tk9 F9 N9 P9; ((refine ex_elim2 P9 fun a9 vs9 P9q1 => ?_; clear P9; refine and_elim5 P9q1 fun P9e2 hv9 P9e4 O9 ho9 => ?_; clear P9q1); subst P9e2; subst P9e4); k_extra "my after")
  trivial
end
section
section
open PySem.EqNone PySem.Builtin
theorem gv_int_bytes_eq (a : Int) (t : Tok) (b : Array UInt8) (u : Tok) : Gives (Builtin.«int.__eq__» ⟨[.int a t, .bytes b u], []⟩) (.val (Value.notImplemented)) :=
  .of_wp fun M A E s Q h => by obtain ⟨hp, g, d, tk, os⟩ := s; wp_walk; exact ⟨_, rfl, h⟩
theorem gv_int_bytes_ne (a : Int) (t : Tok) (b : Array UInt8) (u : Tok) : Gives (Builtin.«int.__ne__» ⟨[.int a t, .bytes b u], []⟩) (.val (Value.notImplemented)) :=
  .of_wp fun M A E s Q h => by obtain ⟨hp, g, d, tk, os⟩ := s; wp_walk; exact ⟨_, rfl, h⟩
theorem gv_none_bytes_eq (b : Array UInt8) (u : Tok) : Gives (Builtin.«NoneType.__eq__» ⟨[.none, .bytes b u], []⟩) (.val (Value.notImplemented)) :=
  .of_wp fun M A E s Q h => by obtain ⟨hp, g, d, tk, os⟩ := s; wp_walk; exact ⟨_, rfl, h⟩
theorem gv_none_bytes_ne (b : Array UInt8) (u : Tok) : Gives (Builtin.«NoneType.__ne__» ⟨[.none, .bytes b u], []⟩) (.val (Value.notImplemented)) :=
  .of_wp fun M A E s Q h => by obtain ⟨hp, g, d, tk, os⟩ := s; wp_walk; exact ⟨_, rfl, h⟩
theorem gv_bytes_int_eq (a : Int) (t : Tok) (b : Array UInt8) (u : Tok) : Gives (Builtin.«bytes.__eq__» ⟨[.bytes b u, .int a t], []⟩) (.val (Value.notImplemented)) :=
  .of_wp fun M A E s Q h => by
    obtain ⟨hp, g, d, tk, os⟩ := s
    wp_walk using wpAny_isInstance (typeIs_int _ _ _) PySem.F.sub_int_bytes, wpAny_isInstance (T := "NoneType") rfl PySem.F.sub_NoneType_bytes
    exact ⟨_, rfl, h⟩
theorem gv_bytes_int_ne (a : Int) (t : Tok) (b : Array UInt8) (u : Tok) : Gives (Builtin.«bytes.__ne__» ⟨[.bytes b u, .int a t], []⟩) (.val (Value.notImplemented)) :=
  .of_wp fun M A E s Q h => by
    obtain ⟨hp, g, d, tk, os⟩ := s
    wp_walk using wpAny_isInstance (typeIs_int _ _ _) PySem.F.sub_int_bytes, wpAny_isInstance (T := "NoneType") rfl PySem.F.sub_NoneType_bytes
    exact ⟨_, rfl, h⟩
theorem gv_bytes_none_eq (b : Array UInt8) (u : Tok) : Gives (Builtin.«bytes.__eq__» ⟨[.bytes b u, .none], []⟩) (.val (Value.notImplemented)) :=
  .of_wp fun M A E s Q h => by
    obtain ⟨hp, g, d, tk, os⟩ := s
    wp_walk using wpAny_isInstance (typeIs_int _ _ _) PySem.F.sub_int_bytes, wpAny_isInstance (T := "NoneType") rfl PySem.F.sub_NoneType_bytes
    refine wpAny_of_eq PySem.F.sub_NoneType_bytes ?_
    wp_walk
    exact ⟨_, rfl, h⟩
theorem gv_bytes_none_ne (b : Array UInt8) (u : Tok) : Gives (Builtin.«bytes.__ne__» ⟨[.bytes b u, .none], []⟩) (.val (Value.notImplemented)) :=
  .of_wp fun M A E s Q h => by
    obtain ⟨hp, g, d, tk, os⟩ := s
    wp_walk using wpAny_isInstance (typeIs_int _ _ _) PySem.F.sub_int_bytes, wpAny_isInstance (T := "NoneType") rfl PySem.F.sub_NoneType_bytes
    refine wpAny_of_eq PySem.F.sub_NoneType_bytes ?_
    wp_walk
    exact ⟨_, rfl, h⟩
variable {prog : Program} {w : World} {A : Around} {E : Value → Shared → Prop} {s : Shared} {Q : Value → Shared → Prop}
theorem eq_int_bytes {a : Int} {t : Tok} {b : Array UInt8} {u : Tok} (h : Q (.bool false) s) : wpAny (model prog w) A (richCompare .Eq (.int a t) (.bytes b u)) Q E s :=
  wpAny_richCompare_eq_decline (k := false) (fun s' => typeIs_int s' a t) (fun s' => typeIs_bytes s' b u) (by decide) PySem.F.sub_bytes_int PySem.F.slot_int_eq FB.slot_bytes_eq rfl
    (call_gives PySem.F.slot_int_eq (typeIs_int s a t) PySem.F.entry_int_eq (PySem.F.args_int_eq_2 _ _) (gv_int_bytes_eq a t b u)
      ⟨rfl, call_gives FB.slot_bytes_eq (typeIs_bytes s b u) FB.entry_bytes_eq (FB.args_bytes_eq_2 _ _) (gv_bytes_int_eq a t b u) ⟨rfl, h⟩⟩)
theorem eq_bytes_int {a : Int} {t : Tok} {b : Array UInt8} {u : Tok} (h : Q (.bool false) s) : wpAny (model prog w) A (richCompare .Eq (.bytes b u) (.int a t)) Q E s :=
  wpAny_richCompare_eq_decline (k := false) (fun s' => typeIs_bytes s' b u) (fun s' => typeIs_int s' a t) (by decide) PySem.F.sub_int_bytes FB.slot_bytes_eq PySem.F.slot_int_eq_refl rfl
    (call_gives FB.slot_bytes_eq (typeIs_bytes s b u) FB.entry_bytes_eq (FB.args_bytes_eq_2 _ _) (gv_bytes_int_eq a t b u)
      ⟨rfl, call_gives PySem.F.slot_int_eq_refl (typeIs_int s a t) PySem.F.entry_int_eq (PySem.F.args_int_eq_2 _ _) (gv_int_bytes_eq a t b u) ⟨rfl, h⟩⟩)
theorem ne_int_bytes {a : Int} {t : Tok} {b : Array UInt8} {u : Tok} (h : Q (.bool true) s) : wpAny (model prog w) A (richCompare .NotEq (.int a t) (.bytes b u)) Q E s :=
  wpAny_richCompare_ne_decline (k := false) (fun s' => typeIs_int s' a t) (fun s' => typeIs_bytes s' b u) (by decide) PySem.F.sub_bytes_int PySem.F.slot_int_ne FB.slot_bytes_ne rfl
    (call_gives PySem.F.slot_int_ne (typeIs_int s a t) PySem.F.entry_int_ne (PySem.F.args_int_ne_2 _ _) (gv_int_bytes_ne a t b u)
      ⟨rfl, call_gives FB.slot_bytes_ne (typeIs_bytes s b u) FB.entry_bytes_ne (FB.args_bytes_ne_2 _ _) (gv_bytes_int_ne a t b u) ⟨rfl, h⟩⟩)
theorem ne_bytes_int {a : Int} {t : Tok} {b : Array UInt8} {u : Tok} (h : Q (.bool true) s) : wpAny (model prog w) A (richCompare .NotEq (.bytes b u) (.int a t)) Q E s :=
  wpAny_richCompare_ne_decline (k := false) (fun s' => typeIs_bytes s' b u) (fun s' => typeIs_int s' a t) (by decide) PySem.F.sub_int_bytes FB.slot_bytes_ne PySem.F.slot_int_ne_refl rfl
    (call_gives FB.slot_bytes_ne (typeIs_bytes s b u) FB.entry_bytes_ne (FB.args_bytes_ne_2 _ _) (gv_bytes_int_ne a t b u)
      ⟨rfl, call_gives PySem.F.slot_int_ne_refl (typeIs_int s a t) PySem.F.entry_int_ne (PySem.F.args_int_ne_2 _ _) (gv_int_bytes_ne a t b u) ⟨rfl, h⟩⟩)
theorem eq_none_bytes {b : Array UInt8} {u : Tok} (h : Q (.bool false) s) : wpAny (model prog w) A (richCompare .Eq .none (.bytes b u)) Q E s :=
  wpAny_richCompare_eq_decline (k := false) (fun _ => rfl) (fun s' => typeIs_bytes s' b u) (by decide) PySem.F.sub_bytes_NoneType PySem.F.slot_NoneType_eq FB.slot_bytes_eq rfl
    (call_gives PySem.F.slot_NoneType_eq rfl PySem.F.entry_NoneType_eq (PySem.F.args_NoneType_eq_2 _ _) (gv_none_bytes_eq b u)
      ⟨rfl, call_gives FB.slot_bytes_eq (typeIs_bytes s b u) FB.entry_bytes_eq (FB.args_bytes_eq_2 _ _) (gv_bytes_none_eq b u) ⟨rfl, h⟩⟩)
theorem eq_bytes_none {b : Array UInt8} {u : Tok} (h : Q (.bool false) s) : wpAny (model prog w) A (richCompare .Eq (.bytes b u) .none) Q E s :=
  wpAny_richCompare_eq_decline (k := false) (fun s' => typeIs_bytes s' b u) (fun _ => rfl) (by decide) PySem.F.sub_NoneType_bytes FB.slot_bytes_eq PySem.F.slot_NoneType_eq_refl rfl
    (call_gives FB.slot_bytes_eq (typeIs_bytes s b u) FB.entry_bytes_eq (FB.args_bytes_eq_2 _ _) (gv_bytes_none_eq b u)
      ⟨rfl, call_gives PySem.F.slot_NoneType_eq_refl rfl PySem.F.entry_NoneType_eq (PySem.F.args_NoneType_eq_2 _ _) (gv_none_bytes_eq b u) ⟨rfl, h⟩⟩)
theorem ne_none_bytes {b : Array UInt8} {u : Tok} (h : Q (.bool true) s) : wpAny (model prog w) A (richCompare .NotEq .none (.bytes b u)) Q E s :=
  wpAny_richCompare_ne_decline (k := false) (fun _ => rfl) (fun s' => typeIs_bytes s' b u) (by decide) PySem.F.sub_bytes_NoneType PySem.F.slot_NoneType_ne FB.slot_bytes_ne rfl
    (call_gives PySem.F.slot_NoneType_ne rfl PySem.F.entry_NoneType_ne (PySem.F.args_NoneType_ne_2 _ _) (gv_none_bytes_ne b u)
      ⟨rfl, call_gives FB.slot_bytes_ne (typeIs_bytes s b u) FB.entry_bytes_ne (FB.args_bytes_ne_2 _ _) (gv_bytes_none_ne b u) ⟨rfl, h⟩⟩)
theorem ne_bytes_none {b : Array UInt8} {u : Tok} (h : Q (.bool true) s) : wpAny (model prog w) A (richCompare .NotEq (.bytes b u) .none) Q E s :=
  wpAny_richCompare_ne_decline (k := false) (fun s' => typeIs_bytes s' b u) (fun _ => rfl) (by decide) PySem.F.sub_NoneType_bytes FB.slot_bytes_ne PySem.F.slot_NoneType_ne_refl rfl
    (call_gives FB.slot_bytes_ne (typeIs_bytes s b u) FB.entry_bytes_ne (FB.args_bytes_ne_2 _ _) (gv_bytes_none_ne b u)
      ⟨rfl, call_gives PySem.F.slot_NoneType_ne_refl rfl PySem.F.entry_NoneType_ne (PySem.F.args_NoneType_ne_2 _ _) (gv_none_bytes_ne b u) ⟨rfl, h⟩⟩)
theorem eq_PV {v u : Value} {p q : PV} (hv : Is v p) (hq : Is u q) (h : Q (.bool (decide (p = q))) s) : wpAny (model prog w) A (richCompare .Eq v u) Q E s := by
  cases hv with
  | none => cases hq with
    | none => exact PySem.EqNone.eq_none_none (by simpa using h)
    | int i t => exact PySem.EqNone.eq_none_int (by simpa using h)
    | bytes b t => exact eq_none_bytes (by simpa using h)
  | int i t => cases hq with
    | none => exact PySem.EqNone.eq_int_none (by simpa using h)
    | int j u => exact PyProof.Rows.eq_int (by rw [show (i == j) = decide (PV.int i = PV.int j) by rw [Bool.eq_iff_iff]; simp]; exact h)
    | bytes b u => exact eq_int_bytes (by simpa using h)
  | bytes b t => cases hq with
    | none => exact eq_bytes_none (by simpa using h)
    | int j u => exact eq_bytes_int (by simpa using h)
    | bytes c u =>
      refine richCompare_gives (op := .Eq) (T := "bytes") rfl rfl FB.slot_bytes_eq FB.entry_bytes_eq (FB.args_bytes_eq_2 _ _) (gives_bytes_eq _ _ t u) (fun x => nomatch x) ?_
      rw [show (b.toArray.toList == c.toArray.toList) = decide (PV.bytes b = PV.bytes c) by rw [Bool.eq_iff_iff]; simp]; exact h
theorem ne_PV {v u : Value} {p q : PV} (hv : Is v p) (hq : Is u q) (h : Q (.bool (!decide (p = q))) s) : wpAny (model prog w) A (richCompare .NotEq v u) Q E s := by
  cases hv with
  | none => cases hq with
    | none => exact PySem.EqNone.ne_none_none (by simpa using h)
    | int i t => exact PySem.EqNone.ne_none_int (by simpa using h)
    | bytes b t => exact ne_none_bytes (by simpa using h)
  | int i t => cases hq with
    | none => exact PySem.EqNone.ne_int_none (by simpa using h)
    | int j u => exact PyProof.Rows.ne_int (by rw [show (i != j) = !decide (PV.int i = PV.int j) by rw [Bool.eq_iff_iff]; simp [bne]]; exact h)
    | bytes b u => exact ne_int_bytes (by simpa using h)
  | bytes b t => cases hq with
    | none => exact ne_bytes_none (by simpa using h)
    | int j u => exact ne_bytes_int (by simpa using h)
    | bytes c u =>
      refine richCompare_gives (op := .NotEq) (T := "bytes") rfl rfl FB.slot_bytes_ne FB.entry_bytes_ne (FB.args_bytes_ne_2 _ _) (gives_bytes_ne _ _ t u) (fun x => nomatch x) ?_
      rw [show (b.toArray.toList != c.toArray.toList) = !decide (PV.bytes b = PV.bytes c) by rw [Bool.eq_iff_iff]; simp [bne]]; exact h
end
end
section
theorem Is.inj {v : Value} {p q : PV} (h : Is v p) (h' : Is v q) : p = q := by
  cases h <;> cases h' <;> rfl
theorem eqBool_PV {prog : Program} {w : World} {A : Around} {E : Value → Shared → Prop} {s : Shared} {Q : Bool → Shared → Prop} {v u : Value} {p q : PV} (hv : Is v p) (hq : Is u q) (h : Q (decide (p = q)) s) : wpAny (model prog w) A (eqBool v u) Q E s := by
  have hv' := hv
  have hq' := hq
  cases hv <;> cases hq <;> (
    unfold eqBool
    (try with_reducible refine wpAny_holding ?_)
    split
    · rename_i hab
      have e := eq_of_beq hab
      rw [e] at hv'
      rw [decide_eq_true (hv'.inj hq')] at h
      exact wpAny_bind (wpAny_rule (wpAny_pure h))
    · exact wpAny_bind (eq_PV hv' hq' (wpAny_truthy_bool h)))
noncomputable def pvIs : PV → Value → Bool
  | .none, _ => false
  | .int i, v => Value.isInt i v
  | .bytes b, v => isBytes b v
theorem pvIs_shape {k : PV} {v : Value} (h : pvIs k v = true) : Is v k := by
  cases k with
  | none => cases h
  | int i => obtain ⟨t, rfl⟩ := Value.isInt_shape h; exact Is.int _ _
  | bytes b => obtain ⟨t, rfl⟩ := isBytes_shape h; exact Is.bytes _ _
theorem pvIs_of {k : PV} {v : Value} (h : Is v k) (hk : k ≠ .none) : pvIs k v = true := by
  cases h with
  | none => exact (hk rfl).elim
  | int i t => simp [pvIs, Value.isInt]
  | bytes b t => simp [pvIs, isBytes]
noncomputable def pvKind (prog : Program) (w : World) : KeyKind prog w PV where
  is := pvIs
  hash := fun k => match k with
    | .none => 0
    | .int i => hashInt i
    | .bytes b => hashW w.params (.bytes b)
  inj := fun v a b ha hb => (pvIs_shape ha).inj (pvIs_shape hb)
  byValue := fun k v h => by
    have := pvIs_shape h
    cases this <;> rfl
  pyHash := fun {A E s k v Q} hv h => by
    cases k with
    | none => cases hv
    | int i => exact (intKind prog w).pyHash hv h
    | bytes b => exact (bytesKind prog w).pyHash hv h
  eqBool := fun hu hv h => eqBool_PV (pvIs_shape hu) (pvIs_shape hv) h
  «strs» := fun k x t v h => by
    have := pvIs_shape h
    cases this
end
section
/-- the plain dict's content -/
noncomputable def kvsOf (D : List (PV × En)) : List (PV × Value) := D.map fun x => (x.1, x.2.v)
noncomputable def dGet (D : List (PV × En)) (k : PV) : PV := ((D.find? fun x => x.1 = k).map (·.2.p)).getD .none
theorem valueAt_kvs (D : List (PV × En)) (k : PV) : Is ((valueAt (kvsOf D) k).getD .none) (dGet D k) := by
  induction D with
  | nil => exact Is.none
  | cons x r ih =>
    by_cases e : x.1 = k
    · have e1 : valueAt (kvsOf (x :: r)) k = some x.2.v := by simp [valueAt, kvsOf, e]
      have e2 : dGet (x :: r) k = x.2.p := by simp [dGet, e]
      rw [e1, e2]; exact x.2.h
    · have e1 : valueAt (kvsOf (x :: r)) k = valueAt (kvsOf r) k := by simp [valueAt, kvsOf, e]
      have e2 : dGet (x :: r) k = dGet r k := by simp [dGet, e]
      rw [e1, e2]; exact ih
section
variable {w : World} {A : Around} {E : Value → Shared → Prop} {s : Shared} {h₀ : Heap} {L d : Addr} {o : Obj} {Λ : Ledger} {D : List (PV × En)} {k : PV} {key : Value}
theorem plain_method {pl : Sem Bool} {Q : Value × List Value → Shared → Prop} (N : News h₀ L s.heap Λ) (hp : (d, o) ∈ Λ) (hd : o.IsDictOf (pvKind PG w) (kvsOf D)) (h : Q (.builtin "dict.get", [.ref d]) s) : wpAny (model PG w) A (getMethod (.ref d) (Str.ofString "get") pl) Q E s :=
  kdg_method N hp hd h
theorem plain_get {Q : Value → Shared → Prop} (N : News h₀ L s.heap Λ) (hp : (d, o) ∈ Λ) (hd : o.IsDictOf (pvKind PG w) (kvsOf D)) (lo : (d == sysModules) = false) (hkey : Is key k) (hk : k ≠ .none)
    (h : ∀ v, Is v (dGet D k) → Q v { s with toks := s.toks + 1 }) : wpAny (model PG w) A (call (.builtin "dict.get") [.ref d, key]) Q E s :=
  kdg_get1 (knd := pvKind PG w) N hp hd lo (pvIs_of hkey hk) _ rfl (h _ (valueAt_kvs D k))
end
end
section
theorem slot_bytes_lt : Slot "bytes" (Str.ofString "__lt__") "bytes.__lt__" :=
  .of (owner := "bytes") (n := "__lt__") (by rw [typeLookup_type, builtinLookup_eq_fast]; kernel_rfl) (by decide +kernel) (by decide +kernel) (by decide +kernel)
    (by first | exact .inl (by decide +kernel) | exact .inr (by decide +kernel)) (by rw [isSubtype_type]; kernel_rfl)
theorem entry_bytes_lt : entryFor table "bytes.__lt__" = some Builtin.«bytes.__lt__» := entryFor_of_tree (by kernel_rfl)
theorem args_bytes_lt_2 (a b : Value) : argsOk "bytes.__lt__" ⟨[a, b], []⟩ := by
  unfold argsOk; rw [signature?_of (id := "bytes.__lt__") (n := ['_', '_', 't', 'l', '_', '_']) (o := ['s', 'e', 't', 'y', 'b']) (by kernel_rfl) FB.owner_bytes]; kernel_rfl
theorem order_lt : ∀ a b : List UInt8, (Builtin.Bytes.order a b == .lt) = decide (a.map UInt8.toNat < b.map UInt8.toNat)
  | [], [] => by simp [Builtin.Bytes.order]
  | [], _ :: _ => by simp [Builtin.Bytes.order]
  | _ :: _, [] => by simp [Builtin.Bytes.order]
  | x :: a, y :: b => by
    have ih := order_lt a b
    rw [Bool.eq_iff_iff] at ih ⊢
    simp only [decide_eq_true_eq] at ih ⊢
    rw [List.map_cons, List.map_cons, List.cons_lt_cons_iff, ← ih]
    simp only [Builtin.Bytes.order]
    by_cases h1 : x < y
    · simp [h1, UInt8.lt_iff_toNat_lt.mp h1]
    · by_cases h2 : x > y
      · have h3 : y.toNat < x.toNat := UInt8.lt_iff_toNat_lt.mp h2
        have h4 : ¬ x.toNat < y.toNat := by omega
        have h5 : ¬ x.toNat = y.toNat := by omega
        simp [h1, h2, h4, h5]
      · have e : x = y := UInt8.le_antisymm (UInt8.not_lt.mp h2) (UInt8.not_lt.mp h1)
        subst e
        simp
theorem call_bytes_lt {prog : Program} {w : World} {A : Around} {E : Value → Shared → Prop} {s : Shared} {a b : Array UInt8} {t u : Tok} {Q : Value → Shared → Prop} (h : Q (.bool (decide (a.toList.map UInt8.toNat < b.toList.map UInt8.toNat))) s) :
    wpAny (model prog w) A (call (.builtin "bytes.__lt__") [.bytes a t, .bytes b u]) Q E s := by
  refine wpAny_call_entry slot_bytes_lt (typeIs_bytes s a t) entry_bytes_lt ?_ (args_bytes_lt_2 _ _)
  show wpAny _ _ (isInstance (.bytes b u) (.type "bytes") >>= fun r => _) _ E s
  refine wpAny_bind (wpAny_isInstance (typeIs_bytes s b u) PySem.F.sub_bytes_bytes ?_)
  exact wpAny_pure ⟨_, rfl, by rw [← order_lt] at h; exact h⟩
noncomputable abbrev bsKind : PyProof.Rows.KeyKind where
  α := List Nat
  blt a b := decide (a < b)
  irrefl a := by simpa using List.lt_irrefl a
  trans a b c h1 h2 := by simp only [decide_eq_true_eq] at *; exact List.lt_trans h1 h2
  negTrans a b c h := by
    simp only [decide_eq_true_eq] at *
    by_cases hab : a < b
    · exact .inl hab
    · exact .inr (List.lt_of_le_of_lt (List.not_lt.mp hab) h)
  total a b h1 h2 := by simp only [decide_eq_false_iff_not] at *; exact List.le_antisymm (List.not_lt.mp h2) (List.not_lt.mp h1)
  keyOf v := match v with | .bytes x _ => some (x.toList.map UInt8.toNat) | _ => none
  dflt := []
theorem bsKind_oneLt : bsKind.OneLt := by
  intro prog w A E s x y a b Q ha hb h
  cases x <;> simp only [bsKind, reduceCtorEq, Option.some.injEq] at ha
  cases y <;> simp only [bsKind, reduceCtorEq, Option.some.injEq] at hb
  cases ha; cases hb
  rw [oneLt'_eq]
  simp only [if_true]
  refine wpAny_bind (wpAny_cRoomFor_byValue rfl ?_)
  refine wpAny_bind (wpAny_callSpecialIfBound?_slot (typeIs_bytes s _ _) slot_bytes_lt (call_bytes_lt ?_))
  exact wpAny_truthy_bool h
noncomputable def bOf (v : Value) : List UInt8 := (bytesOf v).getD []
noncomputable def AllB (vs : List Value) : Prop := ∀ v ∈ vs, ∃ x t, v = .bytes x t
theorem AllB.of : ∀ {vs : List Value} {bs : List (List UInt8)}, vs.map bytesOf = bs.map some → AllB vs ∧ vs.map bOf = bs
  | [], [], _ => ⟨fun _ h => (nomatch h), rfl⟩
  | [], _ :: _, h => by simp at h
  | _ :: _, [], h => by simp at h
  | v :: vs, b :: bs, h => by
    rw [List.map_cons, List.map_cons] at h
    obtain ⟨h1, h2⟩ := List.cons.inj h
    obtain ⟨t, rfl⟩ := bytesOf_some h1
    obtain ⟨g1, g2⟩ := AllB.of h2
    refine ⟨fun u hu => ?_, ?_⟩
    · rcases List.mem_cons.mp hu with rfl | hu
      · exact ⟨_, _, rfl⟩
      · exact g1 u hu
    · rw [List.map_cons, g2]; rfl
theorem AllB.to {vs : List Value} (h : AllB vs) : vs.map bytesOf = (vs.map bOf).map some := by
  rw [List.map_map]
  refine List.map_congr_left fun v hv => ?_
  obtain ⟨x, t, rfl⟩ := h v hv
  rfl
theorem AllB.keysOf {vs : List Value} (h : AllB vs) : PyProof.Rows.KeysOf bsKind (pairsOf vs) := by
  intro p hp
  rw [pairsOf_toList] at hp
  obtain ⟨x, t, e⟩ := h _ (mem_zip_self hp).2
  exact ⟨x.toList.map UInt8.toNat, by rw [e]⟩
theorem mapM_first_bytes : ∀ {vs : List Value}, AllB vs → vs.mapM firstOfTuple' = pure (vs.map fun _ => none)
  | [], _ => by simp
  | v :: vs, h => by
    obtain ⟨x, t, rfl⟩ := h v (.head _)
    rw [List.mapM_cons, show firstOfTuple' (.bytes x t) = pure none from rfl, mapM_first_bytes fun u hu => h u (.tail _ hu)]; simp
theorem mapM_type_bytes : ∀ {vs : List Value}, AllB vs → vs.mapM typeOf = pure (vs.map fun _ => Value.type "bytes")
  | [], _ => by simp
  | v :: vs, h => by
    obtain ⟨x, t, rfl⟩ := h v (.head _)
    rw [List.mapM_cons, mapM_type_bytes fun u hu => h u (.tail _ hu)]
    show (pure (Value.type "bytes") >>= fun b => pure _ >>= fun bs => pure (b :: bs)) = _
    simp
theorem keyKind_bytes {v₁ v₂ : Value} {vs : List Value} (h : AllB (v₁ :: v₂ :: vs)) : keyKind' (v₁ :: v₂ :: vs).toArray = pure oneType' := by
  rw [keyKind'_eq, List.mapM_toArray, mapM_first_bytes h]
  simp only [map_pure, pure_bind]
  rw [if_neg (by simp), if_neg (by simp)]
  rw [oneTypeOnly'_eq, List.mapM_toArray, mapM_type_bytes h]
  simp only [map_pure, pure_bind]
  have hall : ((List.map (fun _ => Value.type "bytes") (v₁ :: v₂ :: vs)).toArray.all fun x => x == Value.type "bytes") = true := by
    simp only [List.all_toArray, List.all_map, List.all_eq_true]
    intro _ _
    rfl
  have h0 : (List.map (fun _ => Value.type "bytes") (v₁ :: v₂ :: vs)).toArray[0]? = some (Value.type "bytes") := by simp
  rw [h0]
  simp only [hall, if_true, pure_bind, Option.isSome_some]
end
section
noncomputable def nOf (b : List UInt8) : List Nat := b.map UInt8.toNat
theorem nOf_inj : ∀ {a b : List UInt8}, nOf a = nOf b → a = b
  | [], [], _ => rfl
  | [], _ :: _, h => by cases h
  | _ :: _, [], h => by cases h
  | x :: a, y :: b, h => by
    obtain ⟨h1, h2⟩ := List.cons.inj (show x.toNat :: nOf a = y.toNat :: nOf b from h)
    rw [UInt8.toNat_inj.mp h1, nOf_inj h2]
noncomputable def SortedB (l : List (List UInt8)) : Prop := l.Pairwise fun a b => ¬ nOf b < nOf a
theorem KK_bytes {xs : Array Keyed} {i : Nat} (hi : i < xs.size) {x : Array UInt8} {t : Tok} {q : Value} (hx : xs[i] = (.bytes x t, q)) : KK bsKind xs i = x.toList.map UInt8.toNat := by
  unfold KK; rw [getElem?_pos xs i hi, hx]; rfl
theorem sorted_out_bytes {vs : List Value} (hS : AllB vs) {xs : Array Keyed} (hp : xs.Perm (pairsOf vs)) (hs : SortedToK bsKind xs (pairsOf vs).size) :
    AllB (xs.map (·.2)).toList ∧ ((xs.map (·.2)).toList.map bOf).Perm (vs.map bOf) ∧ SortedB ((xs.map (·.2)).toList.map bOf) := by
  have hl : xs.toList.Perm (vs.zip vs) := by rw [← pairsOf_toList]; exact Array.perm_iff_toList_perm.mp hp
  have hmem : ∀ p, p ∈ xs.toList → p.1 = p.2 ∧ p.1 ∈ vs := fun p hp' => mem_zip_self (hl.mem_iff.mp hp')
  have e : (xs.map (·.2)).toList = xs.toList.map (·.1) := by
    rw [Array.toList_map]; exact List.map_congr_left fun p hp' => (hmem p hp').1.symm
  rw [e]
  refine ⟨?_, ?_, ?_⟩
  · intro v hv
    obtain ⟨p, hp', rfl⟩ := List.mem_map.mp hv
    exact hS _ (hmem p hp').2
  · have h1 := (hl.map Prod.fst).map bOf
    rwa [List.map_fst_zip (Nat.le_refl _)] at h1
  · unfold SortedB
    rw [List.pairwise_iff_getElem]
    intro i j hi hj hij
    have hi' : i < xs.size := by simpa using hi
    have hj' : j < xs.size := by simpa using hj
    have h1 := hs i j (Nat.le_of_lt hij) (by rw [← hp.size_eq]; exact hj')
    obtain ⟨x, t, ex⟩ := hS _ (hmem xs[i] (by simp)).2
    obtain ⟨y, u, ey⟩ := hS _ (hmem xs[j] (by simp)).2
    rw [KK_bytes hi' (x := x) (t := t) (q := xs[i].2) (Prod.ext ex rfl), KK_bytes hj' (x := y) (t := u) (q := xs[j].2) (Prod.ext ey rfl)] at h1
    change decide (y.toList.map UInt8.toNat < x.toList.map UInt8.toNat) = false at h1
    simp only [List.getElem_map, Array.getElem_toList]
    rw [show bOf xs[i].1 = x.toList by rw [ex]; rfl, show bOf xs[j].1 = y.toList by rw [ey]; rfl]
    exact of_decide_eq_false h1
theorem sorted_bytes {w : World} {A : Around} {E : Value → Shared → Prop} {s : Shared} {h₀ : Heap} {L : Addr} {m : Str → Option Value} {Λ : Ledger} {l : Addr} {vs : List Value} {n : Nat} {bs : List (List UInt8)} {Q : Value → Shared → Prop}
    (F : Fr h₀ L s.heap m) (N : News h₀ L s.heap Λ) (hm : (l, listOf vs.toArray n) ∈ Λ) (hS : vs.map bytesOf = bs.map some) (h64 : bs.length < 64)
    (h : ∀ D h' vs' bs' e, Fr h₀ L h' m → News h₀ L h' ((D, listOf (List.toArray vs') e) :: Λ) → (∀ p ∈ Λ, p.1 < D) → vs'.map bytesOf = bs'.map some → bs'.Perm bs → SortedB bs' → Q (.ref D) { s with heap := h' }) :
    wpAny (model PG w) A (call (.builtin "sorted") [.ref l]) Q E s := by
  obtain ⟨hA, hB⟩ := AllB.of hS
  have hlen : vs.length = bs.length := by have := congrArg List.length hS; simpa using this
  refine sortedK bsKind_oneLt (isList_of N hm) hA.keysOf (fun v₁ v₂ rest e => keyKind_bytes (by rw [← e]; exact hA)) (by omega) fun st' hp hs => ?_
  obtain ⟨h1, h2, h3⟩ := sorted_out_bytes hA hp hs
  obtain ⟨e, he⟩ := sortedAll_at s.heap vs ((arrOf st').map (·.2))
  refine h _ _ ((arrOf st').map (·.2)).toList _ e (F.kept fun _ _ => sortedAll_old) (N.kept_cons F (fun _ _ => sortedAll_old) (Nat.le_succ _) ?_) (fun p hp => Nat.lt_succ_of_lt (Heap.lt_size (N p hp).1)) h1.to (hB ▸ h2) h3
  rw [Array.toArray_toList]; exact he
theorem sorted_eq {a b : List (List UInt8)} (h : a.Perm b) (ha : SortedB a) (hb : SortedB b) : a = b := by
  refine List.Perm.eq_of_pairwise (fun x y _ _ h1 h2 => nOf_inj ?_) ha hb h
  exact List.le_antisymm (List.not_lt.mp h1) (List.not_lt.mp h2)
end
section
/-- a list of plain values -/
inductive AreP : List Value → List PV → Prop
  | nil : AreP [] []
  | cons {v : Value} {p : PV} {vs : List Value} {ps : List PV} : Is v p → AreP vs ps → AreP (v :: vs) (p :: ps)
theorem AreP.length : ∀ {vs : List Value} {ps : List PV}, AreP vs ps → vs.length = ps.length
  | _, _, .nil => rfl
  | _, _, .cons _ h => by rw [List.length_cons, List.length_cons, h.length]
theorem AreP.at : ∀ {vs : List Value} {ps : List PV}, AreP vs ps → ∀ i (h1 : i < vs.length) (h2 : i < ps.length), Is vs[i] ps[i]
  | _, _, .cons h _, 0, _, _ => h
  | _, _, .cons _ h, i + 1, h1, h2 => h.at i (Nat.lt_of_succ_lt_succ h1) (Nat.lt_of_succ_lt_succ h2)
theorem AreP.snoc : ∀ {vs : List Value} {ps : List PV} {v : Value} {p : PV}, AreP vs ps → Is v p → AreP (vs ++ [v]) (ps ++ [p])
  | _, _, _, _, .nil, h => .cons h .nil
  | _, _, _, _, .cons h0 r, h => .cons h0 (r.snoc h)
theorem AreP.bytes : ∀ {vs : List Value} {bs : List (List UInt8)}, vs.map bytesOf = bs.map some → AreP vs (bs.map PV.bytes)
  | [], [], _ => .nil
  | [], _ :: _, h => by simp at h
  | _ :: _, [], h => by simp at h
  | v :: vs, b :: bs, h => by
    rw [List.map_cons, List.map_cons] at h
    obtain ⟨h1, h2⟩ := List.cons.inj h
    obtain ⟨t, rfl⟩ := bytesOf_some h1
    exact .cons (Is.bytes _ _) (AreP.bytes h2)
section
open PySem.SeqAt
variable {prog : Program} {w : World} {A : Around} {E : Value → Shared → Prop} {s : Shared} {h₀ : Heap} {L l l' : Addr} {Λ : Ledger} {vs us : List Value} {ps : List PV} {n n' : Nat} {Q : Value → Shared → Prop}
theorem all_true {k : Nat} : ((List.range k).all fun _ => true) = true := by simp
theorem lists_at (hv : AreP vs ps) (hq : AreP us ps) : ∀ j (h1 : j < vs.toArray.size) (h2 : j < us.toArray.size), EqAt A.in1 s vs.toArray[j] us.toArray[j] true := by
  intro j h1 h2 prog w E Q h
  have k1 : j < vs.length := by simpa using h1
  have k2 : j < us.length := by simpa using h2
  have k3 : j < ps.length := by rw [← hv.length]; exact k1
  have i1 : Is vs.toArray[j] ps[j] := by simpa using hv.at j k1 k3
  have i2 : Is us.toArray[j] ps[j] := by simpa using hq.at j k2 k3
  exact eqBool_PV i1 i2 (by simpa using h)
theorem lists_eq (N : News h₀ L s.heap Λ) (hm : (l, listOf vs.toArray n) ∈ Λ) (hm' : (l', listOf us.toArray n') ∈ Λ) (hv : AreP vs ps) (hq : AreP us ps) (hu : A.units < cLine) (h : Q (.bool true) s) : wpAny (model prog w) A (compareOp .Eq (.ref l) (.ref l')) Q E s :=
  eq_listAt (e := fun _ => true) (isList_of N hm) (isList_of N hm') (by simp [hv.length, hq.length]) hu (lists_at hv hq) (by rw [all_true]; exact h)
end
end
section
section
open PySem.SeqAt
variable {prog : Program} {w : World} {A : Around} {E : Value → Shared → Prop} {s : Shared} {h₀ : Heap} {L l l' : Addr} {Λ : Ledger} {vs us : List Value} {ps : List PV} {n n' : Nat} {Q : Value → Shared → Prop}
theorem lists_ne (N : News h₀ L s.heap Λ) (hm : (l, listOf vs.toArray n) ∈ Λ) (hm' : (l', listOf us.toArray n') ∈ Λ) (hv : AreP vs ps) (hq : AreP us ps) (hu : A.units < cLine) (h : Q (.bool false) s) : wpAny (model prog w) A (compareOp .NotEq (.ref l) (.ref l')) Q E s :=
  RcNeAt.lists (e := fun _ => true) (isList_of N hm) (isList_of N hm') (by simp [hv.length, hq.length]) hu (lists_at hv hq) prog w E Q (by rw [all_true]; exact h)
theorem mem_at {x : Value} {vs : List Value} {ps : List PV} (hv : AreP vs ps) (h : x ∈ vs) : ∃ p ∈ ps, Is x p := by
  induction hv with
  | nil => cases h
  | cons h1 _ ih =>
    rcases List.mem_cons.mp h with rfl | h
    · exact ⟨_, .head _, h1⟩
    · obtain ⟨p, hp, hi⟩ := ih h; exact ⟨p, .tail _ hp, hi⟩
theorem anyIs {vs : List Value} {ps : List PV} {v : Value} {p : PV} (hv : AreP vs ps) (e : Value → Bool) (he : ∀ y q, Is y q → e y = decide (q = p)) : vs.any e = decide (p ∈ ps) := by
  induction hv with
  | nil => rfl
  | cons h1 _ ih =>
    rename_i y q ys qs _
    rw [List.any_cons, ih, he y q h1]
    by_cases c : q = p
    · subst c; simp
    · have c' : ¬ p = q := fun e => c e.symm
      simp [c, c']
/-- the plain reading of a value, if any -/
noncomputable def pvOf : Value → PV
  | .int i _ => .int i
  | .bytes b _ => .bytes b.toList
  | _ => .none
theorem pvOf_is {v : Value} {p : PV} (h : Is v p) : pvOf v = p := by cases h <;> rfl
theorem word_notIn {v : Value} {p : PV} (N : News h₀ L s.heap Λ) (hm : (l, listOf vs.toArray n) ∈ Λ) (hl : AreP vs ps) (hv : Is v p) (h : Q (.bool (!decide (p ∈ ps))) s) : wpAny (model prog w) A (compareOp .NotIn v (.ref l)) Q E s := by
  refine notIn_listAt (fun y => decide (pvOf y = p)) (isList_of N hm) ?_ ?_
  · intro y hy prog w E Q h
    obtain ⟨q, _, hq⟩ := mem_at hl (by simpa using hy)
    have e : pvOf y = q := pvOf_is hq
    exact eqBool_PV hq hv (by rw [e] at h; exact h)
  · have e : vs.toArray.any (fun y => decide (pvOf y = p)) = decide (p ∈ ps) := by
      rw [List.any_toArray]
      exact anyIs (v := v) hl _ fun y q hy => by rw [pvOf_is hy]
    rw [e]; exact h
theorem cmp_ne_PV {v u : Value} {p q : PV} (hv : Is v p) (hq : Is u q) (h : Q (.bool (!decide (p = q))) s) : wpAny (model prog w) A (compareOp .NotEq v u) Q E s := ne_PV hv hq h
theorem cmp_ne_same {v u : Value} {p : PV} (hv : Is v p) (hq : Is u p) (h : Q (.bool false) s) : wpAny (model prog w) A (compareOp .NotEq v u) Q E s := cmp_ne_PV hv hq (by rw [decide_eq_true (rfl : p = p)]; exact h)
theorem cmp_eq_PV {v u : Value} {p q : PV} (hv : Is v p) (hq : Is u q) (h : Q (.bool (decide (p = q))) s) : wpAny (model prog w) A (compareOp .Eq v u) Q E s := eq_PV hv hq h
end
theorem law_noted_abs {w : World} {T : Tb} {R : Ledger} (O : Own T R) {b : Addr} (hb : T.a = b) {t : PT} (hab : T.abs = t) (h0 : 0 ≤ t.fl) (h1 : t.fl < 32) :
    Runs w 541 [.ref b] (tbObjs w.params T ++ R) 12 fun r Λ' => ∃ a vs, r = .ref a ∧ vs.map bytesOf = (notedF t.fl).map some ∧ Λ' = tbObjs w.params T ++ ((a, listOf (List.toArray vs) vs.length) :: R) ∧ Own T ((a, listOf (List.toArray vs) vs.length) :: R) ∧ ∀ p ∈ R, p.1 ≠ a := by
  subst hab; exact law_noted_own O hb h0 h1
theorem reg_F42_1 : True := by
  k_with "my calls" => ((with_reducible refine (?_ : wpAny _ _ (call (Value.ref 541) _) _ _ _)); k_dflt (refine Runs.use (law_noted_abs (by assumption) (by first | exact rfl | assumption) (by first | assumption | exact rfl) (by assumption) (by assumption)) (by k_asm) (by k_asm) (by k_asm) (by k_extra "my news") (by k_asm) (by first | exact rfl | assumption) (by k_extra "my room") (by k_extra "my units") ?_); k_whole; intro r9 Λ9 h9 tk9 F9 N9 P9; ((refine ex_elim2 P9 fun a9 vs9 P9q1 => ?_; clear P9; refine and_elim5 P9q1 fun P9e2 hv9 P9e4 O9 ho9 => ?_; clear P9q1); subst P9e2; subst P9e4); k_extra "my after")
  k_with "my calls" => ((with_reducible refine (?_ : wpAny _ _ (call (Value.ref 541) _) _ _ _)); k_dflt (refine useG (law_noted_abs (by assumption) (by first | exact rfl | assumption) (by first | assumption | exact rfl) (by assumption) (by assumption)) (by k_asm) (by k_asm) (by k_asm) (by k_extra "my news") (by k_asm) (by k_asm) (by k_extra "my rm") (by exact rfl) ?_); k_whole; intro r9 Λ9 h9 tk9 F9 N9 P9; ((refine ex_elim2 P9 fun a9 vs9 P9q1 => ?_; clear P9; refine and_elim5 P9q1 fun P9e2 hv9 P9e4 O9 ho9 => ?_; clear P9q1); subst P9e2; subst P9e4); k_extra "my after")
  trivial
section
variable {w : World} {A : Around} {E : Value → Shared → Prop} {s : Shared} {h₀ : Heap} {L l l' : Addr} {m : Str → Option Value} {Λ : Ledger} {vs us : List Value} {bs cs : List (List UInt8)} {n n' : Nat} {Q : Value → Shared → Prop}
theorem word_notIn_b {v : Value} {wd : List UInt8} (N : News h₀ L s.heap Λ) (hm : (l, listOf vs.toArray n) ∈ Λ) (hl : vs.map bytesOf = bs.map some) (hv : Is v (.bytes wd)) (h : Q (.bool (!decide (wd ∈ bs))) s) : wpAny (model PG w) A (compareOp .NotIn v (.ref l)) Q E s := by
  refine word_notIn N hm (AreP.bytes hl) hv ?_
  have e : decide (PV.bytes wd ∈ bs.map PV.bytes) = decide (wd ∈ bs) := by
    congr 1
    simp only [List.mem_map, PV.bytes.injEq, exists_eq_right]
  rw [e]; exact h
theorem cat_word {v : Value} {wd : List UInt8} (F : Fr h₀ L s.heap m) (N : News h₀ L s.heap Λ) (hm : (l, listOf vs.toArray n) ∈ Λ) (hm' : (l', listOf #[v] n') ∈ Λ) (hl : vs.map bytesOf = bs.map some) (hv : Is v (.bytes wd)) (hb : bs.length ≤ 60)
    (h : ∀ D vs' h', Fr h₀ L h' m → News h₀ L h' ((D, listOf (List.toArray vs') 0) :: Λ) → (∀ p ∈ Λ, p.1 < D) → vs'.map bytesOf = (bs ++ [wd]).map some → Q (.ref D) { s with heap := h' }) :
    wpAny (model PG w) A (binaryOp .Add (.ref l) (.ref l')) Q E s := by
  have hlen : vs.length = bs.length := by have := congrArg List.length hl; simpa using this
  refine kmk_add_lit F N (isList_of N hm) (isList_of N hm') rfl (fun D h' F' N' l1 => h D (vs ++ [v]) h' F' (by simpa using N') l1 ?_) ?_
  · rw [List.map_append, hl, List.map_append]
    obtain ⟨t, rfl⟩ : ∃ t, v = .bytes wd.toArray t := by cases hv; exact ⟨_, rfl⟩
    simp [bytesOf]
  · rw [sizeLine_eq]
    show (vs.toArray.toList).length + 1 ≤ _
    simp only [List.toList_toArray]; omega
theorem eq_sorted {X Y : List (List UInt8)} (N : News h₀ L s.heap Λ) (hm : (l, listOf vs.toArray n) ∈ Λ) (hm' : (l', listOf us.toArray n') ∈ Λ) (h1 : vs.map bytesOf = bs.map some) (h2 : us.map bytesOf = cs.map some) (p1 : bs.Perm X) (p2 : cs.Perm Y) (p : X.Perm Y) (s1 : SortedB bs) (s2 : SortedB cs) (hu : A.units < cLine)
    (h : Q (.bool true) s) : wpAny (model PG w) A (compareOp .Eq (.ref l) (.ref l')) Q E s := by
  obtain rfl := sorted_eq (p1.trans (p.trans p2.symm)) s1 s2
  exact lists_eq N hm hm' (AreP.bytes h1) (AreP.bytes h2) hu h
theorem notedFrom_len {fl : Int} : ∀ (l : List (List UInt8)) (i : Nat), (notedFrom fl l i).length ≤ l.length
  | [], _ => Nat.le_refl _
  | x :: r, i => by
    have := notedFrom_len (fl := fl) r (i + 1)
    unfold notedFrom
    split
    · simp only [List.length_cons]; omega
    · simp only [List.length_cons]; omega
theorem notedF_len (fl : Int) : (notedF fl).length ≤ 5 := by
  have := notedFrom_len (fl := fl) (EVS.take 5) 0
  have e : (EVS.take 5).length = 5 := rfl
  unfold notedF; omega
end
end

theorem reg_at_F43 : True := by
  k_with "getMethod ref" => ((k_here; (with_reducible refine (?_ : wpAny _ _ (getMethod (Value.ref _) (Str.ofString "get") _) _ _ _)); k_dflt (refine' plain_method ?Nq9 ?mq9 ?dq9 ?_; (case Nq9 => k_asm); (case mq9 => k_extra "my in"); (case dq9 => assumption))))
  k_with "call builtin:dict.get" => ((k_here; k_dflt (refine' plain_get ?Nq9 ?mq9 ?dq9 ?loq9 ?kq9 ?k0q9 ?_; (case Nq9 => k_asm); (case mq9 => k_extra "my in"); (case dq9 => assumption); (case loq9 => assumption); (case kq9 => k_extra "my is"); (case k0q9 => (intro hno; cases hno))); intro vg9 hg9; (try k_sweep)))
  k_with "compareOp NotEq" => ((k_here; k_dflt (first | (refine' cmp_ne_same ?vq9 ?qq9 ?_; (case vq9 => k_extra "my is"); (case qq9 => k_extra "my is"); k_whole) | (refine' cmp_ne_PV ?vq9 ?qq9 ?_; (case vq9 => k_extra "my is"); (case qq9 => k_extra "my is"); k_whole))))
  k_with "compareOp NotIn" => ((k_here; k_dflt (refine' word_notIn_b ?Nq9 ?mq9 ?lq9 ?vq9 ?_; (case Nq9 => k_asm); (case mq9 => k_extra "my in"); (case lq9 => assumption); (case vq9 => k_extra "my is"); k_whole)))
  k_with "call builtin:sorted" => ((k_here; k_dflt (refine' sorted_bytes ?Fq9 ?Nq9 ?mq9 ?lq9 ?zq9 ?_; (case Fq9 => k_asm); (case Nq9 => k_asm); (case mq9 => k_extra "my in"); (case lq9 => assumption); (case zq9 => first | (first | with_reducible assumption | exact le_mil (by with_reducible assumption) | omega) | (simp only [List.length_append, List.length_cons, List.length_nil]; (first | with_reducible assumption | exact le_mil (by with_reducible assumption) | omega))); intro Dq9 hq9 vq9 bq9 eq9 Fq9 Nq9 lq9 hvq9 hpq9 hsq9; (try k_sweep))))
  k_with "binaryOp Add ref ref" => ((k_here; k_dflt (refine' cat_word ?Fq9 ?Nq9 ?mq9 ?m2q9 ?lq9 ?vq9 ?zq9 ?_; (case Fq9 => k_asm); (case Nq9 => k_asm); (case mq9 => k_extra "my in"); (case m2q9 => k_extra "my in"); (case lq9 => assumption); (case vq9 => k_extra "my is"); (case zq9 => (first | with_reducible assumption | exact le_mil (by with_reducible assumption) | omega)); intro Dc9 vc9 hc9 Fc9 Nc9 lc9 hvc9; (try k_sweep))))
  k_with "compareOp Eq ref ref" => ((k_here; k_dflt (refine' eq_sorted ?Nq9 ?mq9 ?m2q9 ?h1q9 ?h2q9 ?p1q9 ?p2q9 ?pq9 ?s1q9 ?s2q9 ?uq9 ?_; (case Nq9 => k_asm); (case mq9 => k_extra "my in"); (case m2q9 => k_extra "my in"); (case h1q9 => assumption); (case h2q9 => assumption); (case p1q9 => assumption); (case p2q9 => assumption); (case pq9 => first | assumption | exact List.Perm.refl _); (case s1q9 => assumption); (case s2q9 => assumption); (case uq9 => ktr_units); k_whole)))
  trivial
section
theorem reg_F43_1 : True := by
  k_with "my sub" => (intro p hp; simp only [List.mem_append, List.mem_cons] at hp ⊢; rcases hp with h | h <;> simp only [h, true_or, or_true])
  trivial
theorem reg_F43_2 : True := by
  k_with "my in" => (repeat (first | assumption | exact List.Mem.head _ | apply List.mem_append_right | apply List.mem_cons_of_mem))
  trivial
theorem GF43.onF43 : True := trivial
open GF43
theorem reg_F43_3 : True := by
  k_with "my ite" => ((fail_if_success (fail_if_success (have g9 := onF43))); first | k_extra "my ite0" | (refine ite_neg (by decide) ?_) | (refine ite_pos (by decide) ?_) | refine myStop ?_)
  trivial
set_option maxHeartbeats 500000 in
theorem law_asked_spec {w : World} {T : Tb} {R : Ledger} (O : Own T R) {b g pd : Addr} (hb : T.a = b) {o : Obj} {D : List (PV × En)} (hpd : (pd, o) ∈ R) (hdd : o.IsDictOf (pvKind PG w) (kvsOf D)) (lo : (pd == sysModules) = false)
    {v : Value} {wd : List UInt8} (hv : Is v (.bytes wd)) (hl : wd.length < 32) {j : Nat} (hj : EVS.findIdx? (fun x => decide (x = wd)) = some j) (hn : T.ns.length ≤ 64) (h0 : 0 ≤ T.abs.fl) (h1 : T.abs.fl < 32) {t' : PT} (hr : fastF T.abs (.bytes wd) j = some (dGet D (.bytes wd), t'))
    (h2 : 0 ≤ t'.fl) (h3 : t'.fl < 32) (hperm : (notedF t'.fl).Perm (if dGet D (.bytes wd) = .none ∧ (j : Int) < 5 ∧ wd ∉ notedF T.abs.fl then notedF T.abs.fl ++ [wd] else notedF T.abs.fl)) :
    Runs w 553 [.ref g, .ref b, .ref pd, v] (tbObjs w.params T ++ R) 40 fun r Λ' => r = .bool true ∧ NKPost w.params b R t' Λ' := by
  have hl1 := notedF_len T.abs.fl
  have hl2 := notedF_len t'.fl
  k_extra "my enter"; w_strict (k_extra "my steps")
  refine MyStop.go ?_
  by_cases c1 : dGet D (.bytes wd) = .none
  · have d1 : decide (dGet D (.bytes wd) = PV.none) = true := decide_eq_true c1
    w_strict (k_extra "my steps")
    refine MyStop.go ?_
    by_cases c2 : (j : Int) < 5
    · w_strict (k_extra "my steps")
      refine MyStop.go ?_
      by_cases c3 : wd ∈ notedF T.abs.fl
      · have d3 : (!decide (wd ∈ notedF T.abs.fl)) = false := by rw [decide_eq_true c3]; rfl
        rw [if_neg fun h => h.2.2 c3] at hperm
        w_strict (k_extra "my steps")
        all_goals (
          (rename News _ _ _ _ => N7)
          exact hret _ (tbObjs w.params T9 ++ R) _ _ (by k_asm) (News.sub N7 (by k_extra "my sub")) ⟨rfl, T9, ha9, hab9, rfl, O9.sub fun _ hp => .tail _ (.tail _ hp)⟩)
      · have d3 : (!decide (wd ∈ notedF T.abs.fl)) = true := by rw [decide_eq_false c3]; rfl
        rw [if_pos ⟨c1, c2, c3⟩] at hperm
        w_strict (k_extra "my steps")
        all_goals (
          (rename News _ _ _ _ => N7)
          exact hret _ (tbObjs w.params T9 ++ R) _ _ (by k_asm) (News.sub N7 (by k_extra "my sub")) ⟨rfl, T9, ha9, hab9, rfl, O9.sub fun _ hp => .tail _ (.tail _ hp)⟩)
    · rw [if_neg fun h => c2 h.2.1] at hperm
      w_strict (k_extra "my steps")
      all_goals (
          (rename News _ _ _ _ => N7)
          exact hret _ (tbObjs w.params T9 ++ R) _ _ (by k_asm) (News.sub N7 (by k_extra "my sub")) ⟨rfl, T9, ha9, hab9, rfl, O9.sub fun _ hp => .tail _ (.tail _ hp)⟩)
  · have d1 : decide (dGet D (.bytes wd) = PV.none) = false := decide_eq_false c1
    rw [if_neg fun h => c1 h.1] at hperm
    w_strict (k_extra "my steps")
    all_goals (
          (rename News _ _ _ _ => N7)
          exact hret _ (tbObjs w.params T9 ++ R) _ _ (by k_asm) (News.sub N7 (by k_extra "my sub")) ⟨rfl, T9, ha9, hab9, rfl, O9.sub fun _ hp => .tail _ (.tail _ hp)⟩)
theorem reg_F43_4 : True := by
  k_with "my calls" => ((with_reducible refine (?_ : wpAny _ _ (call (Value.ref 553) _) _ _ _)); k_dflt (refine Runs.use (law_asked_spec (by assumption) (by first | exact rfl | assumption) (by k_extra "my in") (by assumption) (by assumption) (by k_extra "my is") (by assumption) (by assumption) (by omega) (by assumption) (by assumption) (by assumption) (by assumption) (by assumption) (by assumption)) (by k_asm) (by k_asm) (by k_asm) (by k_extra "my news") (by k_asm) (by first | exact rfl | assumption) (by k_extra "my room") (by k_extra "my units") ?_); k_whole; intro r9 Λ9 h9 tk9 F9 N9 P9; ((refine and_elim2 P9 fun P9e0 P9q1 => ?_; clear P9; refine ex_elim1 P9q1 fun T9 P9q2 => ?_; clear P9q1; refine and_elim4 P9q2 fun ha9 hab9 P9e4 O9 => ?_; clear P9q2); subst P9e0; subst P9e4); k_extra "my after")
  k_with "my calls" => ((with_reducible refine (?_ : wpAny _ _ (call (Value.ref 553) _) _ _ _)); k_dflt (refine useG (law_asked_spec (by assumption) (by first | exact rfl | assumption) (by k_extra "my in") (by assumption) (by assumption) (by k_extra "my is") (by assumption) (by assumption) (by omega) (by assumption) (by assumption) (by assumption) (by assumption) (by assumption) (by assumption)) (by k_asm) (by k_asm) (by k_asm) (by k_extra "my news") (by k_asm) (by k_asm) (by k_extra "my rm") (by exact rfl) ?_); k_whole; intro r9 Λ9 h9 tk9 F9 N9 P9; ((refine and_elim2 P9 fun P9e0 P9q1 => ?_; clear P9; refine ex_elim1 P9q1 fun T9 P9q2 => ?_; clear P9q1; refine and_elim4 P9q2 fun ha9 hab9 P9e4 O9 => ?_; clear P9q2); subst P9e0; subst P9e4); k_extra "my after")
  trivial
end
section
section
open PyProof.Rows.LCg
variable {prog : Program} {w : World} {A : Around} {E : Value → Shared → Prop} {s : Shared} {h₀ : Heap} {L : Addr} {m : Str → Option Value} {env : Env}
theorem comp_block0 {elt iter target : PySem.Expr} {scope : Scope} {cl : List (Str × Addr)} {pos : Pos} {s₂ : Shared} {I : Addr} {fp wr : List Addr} {n : Nat} {P Md : Nat → Value → Heap → Prop} {St : Nat → Heap → Prop} {news : Ledger} {B : Nat → (Str → Option Value) → Prop}
    {J : Nat → List Value → Ledger → Prop} {RR : Value → Addr → Result → Shared → Prop}
    (W : KTurns prog w A target I fp wr n P Md St) (hsz : n ≤ sizeLine) (hlive : ∀ i h, St i h → ∀ b ∈ wr, ∃ o, h.get? b = some o)
    (hself : ∀ (s : Shared) (Q : Value → Shared → Prop) (E : Value → Shared → Prop), St 0 s.heap → Q (.ref I) s → wpAny (model prog w) A (pyIter (.ref I)) Q E s)
    (hasg : ∀ i v C (s : Shared) m' (Q : Unit → Shared → Prop) (E : Value → Shared → Prop), P i v s.heap → s.heap.Ns C m' →
      (∀ h' tk m'', h'.Ns C m'' → B i m'' → (∀ b o, b ≠ C → s.heap.get? b = some o → h'.get? b = some o) → Q () { s with heap := h', toks := tk }) → wpAny (model prog w) A (assign target (compEnvC scope cl C env) v) Q E s)
    (hcell : ∀ y ∈ scope.names, y.2 ≠ .cell) (hkind : scope.kind = .function) (hst : St 0 s₂.heap) (hfp : ∀ b ∈ fp, b < s₂.heap.objs.size)
    (F : Fr h₀ L s₂.heap m) (N : News h₀ L s₂.heap news) (hLf : L ∉ fp) (hwr : ∀ b ∈ wr, h₀.get? b = none) (off : ∀ p ∈ news, p.1 ∉ wr) (hJ : J 0 [] news)
    (step : ∀ i ys news' own C oC D m₂ h tk (E' : Value → Shared → Prop), i < n → J i ys news' → B i m₂ → NsObj oC m₂ → Fr h₀ L h m → News h₀ L h (own ++ (C, oC) :: (D, lst ys) :: news') → (∀ p ∈ news', p.1 ∉ wr ∧ p.1 ≠ C ∧ p.1 ≠ D) → (∀ p ∈ own, p.1 ∈ fp) → (∀ b ∈ wr, ∃ o, (b, o) ∈ own) → @Ne Nat C D →
      wpAny (model prog w) A (eval elt (compEnvC scope cl C env)) (CEnd h₀ L m { s₂ with heap := h, toks := tk } own C oC D ys wr fun y news'' => J (i + 1) (ys ++ [y]) news'') E' { s₂ with heap := h, toks := tk })
    (hRR : ∀ D C h tk m' ys news', Fr h₀ L h m → News h₀ L h ((D, lst ys) :: news') → Off1 D news' → h.Ns C m' → h₀.get? C = none → h₀.get? D = none → C ≠ L → D ≠ L → C ≠ D → (∀ p ∈ news', p.1 ≠ C) → J n ys news' → RR (.ref D) C (.ok .next) { s₂ with heap := h, toks := tk }) :
    wpAny (model prog w) A (newList []) (fun acc s₃ => wpAny (model prog w) A (newFunctionEnv scope env.globals cl [] env.qual none .none (some env)) (fun cenv s₄ =>
      codeAny (model prog w) A (.compStart (.ListComp elt [⟨target, iter, [], 0⟩] scope pos) 0 (.ref I) acc { cenv with scope := relabel scope env }) (RR acc cenv.locals) s₄) E s₃) E s₂ := by
  refine wpAny_newObj_type (wpAny_newFunctionEnv hcell (by intro y hy; simp at hy) (fun h₁ hns₁ hsb₁ => ?_) hkind)
  dsimp only at hns₁ hsb₁ ⊢
  generalize hH2 : s₂.heap.push { cls := .type "list", dict := none, data := .seq ([] : List Value).toArray } = H2 at hns₁ hsb₁ ⊢
  have hC : H2.objs.size = s₂.heap.objs.size + 1 := by rw [← hH2, Heap.size_push]
  have hDC : s₂.heap.objs.size ≠ H2.objs.size := by rw [hC]; exact Nat.ne_of_lt (Nat.lt_succ_self _)
  have below : ∀ b, b < s₂.heap.objs.size → b ≠ H2.objs.size ∧ b ≠ s₂.heap.objs.size := fun b hb => ⟨by rw [hC]; exact Nat.ne_of_lt (Nat.lt_succ_of_lt hb), Nat.ne_of_lt hb⟩
  have hDf : s₂.heap.objs.size ∉ fp := fun hm => Nat.lt_irrefl _ (hfp _ hm)
  have hCf : H2.objs.size ∉ fp := fun hm => by have := hfp _ hm; rw [hC] at this; exact Nat.lt_irrefl _ (Nat.lt_of_succ_lt this)
  have old : ∀ b o, s₂.heap.get? b = some o → h₁.get? b = some o := fun b o e => hsb₁.extBut b o (below b (Heap.lt_size e)).1 (Heap.get?_push_of_some _ (hH2 ▸ Heap.get?_push_of_some _ e))
  have hacc : h₁.get? s₂.heap.objs.size = some (lst []) := hsb₁.extBut _ _ hDC (Heap.get?_push_of_some _ (hH2 ▸ Heap.get?_push_size _ rfl))
  have hst₁ : St 0 h₁ := W.frame _ _ _ hst fun b _ o e => old b o e
  have fresh : ∀ a, s₂.heap.objs.size ≤ a → s₂.heap.get? a = none := fun a ha => by
    cases e : s₂.heap.get? a with
    | none => rfl
    | some o' => exact absurd (Heap.lt_size e) (Nat.not_lt.mpr ha)
  have fresh₀ : ∀ a, s₂.heap.objs.size ≤ a → h₀.get? a = none := fun a ha => by
    cases e : h₀.get? a with
    | none => rfl
    | some o' => have := F.keep a o' e; rw [fresh a ha] at this; cases this
  have hD₀ : h₀.get? s₂.heap.objs.size = none := fresh₀ _ (Nat.le_refl _)
  have hC₀ : h₀.get? H2.objs.size = none := fresh₀ _ (by rw [hC]; exact Nat.le_succ _)
  have hLlt : L < s₂.heap.objs.size := F.ns.lt
  have hDL : s₂.heap.objs.size ≠ L := Ne.symm (below L hLlt).2
  have hCL : H2.objs.size ≠ L := Ne.symm (below L hLlt).1
  have hLw : L ∉ wr := fun h => hLf (W.sub _ h)
  have hCw : H2.objs.size ∉ wr := fun h => hCf (W.sub _ h)
  have hDw : s₂.heap.objs.size ∉ wr := fun h => hDf (W.sub _ h)
  have oldw : ∀ b o, h₀.get? b = some o → b ∉ wr := fun b o e hb => by rw [hwr b hb] at e; cases e
  have off₀ : ∀ p ∈ news, p.1 ∉ wr ∧ p.1 ≠ H2.objs.size ∧ p.1 ≠ s₂.heap.objs.size := fun p hp => ⟨off p hp, (below _ (Heap.lt_size (N p hp).1)).1, (below _ (Heap.lt_size (N p hp).1)).2⟩
  have loop : ∀ s₃ : Shared, s₃ = { s₂ with heap := h₁, toks := s₂.toks + ([] : List (Str × Value)).length } →
      codeAny (model prog w) A (.compLoop (.ListComp elt [⟨target, iter, [], 0⟩] scope pos) 0 (.ref I) (.ref s₂.heap.objs.size) (compEnvC scope cl H2.objs.size env))
        (RR (.ref s₂.heap.objs.size) H2.objs.size) s₃ := by
    rintro s₃ rfl
    refine kcp_loop
      (fun k s' => ∃ h' tk i ys m' news', s' = { s₂ with heap := h', toks := tk } ∧ i ≤ n ∧ k = n + 1 - i ∧ ys.length ≤ i ∧ St i h' ∧ Fr h₀ L h' m ∧ h'.Ns H2.objs.size m' ∧
        News h₀ L h' ((s₂.heap.objs.size, lst ys) :: news') ∧ (∀ p ∈ news', p.1 ∉ wr ∧ p.1 ≠ H2.objs.size ∧ p.1 ≠ s₂.heap.objs.size) ∧ J i ys news') ?_ (n + 1)
      ⟨h₁, _, 0, [], _, news, rfl, Nat.zero_le _, rfl, Nat.le_refl _, hst₁, F.keeps old, hns₁, fun p hp => ?_, off₀, hJ⟩
    · rintro k s' ⟨h', tk, i, ys, m', news', rfl, hi, rfl, hyl, hst', F', hn', N', off', hJ'⟩
      by_cases hlt : i < n
      · refine W.item i _ _ _ hlt hst' fun v h₂ tk₂ hMd hk₂ => ?_
        refine W.go i v _ _ _ hMd fun h₃ hP hst₃ hk₃ => ?_
        have up₃ : ∀ c o, c ∉ wr → h'.get? c = some o → h₃.get? c = some o := fun c o hc e => hk₃ c o hc (hk₂ c o hc e)
        refine hasg i v H2.objs.size _ _ _ _ hP (hn'.at' fun o e => up₃ _ o hCw e) fun h₄ tk₄ m₂ hn₄ hB hk₄ => ?_
        have up : ∀ c o, c ∉ wr → c ≠ H2.objs.size → h'.get? c = some o → h₄.get? c = some o := fun c o h1 h2 e => hk₄ c o h2 (up₃ c o h1 e)
        have hst₄ : St (i + 1) h₄ := W.frame _ _ _ hst₃ fun b hb o e => hk₄ b o (fun q => hCf (q ▸ hb)) e
        obtain ⟨oC, heC, hoC⟩ := ns_obj hn₄
        have F₄ : Fr h₀ L h₄ m := ⟨F'.ns.at' fun o e => up _ o hLw (Ne.symm hCL) e, fun c o e => up c o (oldw c o e) (fun q => by rw [q, hC₀] at e; cases e) (F'.keep c o e), F'.above⟩
        have Nown : News h₀ L h₄ (PyProof.Rows.ownOf h₀ fp h₄) := news_ownOf hLf
        have N₄ : News h₀ L h₄ (PyProof.Rows.ownOf h₀ fp h₄ ++ (H2.objs.size, oC) :: (s₂.heap.objs.size, lst ys) :: news') := fun q hq => by
          rcases List.mem_append.mp hq with hq | hq
          · exact Nown q hq
          rcases List.mem_cons.mp hq with rfl | hq
          · exact ⟨heC, hCL, hC₀⟩
          have z := N' q hq
          refine ⟨up _ _ ?_ ?_ z.1, z.2⟩
          · rcases List.mem_cons.mp hq with rfl | hq
            · exact hDw
            · exact (off' q hq).1
          · rcases List.mem_cons.mp hq with rfl | hq
            · exact hDC
            · exact (off' q hq).2.1
        have keepSt : ∀ (h₅ : Heap) (l : Ledger), Fr h₀ L h₅ m → News h₀ L h₅ (PyProof.Rows.ownOf h₀ fp h₄ ++ l) → St (i + 1) h₅ := fun h₅ l F₅ N₅ => W.frame _ _ _ hst₄ fun b hb o e => by
          cases hn : h₀.get? b with
          | some o₀ =>
            have : o₀ = o := by have q := F₄.keep b o₀ hn; rw [e] at q; exact (Option.some.inj q).symm
            exact this ▸ F₅.keep b o₀ hn
          | none => exact (N₅ _ (List.mem_append_left _ (mem_ownOf hb hn e))).1
        refine wpAny_mono (step i ys news' _ H2.objs.size oC s₂.heap.objs.size _ h₄ tk₄ _ hlt hJ' hB hoC F₄ N₄ off' ownOf_sub (fun b hb => by obtain ⟨o, e⟩ := hlive _ _ hst₄ b hb; exact ⟨o, mem_ownOf (W.sub b hb) (hwr b hb) e⟩) (Ne.symm hDC)) (fun y s₆ h₆ => ?_) fun _ _ e => e
        have J79 := h₆; (try clear h₆); ((refine ex_elim3 J79 fun h₅ tk₅ news₅ J79q1 => ?_; clear J79; refine and_elim5 J79q1 fun J79e3 F₅ N₅ off₅ J₅ => ?_; clear J79q1); subst J79e3)
        have zC := (N₅ (H2.objs.size, oC) (List.mem_append_right _ (.head _))).1
        have zD := (N₅ (s₂.heap.objs.size, lst ys) (List.mem_append_right _ (.tail _ (.head _)))).1
        have hst₅ := keepSt _ _ F₅ N₅
        refine append_at (hsz := by show ys.toArray.size ≤ sizeLine; rw [List.size_toArray]; exact Nat.le_trans hyl (Nat.le_trans hi hsz)) zD fun h₆ hs₆ hD₆ => ?_
        refine ⟨n + 1 - (i + 1), by omega, h₆, tk₅, i + 1, ys ++ [y], _, news₅, rfl, hlt, rfl, by rw [List.length_append, List.length_singleton]; exact Nat.succ_le_succ hyl, W.frame _ _ _ hst₅ fun b hb o e => hs₆.extBut b o (fun q => hDf (q ▸ hb)) e, F₅.change hs₆ hDL hD₀, (hoC.ns zC).sameBut hs₆ (Ne.symm hDC), fun q hq => ?_, off₅, J₅⟩
        rcases List.mem_cons.mp hq with rfl | hq
        · exact ⟨hD₆.trans (congrArg some (lst_snoc ys y)), hDL, hD₀⟩
        · have z := N₅ q (List.mem_append_right _ (.tail _ (.tail _ hq)))
          exact ⟨hs₆.extBut _ _ (off₅ q hq).2.2 z.1, z.2⟩
      · have hin : i = n := Nat.le_antisymm hi (Nat.not_lt.mp hlt)
        subst hin
        refine W.done _ _ _ hst' fun h₂ tk₂ hk₂ => ?_
        have F₂ : Fr h₀ L h₂ m := ⟨F'.ns.at' fun o e => hk₂ _ o hLw e, fun b o e => hk₂ b o (oldw b o e) (F'.keep b o e), F'.above⟩
        refine hRR _ _ h₂ tk₂ _ ys news' F₂ (fun p hp => ⟨hk₂ _ _ ?_ (N' p hp).1, (N' p hp).2⟩) (off1_of fun p hp => (off' p hp).2.2) (hn'.at' fun o e => hk₂ _ o hCw e) hC₀ hD₀ hCL hDL (Ne.symm hDC) (fun p hp => (off' p hp).2.1) hJ'
        rcases List.mem_cons.mp hp with rfl | hp
        · exact hDw
        · exact (off' p hp).1
    · rcases List.mem_cons.mp hp with rfl | hp
      · exact ⟨hacc, hDL, hD₀⟩
      · exact ⟨old _ _ (N p hp).1, (N p hp).2⟩
  exact codeAny_compStart_list (loop _ rfl) (hself _ _ _ hst₁ (loop _ rfl))
/-- a comprehension's turns, at its iterator -/
noncomputable def CAt0 (prog : Program) (w : World) (A : Around) (h₀ : Heap) (L : Addr) (m : Str → Option Value) (env : Env) (elt target : PySem.Expr) (scope : Scope) (cl : List (Str × Addr)) (Fin : Shared → List Value → Ledger → Prop) (it : Value) (s₂ : Shared) : Prop :=
  ∃ (I : Addr) (fp wr : List Addr) (n : Nat) (P Md : Nat → Value → Heap → Prop) (St : Nat → Heap → Prop) (news : Ledger) (B : Nat → (Str → Option Value) → Prop) (J : Nat → List Value → Ledger → Prop),
    it = .ref I ∧ KTurns prog w A target I fp wr n P Md St ∧ n ≤ sizeLine ∧ (∀ i h, St i h → ∀ b ∈ wr, ∃ o, h.get? b = some o) ∧
    (∀ (s : Shared) (Q : Value → Shared → Prop) (E : Value → Shared → Prop), St 0 s.heap → Q (.ref I) s → wpAny (model prog w) A (pyIter (.ref I)) Q E s) ∧
    (∀ i v C (s : Shared) m' (Q : Unit → Shared → Prop) (E : Value → Shared → Prop), P i v s.heap → s.heap.Ns C m' →
      (∀ h' tk m'', h'.Ns C m'' → B i m'' → (∀ b o, b ≠ C → s.heap.get? b = some o → h'.get? b = some o) → Q () { s with heap := h', toks := tk }) → wpAny (model prog w) A (assign target (compEnvC scope cl C env) v) Q E s) ∧
    St 0 s₂.heap ∧ (∀ b ∈ fp, b < s₂.heap.objs.size) ∧ Fr h₀ L s₂.heap m ∧ News h₀ L s₂.heap news ∧ L ∉ fp ∧ (∀ b ∈ wr, h₀.get? b = none) ∧ (∀ p ∈ news, p.1 ∉ wr) ∧ J 0 [] news ∧
    (∀ i ys news' own C oC D m₂ h tk (E' : Value → Shared → Prop), i < n → J i ys news' → B i m₂ → NsObj oC m₂ → Fr h₀ L h m → News h₀ L h (own ++ (C, oC) :: (D, lst ys) :: news') → (∀ p ∈ news', p.1 ∉ wr ∧ p.1 ≠ C ∧ p.1 ≠ D) → (∀ p ∈ own, p.1 ∈ fp) → (∀ b ∈ wr, ∃ o, (b, o) ∈ own) → @Ne Nat C D →
      wpAny (model prog w) A (eval elt (compEnvC scope cl C env)) (CEnd h₀ L m { s₂ with heap := h, toks := tk } own C oC D ys wr fun y news'' => J (i + 1) (ys ++ [y]) news'') E' { s₂ with heap := h, toks := tk }) ∧
    (∀ ys news', J n ys news' → Fin s₂ ys news')
theorem comp_expr0 {elt iter target : PySem.Expr} {scope : Scope} {cl : List (Str × Addr)} {pos : Pos} {Q : Value → Shared → Prop} (_F₀ : Fr h₀ L s.heap m)
    (hclos : closureFor scope env = pure cl) (hcell : ∀ y ∈ scope.names, y.2 ≠ .cell) (hkind : scope.kind = .function) (hnames : ∀ y ∈ scope.names, y.2 = .local → scope.names.lookup y.1 = some .local)
    (h : wpAny (model prog w) A (eval iter env) (fun xv s₁ => wpAny (model prog w) A (pyIter xv) (CAt0 prog w A h₀ L m env elt target scope cl fun s₂ => FinE h₀ L m s₂ Q) E s₁) E s)
    (hs : ∀ x, foldedSetIterable iter env x = pure x := by intro _; rfl) :
    wpAny (model prog w) A (eval (.ListComp elt [⟨target, iter, [], 0⟩] scope pos) env) Q E s := by
  rw [eval_ListComp]
  refine wpAny_comprehension_free (use := none) rfl hs hclos hkind hnames (wpAny_mono h (fun xv s₁ h₁ => wpAny_mono h₁ (fun it s₂ h₂ => ?_) fun _ _ e => e) fun _ _ e => e)
  have J79 := h₂; (try clear h₂); ((refine ex_elim10 J79 fun I fp wr n P Md St news B J J79q1 => ?_; clear J79; refine and_elim12 J79q1 fun J79e10 W hsz hlive hself hasg hst hfp F N hLf J79q2 => ?_; clear J79q1; refine and_elim5 J79q2 fun hwr off hJ step hfin => ?_; clear J79q2); subst J79e10)
  refine comp_block0 W hsz hlive hself hasg hcell hkind hst hfp F N hLf hwr off hJ step ?_
  intro D C h tk m' ys news' F' N' o1 hn hC₀ hD₀ hCL hDL hCD offC fin
  refine ⟨m', hn, fun h'' hs'' => hfin _ _ fin D h'' tk (F'.change hs'' hCL hC₀) (fun p hp => ?_) o1⟩
  refine ⟨hs''.extBut _ _ ?_ (N' p hp).1, (N' p hp).2⟩
  rcases List.mem_cons.mp hp with rfl | hp
  · exact Ne.symm hCD
  · exact offC p hp
/-- over a list, with a test -/
theorem comp_list {elt c : PySem.Expr} {scope : Scope} {cl : List (Str × Addr)} {xn : Str} {px : Pos} {l : Addr} {its : Array Value} {k : Nat} {news : Ledger} {Fin : Shared → List Value → Ledger → Prop} (hh : A.handled = none)
    (hx : scope.names.lookup xn = some .local) (hkind : scope.kind = .function) (F : Fr h₀ L s.heap m) (N : News h₀ L s.heap news) (hm : (l, listOf its k) ∈ news) (hsz : its.size ≤ sizeLine) (J : Nat → List Value → Ledger → Prop) (hJ : J 0 [] news)
    (step : ∀ (s₂ : Shared) i ys news' own C oC D m₂ h tk wr (E' : Value → Shared → Prop) x, its[i]? = some x → J i ys news' → m₂ xn = some x → NsObj oC m₂ → Fr h₀ L h m → News h₀ L h (own ++ (C, oC) :: (D, lst ys) :: news') → (∀ p ∈ news', p.1 ∉ wr ∧ p.1 ≠ C ∧ p.1 ≠ D) → (∀ b ∈ wr, ∃ o, (b, o) ∈ own) → (∀ p ∈ own, p.1 ∈ wr ∨ p.1 = l) → @Ne Nat C D →
      wpAny (model prog w) A (isTrue c (compEnvC scope cl C env) (eval c (compEnvC scope cl C env))) (fun ok s₃ => if ok = true then
        wpAny (model prog w) A (eval elt (compEnvC scope cl C env)) (CEnd h₀ L m { s₂ with heap := h, toks := tk } own C oC D ys wr fun y news'' => J (i + 1) (ys ++ [y]) news'') E' s₃
        else CEnd h₀ L m { s₂ with heap := h, toks := tk } own C oC D ys wr (fun _ news'' => J (i + 1) ys news'') .none s₃) E' { s₂ with heap := h, toks := tk })
    (hfin : ∀ h ys news', J its.size ys news' → Fin { s with heap := h } ys news') :
    wpAny (model prog w) A (pyIter (.ref l)) (CAt prog w A h₀ L m env c elt (.Name xn px) scope cl Fin) E s := by
  have hax := N _ hm
  have hT : s.heap.IsList l its := ⟨_, hax.1, rfl, _, rfl⟩
  have hlt : l < s.heap.objs.size := Heap.lt_size hax.1
  have hLs : L < s.heap.objs.size := F.ns.lt
  refine wpAny_pyIter_list hT ?_
  have hk : ∀ b o, s.heap.get? b = some o → (s.heap.push { cls := .type "list_iterator", data := .fields #[.ref l, .int 0 0] }).get? b = some o := fun b o e => Heap.get?_push_of_some _ e
  have hI : (s.heap.push { cls := .type "list_iterator", data := .fields #[.ref l, .int 0 0] }).IsListIter s.heap.objs.size l 0 := ⟨_, Heap.get?_push_size _ rfl, rfl, rfl⟩
  have W := KTurns.ofWalks (target := .Name xn px) (Walks.list (prog := prog) (w := w) (A := A) hh s.heap.objs.size l (Nat.ne_of_lt hlt) its) fun i v s Q E st hQ => letGo_listiter st.1 hQ
  refine ⟨_, _, _, its.size, _, _, _, news, fun i m'' => ∃ x, its[i]? = some x ∧ m'' xn = some x, J, rfl, W, hsz, ?_, ?_, ?_, ⟨hI, hT.at fun o e => hk l o e⟩, ?_, F.keeps hk, N.grown hk, ?_, ?_, ?_, hJ, ?_, hfin _⟩
  · rintro i h ⟨⟨oi, hoi, _⟩, _⟩ b hb
    have hb' : b = s.heap.objs.size := by simpa using hb
    subst hb'
    exact ⟨_, hoi⟩
  · rintro s' Q' E' ⟨hit, _⟩ hQ
    exact wpAny_pyIter_listiter hit hQ
  · rintro i v C s' m' Q' E' hv hn hQ
    refine wpAny_assign_Name (wpAny_storeName_local (lookup_relabel_local hx) hn (fun h₄ hn₄ hs₄ => ?_) (by simp [compEnvC, relabel, hkind]))
    exact hQ h₄ _ _ hn₄ ⟨v, hv, by simp⟩ fun b o hb z => hs₄.extBut b o hb z
  · intro b hb
    have hb' : b = s.heap.objs.size ∨ b = l := by simpa using hb
    show b < (s.heap.push _).objs.size
    rw [Heap.size_push]
    rcases hb' with rfl | rfl
    · exact Nat.lt_succ_self _
    · exact Nat.lt_succ_of_lt hlt
  · intro hI'
    have hb' : L = s.heap.objs.size ∨ L = l := by simpa using hI'
    rcases hb' with e | e
    · exact Nat.ne_of_lt hLs e
    · exact hax.2.1 e.symm
  · intro b hb
    have hb' : b = s.heap.objs.size := by simpa using hb
    subst hb'
    exact ktu_new F (Nat.le_refl _)
  · intro p hp hI'
    have hb' : p.1 = s.heap.objs.size := by simpa using hI'
    exact Nat.ne_of_lt (Heap.lt_size (N p hp).1) hb'
  · rintro i ys news' own C oC D m₂ h tk E' hin hJ' ⟨x, hx, ha⟩ hC F₄ N₄ off' hown hfull hCD
    refine step _ i ys news' own C oC D m₂ h tk _ E' x hx hJ' ha hC F₄ N₄ off' hfull (fun p hp => ?_) hCD
    have := hown p hp
    have h2 : p.1 = s.heap.objs.size ∨ p.1 = l := by simpa using this
    rcases h2 with e | e
    · left; simp [e]
    · exact .inr e
/-- over a dict's keys, without a test -/
theorem comp_dict {K : Type} [DecidableEq K] {knd : KeyKind prog w K} {kvs : List (K × Value)} {elt : PySem.Expr} {scope : Scope} {cl : List (Str × Addr)} {xn : Str} {px : Pos} {l : Addr} {od : Obj} {news : Ledger} {Fin : Shared → List Value → Ledger → Prop} (hh : A.handled = none)
    (hx : scope.names.lookup xn = some .local) (hkind : scope.kind = .function) (F : Fr h₀ L s.heap m) (N : News h₀ L s.heap news) (hm : (l, od) ∈ news) (hod : od.IsDictOf knd kvs) (lo : (l == sysModules) = false) (hsz : kvs.length ≤ sizeLine) (J : Nat → List Value → Ledger → Prop) (hJ : J 0 [] news)
    (step : ∀ (s₂ : Shared) i ys news' own C oC D m₂ h tk wr (E' : Value → Shared → Prop) x y v, kvs[i]? = some (x, y) → knd.is x v = true → J i ys news' → m₂ xn = some v → NsObj oC m₂ → Fr h₀ L h m → News h₀ L h (own ++ (C, oC) :: (D, lst ys) :: news') → (∀ p ∈ news', p.1 ∉ wr ∧ p.1 ≠ C ∧ p.1 ≠ D) → (∀ b ∈ wr, ∃ o, (b, o) ∈ own) → (∀ p ∈ own, p.1 ∈ wr ∨ p.1 = l) → @Ne Nat C D →
      wpAny (model prog w) A (eval elt (compEnvC scope cl C env)) (CEnd h₀ L m { s₂ with heap := h, toks := tk } own C oC D ys wr fun y news'' => J (i + 1) (ys ++ [y]) news'') E' { s₂ with heap := h, toks := tk })
    (hfin : ∀ h ys news', J kvs.length ys news' → Fin { s with heap := h } ys news') :
    wpAny (model prog w) A (pyIter (.ref l)) (CAt0 prog w A h₀ L m env elt (.Name xn px) scope cl Fin) E s := by
  have hax := N _ hm
  obtain ⟨es, ep, hod⟩ := hod
  have hT : s.heap.DictAt knd l kvs ep := ⟨od, es, hax.1, hod⟩
  have hlt : l < s.heap.objs.size := Heap.lt_size hax.1
  have hLs : L < s.heap.objs.size := F.ns.lt
  refine wpAny_pyIter_dict lo hT ?_
  generalize hio : ({ cls := .type "dict_keyiterator", data := .fields #[.ref l, .int 0 0, .int kvs.length 0, .int ep 0] } : Obj) = io
  have hk : ∀ b o, s.heap.get? b = some o → (s.heap.push io).get? b = some o := fun b o e => Heap.get?_push_of_some _ e
  have hI : (s.heap.push io).IsKeyIter s.heap.objs.size l 0 kvs.length ep := ⟨_, Heap.get?_push_size _ (by rw [← hio]; rfl), by rw [← hio], by rw [← hio]; rfl⟩
  have W := KTurns.ofWalks (target := .Name xn px) (Walks.dictKeys (knd := knd) (A := A) hh s.heap.objs.size l (Nat.ne_of_lt hlt) kvs ep) fun i v s Q E st hQ => letGo_keyiter st.1 hQ
  refine ⟨_, _, _, kvs.length, _, _, _, news, fun i m'' => ∃ x y v, kvs[i]? = some (x, y) ∧ knd.is x v = true ∧ m'' xn = some v, J, rfl, W, hsz, ?_, ?_, ?_, ⟨hI, hT.at' fun o e => hk l o e⟩, ?_, F.keeps hk, N.grown hk, ?_, ?_, ?_, hJ, ?_, hfin _⟩
  · rintro i h ⟨⟨oi, hoi, _⟩, _⟩ b hb
    have hb' : b = s.heap.objs.size := by simpa using hb
    subst hb'
    exact ⟨_, hoi⟩
  · rintro s' Q' E' ⟨hit, _⟩ hQ
    exact wpAny_pyIter_keyiter hit hQ
  · rintro i v C s' m' Q' E' ⟨x, y, hxy, hv⟩ hn hQ
    refine wpAny_assign_Name (wpAny_storeName_local (lookup_relabel_local hx) hn (fun h₄ hn₄ hs₄ => ?_) (by simp [compEnvC, relabel, hkind]))
    exact hQ h₄ _ _ hn₄ ⟨x, y, v, hxy, hv, by simp⟩ fun b o hb z => hs₄.extBut b o hb z
  · intro b hb
    have hb' : b = s.heap.objs.size ∨ b = l := by simpa using hb
    show b < (s.heap.push _).objs.size
    rw [Heap.size_push]
    rcases hb' with rfl | rfl
    · exact Nat.lt_succ_self _
    · exact Nat.lt_succ_of_lt hlt
  · intro hI'
    have hb' : L = s.heap.objs.size ∨ L = l := by simpa using hI'
    rcases hb' with e | e
    · exact Nat.ne_of_lt hLs e
    · exact hax.2.1 e.symm
  · intro b hb
    have hb' : b = s.heap.objs.size := by simpa using hb
    subst hb'
    exact ktu_new F (Nat.le_refl _)
  · intro p hp hI'
    have hb' : p.1 = s.heap.objs.size := by simpa using hI'
    exact Nat.ne_of_lt (Heap.lt_size (N p hp).1) hb'
  · rintro i ys news' own C oC D m₂ h tk E' hin hJ' ⟨x, y, v, hxy, hv, ha⟩ hC F₄ N₄ off' hown hfull hCD
    refine step _ i ys news' own C oC D m₂ h tk _ E' x y v hxy hv hJ' ha hC F₄ N₄ off' hfull (fun p hp => ?_) hCD
    have := hown p hp
    have h2 : p.1 = s.heap.objs.size ∨ p.1 = l := by simpa using this
    rcases h2 with e | e
    · left; simp [e]
    · exact .inr e
end
end
section
section
variable {prog : Program} {w : World} {A : Around} {E : Value → Shared → Prop} {s : Shared} {env : Env} {h₀ : Heap} {x : Str} {body : List Stmt} {Q : Flow → Shared → Prop}
theorem for_tuple {l : Addr} {vs : List Value} {n : Nat} {m₀ : Str → Option Value} {Λ₀ : Ledger} (J : Nat → (Str → Option Value) → Ledger → Prop) (hh : A.handled = none) (F : Fr h₀ env.locals s.heap m₀) (N : News h₀ env.locals s.heap Λ₀) (hm : (l, { cls := .type "tuple", data := .seq vs.toArray n }) ∈ Λ₀) (hj : J 0 m₀ Λ₀)
    (turn : ∀ i v m₁ Λ₁ h tk own I, vs[i]? = some v → J i m₁ Λ₁ → (∀ p ∈ Λ₁, p.1 ∉ [I]) → (∃ oI, (I, oI) ∈ own) → (∀ p ∈ own, p.1 = I ∨ p.1 = l) → Fr h₀ env.locals h (fun y => if y = x then some v else m₁ y) → News h₀ env.locals h (own ++ Λ₁) →
      wpAny (model prog w) A (execs body env) (LoopStepV h₀ env.locals [I] own (J (i + 1)) { s with heap := h, toks := tk } (fun v s' => Q (.ret v) s') fun s' => Q .next s') E { s with heap := h, toks := tk })
    (done : ∀ m₁ Λ₁ h tk, J vs.length m₁ Λ₁ → Fr h₀ env.locals h m₁ → News h₀ env.locals h Λ₁ → Q .next { s with heap := h, toks := tk }) :
    wpAny (model prog w) A (pyIter (.ref l)) (fun it s₂ => LoopAtV prog w A h₀ env x body Q E it s₂) E s := by
  have hls : s.heap.IsTuple l vs.toArray := ⟨_, (N _ hm).1, rfl, _, rfl⟩
  have hLl : env.locals ≠ l := fun e => (N _ hm).2.1 e.symm
  have hne : l ≠ s.heap.objs.size := Nat.ne_of_lt (Heap.lt_size (N _ hm).1)
  have hLn : env.locals ≠ s.heap.objs.size := Nat.ne_of_lt F.ns.lt
  have h0n : h₀.get? s.heap.objs.size = none := by
    cases q : h₀.get? s.heap.objs.size with
    | none => rfl
    | some o => exact absurd (Heap.lt_size (F.keep _ _ q)) (Nat.lt_irrefl _)
  refine wpAny_pyIter_tuple hls ?_
  have W := Walks.tuple (prog := prog) (w := w) hh s.heap.objs.size l hne vs.toArray
  refine ⟨_, _, _, vs.toArray.size, _, _, m₀, Λ₀, J, rfl, W, ?_, ?_, ?_, ⟨⟨_, Heap.get?_push_size _ rfl, rfl, rfl⟩, hls.at fun o e => Heap.get?_push_of_some _ e⟩, F.push _, (fun p hp => ⟨Heap.get?_push_of_some _ (N p hp).1, (N p hp).2⟩), hj, ?_, ?_⟩
  · intro hm'
    rcases List.mem_cons.mp hm' with e | hm'
    · exact hLn e
    · exact hLl (List.mem_singleton.mp hm')
  · intro b hb
    rw [List.mem_singleton.mp hb]; exact h0n
  · intro p hp hI
    exact absurd (Heap.lt_size (N p hp).1) ((List.mem_singleton.mp hI) ▸ Nat.lt_irrefl _)
  · rintro i v m₁ news₁ s₁ own ⟨hh', tk', rfl⟩ hin hP hJ hoff hfp _ hown hst F₁ N₁
    obtain ⟨oI, hoI, _⟩ := hst.1
    exact turn i v m₁ news₁ hh' tk' own _ (by simpa using hP) hJ hoff ⟨oI, hown _ (.head _) h0n oI hoI⟩ (fun p hp => by simpa using hfp p hp) F₁ N₁
  · intro h' tk m' news' F' N' _ hJ
    exact done m' news' h' tk (by simpa using hJ) F' N'
end
section
variable {w : World} {A : Around} {E : Value → Shared → Prop} {s : Shared} {h₀ : Heap} {L d v : Addr} {m : Str → Option Value} {Λ : Ledger} {o : Obj} {D : List (PV × En)}
theorem plain_values_method {pl : Sem Bool} {Q : Value × List Value → Shared → Prop} (N : News h₀ L s.heap Λ) (hp : (d, o) ∈ Λ) (hd : o.IsDictOf (pvKind PG w) (kvsOf D)) (h : Q (.builtin "dict.values", [.ref d]) s) : wpAny (model PG w) A (getMethod (.ref d) (Str.ofString "values") pl) Q E s :=
  kdl_method (knd := pvKind PG w) PySem.F.slot_dict_values PySem.F.type_dict_values N hp hd h
theorem plain_values {Q : Value → Shared → Prop} (F : Fr h₀ L s.heap m) (N : News h₀ L s.heap Λ) (hp : (d, o) ∈ Λ) (hd : o.IsDictOf (pvKind PG w) (kvsOf D)) (lo : (d == sysModules) = false)
    (h : ∀ (X : Addr) h', Fr h₀ L h' m → News h₀ L h' ((X, { cls := .type "dict_values", data := .fields #[.ref d] }) :: Λ) → (∀ q ∈ Λ, q.1 < X) → Q (.ref X) { s with heap := h' }) :
    wpAny (model PG w) A (call (.builtin "dict.values") [.ref d]) Q E s := kdl_view_values (knd := pvKind PG w) F N hp hd lo h
theorem list_values {Q : Value → Shared → Prop} (hh : A.handled = none) (F : Fr h₀ L s.heap m) (N : News h₀ L s.heap Λ) (hv : (v, { cls := .type "dict_values", data := .fields #[.ref d] }) ∈ Λ) (hp : (d, o) ∈ Λ) (hd : o.IsDictOf (pvKind PG w) (kvsOf D)) (hn : D.length ≤ 64)
    (h : ∀ (B : Addr) c h' tk, Fr h₀ L h' m → News h₀ L h' ((B, listOf ((kvsOf D).map (·.2)).toArray c) :: Λ) → (∀ q ∈ Λ, q.1 < B) → Q (.ref B) { s with heap := h', toks := tk }) :
    wpAny (model PG w) A (call (.type "list") [.ref v]) Q E s := kdl_list_valuesP (knd := pvKind PG w) hh F N hv hp hd (by unfold kvsOf; rw [List.length_map]; omega) h
theorem vals_AreP : ∀ D : List (PV × En), AreP ((kvsOf D).map (·.2)) (D.map (·.2.p))
  | [] => .nil
  | x :: r => .cons x.2.h (vals_AreP r)
theorem pair_get0 {value slice : PySem.Expr} {c d' : Value} {k : Nat} {u : Tok} {l : Addr} {Q : Value → Shared → Prop} (N : News h₀ L s.heap Λ) (hm : (l, listOf #[c, d'] k) ∈ Λ) (h : Q c s) (hs : subscripted slice false (.ref l) (.int 0 u) = operate [.ref l, .int 0 u] (getItem (.ref l) (.int 0 u))) : wpAny (model PG w) A (subscriptTail value slice (.ref l) (.int 0 u)) Q E s := by
  have hl := isList_of N hm
  exact tail_any hl.typeIs slot_list_getitem.lookup (wpAny_getItem_list hl (by decide) (by decide) rfl h) hs
theorem pair_get1 {value slice : PySem.Expr} {c d' : Value} {k : Nat} {u : Tok} {l : Addr} {Q : Value → Shared → Prop} (N : News h₀ L s.heap Λ) (hm : (l, listOf #[c, d'] k) ∈ Λ) (h : Q d' s) (hs : subscripted slice false (.ref l) (.int 1 u) = operate [.ref l, .int 1 u] (getItem (.ref l) (.int 1 u))) : wpAny (model PG w) A (subscriptTail value slice (.ref l) (.int 1 u)) Q E s := by
  have hl := isList_of N hm
  exact tail_any hl.typeIs slot_list_getitem.lookup (wpAny_getItem_list hl (by decide) (by decide) rfl h) hs
theorem get_text_own {T : Tb} {R : Ledger} (O : Own T R) {b : Addr} (hb : T.a = b) {v : Value} {p : PV} (hv : Is v p) (hp : p.key) (hn : T.ns.length ≤ 64) {fuel : Nat} {r : PV} (hr : getAny (T.ns.map Nd.abs) p fuel = some r) :
    Runs w 335 [.ref b, v] (tbObjs w.params T ++ R) 12 fun r' Λ' => tbObjs w.params T ++ R = Λ' ∧ Is r' r := by
  subst hb; exact get_text_spec hv hp HasTab.left hn hr
theorem get_int_own {T : Tb} {R : Ledger} (O : Own T R) {b : Addr} (hb : T.a = b) {x : Int} {t : Tok} (hn : T.ns.length ≤ 64) (he : T.es.length ≤ 64) {fuel : Nat} {r : PV} (hr : getInt (T.es.map (·.p)) (T.ns.map Nd.abs) x fuel = some r) :
    Runs w 328 [.ref b, .int x t] (tbObjs w.params T ++ R) 12 fun r' Λ' => tbObjs w.params T ++ R = Λ' ∧ Is r' r := by
  subst hb; exact get_int_spec HasTab.left hn he hr
theorem tm_by_value_own {V T : Tb} {R : Ledger} (O : Own T R) {g b c : Addr} (hb : T.a = b) (hc : V.a = c) (hV : HasTab w.params V R) (hm : V.mt = some b) {v : Value} {p : PV} (hv : Is v p) (hp : p.key) (hn : T.ns.length ≤ 64) {fuel : Nat} {r : PV} (hr : getAny (T.ns.map Nd.abs) p fuel = some r) :
    Runs w 522 [.ref g, .ref c, v] (tbObjs w.params T ++ R) 20 fun r' Λ' => tbObjs w.params T ++ R = Λ' ∧ Is r' r :=
  tm_by_value_spec hc (fun p hp => List.mem_append_right _ (hV p hp)) HasTab.left (hb ▸ hm) hv hp hn hr
end
theorem reg_F45_1 : True := by
  k_with "my calls" => ((with_reducible refine (?_ : wpAny _ _ (call (Value.ref 335) _) _ _ _)); k_dflt (refine Runs.use (get_text_own (by assumption) (by first | exact rfl | assumption) (by k_extra "my is") (by k_extra "my key") (by omega) (by assumption)) (by k_asm) (by k_asm) (by k_asm) (by k_extra "my news") (by k_asm) (by first | exact rfl | assumption) (by k_extra "my room") (by k_extra "my units") ?_); k_whole; intro r9 Λ9 h9 tk9 F9 N9 P9; ((refine and_elim2 P9 fun P9e0 hr9 => ?_; clear P9); subst P9e0); k_extra "my after")
  k_with "my calls" => ((with_reducible refine (?_ : wpAny _ _ (call (Value.ref 335) _) _ _ _)); k_dflt (refine useK (get_text_own (by assumption) (by first | exact rfl | assumption) (by k_extra "my is") (by k_extra "my key") (by omega) (by assumption)) (by k_asm) (by k_asm) (by k_asm) (by k_extra "my news") (by k_asm) (by k_asm) (by k_extra "my rm") (by exact rfl) ?_); k_whole; intro r9 h9 tk9 F9 N9 hr9; k_extra "my after")
  trivial
theorem reg_F45_2 : True := by
  k_with "my calls" => ((with_reducible refine (?_ : wpAny _ _ (call (Value.ref 328) _) _ _ _)); k_dflt (refine Runs.use (get_int_own (by assumption) (by first | exact rfl | assumption) (by omega) (by omega) (by assumption)) (by k_asm) (by k_asm) (by k_asm) (by k_extra "my news") (by k_asm) (by first | exact rfl | assumption) (by k_extra "my room") (by k_extra "my units") ?_); k_whole; intro r9 Λ9 h9 tk9 F9 N9 P9; ((refine and_elim2 P9 fun P9e0 hr9 => ?_; clear P9); subst P9e0); k_extra "my after")
  k_with "my calls" => ((with_reducible refine (?_ : wpAny _ _ (call (Value.ref 328) _) _ _ _)); k_dflt (refine useK (get_int_own (by assumption) (by first | exact rfl | assumption) (by omega) (by omega) (by assumption)) (by k_asm) (by k_asm) (by k_asm) (by k_extra "my news") (by k_asm) (by k_asm) (by k_extra "my rm") (by exact rfl) ?_); k_whole; intro r9 h9 tk9 F9 N9 hr9; k_extra "my after")
  trivial
theorem reg_F45_3 : True := by
  k_with "my calls" => ((with_reducible refine (?_ : wpAny _ _ (call (Value.ref 522) _) _ _ _)); k_dflt (refine Runs.use (tm_by_value_own (by assumption) (by assumption) (by assumption) (by assumption) (by assumption) (by k_extra "my is") (by k_extra "my key") (by omega) (by assumption)) (by k_asm) (by k_asm) (by k_asm) (by k_extra "my news") (by k_asm) (by first | exact rfl | assumption) (by k_extra "my room") (by k_extra "my units") ?_); k_whole; intro r9 Λ9 h9 tk9 F9 N9 P9; ((refine and_elim2 P9 fun P9e0 hr9 => ?_; clear P9); subst P9e0); k_extra "my after")
  k_with "my calls" => ((with_reducible refine (?_ : wpAny _ _ (call (Value.ref 522) _) _ _ _)); k_dflt (refine useK (tm_by_value_own (by assumption) (by assumption) (by assumption) (by assumption) (by assumption) (by k_extra "my is") (by k_extra "my key") (by omega) (by assumption)) (by k_asm) (by k_asm) (by k_asm) (by k_extra "my news") (by k_asm) (by k_asm) (by k_extra "my rm") (by exact rfl) ?_); k_whole; intro r9 h9 tk9 F9 N9 hr9; k_extra "my after")
  trivial
theorem cells2 {P : Params} {T : Tb} {R : Ledger} {x y : Addr × Obj} {h₀ h : Heap} {L L1 : Addr} (O : Own T R) (N : News h₀ L h (x :: y :: (tbObjs P T ++ R))) (lc : ∀ p ∈ tbObjs P T ++ R, p.1 < L1) (hx : L1 ≤ x.1) (hy : L1 ≤ y.1) :
    ∃ R' : Ledger, News h₀ L h (tbObjs P T ++ R') ∧ Own T R' ∧ x ∈ R' ∧ y ∈ R' ∧ ∀ p ∈ R, p ∈ R' := by
  refine ⟨x :: y :: R, News.sub N fun p hp => ?_, ?_, .head _, .tail _ (.head _), fun p hp => .tail _ (.tail _ hp)⟩
  · simp only [List.mem_append, List.mem_cons] at hp ⊢; rcases hp with h | h | h | h <;> simp [h]
  · have key : ∀ z : Addr × Obj, L1 ≤ z.1 → ∀ p ∈ tbObjs P T, p.1 ≠ z.1 := fun z hz p hp e => by
      have := lc p (List.mem_append_left _ hp)
      rw [e] at this
      exact Nat.lt_irrefl _ (Nat.lt_of_lt_of_le this hz)
    exact (O.add (P := P) (key y hy)).add (P := P) (key x hx)
theorem tup_own {P : Params} {T : Tb} {R Λ : Ledger} {t : Addr} {ot : Obj} {h₀ h : Heap} {L : Addr} (N : News h₀ L h ((t, ot) :: Λ)) (l1 : ∀ p ∈ Λ, p.1 < t) (O : Own T R) (hs : ∀ p ∈ tbObjs P T ++ R, p ∈ Λ) :
    ∃ R' : Ledger, News h₀ L h (tbObjs P T ++ R') ∧ Own T R' ∧ (t, ot) ∈ R' ∧ ∀ p ∈ R, p ∈ R' := by
  refine ⟨(t, ot) :: R, News.sub N fun p hp => ?_, O.add (P := P) fun p hp => Nat.ne_of_lt (l1 p (hs p (List.mem_append_left _ hp))), .head _, fun p hp => .tail _ hp⟩
  rcases List.mem_append.mp hp with hp | hp
  · exact .tail _ (hs p (List.mem_append_left _ hp))
  · rcases List.mem_cons.mp hp with rfl | hp
    · exact .head _
    · exact .tail _ (hs p (List.mem_append_right _ hp))
theorem compare_same_abs {w : World} {V1 V2 T : Tb} {R : Ledger} (O : Own T R) {b c d g : Addr} (h1 : V1.a = c) (h2 : V2.a = d) (hV1 : HasTab w.params V1 R) (hV2 : HasTab w.params V2 R) (hm1 : V1.mt = some b) (hm2 : V2.mt = some b) (hb : T.a = b) {v : Value} {wd : List UInt8} (hv : Is v (.bytes wd)) (hp : wd.length < 32) {j : Nat} (hj : EVS.findIdx? (fun x => decide (x = wd)) = some j) {t : PT} (hab : T.abs = t) (hn : t.ns.length ≤ 64) {r : PV} {t' : PT} (hr : fastF t (.bytes wd) j = some (r, t')) :
    Runs w 529 [.ref g, .ref c, .ref d, v] (tbObjs w.params T ++ R) 24 fun r' Λ' => Is r' r ∧ NKPost w.params b R t' Λ' := by
  subst hab
  exact compare_same O hb h1 h2 hV1 hV2 hm1 hm2 hv hp hj (by simpa [Tb.abs] using hn) hr
theorem reg_F45_4 : True := by
  k_with "my calls" => ((with_reducible refine (?_ : wpAny _ _ (call (Value.ref 529) _) _ _ _)); k_dflt (refine Runs.use (compare_same_abs (by assumption) (by assumption) (by assumption) (by assumption) (by assumption) (by assumption) (by assumption) (by first | exact rfl | assumption) (by k_extra "my is") (by assumption) (by assumption) (by assumption) (by assumption) (by assumption)) (by k_asm) (by k_asm) (by k_asm) (by k_extra "my news") (by k_asm) (by first | exact rfl | assumption) (by k_extra "my room") (by k_extra "my units") ?_); k_whole; intro r9 Λ9 h9 tk9 F9 N9 P9; ((refine and_elim2 P9 fun hr9 P9q1 => ?_; clear P9; refine ex_elim1 P9q1 fun T9 P9q2 => ?_; clear P9q1; refine and_elim4 P9q2 fun ha9 hab9 P9e4 O9 => ?_; clear P9q2); subst P9e4); k_extra "my after")
  k_with "my calls" => ((with_reducible refine (?_ : wpAny _ _ (call (Value.ref 529) _) _ _ _)); k_dflt (refine useG (compare_same_abs (by assumption) (by assumption) (by assumption) (by assumption) (by assumption) (by assumption) (by assumption) (by first | exact rfl | assumption) (by k_extra "my is") (by assumption) (by assumption) (by assumption) (by assumption) (by assumption)) (by k_asm) (by k_asm) (by k_asm) (by k_extra "my news") (by k_asm) (by k_asm) (by k_extra "my rm") (by exact rfl) ?_); k_whole; intro r9 Λ9 h9 tk9 F9 N9 P9; ((refine and_elim2 P9 fun hr9 P9q1 => ?_; clear P9; refine ex_elim1 P9q1 fun T9 P9q2 => ?_; clear P9q1; refine and_elim4 P9q2 fun ha9 hab9 P9e4 O9 => ?_; clear P9q2); subst P9e4); k_extra "my after")
  trivial
theorem bs_at {vs : List Value} {bs : List (List UInt8)} {i : Nat} {x : Value} (h : vs.map bytesOf = bs.map some) (hx : (vs.toArray)[i]? = some x) : ∃ wd ∈ bs, ∃ t, x = .bytes wd.toArray t := by
  have h2 := congrArg (·[i]?) h
  simp only [List.getElem?_map] at h2
  have hx' : vs[i]? = some x := by simpa using hx
  rw [hx'] at h2
  cases hw : bs[i]? with
  | none => rw [hw] at h2; cases h2
  | some wd =>
    rw [hw] at h2
    exact ⟨wd, List.mem_of_getElem? hw, bytesOf_some (Option.some.inj h2)⟩
theorem hastab_news {P : Params} {T : Tb} {h₀ h : Heap} {L : Addr} {Λ : Ledger} (_ : News h₀ L h Λ) (hs : ∀ p ∈ tbObjs P T, p ∈ Λ) : HasTab P T Λ := hs
theorem kvs_at {D : List (PV × En)} {i : Nat} {x : PV} {y : Value} (h : (kvsOf D)[i]? = some (x, y)) : ∃ e, D[i]? = some (x, e) ∧ (x, e) ∈ D := by
  unfold kvsOf at h
  rw [List.getElem?_map] at h
  obtain ⟨⟨x', e⟩, h1, h2⟩ := Option.map_eq_some_iff.mp h
  obtain ⟨rfl, _⟩ := Prod.mk.inj h2
  exact ⟨e, h1, List.mem_of_getElem? h1⟩
theorem take_snoc {D : List (PV × En)} {i : Nat} {x : PV} {e : En} (h : D[i]? = some (x, e)) : (D.take (i + 1)).map (fun y => y.2.p) = (D.take i).map (fun y => y.2.p) ++ [e.p] := by
  rw [List.take_add_one, h, List.map_append]; rfl
end

theorem reg_at_F46 : True := by
  k_with "getMethod ref" => ((k_here; (with_reducible refine (?_ : wpAny _ _ (getMethod (Value.ref _) (Str.ofString "values") _) _ _ _)); k_dflt (refine' plain_values_method ?Nq9 ?mq9 ?dq9 ?_; (case Nq9 => k_asm); (case mq9 => k_extra "my in"); (case dq9 => assumption))))
  k_with "call builtin:dict.values" => ((k_here; k_dflt (refine' plain_values ?Fq9 ?Nq9 ?mq9 ?dq9 ?loq9 ?_; (case Fq9 => k_asm); (case Nq9 => k_asm); (case mq9 => k_extra "my in"); (case dq9 => assumption); (case loq9 => assumption); intro Dv9 hv9 Fv9 Nv9 lv9; (try k_sweep))))
  k_with "call type:list" => ((k_here; k_dflt (refine' list_values ?hhq9 ?Fq9 ?Nq9 ?mq9 ?pq9 ?dq9 ?zq9 ?_; (case hhq9 => rfl); (case Fq9 => k_asm); (case Nq9 => k_asm); (case mq9 => k_extra "my in"); (case pq9 => k_extra "my in"); (case dq9 => assumption); (case zq9 => (first | with_reducible assumption | exact le_mil (by with_reducible assumption) | omega)); intro Dw9 cw9 hw9 kw9 Fw9 Nw9 lw9; (try k_sweep))))
  k_with "compareOp NotEq ref ref" => ((k_here; k_dflt (refine' lists_ne ?Nq9 ?mq9 ?m2q9 ?vq9 ?qq9 ?uq9 ?_; (case Nq9 => k_asm); (case mq9 => k_extra "my in"); (case m2q9 => k_extra "my in"); (case vq9 => first | assumption | exact AreP.nil | exact vals_AreP _); (case qq9 => first | assumption | exact AreP.nil | exact vals_AreP _); (case uq9 => ktr_units); k_whole)))
  k_with "subscriptTail Name" => ((k_here; k_dflt (first | ((with_reducible refine (?_ : wpAny _ _ (subscriptTail _ _ (Value.ref _) (Value.int 1 _)) _ _ _)); refine' pair_get1 ?Nq9 ?mq9 ?_ ?hsq9; (case Nq9 => k_asm); (case mq9 => k_extra "my in"); (case hsq9 => with_unfolding_all rfl); k_whole) | ((with_reducible refine (?_ : wpAny _ _ (subscriptTail _ _ (Value.ref _) (Value.int 0 _)) _ _ _)); refine' pair_get0 ?Nq9 ?mq9 ?_ ?hsq9; (case Nq9 => k_asm); (case mq9 => k_extra "my in"); (case hsq9 => with_unfolding_all rfl); k_whole))))
  k_with "subscriptTail Name Slice ref ref" => ((k_here; k_dflt (refine' ev_slice (b := 6) ?Fq9 ?Xq9 ?Nq9 ?hxq9 ?hbq9 ?_ ?hsq9 ?hgq9; (case Fq9 => k_asm); (case Xq9 => k_asm); (case Nq9 => k_asm); (case hxq9 => rfl); (case hbq9 => decide); (case hsq9 => with_unfolding_all rfl); (case hgq9 => kmk_pure)); intro D' its' h' F' N' l1 hev'; (try k_sweep)))
  k_with "last subscriptTail" => ((k_here; k_dflt (refine' ev_slice (b := 6) ?Fq9 ?Xq9 ?Nq9 ?hxq9 ?hbq9 ?_ ?hsq9 ?hgq9; (case Fq9 => k_asm); (case Xq9 => k_asm); (case Nq9 => k_asm); (case hxq9 => rfl); (case hbq9 => decide); (case hsq9 => with_unfolding_all rfl); (case hgq9 => kmk_pure)); intro D' its' h' F' N' l1 hev'; (try k_sweep)))
  k_with "m:k_mem" => ((k_extra "my in"; done))
  trivial
section
set_option maxHeartbeats 1200000 in
theorem law_holds_spec {w : World} {T V1 V2 : Tb} {R : Ledger} (O : Own T R) {b g pd c d wl : Addr} (hb : T.a = b) {o : Obj} {D : List (PV × En)} (hpd : (pd, o) ∈ R) (hdd : o.IsDictOf (pvKind PG w) (kvsOf D)) (lo : (pd == sysModules) = false)
    (h1 : V1.a = c) (h2 : V2.a = d) (hV1 : HasTab w.params V1 R) (hV2 : HasTab w.params V2 R) (hm1 : V1.mt = some b) (hm2 : V2.mt = some b) {k : Nat} (hwl : (wl, listOf #[.ref c, .ref d] k) ∈ R) (hn : T.ns.length ≤ 64) (he : T.es.length ≤ 64) (h0 : 0 ≤ T.abs.fl) (h32 : T.abs.fl < 32)
    (hD : ∀ x ∈ D, x.1.key ∧ getKey T.abs.es T.abs.ns x.1 65 = some x.2.p) (hDl : D.length ≤ 64) (hnone : ∀ wd ∈ notedF T.abs.fl, wd.length < 32 ∧ dGet D (.bytes wd) = .none)
    (hw : ∀ j wd, (EVS.take 6)[j]? = some wd → wd.length < 32 ∧ EVS.findIdx? (fun x => decide (x = wd)) = some j ∧ getAny T.abs.ns (.bytes wd) 65 = some (dGet D (.bytes wd)) ∧ ∃ t' t'', fastF T.abs (.bytes wd) j = some (dGet D (.bytes wd), t') ∧ t'.ns.length ≤ 64 ∧ fastF t' (.bytes wd) j = some (dGet D (.bytes wd), t'') ∧ { t'' with fl := T.abs.fl } = T.abs) :
    Runs w 546 [.ref g, .ref b, .ref pd, .ref wl] (tbObjs w.params T ++ R) 60 fun r Λ' => r = .bool true ∧ NKPost w.params b R T.abs Λ' := by
  subst hb
  k_extra "my enterC"
  (rename News _ _ _ _ => N5)
  obtain ⟨R6, N6, O6, hx6, hy6, hs6⟩ := cells2 O N5 lc9 (Nat.le_succ_of_le (Nat.le_succ _)) (Nat.le_succ _)
  clear N5 O
  have hpd6 := hs6 _ hpd
  have hwl6 := hs6 _ hwl
  w_strict (k_extra "my steps")
  refine MyStop.go ?_; (with_reducible rename Fr _ _ _ _ => lF)
  k_dflt (refine comp_expr lF (by rfl) (by decide) (by rfl) (by decide) ?_)
  w_strict (k_extra "my steps")
  refine MyStop.go ?_; (with_reducible rename Fr _ _ _ _ => lF); (rename News _ _ _ _ => N7)
  have hlen9 : vs9.length ≤ 5 := by have := congrArg List.length hv9; have := notedF_len T.abs.fl; simp only [List.length_map] at *; omega
  refine comp_list (by rfl) (by rfl) (by rfl) lF N7 (by k_extra "my in") (by rw [List.size_toArray, sizeLine_eq]; omega) (fun i ys news' => news' = _ ∧ ys = []) ⟨rfl, rfl⟩ ?_ ?_
  · intro s₂ i ys news' own C oC D' m₂ h tk wr E' x hx J09 ha hC F₄ N₄ off' hfull hown hCD; k_extra "my fold"; ((refine and_elim2 J09 fun J09e0 J09e1 => ?_; clear J09); subst J09e0; subst J09e1)
    obtain ⟨wd, hwd, tx, rfl⟩ := bs_at hv9 hx
    obtain ⟨hwl9, hwn⟩ := hnone wd hwd
    have hbn : (!decide (dGet D (.bytes wd) = PV.none)) = false := by rw [hwn]; rfl
    k_extra "my after"
    w_strict (k_extra "my steps")
    exact ⟨_, _, _, rfl, by k_asm, by k_asm, off', rfl, rfl⟩
  · intro h ys news' J09; k_extra "my fold"; ((refine and_elim2 J09 fun J09e0 J09e1 => ?_; clear J09); subst J09e0; subst J09e1)
    unfold LCg.FinE
    intro D9 h9 tk9 F9 N9 o9
    k_extra "my after"
    w_strict (k_extra "my steps")
    refine MyStop.go ?_; (with_reducible rename Fr _ _ _ _ => lF)
    k_dflt (refine comp_expr0 lF (by rfl) (by decide) (by rfl) (by decide) ?_)
    w_strict (k_extra "my steps")
    refine MyStop.go ?_; (with_reducible rename Fr _ _ _ _ => lF); (rename News _ _ _ _ => N8)
    refine comp_dict (by rfl) (by rfl) (by rfl) lF N8 (by k_extra "my in") hdd lo (by unfold kvsOf; rw [List.length_map, sizeLine_eq]; omega) (fun i ys news' => news' = _ ∧ AreP ys ((D.take i).map (fun y => y.2.p))) ⟨rfl, .nil⟩ ?_ ?_
    · intro s₂ i ys news' own C oC D' m₂ h tk wr E' x y v hxy hv J09 ha hC F₄ N₄ off' hfull hown hCD; k_extra "my fold"; ((refine and_elim2 J09 fun J09e0 hys => ?_; clear J09); subst J09e0)
      obtain ⟨e, hx, hxm⟩ := kvs_at hxy
      have hiv : Is v x := pvIs_shape hv
      obtain ⟨hkx, hgx⟩ := hD _ hxm
      replace hgx : getKey (T.es.map (·.p)) (T.ns.map Nd.abs) x 65 = some e.p := hgx
      have hTn := hastab_news (P := w.params) (T := T) N₄ (by intro p hp; repeat (first | exact List.mem_append_left _ hp | apply List.mem_append_right | apply List.mem_cons_of_mem))
      k_extra "my after"
      w_strict (k_extra "my steps")
      exact ⟨_, _, _, rfl, by k_asm, by k_asm, off', rfl, by rw [take_snoc hx]; exact hys.snoc hr9⟩
    · intro h ys news' J09; k_extra "my fold"; ((refine and_elim2 J09 fun J09e0 hys => ?_; clear J09); subst J09e0)
      unfold LCg.FinE
      have hys' : AreP ys (D.map (·.2.p)) := by rw [List.take_of_length_le (by unfold kvsOf; rw [List.length_map]; exact Nat.le_refl _)] at hys; exact hys
      clear hys
      intro D8 h8 tk8 F8 N8 o8
      k_extra "my after"
      w_strict (k_extra "my steps")
      refine MyStop.go ?_; (with_reducible rename Fr _ _ _ _ => lF); obtain ⟨m0, hm0, lF⟩ := loop_start lF; refine For_invVF lF (by rfl) (by rfl) ?_; clear lF
      subst hm0
      w_strict (k_extra "my steps")
      refine MyStop.go ?_; (with_reducible rename Fr _ _ _ _ => lF); (rename News _ _ _ _ => N4); (rename (List.map bytesOf _ = _) => hev); (rename (∀ (p : Addr × Obj), p ∈ _ → p.1 < _) => l9); obtain ⟨m0, hm0, lF⟩ := loop_start lF
      obtain ⟨R7, N9', O7, ht7, hs7⟩ := tup_own (R := R6) N4 l9 O6 (by intro p hp; rcases List.mem_append.mp hp with hp | hp <;> (repeat (first | assumption | exact List.mem_append_left _ hp | apply List.mem_append_right | apply List.mem_cons_of_mem)))
      clear N4
      have hpd7 := hs7 _ hpd6
      have hwl7 := hs7 _ hwl6
      have hx7 := hs7 _ hx6
      have hy7 := hs7 _ hy6
      have hsR : ∀ p ∈ R, p ∈ R7 := fun p hp => hs7 p (hs6 p hp)
      have hV17 : HasTab w.params V1 R7 := fun p hp => hsR p (hV1 p hp)
      have hV27 : HasTab w.params V2 R7 := fun p hp => hsR p (hV2 p hp)
      let J9 : Nat → (Str → Option Value) → Ledger → Prop := fun i m₁ Λ₁ => ∃ T2 o1 o2, Λ₁ = tbObjs w.params T2 ++ R7 ∧ T2.a = T.a ∧ T2.abs = T.abs ∧ Own T2 R7 ∧ m₁ = updL m0 [(Str.ofString "word", o1), (Str.ofString "due", o2)]; refine for_tuple (Λ₀ := tbObjs w.params T ++ R7) J9 (by rfl) lF N9' (List.mem_append_right _ ht7) ⟨T, none, none, rfl, rfl, rfl, O7, (by subst hm0; exact updL_eq ⟨rfl, rfl, trivial⟩ (by k_extra "my off"))⟩ ?_ ?_
      · subst hm0
        clear N9' O7 O6 l9 hys'
        rintro i v m₁ Λ₁ h tk own I hv ⟨T2, o1, o2, rfl, e1, e2, O2, rfl⟩ hoff ⟨oI, hoI⟩ hown F₁ N₁
        obtain ⟨wd, hwd, tx, rfl⟩ := ev_at hev (by simpa using hv)
        have J79 := hw i wd hwd; (obtain ⟨hwl9, hj, hga, t', t'', hf1, hn2, hf2, hf3⟩ := J79)
        rw [← e2] at hga hf1
        replace hga : getAny (T2.ns.map Nd.abs) (.bytes wd) 65 = some (dGet D (.bytes wd)) := hga
        have hfle : T2.fl = T.fl := congrArg PT.fl e2
        have hfe : (!decide (PV.int T2.fl = PV.int T.fl)) = false := by rw [hfle, decide_eq_true rfl]; rfl
        have hn2' : T2.ns.length ≤ 64 := by have := congrArg (fun t : PT => t.ns.length) e2; simp only [Tb.abs, List.length_map] at this; omega
        have O3 := own_in (P := w.params) (wr := [I]) O2 ht7 hoff (fun p hp => (hown p hp).imp (fun e => by rw [e]; exact .head _) id)
        replace N₁ := News.sub N₁ mem_in
        have hV18 : HasTab w.params V1 (own ++ R7) := fun p hp => List.mem_append_right _ (hV17 p hp)
        have hV28 : HasTab w.params V2 (own ++ R7) := fun p hp => List.mem_append_right _ (hV27 p hp)
        k_extra "my after"
        have hoR : ∀ p ∈ R7, p.1 ∉ [I] := fun p hp => hoff p (List.mem_append_right _ hp)
        w_strict (k_extra "my steps")
        refine MyStop.go ?_
        (rename Own (Tb.wFlags _ _ _) _ => O8)
        obtain ⟨O5, hoff'⟩ := own_out (P := w.params) (wr := [I]) O8 (fun b hb => by rw [List.mem_singleton.mp hb]; exact ⟨oI, hoI⟩) hoR
        exact lsv_next (Λ' := tbObjs w.params _ ++ R7) (by k_asm) (by k_asm) (fun p hp => List.mem_append_right _ (List.mem_append_left _ hp)) mem_ins hoff' ⟨_, _, _, rfl, ha9, (congrArg (fun t : PT => { t with fl := T.abs.fl }) hab9).trans hf3, O5, updL_eq ⟨rfl, rfl, trivial⟩ (by k_extra "my off")⟩
      · subst hm0
        clear N9' O7 O6 l9 hys'
        intro m₁ Λ₁ h tk J09 F₁ N₁; k_extra "my fold"; ((refine ex_elim3 J09 fun T2 o1 o2 J09q1 => ?_; clear J09; refine and_elim5 J09q1 fun J09e3 e1 e2 O2 J09e7 => ?_; clear J09q1); subst J09e3; subst J09e7)
        k_extra "my after"
        w_strict (k_extra "my steps")
        (rename News _ _ _ _ => N7)
        exact hret _ _ _ _ (by k_asm) (News.sub N7 (mem_sub hsR)) ⟨rfl, T2, e1, e2, rfl, O2.sub hsR⟩
end
section
theorem reg_F47_1 : True := by
  k_with "my calls" => ((with_reducible refine (?_ : wpAny _ _ (call (Value.ref 413) _) _ _ _)); k_dflt (refine Runs.use (resize_spec3 (by assumption) (by first | assumption | exact rfl) (by assumption) (by assumption)) (by k_asm) (by k_asm) (by k_asm) (by k_extra "my news") (by k_asm) (by first | exact rfl | assumption) (by k_extra "my room") (by k_extra "my units") ?_); k_whole; intro r9 Λ9 h9 tk9 F9 N9 P9; ((refine ex_elim1 P9 fun T9 P9q1 => ?_; clear P9; refine and_elim4 P9q1 fun ha9 hab9 P9e3 O9 => ?_; clear P9q1); subst P9e3); k_extra "my after")
  k_with "my calls" => ((with_reducible refine (?_ : wpAny _ _ (call (Value.ref 413) _) _ _ _)); k_dflt (refine useT (resize_spec3 (by assumption) (by first | assumption | exact rfl) (by assumption) (by assumption)) (by k_asm) (by k_asm) (by k_asm) (by k_extra "my news") (by k_asm) (by k_asm) (by k_extra "my rm") (by exact rfl) ?_); k_whole; intro r9 T9 h9 tk9 F9 N9 ha9 hab9 O9; k_extra "my after")
  trivial
end
section
noncomputable def InitQ (x : Addr) (Q : Value → Shared → Prop) (v : Value) (s : Shared) : Prop := v = .none ∧ Q (.ref x) s
theorem next_init {x : Addr} {Q : Value → Shared → Prop} {s : Shared} (h : Q (.ref x) s) : RetQ (InitQ x Q) .next s := ⟨rfl, h⟩
/-- a class is called: its __init__ -/
theorem Runs.enterI {w : World} {C f : Addr} {args : List Value} {Λ : Ledger} {D D0 : Nat} {Post : Value → Ledger → Prop}
    {name qual : Str} {params : Arguments} {body : List Stmt} {scope : Scope} {dV kV doc pm cdv ct oc : Value} {an od : Option Addr} {osl : Array (Option Value)} {binds : Addr → List (Str × Value)}
    (hm : makesIn (Mine.h0.heap_1 w.params) C = true) (hi : findIn (Mine.h0.heap_1 w.params) (.ref C) "__init__" = some (some (.ref f))) (hf : isFn (Mine.h0.heap_1 w.params) (.ref f) = true)
    (ho : (Mine.h0.heap_1 w.params).lookup f = some ⟨oc, od, .func (fnOf name qual params body scope dV kV doc pm an cdv ct), osl⟩) (hcd : codeIn (Mine.h0.heap_1 w.params) cdv qual = true)
    (hbind : ∀ (x : Addr) (s : Shared), (Mine.h0.heap_1 w.params).In s.heap → BindsTo s (fnOf name qual params body scope dV kV doc pm an cdv ct) ⟨.ref x :: args, []⟩ (binds x))
    (hloc : ∀ x, ∀ y ∈ binds x, scope.names.lookup y.1 = some .local) (hco : scope.isCoroutine = false) (hgen : scope.isGenerator = false) (hk : scope.kind = .function) (hcell : ∀ x ∈ scope.names, x.2 ≠ .cell) (hD : D0 + 1 ≤ D)
    (h : ∀ (dp un : Nat) (mg mb : Str → Option Value) (mean : ExcName → Option Value) (gd : Option (List Code)) (outer : List Env) (A₀ : Around) (base h₀ : Heap) (L : Addr) (s : Shared) (Q : Value → Shared → Prop) (x dx : Addr),
      let ml := fun y => (binds x).reverse.lookup y
      let ak := fcA ⟨qual, scope, f, cdv, noCl⟩ dp un gd L outer
      Below A₀ base outer h₀ → Fr h₀ L s.heap ml → (Mine.h0.heap_1 w.params).In h₀ → News h₀ L s.heap ((x, instObj C dx) :: (dx, dictOf [] 0) :: Λ) → (∀ p ∈ Λ, p.1 < dx) → dx < x → Top Mine.vw LO mean mg mb h₀ → Rm dp un D0 → Hret h₀ L Post Q s →
      wpAny (model PG w) ak (execs body (Fc.env ⟨qual, scope, f, cdv, noCl⟩ L)) (RetQ (InitQ x Q)) NoE s) : Runs w C args Λ D Post := by
  intro mg mb mean dp un gd cn cs a ccd cl outer A₀ base h₀ L m s Q E B F X N T0 hk' hd hu hret
  refine call_cls F X N hm hi hf ?_
  intro x dx h1 F1 N1 l1 l2
  refine let_R ?_; intro rk
  refine code_def (R := rk) B F1 X N1 T0 rfl rfl hk' ho hcd (by show dp + 1 < _; omega) (hbind x _ (X.keeps F1.keep)) (hloc x) ?_ hco hgen hk hcell
  intro g L' h₁ FG F' N' B' X' T'
  refine wpAny_mono (h (dp + 1) (un + 1) mg mb mean _ _ _ _ g L' _ (fun v s' => LeaveK h₀ L m g (fun r s'' => match r with | .ok (.ret v) => Q v s'' | _ => False) v s') x dx B' F' X' N' l1 l2 T' ⟨by omega, by omega⟩ ?_) (fun fl s' q => ?_) fun e s' q => q.elim
  · exact fun r Λ' h' tk' m' FF NN P => ⟨L', m', Λ', FF, NN, fun F3 N3 => hret _ _ _ _ F3 N3 P⟩
  · obtain ⟨hv, L2, m2, n2, F2, N2, k2⟩ := q
    exact ⟨L2, m2, n2, F2, N2, fun F3 N3 => ⟨hv, k2 F3 N3⟩⟩
theorem reg_F48_1 : True := by
  k_with "RetQ" => (with_reducible refine next_init ?_)
  trivial
theorem reg_F48_2 : True := by
  k_with "my cls" => (k_dflt (refine' Runs.enterI ?hm ?hi ?hf ?k6 ?k7 ?k9 ?kB ?c2 ?c3 ?c4 ?c5 ?hD ?_; (case hm => k_is); (case hi => k_is); (case hf => k_is); (case k6 => k_is); (case k7 => k_is); (case k9 => intro x9 s9 X9; first | exact BindsTo.of_eq rfl | exact binds_K X9 rfl (by k_is) rfl rfl rfl); (case kB => intro x9; exact locs rfl); (case c2 => exact rfl); (case c3 => exact rfl); (case c4 => exact rfl); (case c5 => decide); (case hD => first | exact Nat.le_refl _ | exact rm_lit rfl); k_whole); intro dp un mg mb mean gd outer A₀ base h₀ L s Q x' d' ml ak B F X N l1 l2 T0 hrm hret; (have l1c := l1); (have l2c := l2); (try k_lt l1); (try k_lt2 l2))
  trivial
noncomputable def Tb.wMeta (T : Tb) (x : Option Addr) : Tb := { T with mt := x }
theorem set_meta {w : World} {A : Around} {E : Value → Shared → Prop} {s : Shared} {h₀ : Heap} {L a b : Addr} {m : Str → Option Value} {Q : Unit → Shared → Prop} {T : Tb} {R : Ledger} (F : Fr h₀ L s.heap m) (X : (Mine.h0.heap_1 w.params).In h₀) (N : News h₀ L s.heap (tbObjs w.params T ++ R)) (O : Own T R) (ha : T.a = a)
    (h : ∀ h', Fr h₀ L h' m → News h₀ L h' (tbObjs w.params (T.wMeta (some b)) ++ R) → Own (T.wMeta (some b)) R → Q () { s with heap := h', toks := s.toks + 2 }) : wpAny (model PG w) A (setAttr (.ref a) (Str.ofString "meta") (.ref b)) Q E s := by
  subst ha
  exact set_dict F X N (InstAt.of_news N HasTab.left.inst HasTab.left.dict) rfl (by k_is) (by k_is) (by k_is) (by k_is) (by k_get) rfl (upd_tab (T' := T.wMeta (some b)) O rfl) (Nat.le_of_ble_eq_true rfl) fun h' F' N' => h h' F' N' ⟨O.nd, O.off⟩
theorem tab_of {P : Params} {T : Tb} {Λ : Ledger} {h₀ h : Heap} {L : Addr} (hes : T.es = []) (hns : T.ns = []) (he0 : T.esN = 0) (hn0 : T.nsN = 0) (N : News h₀ L h ((T.nl, listOf #[] 0) :: (T.arr, listOf #[] 0) :: (T.a, instObj 491 T.d) :: (T.d, tbDict P T) :: Λ))
    (l1 : ∀ p ∈ Λ, p.1 < T.d) (l2 : T.d < T.a) (l3 : T.a < T.arr) (l4 : T.arr < T.nl) : News h₀ L h (tbObjs P T ++ Λ) ∧ Own T Λ := by
  have e1 : tbObjs P T = [(T.a, instObj 491 T.d), (T.d, tbDict P T), (T.arr, listOf #[] 0), (T.nl, listOf #[] 0)] := by
    unfold tbObjs tbHead; rw [hes, hns, he0, hn0]; rfl
  have lt : ∀ {x y z : Addr}, x < y → y < z → x < z := fun h h' => Nat.lt_trans h h'
  refine ⟨?_, ?_, ?_⟩
  · rw [e1]
    refine News.sub N fun p hp => ?_
    simp only [List.cons_append, List.nil_append, List.mem_cons] at hp ⊢
    rcases hp with h | h | h | h | h <;> simp only [h, true_or, or_true]
  · rw [addrs_eq, hns]
    simp only [List.nodup_cons, List.mem_cons, not_or, adr, List.flatMap_nil, List.not_mem_nil, not_false_eq_true, List.nodup_nil, and_true]
    exact ⟨⟨Nat.ne_of_gt l2, Nat.ne_of_lt l3, Nat.ne_of_lt (lt l3 l4)⟩, ⟨Nat.ne_of_lt (lt l2 l3), Nat.ne_of_lt (lt l2 (lt l3 l4))⟩, Nat.ne_of_lt l4⟩
  · intro p hp hx
    have := l1 p hp
    rw [addrs_eq, hns] at hx
    simp only [List.mem_cons, adr, List.flatMap_nil, List.not_mem_nil, or_false] at hx
    rcases hx with e | e | e | e
    · exact Nat.lt_irrefl _ (lt (e ▸ this) l2)
    · exact Nat.lt_irrefl _ (e ▸ this)
    · exact Nat.lt_irrefl _ (lt (e ▸ this) (lt l2 l3))
    · exact Nat.lt_irrefl _ (lt (e ▸ this) (lt l2 (lt l3 l4)))
theorem of_allLt {d : Addr} : ∀ {l : Ledger}, AllLt d l → ∀ p ∈ l, p.1 < d := allLt_mem
theorem GF48.onF48 : True := trivial
open GF48
theorem reg_F48_3 : True := by
  k_with "setAttr ref" => ((fail_if_success (fail_if_success (have g9 := onF48))); ((k_here; k_dflt (refine' set_dict ?k1q9 ?k2q9 ?k3q9 ?k4q9 ?k5q9 ?k6q9 ?k7q9 ?k8q9 ?k9q9 ?k10q9 ?k11q9 ?k12q9 ?k13q9 ?_; (case k1q9 => k_asm); (case k2q9 => k_asm); (case k3q9 => k_asm); (case k4q9 => k_inst); (case k5q9 => exact rfl); (case k6q9 => k_is); (case k7q9 => k_is); (case k8q9 => k_is); (case k9q9 => k_is); (case k10q9 => k_get); (case k11q9 => k_put); (case k12q9 => k_upd); (case k13q9 => exact Nat.le_of_ble_eq_true rfl); k_whole; intro h' F' N'; (try k_sweep)))))
  trivial
set_option maxHeartbeats 600000 in
theorem table_new1 {w : World} {Λ : Ledger} {n : Int} {t : Tok} : Runs w 491 [.int n t] Λ 8 fun r Λ' => ∃ (T : Tb) (b : Addr), r = .ref b ∧ T.a = b ∧ T.abs = ⟨[], [], 0, 0⟩ ∧ Λ' = tbObjs w.params T ++ Λ ∧ Own T Λ := by
  k_extra "my cls"
  w_strict (k_extra "my steps")
  (rename News _ _ _ _ => N9); (rename (_ < _ ∧ _ < _ ∧ _ < _ ∧ AllLt _ _) => la); (rename (_ < _ ∧ _ < _ ∧ AllLt _ _) => lb)
  obtain ⟨N10, O10⟩ := tab_of (P := w.params) (T := ⟨x', d', _, _, _, _, _, _, _, _, _, _, _, _, _, _, _, _, _, _, none, _, _, _, _, _, _, _, _, [], 0, [], 0⟩) rfl rfl rfl rfl N9 l1c l2c lb.1 la.1
  exact hret _ _ _ _ (by k_asm) N10 ⟨_, _, rfl, rfl, rfl, rfl, O10⟩
end
section
theorem GF49.onF49 : True := trivial
open GF49
theorem reg_F49_1 : True := by
  k_with "m:ktr_units" => ((fail_if_success (fail_if_success (have g9 := onF49))); ((have hcL9 := cLine_is; ((try simp only [units_under_make, units_in1, units_deeper, Around.mark_units, units_caller] at *); (try dsimp only [ktrTop] at *); omega))))
  trivial
theorem tab_gen {P : Params} {T : Tb} {Λ : Ledger} {h₀ h : Heap} {L : Addr} (N : News h₀ L h (tbObjs P T ++ Λ)) (O : Own T Λ) : ∃ T1 : Tb, T1.a = T.a ∧ T1.abs = T.abs ∧ News h₀ L h (tbObjs P T1 ++ Λ) ∧ Own T1 Λ := ⟨T, rfl, rfl, N, O⟩
theorem reg_F49_2 : True := by
  k_with "setAttr ref" => ((fail_if_success (fail_if_success (have g9 := onF49))); ((k_here; k_dflt (refine' set_dict ?k1q9 ?k2q9 ?k3q9 ?k4q9 ?k5q9 ?k6q9 ?k7q9 ?k8q9 ?k9q9 ?k10q9 ?k11q9 ?k12q9 ?k13q9 ?_; (case k1q9 => k_asm); (case k2q9 => k_asm); (case k3q9 => k_asm); (case k4q9 => k_inst); (case k5q9 => exact rfl); (case k6q9 => k_is); (case k7q9 => k_is); (case k8q9 => k_is); (case k9q9 => k_is); (case k10q9 => k_get); (case k11q9 => k_put); (case k12q9 => k_upd); (case k13q9 => exact Nat.le_of_ble_eq_true rfl); k_whole; intro h' F' N'; (try k_sweep)))))
  trivial
theorem reg_F49_3 : True := by
  k_with "call ref" => ((fail_if_success (fail_if_success (have g9 := onF49))); ((k_here; (with_reducible refine (?_ : wpAny _ _ (call (Value.ref 413) _) _ _ _)); refine myStop ?_)))
  trivial
theorem reg_F49_4 : True := by
  k_with "my ite" => ((fail_if_success (fail_if_success (have g9 := onF49))); first | k_extra "my ite0" | (refine ite_neg (by decide) ?_) | (refine ite_pos (by decide) ?_) | refine myStop ?_)
  trivial
set_option maxHeartbeats 2000000 in
theorem table_new3 {w : World} {nk : PT → PV → PV → Option PT} {D : Nat} (H : NKSpec w nk D) {Λ : Ledger} {n x y : Int} {t u v : Tok} {t' : PT} (h1 : 0 < x ∨ 0 < y → resizeF nk ⟨[], [], 0, 0⟩ x y = some t') (h2 : ¬ (0 < x ∨ 0 < y) → t' = ⟨[], [], 0, 0⟩) :
    Runs w 491 [.int n t, .int x u, .int y v] Λ (D + 40) fun r Λ' => ∃ (T : Tb) (b : Addr), r = .ref b ∧ T.a = b ∧ T.abs = t' ∧ Λ' = tbObjs w.params T ++ Λ ∧ Own T Λ := by
  k_extra "my cls"
  w_strict (k_extra "my steps")
  refine MyStop.go ?_
  (rename News _ _ _ _ => N9); (rename (_ < _ ∧ _ < _ ∧ _ < _ ∧ AllLt _ _) => la); (rename (_ < _ ∧ _ < _ ∧ AllLt _ _) => lb)
  obtain ⟨N10, O10⟩ := tab_of (P := w.params) (T := ⟨x', d', _, _, _, _, _, _, _, _, _, _, _, _, _, _, _, _, _, _, none, _, _, _, _, _, _, _, _, [], 0, [], 0⟩) rfl rfl rfl rfl N9 l1c l2c lb.1 la.1
  obtain ⟨T1, ha1, hab1, N11, O11⟩ := tab_gen N10 O10
  replace ha1 : T1.a = x' := ha1
  clear N9 N10 O10
  by_cases hx : 0 < x
  · w_strict (k_extra "my steps")
    refine MyStop.go ?_
    have hr1 : resizeF nk T1.abs x y = some t' := by rw [hab1]; exact h1 (.inl hx)
    refine useT (resize_spec3 H ha1 O11 hr1) (by k_asm) (by k_asm) (by k_asm) (by k_extra "my news") (by k_asm) (by k_asm) (by k_extra "my rm") (by exact rfl) ?_; intro r9 T9 h9 tk9 F9 N9 ha9 hab9 O9; k_extra "my after"
    w_strict (k_extra "my steps")
    exact hret _ _ _ _ (by k_asm) (by k_asm) ⟨T9, _, rfl, ha9, hab9, rfl, O9⟩
  · w_strict (k_extra "my steps")
    refine MyStop.go ?_
    by_cases hy : 0 < y
    · w_strict (k_extra "my steps")
      refine MyStop.go ?_
      have hr1 : resizeF nk T1.abs x y = some t' := by rw [hab1]; exact h1 (.inr hy)
      refine useT (resize_spec3 H ha1 O11 hr1) (by k_asm) (by k_asm) (by k_asm) (by k_extra "my news") (by k_asm) (by k_asm) (by k_extra "my rm") (by exact rfl) ?_; intro r9 T9 h9 tk9 F9 N9 ha9 hab9 O9; k_extra "my after"
      w_strict (k_extra "my steps")
      exact hret _ _ _ _ (by k_asm) (by k_asm) ⟨T9, _, rfl, ha9, hab9, rfl, O9⟩
    · w_strict (k_extra "my steps")
      exact hret _ _ _ _ (by k_asm) (by k_asm) ⟨T1, _, rfl, ha1, hab1.trans (h2 (fun h => h.elim hx hy)).symm, rfl, O11⟩
end
section
theorem GF50.onF50 : True := trivial
open GF50
theorem reg_F50_1 : True := by
  k_with "m:ktr_units" => ((fail_if_success (fail_if_success (have g9 := onF50))); ((have hcL9 := cLine_is; ((try simp only [units_under_make, units_in1, units_deeper, Around.mark_units, units_caller] at *); (try dsimp only [ktrTop] at *); omega))))
  trivial
theorem reg_F50_2 : True := by
  k_with "setAttr ref" => ((fail_if_success (fail_if_success (have g9 := onF50))); ((k_here; k_dflt (refine' set_dict ?k1q9 ?k2q9 ?k3q9 ?k4q9 ?k5q9 ?k6q9 ?k7q9 ?k8q9 ?k9q9 ?k10q9 ?k11q9 ?k12q9 ?k13q9 ?_; (case k1q9 => k_asm); (case k2q9 => k_asm); (case k3q9 => k_asm); (case k4q9 => k_inst); (case k5q9 => exact rfl); (case k6q9 => k_is); (case k7q9 => k_is); (case k8q9 => k_is); (case k9q9 => k_is); (case k10q9 => k_get); (case k11q9 => k_put); (case k12q9 => k_upd); (case k13q9 => exact Nat.le_of_ble_eq_true rfl); k_whole; intro h' F' N'; (try k_sweep)))))
  trivial
theorem fr_binds {g h : Heap} {L : Addr} {X Y : List (Str × Value)} (F : Fr g L h fun y => X.reverse.lookup y) (e : X.reverse = Y) : Fr g L h fun y => Y.lookup y := e ▸ F
set_option maxHeartbeats 3000000 in
theorem limits_new {w : World} {Λ : Ledger} : Runs w 53 [] Λ 8 fun r Λ' => ∃ b, r = .ref b ∧ Λ = Λ' := by
  k_extra "my cls"
  replace F := fr_binds (Y := [(Str.ofString "text", _), (Str.ofString "steps", _), (Str.ofString "flush", _), (Str.ofString "stack", _), (Str.ofString "frames", _), (Str.ofString "ccalls", _), (Str.ofString "local_names", _), (Str.ofString "upvalues", _), (Str.ofString "registers", _), (Str.ofString "width", _), (Str.ofString "self", _)]) F rfl
  w_strict (k_extra "my steps")
  (rename News _ _ _ _ => N9)
  exact hret _ Λ _ _ (by k_asm) (News.sub N9 (by intro p hp; repeat (first | assumption | apply List.mem_cons_of_mem))) ⟨_, rfl, rfl⟩
set_option maxHeartbeats 3000000 in
theorem global_new {w : World} {Λ : Ledger} {l : Addr} : Runs w 211 [.ref l] Λ 8 fun r Λ' => ∃ b, r = .ref b ∧ Λ = Λ' := by
  k_extra "my cls"
  w_strict (k_extra "my steps")
  (rename News _ _ _ _ => N9)
  exact hret _ Λ _ _ (by k_asm) (News.sub N9 (by intro p hp; repeat (first | assumption | apply List.mem_cons_of_mem))) ⟨_, rfl, rfl⟩
theorem reg_F50_3 : True := by
  k_with "my calls" => ((with_reducible refine (?_ : wpAny _ _ (call (Value.ref 53) _) _ _ _)); k_dflt (refine Runs.use (limits_new) (by k_asm) (by k_asm) (by k_asm) (by k_extra "my news") (by k_asm) (by first | exact rfl | assumption) (by k_extra "my room") (by k_extra "my units") ?_); k_whole; intro r9 Λ9 h9 tk9 F9 N9 P9; ((refine ex_elim1 P9 fun b9 P9q1 => ?_; clear P9; refine and_elim2 P9q1 fun P9e1 P9e2 => ?_; clear P9q1); subst P9e1; subst P9e2); k_extra "my after")
  k_with "my calls" => ((with_reducible refine (?_ : wpAny _ _ (call (Value.ref 53) _) _ _ _)); k_dflt (refine useG (limits_new) (by k_asm) (by k_asm) (by k_asm) (by k_extra "my news") (by k_asm) (by k_asm) (by k_extra "my rm") (by exact rfl) ?_); k_whole; intro r9 Λ9 h9 tk9 F9 N9 P9; ((refine ex_elim1 P9 fun b9 P9q1 => ?_; clear P9; refine and_elim2 P9q1 fun P9e1 P9e2 => ?_; clear P9q1); subst P9e1; subst P9e2); k_extra "my after")
  trivial
theorem reg_F50_4 : True := by
  k_with "my calls" => ((with_reducible refine (?_ : wpAny _ _ (call (Value.ref 211) _) _ _ _)); k_dflt (refine Runs.use (global_new) (by k_asm) (by k_asm) (by k_asm) (by k_extra "my news") (by k_asm) (by first | exact rfl | assumption) (by k_extra "my room") (by k_extra "my units") ?_); k_whole; intro r9 Λ9 h9 tk9 F9 N9 P9; ((refine ex_elim1 P9 fun b9 P9q1 => ?_; clear P9; refine and_elim2 P9q1 fun P9e1 P9e2 => ?_; clear P9q1); subst P9e1; subst P9e2); k_extra "my after")
  k_with "my calls" => ((with_reducible refine (?_ : wpAny _ _ (call (Value.ref 211) _) _ _ _)); k_dflt (refine useG (global_new) (by k_asm) (by k_asm) (by k_asm) (by k_extra "my news") (by k_asm) (by k_asm) (by k_extra "my rm") (by exact rfl) ?_); k_whole; intro r9 Λ9 h9 tk9 F9 N9 P9; ((refine ex_elim1 P9 fun b9 P9q1 => ?_; clear P9; refine and_elim2 P9q1 fun P9e1 P9e2 => ?_; clear P9q1); subst P9e1; subst P9e2); k_extra "my after")
  trivial
end
section
local macro_rules | `(tactic| omega) => `(tactic| k_extra "lia")
theorem reg_lia : True := by
  k_with "lia" => (first | lia | omega +splitDisjunctions)
  trivial
section
/-- the way along the chains -/
inductive Reach (f : Nat → PN) : Nat → Nat → Prop
  | refl (a : Nat) : Reach f a a
  | step {a c b : Nat} : (f a).nx = (c : Int) → Reach f c b → Reach f a b
noncomputable def ups (f : Nat → PN) (i : Nat) (x : PN) : Nat → PN := fun j => if j = i then x else f j
theorem ups_same {f : Nat → PN} {i : Nat} {x : PN} : ups f i x i = x := if_pos rfl
theorem ups_ne {f : Nat → PN} {i j : Nat} {x : PN} (h : j ≠ i) : ups f i x j = f j := if_neg h
/-- a hash part: n places, the key's main place m, keys among KS -/
structure CI (n : Nat) (f : Nat → PN) (fr : Int) (m : PV → Nat) (KS : List PV) : Prop where
  nx : ∀ i, i < n → (f i).nx = -1 ∨ ∃ j, j < n ∧ (f i).nx = (j : Int) ∧ (f j).k ≠ .none
  free : ∀ i, i < n → (f i).k = .none → (f i).nx = -1 ∧ (f i).v = .none
  inj : ∀ i j, i < n → j < n → (f i).nx = (f j).nx → (f i).nx ≠ -1 → i = j
  rank : ∃ rk : Nat → Nat, ∀ i j, i < n → j < n → (f i).nx = (j : Int) → rk j < rk i
  reach : ∀ i, i < n → (f i).k ≠ .none → Reach f (m (f i).k) i
  main : ∀ i, i < n → (f i).k ≠ .none → (f (m (f i).k)).k ≠ .none ∧ m (f (m (f i).k)).k = m (f i).k
  uniq : ∀ i j, i < n → j < n → (f i).k = (f j).k → (f i).k ≠ .none → i = j
  fr0 : 0 ≤ fr ∧ fr ≤ n
  frk : ∀ i : Nat, i < n → fr ≤ (i : Int) → (f i).k ≠ .none
  keys : ∀ i, i < n → (f i).k ≠ .none → (f i).k ∈ KS
section
variable {n : Nat} {f : Nat → PN} {fr : Int} {m : PV → Nat} {KS : List PV} {k v : PV}
theorem Reach.of_nx {g : Nat → PN} (h : ∀ i, (g i).nx = (f i).nx) {a b : Nat} (r : Reach f a b) : Reach g a b := by
  induction r with
  | refl a => exact .refl a
  | step e _ ih => exact .step ((h _).trans e) ih
theorem CI.dead (h : CI n f fr m KS) (hm : ∀ k ∈ KS, m k < n) (hk : k ∈ KS) (h0 : k ≠ .none) (hf : ∀ i, i < n → (f i).k ≠ k) :
    CI n (ups f (m k) ⟨k, v, (f (m k)).nx⟩) fr m KS := by
  have hl := hm k hk
  have nxe : ∀ i, (ups f (m k) ⟨k, v, (f (m k)).nx⟩ i).nx = (f i).nx := fun i => by
    by_cases e : i = m k
    · subst e; rw [ups_same]
    · rw [ups_ne e]
  have ke : ∀ i, i ≠ m k → ups f (m k) ⟨k, v, (f (m k)).nx⟩ i = f i := fun i e => ups_ne e
  have kn : ∀ i, (f i).k ≠ .none → (ups f (m k) ⟨k, v, (f (m k)).nx⟩ i).k ≠ .none := fun i e => by
    by_cases c : i = m k
    · subst c; rw [ups_same]; exact h0
    · rw [ke i c]; exact e
  constructor
  · intro i hi
    rw [nxe]
    rcases h.nx i hi with e | ⟨j, hj, e, e2⟩
    · exact .inl e
    · exact .inr ⟨j, hj, e, kn j e2⟩
  · intro i hi e
    by_cases c : i = m k
    · subst c; rw [ups_same] at e; exact (h0 e).elim
    · rw [ke i c] at e ⊢; exact h.free i hi e
  · intro i j hi hj
    rw [nxe, nxe]; exact h.inj i j hi hj
  · obtain ⟨rk, hr⟩ := h.rank
    exact ⟨rk, fun i j hi hj => by rw [nxe]; exact hr i j hi hj⟩
  · intro i hi e
    by_cases c : i = m k
    · subst c; rw [ups_same]; exact .refl _
    · rw [ke i c] at e ⊢; exact (h.reach i hi e).of_nx nxe
  · intro i hi e
    by_cases c : i = m k
    · subst c; rw [ups_same]; dsimp only; rw [ups_same]; exact ⟨h0, rfl⟩
    · rw [ke i c] at e ⊢
      by_cases c2 : m (f i).k = m k
      · rw [c2, ups_same]; exact ⟨h0, rfl⟩
      · rw [ke _ c2]; exact h.main i hi e
  · intro i j hi hj e e0
    by_cases c : i = m k
    · by_cases c2 : j = m k
      · rw [c, c2]
      · subst c; rw [ups_same, ke j c2] at e; exact (hf j hj e.symm).elim
    · by_cases c2 : j = m k
      · subst c2; rw [ups_same, ke i c] at e; exact (hf i hi e).elim
      · rw [ke i c, ke j c2] at e; rw [ke i c] at e0; exact h.uniq i j hi hj e e0
  · exact h.fr0
  · intro i hi hfr; exact kn i (h.frk i hi hfr)
  · intro i hi e
    by_cases c : i = m k
    · subst c; rw [ups_same]; exact hk
    · rw [ke i c] at e ⊢; exact h.keys i hi e
theorem CI.live_key (h : CI n f fr m KS) {i : Nat} (hi : i < n) (hv : (f i).v ≠ .none) : (f i).k ≠ .none := fun e => hv (h.free i hi e).2
/-- no way into a free place -/
theorem CI.nx_ne_free (h : CI n f fr m KS) {i sp : Nat} (hi : i < n) (hs : (f sp).k = .none) : (f i).nx ≠ (sp : Int) := fun e => by
  rcases h.nx i hi with e1 | ⟨j, hj, e1, e2⟩
  · omega
  · have : j = sp := by omega
    subst this; exact e2 hs
theorem CI.nx_lt (h : CI n f fr m KS) {i j : Nat} (hi : i < n) (e : (f i).nx = (j : Int)) : j < n := by
  rcases h.nx i hi with e1 | ⟨c, hc, e1, _⟩
  · omega
  · omega
theorem CI.same (h : CI n f fr m KS) (hm : ∀ k ∈ KS, m k < n) (hk : k ∈ KS) (h0 : k ≠ .none) (hf : ∀ i, i < n → (f i).k ≠ k)
    (hpk : (f (m k)).k ≠ .none) (hpm : m (f (m k)).k = m k) {sp : Nat} (hsp : sp < n) (hfree : (f sp).k = .none) (hab : ∀ i, i < n → sp < i → (f i).k ≠ .none) :
    CI n (ups (ups f sp ⟨k, v, (f (m k)).nx⟩) (m k) { f (m k) with nx := (sp : Int) }) (sp : Int) m KS := by
  have hl := hm k hk
  have hne : sp ≠ m k := fun e => hpk (e ▸ hfree)
  generalize hg : ups (ups f sp ⟨k, v, (f (m k)).nx⟩) (m k) { f (m k) with nx := (sp : Int) } = g
  have gm : g (m k) = { f (m k) with nx := (sp : Int) } := by rw [← hg, ups_same]
  have gs : g sp = ⟨k, v, (f (m k)).nx⟩ := by rw [← hg, ups_ne hne, ups_same]
  have go : ∀ i, i ≠ m k → i ≠ sp → g i = f i := fun i e1 e2 => by rw [← hg, ups_ne e1, ups_ne e2]
  have gk : ∀ i, i ≠ sp → (g i).k = (f i).k := fun i e => by
    by_cases c : i = m k
    · subst c; rw [gm]
    · rw [go i c e]
  have kn : ∀ i, (f i).k ≠ .none → (g i).k ≠ .none := fun i e => by
    by_cases c : i = sp
    · subst c; rw [gs]; exact h0
    · rw [gk i c]; exact e
  have hr : ∀ a b, Reach f a b → a < n → a ≠ sp → Reach g a b := by
    intro a b r
    induction r with
    | refl a => intros; exact .refl a
    | step e r ih =>
      intro ha hs
      have hc := h.nx_lt ha e
      have hcs : ¬ _ = sp := fun e2 => h.nx_ne_free ha hfree (e2 ▸ e)
      have r2 := ih hc hcs
      rename_i a c b
      by_cases c1 : a = m k
      · subst c1
        refine .step (c := sp) (by rw [gm]) (.step (c := c) (by rw [gs]; exact e) r2)
      · exact .step (by rw [go _ c1 hs]; exact e) r2
  have hnx : ∀ i, i < n → (g i).nx = -1 ∨ ∃ j, j < n ∧ (g i).nx = (j : Int) ∧ (g j).k ≠ .none := by
    intro i hi
    by_cases c : i = m k
    · subst c; exact .inr ⟨sp, hsp, by rw [gm], by rw [gs]; exact h0⟩
    · have : ∃ i', i' < n ∧ (g i).nx = (f i').nx := by
        by_cases c2 : i = sp
        · subst c2; exact ⟨m k, hl, by rw [gs]⟩
        · exact ⟨i, hi, by rw [go i c c2]⟩
      obtain ⟨i', hi', e⟩ := this
      rw [e]
      rcases h.nx i' hi' with e | ⟨j, hj, e, e2⟩
      · exact .inl e
      · exact .inr ⟨j, hj, e, kn j e2⟩
  constructor
  · exact hnx
  · intro i hi e
    by_cases c : i = sp
    · subst c; rw [gs] at e; exact (h0 e).elim
    · have e' := e; rw [gk i c] at e'
      have c2 : i ≠ m k := fun e2 => hpk (e2 ▸ e')
      rw [go i c2 c]; exact h.free i hi e'
  · intro i j hi hj e e0
    have key : ∀ i j, i < n → j < n → i = m k → (g i).nx = (g j).nx → i = j := by
      intro i j hi hj c e
      subst c
      rw [gm] at e
      by_cases c2 : j = m k
      · exact c2.symm
      · by_cases c3 : j = sp
        · subst c3; rw [gs] at e; exact (h.nx_ne_free hl hfree e.symm).elim
        · rw [go j c2 c3] at e; exact (h.nx_ne_free hj hfree e.symm).elim
    by_cases c : i = m k
    · exact key i j hi hj c e
    · by_cases c2 : j = m k
      · exact (key j i hj hi c2 e.symm).symm
      · by_cases c3 : i = sp
        · by_cases c4 : j = sp
          · rw [c3, c4]
          · subst c3; rw [gs, go j c2 c4] at e; rw [gs] at e0
            exact (c2 (h.inj _ _ hl hj e e0).symm).elim
        · by_cases c4 : j = sp
          · subst c4; rw [gs, go i c c3] at e; rw [go i c c3] at e0
            exact (c (h.inj _ _ hi hl e e0)).elim
          · rw [go i c c3, go j c2 c4] at e; rw [go i c c3] at e0; exact h.inj i j hi hj e e0
  · obtain ⟨rk, hrk⟩ := h.rank
    refine ⟨fun j => if j = sp then 2 * rk (m k) + 1 else 2 * rk j + 2, fun i j hi hj e => ?_⟩
    dsimp only
    by_cases c : i = m k
    · subst c; rw [gm] at e
      have : j = sp := by simp only at e; omega
      rw [if_pos this, if_neg (fun e => hne e.symm)]; omega
    · by_cases c2 : i = sp
      · subst c2; rw [gs] at e
        have hj2 : j ≠ i := fun e2 => h.nx_ne_free hl hfree (e2 ▸ e)
        rw [if_pos rfl, if_neg hj2]
        have := hrk _ _ hl hj e; omega
      · rw [go i c c2] at e
        have hj2 : j ≠ sp := fun e2 => h.nx_ne_free hi hfree (e2 ▸ e)
        rw [if_neg c2, if_neg hj2]
        have := hrk _ _ hi hj e; omega
  · intro i hi e
    by_cases c : i = sp
    · subst c; rw [gs]
      exact .step (c := i) (by rw [gm]) (.refl _)
    · rw [gk i c] at e ⊢
      exact hr _ _ (h.reach i hi e) (hm _ (h.keys i hi e)) fun e2 => (h.main i hi e).1 (by rw [e2]; exact hfree)
  · intro i hi e
    by_cases c : i = sp
    · subst c; rw [gs]; dsimp only; rw [gm]; exact ⟨hpk, hpm⟩
    · rw [gk i c] at e ⊢
      have h1 := h.main i hi e
      have c2 : m (f i).k ≠ sp := fun e2 => h1.1 (by rw [e2]; exact hfree)
      rw [gk _ c2]; exact h1
  · intro i j hi hj e e0
    by_cases c : i = sp
    · by_cases c2 : j = sp
      · rw [c, c2]
      · subst c; rw [gs, gk j c2] at e; exact (hf j hj e.symm).elim
    · by_cases c2 : j = sp
      · subst c2; rw [gs, gk i c] at e; exact (hf i hi e).elim
      · rw [gk i c, gk j c2] at e; rw [gk i c] at e0; exact h.uniq i j hi hj e e0
  · exact ⟨by omega, by omega⟩
  · intro i hi hfr
    by_cases c : i = sp
    · subst c; rw [gs]; exact h0
    · exact kn i (hab i hi (by omega))
  · intro i hi e
    by_cases c : i = sp
    · subst c; rw [gs]; exact hk
    · rw [gk i c] at e ⊢; exact h.keys i hi e
theorem CI.move (h : CI n f fr m KS) (hm : ∀ k ∈ KS, m k < n) (hk : k ∈ KS) (h0 : k ≠ .none) (hf : ∀ i, i < n → (f i).k ≠ k)
    (hpk : (f (m k)).k ≠ .none) (hpm : m (f (m k)).k ≠ m k) {sp : Nat} (hsp : sp < n) (hfree : (f sp).k = .none) (hab : ∀ i, i < n → sp < i → (f i).k ≠ .none)
    {pr : Nat} (hpr : pr < n) (hpn : (f pr).nx = (m k : Int)) :
    CI n (ups (ups (ups f pr { f pr with nx := (sp : Int) }) sp (f (m k))) (m k) ⟨k, v, -1⟩) (sp : Int) m KS := by
  have hl := hm k hk
  have hne : sp ≠ m k := fun e => hpk (e ▸ hfree)
  obtain ⟨rk, hrk⟩ := h.rank
  have hp1 : pr ≠ m k := fun e => by have := hrk pr (m k) hpr hl hpn; subst e; omega
  have hp2 : pr ≠ sp := fun e => by have := (h.free sp hsp hfree).1; rw [e] at hpn; omega
  generalize hg : ups (ups (ups f pr { f pr with nx := (sp : Int) }) sp (f (m k))) (m k) ⟨k, v, -1⟩ = g
  have gm : g (m k) = ⟨k, v, -1⟩ := by rw [← hg, ups_same]
  have gs : g sp = f (m k) := by rw [← hg, ups_ne hne, ups_same]
  have gp : g pr = { f pr with nx := (sp : Int) } := by rw [← hg, ups_ne hp1, ups_ne hp2, ups_same]
  have go : ∀ i, i ≠ m k → i ≠ sp → i ≠ pr → g i = f i := fun i e1 e2 e3 => by rw [← hg, ups_ne e1, ups_ne e2, ups_ne e3]
  have gk : ∀ i, i ≠ m k → i ≠ sp → (g i).k = (f i).k := fun i e e2 => by
    by_cases c : i = pr
    · subst c; rw [gp]
    · rw [go i e e2 c]
  have kn : ∀ i, (f i).k ≠ .none → (g i).k ≠ .none := fun i e => by
    by_cases c : i = m k
    · subst c; rw [gm]; exact h0
    · by_cases c2 : i = sp
      · subst c2; rw [gs]; exact hpk
      · rw [gk i c c2]; exact e
  have nself : (f (m k)).nx ≠ (m k : Int) := fun e => by have := hrk _ _ hl hl e; omega
  have nmain : ∀ i, i < n → i ≠ pr → (f i).nx ≠ (m k : Int) := fun i hi hip e => hip (h.inj i pr hi hpr (e.trans hpn.symm) (by rw [e]; omega))
  have hr : ∀ a b, Reach f a b → a < n → a ≠ sp → Reach g (if a = m k then sp else a) (if b = m k then sp else b) := by
    intro a b r
    induction r with
    | refl a => intros; exact .refl _
    | step e r ih =>
      intro ha hs
      have hc := h.nx_lt ha e
      have hcs : ¬ _ = sp := fun e2 => h.nx_ne_free ha hfree (e2 ▸ e)
      have r2 := ih hc hcs
      rename_i a c b
      by_cases c1 : a = m k
      · subst c1
        have c2 : c ≠ m k := fun e2 => nself (e2 ▸ e)
        rw [if_neg c2] at r2
        rw [if_pos rfl]
        exact .step (c := c) (by rw [gs]; exact e) r2
      · rw [if_neg c1]
        by_cases c3 : a = pr
        · subst c3
          have c2 : c = m k := by omega
          rw [if_pos c2] at r2
          exact .step (c := sp) (by rw [gp]) r2
        · have c2 : c ≠ m k := fun e2 => nmain a ha c3 (e2 ▸ e)
          rw [if_neg c2] at r2
          exact .step (by rw [go _ c1 hs c3]; exact e) r2
  have hnm : ∀ i, i < n → (f i).k ≠ .none → m (f i).k ≠ m k := fun i hi e e2 => hpm (by have := (h.main i hi e).2; rw [e2] at this; exact this)
  have hom := hm _ (h.keys _ hl hpk)
  have h1m := h.main _ hl hpk
  have hos : m (f (m k)).k ≠ sp := fun e2 => h1m.1 (by rw [e2]; exact hfree)
  constructor
  · intro i hi
    by_cases c : i = m k
    · subst c; rw [gm]; exact .inl rfl
    · by_cases c2 : i = pr
      · subst c2; exact .inr ⟨sp, hsp, by rw [gp], by rw [gs]; exact hpk⟩
      · have : ∃ i', i' < n ∧ (g i).nx = (f i').nx := by
          by_cases c3 : i = sp
          · subst c3; exact ⟨m k, hl, by rw [gs]⟩
          · exact ⟨i, hi, by rw [go i c c3 c2]⟩
        obtain ⟨i', hi', e⟩ := this
        rw [e]
        rcases h.nx i' hi' with e | ⟨j, hj, e, e2⟩
        · exact .inl e
        · exact .inr ⟨j, hj, e, kn j e2⟩
  · intro i hi e
    by_cases c : i = m k
    · subst c; rw [gm] at e; exact (h0 e).elim
    · by_cases c2 : i = sp
      · subst c2; rw [gs] at e; exact (hpk e).elim
      · have e' := e; rw [gk i c c2] at e'
        have hfr := h.free i hi e'
        have c3 : i ≠ pr := fun e3 => by subst e3; rw [hpn] at hfr; omega
        rw [go i c c2 c3]; exact hfr
  · intro i j hi hj e e0
    have ci : i ≠ m k := fun c => by subst c; rw [gm] at e0; exact e0 rfl
    have cj : j ≠ m k := fun c => by subst c; rw [gm] at e; rw [e] at e0; exact e0 rfl
    have toF : ∀ i, i < n → i ≠ m k → i ≠ pr → ∃ i', i' < n ∧ i' ≠ pr ∧ (g i).nx = (f i').nx ∧ (i = sp ∧ i' = m k ∨ i ≠ sp ∧ i' = i) := by
      intro i hi c c2
      by_cases c3 : i = sp
      · subst c3; exact ⟨m k, hl, fun e => hp1 e.symm, by rw [gs], .inl ⟨rfl, rfl⟩⟩
      · exact ⟨i, hi, c2, by rw [go i c c3 c2], .inr ⟨c3, rfl⟩⟩
    have key : ∀ i j, i < n → j < n → j ≠ m k → i = pr → (g i).nx = (g j).nx → i = j := by
      intro i j hi hj cj c e
      subst c
      by_cases c2 : j = i
      · exact c2.symm
      · obtain ⟨j', hj', _, e2, _⟩ := toF j hj cj c2
        rw [gp, e2] at e
        exact (h.nx_ne_free hj' hfree e.symm).elim
    by_cases c : i = pr
    · exact key i j hi hj cj c e
    · by_cases c2 : j = pr
      · exact (key j i hj hi ci c2 e.symm).symm
      · obtain ⟨i', hi', _, e1, d1⟩ := toF i hi ci c
        obtain ⟨j', hj', _, e2, d2⟩ := toF j hj cj c2
        rw [e1, e2] at e; rw [e1] at e0
        have := h.inj i' j' hi' hj' e e0
        omega
  · refine ⟨fun j => if j = sp then rk (m k) else rk j, fun i j hi hj e => ?_⟩
    dsimp only
    by_cases c : i = m k
    · subst c; rw [gm] at e; simp only at e; omega
    · by_cases c2 : i = pr
      · subst c2; rw [gp] at e
        have : j = sp := by simp only at e; omega
        rw [if_pos this, if_neg hp2]; exact hrk _ _ hi hl hpn
      · by_cases c3 : i = sp
        · subst c3; rw [gs] at e
          have hj2 : j ≠ i := fun e2 => h.nx_ne_free hl hfree (e2 ▸ e)
          rw [if_pos rfl, if_neg hj2]; exact hrk _ _ hl hj e
        · rw [go i c c3 c2] at e
          have hj2 : j ≠ sp := fun e2 => h.nx_ne_free hi hfree (e2 ▸ e)
          rw [if_neg c3, if_neg hj2]; exact hrk _ _ hi hj e
  · intro i hi e
    by_cases c : i = m k
    · subst c; rw [gm]; exact .refl _
    · by_cases c2 : i = sp
      · subst c2; rw [gs]
        have := hr _ _ (h.reach _ hl hpk) hom hos
        rw [if_pos rfl, if_neg hpm] at this
        exact this
      · rw [gk i c c2] at e ⊢
        have h1 := h.main i hi e
        have := hr _ _ (h.reach i hi e) (hm _ (h.keys i hi e)) fun e2 => h1.1 (by rw [e2]; exact hfree)
        rw [if_neg (hnm i hi e), if_neg c] at this
        exact this
  · intro i hi e
    by_cases c : i = m k
    · subst c; rw [gm]; dsimp only; rw [gm]; exact ⟨h0, rfl⟩
    · by_cases c2 : i = sp
      · subst c2; rw [gs]
        rw [gk _ hpm hos]; exact h1m
      · rw [gk i c c2] at e ⊢
        have h1 := h.main i hi e
        have c4 : m (f i).k ≠ sp := fun e2 => h1.1 (by rw [e2]; exact hfree)
        rw [gk _ (hnm i hi e) c4]; exact h1
  · intro i j hi hj e e0
    have toK : ∀ i, i < n → i ≠ m k → ∃ i', i' < n ∧ (g i).k = (f i').k ∧ (i = sp ∧ i' = m k ∨ i ≠ sp ∧ i' = i) := by
      intro i hi c
      by_cases c3 : i = sp
      · subst c3; exact ⟨m k, hl, by rw [gs], .inl ⟨rfl, rfl⟩⟩
      · exact ⟨i, hi, gk i c c3, .inr ⟨c3, rfl⟩⟩
    by_cases c : i = m k
    · by_cases c2 : j = m k
      · rw [c, c2]
      · obtain ⟨j', hj', e2, _⟩ := toK j hj c2
        subst c; rw [gm, e2] at e; exact (hf j' hj' e.symm).elim
    · obtain ⟨i', hi', e1, d1⟩ := toK i hi c
      by_cases c2 : j = m k
      · subst c2; rw [gm, e1] at e; exact (hf i' hi' e).elim
      · obtain ⟨j', hj', e2, d2⟩ := toK j hj c2
        rw [e1, e2] at e; rw [e1] at e0
        have := h.uniq i' j' hi' hj' e e0
        omega
  · exact ⟨by omega, by omega⟩
  · intro i hi hfr
    by_cases c : i = sp
    · subst c; rw [gs]; exact hpk
    · exact kn i (hab i hi (by omega))
  · intro i hi e
    by_cases c : i = m k
    · subst c; rw [gm]; exact hk
    · by_cases c2 : i = sp
      · subst c2; rw [gs]; exact h.keys _ hl hpk
      · rw [gk i c c2] at e ⊢; exact h.keys i hi e
/-- an empty hash part -/
theorem CI.blank (hb : ∀ i, i < n → f i = ⟨.none, .none, -1⟩) : CI n f n m KS := by
  constructor
  · intro i hi; rw [hb i hi]; exact .inl rfl
  · intro i hi _; rw [hb i hi]; exact ⟨rfl, rfl⟩
  · intro i j hi _ _ e; rw [hb i hi] at e; exact (e rfl).elim
  · exact ⟨fun _ => 0, fun i j hi _ e => by rw [hb i hi] at e; simp only at e; omega⟩
  · intro i hi e; rw [hb i hi] at e; exact (e rfl).elim
  · intro i hi e; rw [hb i hi] at e; exact (e rfl).elim
  · intro i j hi _ _ e; rw [hb i hi] at e; exact (e rfl).elim
  · exact ⟨by omega, by omega⟩
  · intro i hi h; omega
  · intro i hi e; rw [hb i hi] at e; exact (e rfl).elim
/-- another value in a place with a key -/
theorem CI.value (h : CI n f fr m KS) {i : Nat} (hk : (f i).k ≠ .none) : CI n (ups f i { f i with v := v }) fr m KS := by
  have ke : ∀ j, (ups f i { f i with v := v } j).k = (f j).k := fun j => by
    by_cases c : j = i
    · subst c; rw [ups_same]
    · rw [ups_ne c]
  have ne : ∀ j, (ups f i { f i with v := v } j).nx = (f j).nx := fun j => by
    by_cases c : j = i
    · subst c; rw [ups_same]
    · rw [ups_ne c]
  constructor
  · intro j hj; rw [ne]
    rcases h.nx j hj with e | ⟨c, hc, e, e2⟩
    · exact .inl e
    · exact .inr ⟨c, hc, e, by rw [ke]; exact e2⟩
  · intro j hj e
    rw [ke] at e
    have c : j ≠ i := fun c => hk (c ▸ e)
    rw [ups_ne c]; exact h.free j hj e
  · intro a b ha hb; rw [ne, ne]; exact h.inj a b ha hb
  · obtain ⟨rk, hr⟩ := h.rank
    exact ⟨rk, fun a b ha hb => by rw [ne]; exact hr a b ha hb⟩
  · intro j hj; rw [ke]; exact fun e => (h.reach j hj e).of_nx ne
  · intro j hj; rw [ke, ke]; exact h.main j hj
  · intro a b ha hb; rw [ke, ke]; exact h.uniq a b ha hb
  · exact h.fr0
  · intro j hj; rw [ke]; exact h.frk j hj
  · intro j hj; rw [ke]; exact h.keys j hj
end
end
section
noncomputable def gd (ns : List PN) (i : Nat) : PN := ns.getD i ⟨.none, .none, -1⟩
theorem gd_some {ns : List PN} {i : Nat} (h : i < ns.length) : ns[i]? = some (gd ns i) := by
  unfold gd; rw [List.getD_eq_getElem?_getD, List.getElem?_eq_getElem h]; rfl
theorem gd_mem {ns : List PN} {i : Nat} (h : i < ns.length) : gd ns i ∈ ns := List.mem_of_getElem? (gd_some h)
theorem gd_of_mem {ns : List PN} {x : PN} (h : x ∈ ns) : ∃ i, i < ns.length ∧ gd ns i = x := by
  obtain ⟨i, hi, e⟩ := List.getElem_of_mem h
  refine ⟨i, hi, ?_⟩
  have := gd_some hi
  rw [List.getElem?_eq_getElem hi, e] at this
  exact (Option.some.inj this).symm
theorem gd_modify {ns : List PN} {i : Nat} {g : PN → PN} (h : i < ns.length) : gd (ns.modify i g) = ups (gd ns) i (g (gd ns i)) := by
  funext j
  by_cases c : j = i
  · subst c
    rw [ups_same]; unfold gd
    rw [List.getD_eq_getElem?_getD, List.getD_eq_getElem?_getD, List.getElem?_modify, List.getElem?_eq_getElem h]; simp
  · rw [ups_ne c]; unfold gd
    rw [List.getD_eq_getElem?_getD, List.getD_eq_getElem?_getD, List.getElem?_modify]
    have : ¬ i = j := fun e => c e.symm
    simp [this]
/-- more places than members -/
theorem pigeon {α : Type} [DecidableEq α] : ∀ {l L : List α}, l.Nodup → (∀ x ∈ l, x ∈ L) → l.length ≤ L.length
  | [], _, _, _ => Nat.zero_le _
  | x :: l, L, hn, hs => by
    obtain ⟨h1, h2⟩ := List.nodup_cons.mp hn
    have hx := hs x (.head _)
    have := pigeon (L := L.erase x) h2 fun y hy => (List.mem_erase_of_ne (fun e => h1 (by rw [← e]; exact hy))).mpr (hs y (.tail _ hy))
    have h3 := List.length_erase_of_mem hx
    have h4 : 0 < L.length := List.length_pos_of_mem hx
    simp only [List.length_cons]; omega
theorem rank_bounded {n : Nat} {f : Nat → PN} (h : ∃ rk : Nat → Nat, ∀ i j, i < n → j < n → (f i).nx = (j : Int) → rk j < rk i) :
    ∃ rk : Nat → Nat, (∀ i, i < n → rk i < n) ∧ ∀ i j, i < n → j < n → (f i).nx = (j : Int) → rk j < rk i := by
  obtain ⟨rk, h⟩ := h
  refine ⟨fun i => ((List.range n).filter fun x => rk x < rk i).length, fun i hi => ?_, fun i j hi hj e => ?_⟩
  · have := (List.length_filter_lt_length_iff_exists (p := fun x => decide (rk x < rk i)) (l := List.range n)).mpr ⟨i, List.mem_range.mpr hi, by simp⟩
    simpa using this
  · have hlt := h i j hi hj e
    have e1 : (List.range n).filter (fun x => decide (rk x < rk j)) = ((List.range n).filter fun x => decide (rk x < rk i)).filter fun x => decide (rk x < rk j) := by
      rw [List.filter_filter]
      apply List.filter_congr
      intro x _
      by_cases c : rk x < rk j
      · have : rk x < rk i := by omega
        simp [c, this]
      · simp [c]
    show (List.filter (fun x => decide (rk x < rk j)) (List.range n)).length < (List.filter (fun x => decide (rk x < rk i)) (List.range n)).length
    rw [e1]
    exact List.length_filter_lt_length_iff_exists.mpr ⟨j, List.mem_filter.mpr ⟨List.mem_range.mpr hj, by simp [hlt]⟩, by simp⟩
section
variable {ns : List PN} {fr : Int} {m : PV → Nat} {KS : List PV} {k v : PV}
theorem find_absent {rk : Nat → Nat} (h : CI ns.length (gd ns) fr m KS) (hrk : ∀ i j, i < ns.length → j < ns.length → (gd ns i).nx = (j : Int) → rk j < rk i) (hk : ∀ i, i < ns.length → (gd ns i).k ≠ k) :
    ∀ {fuel a : Nat}, a < ns.length → rk a + 2 ≤ fuel → findFrom ns k fuel a = some (-1) := by
  intro fuel
  induction fuel with
  | zero => intro a _ h; omega
  | succ fuel ih =>
    intro a ha hf
    unfold findFrom
    rw [if_neg (by omega), show ((a : Int).toNat) = a by omega, gd_some ha]
    dsimp only
    rw [if_neg (hk a ha)]
    rcases h.nx a ha with e | ⟨j, hj, e, _⟩
    · rw [e]
      obtain ⟨fuel, rfl⟩ : ∃ g, fuel = g + 1 := ⟨fuel - 1, by omega⟩
      unfold findFrom; rw [if_pos (by decide)]
    · rw [e]
      exact ih hj (by have := hrk a j ha hj e; omega)
theorem find_there {rk : Nat → Nat} (h : CI ns.length (gd ns) fr m KS) (hrk : ∀ i j, i < ns.length → j < ns.length → (gd ns i).nx = (j : Int) → rk j < rk i) {a b : Nat} (r : Reach (gd ns) a b) :
    b < ns.length → (gd ns b).k = k → k ≠ .none → a < ns.length → ∀ {fuel : Nat}, rk a + 2 ≤ fuel → findFrom ns k fuel (a : Int) = some (b : Int) := by
  induction r with
  | refl a =>
    intro hb hk _ _ fuel hf
    obtain ⟨fuel, rfl⟩ : ∃ g, fuel = g + 1 := ⟨fuel - 1, by omega⟩
    unfold findFrom
    rw [if_neg (by omega), show ((a : Int).toNat) = a by omega, gd_some hb]
    dsimp only
    rw [if_pos hk]
  | step e r ih =>
    intro hb hk h0 ha fuel hf
    rename_i a c b
    have hc := h.nx_lt ha e
    obtain ⟨fuel, rfl⟩ : ∃ g, fuel = g + 1 := ⟨fuel - 1, by omega⟩
    unfold findFrom
    rw [if_neg (by omega), show ((a : Int).toNat) = a by omega, gd_some ha]
    dsimp only
    by_cases c1 : (gd ns a).k = k
    · have := h.uniq a b ha hb (c1.trans hk.symm) (by rw [c1]; exact h0)
      rw [if_pos c1, this]
    · rw [if_neg c1, e]
      exact ih hb hk h0 hc (by have := hrk a c ha hc e; omega)
theorem pred_there {rk : Nat → Nat} (h : CI ns.length (gd ns) fr m KS) (hrk : ∀ i j, i < ns.length → j < ns.length → (gd ns i).nx = (j : Int) → rk j < rk i) {a b : Nat} (r : Reach (gd ns) a b) :
    a ≠ b → a < ns.length → ∀ {fuel : Nat}, rk a + 2 ≤ fuel → ∃ pr, pr < ns.length ∧ (gd ns pr).nx = (b : Int) ∧ predFrom ns b fuel a = some (pr : Int) := by
  induction r with
  | refl a => intro h; exact (h rfl).elim
  | step e r ih =>
    intro hab ha fuel hf
    rename_i a c b
    have hc := h.nx_lt ha e
    obtain ⟨fuel, rfl⟩ : ∃ g, fuel = g + 1 := ⟨fuel - 1, by omega⟩
    unfold predFrom
    rw [if_neg (by omega), show ((a : Int).toNat) = a by omega, gd_some ha]
    dsimp only
    by_cases c1 : (gd ns a).nx = (b : Int)
    · rw [if_pos c1]; exact ⟨a, ha, c1, rfl⟩
    · rw [if_neg c1, e]
      exact ih (fun e2 => c1 (by rw [e, e2])) hc (by have := hrk a c ha hc e; omega)
theorem free_there : ∀ {fuel : Nat} {fr : Int}, 0 ≤ fr → fr ≤ ns.length → fr < fuel →
    (∃ sp : Nat, sp < ns.length ∧ (sp : Int) < fr ∧ freeFrom ns fuel fr = some ((sp : Int), (sp : Int)) ∧ (gd ns sp).k = .none ∧ ∀ i : Nat, sp < i → (i : Int) < fr → (gd ns i).k ≠ .none)
    ∨ (freeFrom ns fuel fr = some (-1, 0) ∧ ∀ i : Nat, (i : Int) < fr → (gd ns i).k ≠ .none)
  | 0, fr, h0, _, hf => by omega
  | fuel + 1, fr, h0, h1, hf => by
    unfold freeFrom
    by_cases c : 0 < fr
    · rw [if_pos c]
      have hi : (fr - 1).toNat < ns.length := by omega
      rw [gd_some hi]
      dsimp only
      by_cases c2 : (gd ns (fr - 1).toNat).k = .none
      · rw [if_pos c2]
        refine .inl ⟨(fr - 1).toNat, hi, by omega, by rw [show (((fr - 1).toNat : Nat) : Int) = fr - 1 by omega], c2, fun i h2 h3 => by omega⟩
      · rw [if_neg c2]
        have ext : ∀ i : Nat, (i : Int) < fr → (fr - 1 ≤ i) → (gd ns i).k ≠ .none := fun i h2 h3 => by
          have : i = (fr - 1).toNat := by omega
          rw [this]; exact c2
        rcases free_there (fuel := fuel) (fr := fr - 1) (by omega) (by omega) (by omega) with ⟨sp, a1, a2, a3, a4, a5⟩ | ⟨a1, a2⟩
        · exact .inl ⟨sp, a1, by omega, a3, a4, fun i h2 h3 => if h : (i : Int) < fr - 1 then a5 i h2 h else ext i h3 (by omega)⟩
        · exact .inr ⟨a1, fun i h3 => if h : (i : Int) < fr - 1 then a2 i h else ext i h3 (by omega)⟩
    · rw [if_neg c]
      have : fr = 0 := by omega
      subst this
      exact .inr ⟨rfl, fun i h => by omega⟩
end
end
section
/-- the words of the law -/
noncomputable def WS : List (List UInt8) := [[95, 95, 105, 110, 100, 101, 120], [95, 95, 110, 101, 119, 105, 110, 100, 101, 120], [95, 95, 103, 99], [95, 95, 109, 111, 100, 101], [95, 95, 101, 113], [95, 95, 97, 100, 100], [95, 95, 99, 97, 108, 108], [111, 116, 104, 101, 114]]
/-- the keys of the law -/
noncomputable def KS : List PV := [.int 1, .int 2, .int 3, .int (-1)] ++ WS.map PV.bytes
noncomputable def sizesB (n : Nat) : Bool := n == 0 || n == 1 || n == 2 || n == 4 || n == 8 || n == 16 || n == 32
noncomputable def mpN (n : Nat) (k : PV) : Nat := (mp n k).toNat
theorem mp_all : ∀ n ∈ [1, 2, 4, 8, 16, 32], ∀ k ∈ KS, 0 ≤ mp n k ∧ mp n k < n := by decide +kernel
theorem keyB_all : ∀ k ∈ KS, k.keyB = true := by decide +kernel
theorem ne_none_all : ∀ k ∈ KS, k ≠ PV.none := by decide +kernel
theorem idx_all : ∀ k ∈ KS, k.idx = -1 ∨ (k = .int 1 ∨ k = .int 2 ∨ k = .int 3) := by decide +kernel
theorem mp_in {n : Nat} (hn : sizesB n = true) (h0 : n ≠ 0) {k : PV} (hk : k ∈ KS) : 0 ≤ mp n k ∧ mp n k < n := by
  refine mp_all n ?_ k hk
  simp only [sizesB, Bool.or_eq_true, beq_iff_eq] at hn
  simp only [List.mem_cons, List.not_mem_nil, or_false]
  omega
theorem mpN_lt {n : Nat} (hn : sizesB n = true) (h0 : n ≠ 0) {k : PV} (hk : k ∈ KS) : mpN n k < n := by
  have := mp_in hn h0 hk; unfold mpN; omega
theorem mpN_eq {n : Nat} (hn : sizesB n = true) (h0 : n ≠ 0) {k : PV} (hk : k ∈ KS) : mp n k = (mpN n k : Int) := by
  have := mp_in hn h0 hk; unfold mpN; omega
theorem sizes_le {n : Nat} (h : sizesB n = true) : n ≤ 32 := by
  simp only [sizesB, Bool.or_eq_true, beq_iff_eq] at h; omega
structure WF (t : PT) : Prop where
  en : t.es.length ≤ 4
  e4 : t.es.getD 3 .none = .none
  nn : sizesB t.ns.length = true
  ci : CI t.ns.length (gd t.ns) t.fr (mpN t.ns.length) KS
  ar : ∀ i, i < t.ns.length → (gd t.ns i).k ≠ .none → ¬ (1 ≤ (gd t.ns i).k.idx ∧ (gd t.ns i).k.idx ≤ t.es.length)
/-- k is in the array part -/
noncomputable abbrev InA (t : PT) (k : PV) : Prop := 1 ≤ k.idx ∧ k.idx ≤ t.es.length
noncomputable def AEnt (t : PT) (k u : PV) : Prop := ∃ i : Nat, i < t.es.length ∧ k = .int (i + 1) ∧ t.es.getD i .none = u
noncomputable def NEnt (t : PT) (k u : PV) : Prop := ∃ i, i < t.ns.length ∧ (gd t.ns i).k = k ∧ (gd t.ns i).v = u
noncomputable def NDom (t : PT) (k : PV) : Prop := k ≠ .none ∧ ∃ i, i < t.ns.length ∧ (gd t.ns i).k = k
/-- k has the value u, not none -/
noncomputable def Ent (t : PT) (k u : PV) : Prop := u ≠ .none ∧ (AEnt t k u ∨ NEnt t k u)
/-- k is held, if by a dead place -/
noncomputable def Dom (t : PT) (k : PV) : Prop := (∃ u, u ≠ .none ∧ AEnt t k u) ∨ NDom t k
section
variable {t : PT} {k v : PV}
theorem WF.mlt (h : WF t) (h0 : t.ns.length ≠ 0) : ∀ k ∈ KS, mpN t.ns.length k < t.ns.length := fun _ hk => mpN_lt h.nn h0 hk
theorem WF.fuel (h : WF t) : ∃ rk : Nat → Nat, (∀ i, i < t.ns.length → rk i + 2 ≤ 65) ∧ ∀ i j, i < t.ns.length → j < t.ns.length → (gd t.ns i).nx = (j : Int) → rk j < rk i := by
  obtain ⟨rk, h1, h2⟩ := rank_bounded h.ci.rank
  have := sizes_le h.nn
  exact ⟨rk, fun i hi => by have := h1 i hi; omega, h2⟩
theorem WF.find (h : WF t) (hk : k ∈ KS) : (findNode t.ns k 65 = some (-1) ∧ ¬ NDom t k) ∨ ∃ i, i < t.ns.length ∧ (gd t.ns i).k = k ∧ findNode t.ns k 65 = some (i : Int) := by
  have h0 := ne_none_all k hk
  by_cases c : t.ns.length = 0
  · exact .inl ⟨if_pos c, fun ⟨_, i, hi, _⟩ => by omega⟩
  · obtain ⟨rk, r1, r2⟩ := h.fuel
    unfold findNode
    rw [if_neg c, mpN_eq h.nn c hk]
    by_cases d : ∃ i, i < t.ns.length ∧ (gd t.ns i).k = k
    · obtain ⟨i, hi, e⟩ := d
      refine .inr ⟨i, hi, e, ?_⟩
      have hr := h.ci.reach i hi (by rw [e]; exact h0)
      rw [e] at hr
      exact find_there h.ci r2 hr hi e h0 (mpN_lt h.nn c hk) (r1 _ (mpN_lt h.nn c hk))
    · refine .inl ⟨?_, fun ⟨_, i, hi, e⟩ => d ⟨i, hi, e⟩⟩
      exact find_absent h.ci r2 (fun i hi e => d ⟨i, hi, e⟩) (mpN_lt h.nn c hk) (r1 _ (mpN_lt h.nn c hk))
theorem Ent.dom {u : PV} (h : WF t) (e : Ent t k u) : Dom t k := by
  obtain ⟨h0, e | ⟨i, hi, e1, e2⟩⟩ := e
  · exact .inl ⟨u, h0, e⟩
  · refine .inr ⟨?_, i, hi, e1⟩
    rw [← e1]; exact h.ci.live_key hi (by rw [e2]; exact h0)
theorem aent_idx {u : PV} (h : AEnt t k u) : InA t k := by
  obtain ⟨i, hi, rfl, _⟩ := h
  show 1 ≤ (i : Int) + 1 ∧ (i : Int) + 1 ≤ _
  omega
theorem nent_idx {u : PV} (h : WF t) (e : NEnt t k u) (h0 : k ≠ .none) : ¬ InA t k := by
  obtain ⟨i, hi, e1, _⟩ := e
  have := h.ar i hi (by rw [e1]; exact h0)
  rw [e1] at this; exact this
theorem idx_int (h : 1 ≤ k.idx) : k = .int k.idx := by
  cases k with
  | none => exact absurd h (by decide)
  | int i => rfl
  | bytes b => exact absurd h (by decide : ¬ (1 : Int) ≤ -1)
theorem aent_at (h : InA t k) (u : PV) : AEnt t k u ↔ t.es.getD (k.idx - 1).toNat .none = u := by
  constructor
  · rintro ⟨i, hi, rfl, e⟩
    rw [← e]; congr 1
    show ((i : Int) + 1 - 1).toNat = i
    omega
  · intro e
    refine ⟨(k.idx - 1).toNat, by have := h.1; have := h.2; omega, ?_, e⟩
    rw [idx_int h.1]
    show PV.int k.idx = .int (((k.idx - 1).toNat : Int) + 1)
    congr 1; have := h.1; omega
/-- what a word has -/
theorem WF.getAny (h : WF t) (hk : k ∈ KS) (hi : ¬ InA t k) : ∃ r, Mine.getAny t.ns k 65 = some r ∧ ∀ u, u ≠ .none → (Ent t k u ↔ r = u) := by
  have h0 := ne_none_all k hk
  unfold Mine.getAny
  rcases h.find hk with ⟨e, hd⟩ | ⟨i, hl, e1, e⟩
  · refine ⟨.none, by rw [e]; rfl, fun u hu => ⟨fun he => ?_, fun he => (hu he.symm).elim⟩⟩
    obtain ⟨_, e2 | ⟨i, hl, e1, _⟩⟩ := he
    · exact (hi (aent_idx e2)).elim
    · exact (hd ⟨h0, i, hl, e1⟩).elim
  · refine ⟨(gd t.ns i).v, ?_, fun u hu => ⟨fun he => ?_, fun he => ⟨hu, .inr ⟨i, hl, e1, he⟩⟩⟩⟩
    · rw [e]
      show valAt t.ns i = _
      unfold valAt
      rw [if_neg (by omega), show (i : Int).toNat = i by omega, gd_some hl]; rfl
    · obtain ⟨_, e2 | ⟨j, hj, e2, e3⟩⟩ := he
      · exact (hi (aent_idx e2)).elim
      · have := h.ci.uniq i j hl hj (e1.trans e2.symm) (by rw [e1]; exact h0)
        rw [this]; exact e3
theorem WF.getKey (h : WF t) (hk : k ∈ KS) : ∃ r, Mine.getKey t.es t.ns k 65 = some r ∧ ∀ u, u ≠ .none → (Ent t k u ↔ r = u) := by
  by_cases c : InA t k
  · have e := idx_int c.1
    refine ⟨t.es.getD (k.idx - 1).toNat .none, ?_, fun u hu => ⟨fun he => ?_, fun he => ⟨hu, .inl ((aent_at c u).mpr he)⟩⟩⟩
    · rw [e]
      show getInt t.es t.ns k.idx 65 = _
      unfold getInt
      rw [if_pos c]
      show _ = some (t.es.getD (k.idx - 1).toNat .none)
      rw [List.getD_eq_getElem?_getD, List.getElem?_eq_getElem (by have := c.1; have := c.2; omega)]; rfl
    · obtain ⟨_, e2 | e2⟩ := he
      · exact (aent_at c u).mp e2
      · exact (nent_idx h e2 (ne_none_all k hk) c).elim
  · obtain ⟨r, h1, h2⟩ := h.getAny hk c
    refine ⟨r, ?_, h2⟩
    cases k with
    | none => exact h1
    | bytes b => exact h1
    | int i =>
      show getInt t.es t.ns i 65 = _
      unfold getInt
      exact (if_neg c).trans h1
end
end
section
/-- t' is t with k for v -/
structure Ins (t t' : PT) (k v : PV) : Prop where
  wf : WF t'
  fl : t'.fl = t.fl
  ent : ∀ k' u, u ≠ .none → (Ent t' k' u ↔ (k' = k ∧ u = v) ∨ (k' ≠ k ∧ Ent t k' u))
  dom : ∀ k', Dom t' k' → k' = k ∨ Dom t k'
/-- .. and of the same sizes -/
structure InsR (t t' : PT) (k v : PV) : Prop extends Ins t t' k v where
  es : t'.es.length = t.es.length
  ns : t'.ns.length = t.ns.length
  nd : ∀ k', NDom t' k' → (k' = k ∧ ¬ InA t k) ∨ NDom t k'
section
variable {t : PT} {k v : PV}
theorem mkIns (h : WF t) (hk : k ∈ KS) (hi : ¬ InA t k) (hd : ¬ NDom t k) {ns' : List PN} {fr' : Int} {g : Nat → PN} (hl : ns'.length = t.ns.length) (hg : gd ns' = g)
    (hci : CI t.ns.length g fr' (mpN t.ns.length) KS)
    (a : ∀ i, i < t.ns.length → ((g i).k = k ∧ (g i).v = v) ∨ ∃ j, j < t.ns.length ∧ (g i).k = (gd t.ns j).k ∧ (g i).v = (gd t.ns j).v)
    (b : ∃ i, i < t.ns.length ∧ (g i).k = k ∧ (g i).v = v)
    (c : ∀ j, j < t.ns.length → (gd t.ns j).v ≠ .none → ∃ i, i < t.ns.length ∧ (g i).k = (gd t.ns j).k ∧ (g i).v = (gd t.ns j).v) :
    InsR t { t with ns := ns', fr := fr' } k v := by
  subst hg
  have h0 := ne_none_all k hk
  have hnd : ∀ k', NDom { t with ns := ns', fr := fr' } k' → (k' = k ∧ ¬ InA t k) ∨ NDom t k' := by
    rintro k' ⟨e0, i, hil, e⟩
    rcases a i (hl ▸ hil) with ⟨e1, _⟩ | ⟨j, hj, e1, _⟩
    · exact .inl ⟨e.symm.trans e1, hi⟩
    · exact .inr ⟨e0, j, hj, e1.symm.trans e⟩
  refine { wf := ⟨h.en, h.e4, by rw [hl]; exact h.nn, by rw [hl]; exact hci, ?_⟩, fl := rfl, ent := ?_, dom := ?_, es := rfl, ns := hl, nd := hnd }
  · intro i hil e
    rcases a i (hl ▸ hil) with ⟨e1, _⟩ | ⟨j, hj, e1, _⟩
    · rw [e1]; exact hi
    · rw [e1] at e ⊢; exact h.ar j hj e
  · intro k' u hu
    constructor
    · rintro ⟨_, e | ⟨i, hil, e1, e2⟩⟩
      · refine .inr ⟨fun e2 => ?_, hu, .inl e⟩
        subst e2
        exact hi (aent_idx (t := t) e)
      · rcases a i (hl ▸ hil) with ⟨e3, e4⟩ | ⟨j, hj, e3, e4⟩
        · exact .inl ⟨e1.symm.trans e3, e2.symm.trans e4⟩
        · refine .inr ⟨fun e5 => hd ⟨h0, j, hj, by rw [← e3, e1, e5]⟩, hu, .inr ⟨j, hj, e3.symm.trans e1, e4.symm.trans e2⟩⟩
    · rintro (⟨rfl, rfl⟩ | ⟨hne, _, e | ⟨j, hj, e1, e2⟩⟩)
      · obtain ⟨i, hil, e1, e2⟩ := b
        exact ⟨hu, .inr ⟨i, hl ▸ hil, e1, e2⟩⟩
      · exact ⟨hu, .inl e⟩
      · obtain ⟨i, hil, e3, e4⟩ := c j hj (by rw [e2]; exact hu)
        exact ⟨hu, .inr ⟨i, hl ▸ hil, e3.trans e1, e4.trans e2⟩⟩
  · rintro k' (⟨u, hu, e⟩ | e)
    · exact .inr (.inl ⟨u, hu, e⟩)
    · rcases hnd k' e with ⟨e, _⟩ | e
      · exact .inl e
      · exact .inr (.inr e)
theorem up_len {i : Nat} {g : PN → PN} : (PT.up t i g).ns.length = t.ns.length := by unfold PT.up; simp
/-- new_key without a new measure, or with one -/
theorem nk_cases (h : WF t) (hk : k ∈ KS) (hi : ¬ InA t k) (hd : ¬ NDom t k) (nk : PT → PV → PV → Option PT) (v : PV) :
    (∃ t', newKeyF nk t k v = some t' ∧ InsR t t' k v) ∨
    ((∀ i, i < t.ns.length → (gd t.ns i).k ≠ .none) ∧ ∃ fr', WF { t with fr := fr' } ∧ newKeyF nk t k v = (rehashF nk { t with fr := fr' } k).bind fun t' => backF nk t' k v) := by
  have h0 := ne_none_all k hk
  have hs := sizes_le h.nn
  have he := h.en
  unfold newKeyF
  rw [if_pos ⟨by omega, by omega⟩]
  by_cases c : t.ns.length = 0
  · rw [if_pos c]
    exact .inr ⟨fun i hil => by omega, t.fr, h, rfl⟩
  rw [if_neg c, mpN_eq h.nn c hk]
  have hm := h.mlt c
  have hf : ∀ i, i < t.ns.length → (gd t.ns i).k ≠ k := fun i hil e => hd ⟨h0, i, hil, e⟩
  have hl := hm k hk
  unfold nkAt
  rw [if_neg (by omega), show ((mpN t.ns.length k : Int)).toNat = mpN t.ns.length k by omega, gd_some hl]
  dsimp only
  generalize hmn : mpN t.ns.length k = mn at hl ⊢
  by_cases cv : (gd t.ns mn).v = .none
  · rw [if_pos cv]
    refine .inl ⟨_, rfl, ?_⟩
    have hci := h.ci.dead (v := v) hm hk h0 hf
    rw [hmn] at hci
    refine mkIns h hk hi hd (ns' := _) (fr' := t.fr) (by simp [PT.up]) ?_ hci ?_ ?_ ?_
    · show gd ((t.ns.modify mn (PN.wK k)).modify mn (PN.wV v)) = _
      rw [gd_modify (by simpa using hl), gd_modify hl]
      funext j
      by_cases e : j = mn
      · subst e; simp only [ups_same, PN.wK, PN.wV]
      · simp only [ups_ne e]
    · intro i hil
      by_cases e : i = mn
      · subst e; rw [ups_same]; exact .inl ⟨rfl, rfl⟩
      · rw [ups_ne e]; exact .inr ⟨i, hil, rfl, rfl⟩
    · exact ⟨mn, hl, by rw [ups_same], by rw [ups_same]⟩
    · intro j hj e
      have : j ≠ mn := fun e2 => e (e2 ▸ cv)
      exact ⟨j, hj, by rw [ups_ne this], by rw [ups_ne this]⟩
  rw [if_neg cv]
  unfold nkLive
  have hpk := h.ci.live_key hl cv
  rcases free_there (ns := t.ns) (fuel := 65) (fr := t.fr) h.ci.fr0.1 h.ci.fr0.2 (by have := h.ci.fr0.2; omega) with ⟨sp, hsp, hspf, e, hfree, hab⟩ | ⟨e, hall⟩
  · rw [e]; clear e
    dsimp only
    have hab' : ∀ i, i < t.ns.length → sp < i → (gd t.ns i).k ≠ .none := fun i hil hsi => if c3 : (i : Int) < t.fr then hab i hsi c3 else h.ci.frk i hil (by omega)
    have hne : sp ≠ mn := fun e => hpk (e ▸ hfree)
    have hpKS := h.ci.keys mn hl hpk
    rw [if_neg (by omega)]
    unfold nkTaken
    rw [if_neg (by
      rintro (e | e | e)
      · rw [keyB_all _ hpKS] at e; cases e
      · omega
      · omega), mpN_eq h.nn c hpKS, show ((sp : Int)).toNat = sp by omega]
    have hold := mpN_lt h.nn c hpKS
    by_cases cm : mpN t.ns.length (gd t.ns mn).k = mn
    · rw [if_pos (by omega)]
      refine .inl ⟨_, rfl, ?_⟩
      have hci := h.ci.same (v := v) hm hk h0 hf (by rw [hmn]; exact hpk) (by rw [hmn]; exact cm) hsp hfree hab'
      rw [hmn] at hci
      refine mkIns h hk hi hd (ns' := _) (fr' := (sp : Int)) (by simp [PT.up]) ?_ hci ?_ ?_ ?_
      · show gd ((((t.ns.modify sp (PN.wN (gd t.ns mn).nx)).modify mn (PN.wN sp)).modify sp (PN.wK k)).modify sp (PN.wV v)) = _
        rw [gd_modify (by simpa using hsp), gd_modify (by simpa using hsp), gd_modify (by simpa using hl), gd_modify hsp]
        funext j
        by_cases e : j = mn
        · subst e; simp only [ups_same, ups_ne (Ne.symm hne), PN.wN]
        · by_cases e2 : j = sp
          · subst e2; simp only [ups_same, ups_ne hne, PN.wN, PN.wK, PN.wV]
          · simp only [ups_ne e, ups_ne e2]
      · intro i hil
        by_cases e : i = mn
        · subst e; rw [ups_same]; exact .inr ⟨i, hil, rfl, rfl⟩
        · rw [ups_ne e]
          by_cases e2 : i = sp
          · subst e2; rw [ups_same]; exact .inl ⟨rfl, rfl⟩
          · rw [ups_ne e2]; exact .inr ⟨i, hil, rfl, rfl⟩
      · exact ⟨sp, hsp, by rw [ups_ne hne, ups_same], by rw [ups_ne hne, ups_same]⟩
      · intro j hj e
        have e2 : j ≠ sp := fun e2 => e (e2 ▸ (h.ci.free sp hsp hfree).2)
        by_cases e3 : j = mn
        · subst e3; exact ⟨j, hj, by rw [ups_same], by rw [ups_same]⟩
        · exact ⟨j, hj, by rw [ups_ne e3, ups_ne e2], by rw [ups_ne e3, ups_ne e2]⟩
    · rw [if_neg (by omega)]
      unfold nkMove
      rw [mpN_eq h.nn c hpKS]
      obtain ⟨rk, r1, r2⟩ := h.fuel
      obtain ⟨pr, hpr, hpn, e⟩ := pred_there h.ci r2 (h.ci.reach mn hl hpk) cm hold (r1 _ hold)
      have hp1 : pr ≠ mn := fun e => by have := r2 pr mn hpr hl hpn; subst e; omega
      have hp2 : pr ≠ sp := fun e => by have := (h.ci.free sp hsp hfree).1; rw [e] at hpn; omega
      rw [e]; clear e
      dsimp only
      rw [if_neg (by omega), show ((pr : Int)).toNat = pr by omega]
      refine .inl ⟨_, rfl, ?_⟩
      have hci := h.ci.move (v := v) hm hk h0 hf (by rw [hmn]; exact hpk) (by rw [hmn]; exact cm) hsp hfree hab' hpr (by rw [hmn]; exact hpn)
      rw [hmn] at hci
      refine mkIns h hk hi hd (ns' := _) (fr' := (sp : Int)) (by simp [PT.up]) ?_ hci ?_ ?_ ?_
      · show gd ((((((t.ns.modify pr (PN.wN sp)).modify sp fun _ => gd t.ns mn).modify mn (PN.wN (-1))).modify mn (PN.wV .none)).modify mn (PN.wK k)).modify mn (PN.wV v)) = _
        rw [gd_modify (by simpa using hl), gd_modify (by simpa using hl), gd_modify (by simpa using hl), gd_modify (by simpa using hl), gd_modify (by simpa using hsp), gd_modify hpr]
        funext j
        by_cases e : j = mn
        · subst e; simp only [ups_same, PN.wN, PN.wK, PN.wV]
        · by_cases e2 : j = sp
          · subst e2; simp only [ups_same, ups_ne e]
          · by_cases e3 : j = pr
            · subst e3; simp only [ups_same, ups_ne e, ups_ne e2, PN.wN]
            · simp only [ups_ne e, ups_ne e2, ups_ne e3]
      · intro i hil
        by_cases e : i = mn
        · subst e; rw [ups_same]; exact .inl ⟨rfl, rfl⟩
        · rw [ups_ne e]
          by_cases e2 : i = sp
          · subst e2; rw [ups_same]; exact .inr ⟨mn, hl, rfl, rfl⟩
          · rw [ups_ne e2]
            by_cases e3 : i = pr
            · subst e3; rw [ups_same]; exact .inr ⟨i, hil, rfl, rfl⟩
            · rw [ups_ne e3]; exact .inr ⟨i, hil, rfl, rfl⟩
      · exact ⟨mn, hl, by rw [ups_same], by rw [ups_same]⟩
      · intro j hj e
        have e2 : j ≠ sp := fun e2 => e (e2 ▸ (h.ci.free sp hsp hfree).2)
        by_cases e3 : j = mn
        · subst e3; exact ⟨sp, hsp, by rw [ups_ne hne, ups_same], by rw [ups_ne hne, ups_same]⟩
        · by_cases e4 : j = pr
          · subst e4; exact ⟨j, hj, by rw [ups_ne e3, ups_ne e2, ups_same], by rw [ups_ne e3, ups_ne e2, ups_same]⟩
          · exact ⟨j, hj, by rw [ups_ne e3, ups_ne e2, ups_ne e4], by rw [ups_ne e3, ups_ne e2, ups_ne e4]⟩
  · rw [e]; clear e
    dsimp only
    rw [if_pos (by decide)]
    have hall' : ∀ i, i < t.ns.length → (gd t.ns i).k ≠ .none := fun i hil => if c3 : (i : Int) < t.fr then hall i c3 else h.ci.frk i hil (by omega)
    exact .inr ⟨hall', 0, ⟨h.en, h.e4, h.nn, ⟨h.ci.nx, h.ci.free, h.ci.inj, h.ci.rank, h.ci.reach, h.ci.main, h.ci.uniq, ⟨Int.le_refl 0, Int.natCast_nonneg _⟩, fun i hil _ => hall' i hil, h.ci.keys⟩, h.ar⟩, rfl⟩
end
end
section
theorem getD_set {l : List PV} {i j : Nat} {v : PV} (h : i < l.length) : (l.set i v).getD j .none = if j = i then v else l.getD j .none := by
  rw [List.getD_eq_getElem?_getD, List.getD_eq_getElem?_getD, List.getElem?_set]
  by_cases c : i = j
  · subst c; simp [h]
  · have : ¬ j = i := fun e => c e.symm
    simp [c, this]
section
variable {t : PT} {k v : PV} {nk : PT → PV → PV → Option PT}
theorem ent_key (h : WF t) (hk : k ∈ KS) (hi : InA t k) {u : PV} : Ent t k u ↔ u ≠ .none ∧ t.es.getD (k.idx - 1).toNat .none = u := by
  constructor
  · rintro ⟨hu, e | e⟩
    · exact ⟨hu, (aent_at hi u).mp e⟩
    · exact (nent_idx h e (ne_none_all k hk) hi).elim
  · exact fun ⟨hu, e⟩ => ⟨hu, .inl ((aent_at hi u).mpr e)⟩
theorem set_arr (h : WF t) (hk : k ∈ KS) (hi : InA t k) : InsR t { t with es := t.es.set (k.idx - 1).toNat v } k v := by
  have hlt : (k.idx - 1).toNat < t.es.length := by have := hi.1; have := hi.2; omega
  have hk3 : (k.idx - 1).toNat < 3 := by
    rcases idx_all k hk with e | e | e | e
    · have := hi.1; omega
    all_goals (rw [e]; decide)
  have hlen : (t.es.set (k.idx - 1).toNat v).length = t.es.length := List.length_set
  have hwf : WF { t with es := t.es.set (k.idx - 1).toNat v } := by
    refine ⟨by rw [hlen]; exact h.en, ?_, h.nn, h.ci, fun i hil e => by rw [hlen]; exact h.ar i hil e⟩
    show (t.es.set (k.idx - 1).toNat v).getD 3 .none = .none
    rw [getD_set hlt, if_neg (by omega)]; exact h.e4
  have ha : ∀ k' u, k' ≠ k → (AEnt { t with es := t.es.set (k.idx - 1).toNat v } k' u ↔ AEnt t k' u) := by
    intro k' u hne
    have key : ∀ i : Nat, k' = .int (i + 1) → (t.es.set (k.idx - 1).toNat v).getD i .none = t.es.getD i .none := by
      intro i e
      rw [getD_set hlt, if_neg]
      rintro rfl
      refine hne ?_
      rw [e, idx_int hi.1]
      show PV.int _ = PV.int _
      congr 1
      show (((k.idx - 1).toNat : Nat) : Int) + 1 = k.idx
      have := hi.1; omega
    constructor
    · rintro ⟨i, hil, e, e2⟩
      exact ⟨i, by rw [← hlen]; exact hil, e, by rw [← key i e]; exact e2⟩
    · rintro ⟨i, hil, e, e2⟩
      exact ⟨i, by show i < (t.es.set (k.idx - 1).toNat v).length; rw [hlen]; exact hil, e, by show (t.es.set (k.idx - 1).toNat v).getD i .none = u; rw [key i e]; exact e2⟩
  have hi' : InA { t with es := t.es.set (k.idx - 1).toNat v } k := by
    refine ⟨hi.1, ?_⟩
    show k.idx ≤ ((t.es.set (k.idx - 1).toNat v).length : Nat)
    rw [hlen]; exact hi.2
  refine { wf := hwf, fl := rfl, ent := ?_, dom := ?_, es := hlen, ns := rfl, nd := fun k' e => .inr e }
  · intro k' u hu
    by_cases c : k' = k
    · subst c
      rw [ent_key hwf hk hi']
      show u ≠ .none ∧ (t.es.set (k'.idx - 1).toNat v).getD (k'.idx - 1).toNat .none = u ↔ _
      rw [getD_set hlt, if_pos rfl]
      constructor
      · rintro ⟨_, e⟩; exact .inl ⟨rfl, e.symm⟩
      · rintro (⟨_, e⟩ | ⟨e, _⟩)
        · exact ⟨hu, e.symm⟩
        · exact (e rfl).elim
    · constructor
      · rintro ⟨_, e | e⟩
        · exact .inr ⟨c, hu, .inl ((ha k' u c).mp e)⟩
        · exact .inr ⟨c, hu, .inr e⟩
      · rintro (⟨e, _⟩ | ⟨_, _, e | e⟩)
        · exact (c e).elim
        · exact ⟨hu, .inl ((ha k' u c).mpr e)⟩
        · exact ⟨hu, .inr e⟩
  · rintro k' (⟨u, hu, e⟩ | e)
    · by_cases c : k' = k
      · exact .inl c
      · exact .inr (.inl ⟨u, hu, (ha k' u c).mp e⟩)
    · exact .inr (.inr e)
theorem back_room (h : WF t) (hk : k ∈ KS) (hd : ¬ Dom t k) (room : InA t k ∨ ∃ i, i < t.ns.length ∧ (gd t.ns i).k = .none) (nk : PT → PV → PV → Option PT) (v : PV) :
    ∃ t', backF (newKeyF nk) t k v = some t' ∧ InsR t t' k v := by
  have he := h.en
  unfold backF
  rw [if_pos (by omega)]
  by_cases hi : InA t k
  · rw [if_pos hi]; exact ⟨_, rfl, set_arr h hk hi⟩
  · refine (nk_cases h hk hi (fun e => hd (.inr e)) nk v).elim (fun ⟨t', e, i⟩ => ⟨t', (if_neg hi).trans e, i⟩) fun ⟨e, _⟩ => ?_
    obtain ⟨i, hil, e2⟩ := room.resolve_left hi
    exact (e i hil e2).elim
noncomputable def backL (nk : PT → PV → PV → Option PT) : List (PV × PV) → PT → Option PT
  | [], t => some t
  | x :: r, t => (backF nk t x.1 x.2).bind (backL nk r)
noncomputable def pairsA : List PV → Int → List (PV × PV)
  | [], _ => []
  | v :: r, i => if v = .none then pairsA r (i + 1) else (.int i, v) :: pairsA r (i + 1)
noncomputable def pairsN (l : List PN) : List (PV × PV) := (l.filter fun x => x.v ≠ .none).map fun x => (x.k, x.v)
theorem backs_L : ∀ (vs : List PV) (i : Int) (t : PT), backs nk vs i t = backL nk (pairsA vs i) t
  | [], _, _ => rfl
  | v :: r, i, t => by
    unfold backs pairsA
    by_cases c : v = .none
    · rw [if_pos c, if_pos c]; exact backs_L r _ t
    · rw [if_neg c, if_neg c]
      unfold backL
      congr 1; funext t'; exact backs_L r _ t'
theorem backn_L : ∀ (l : List PN) (t : PT), (∀ x ∈ l, x.v ≠ .none → x.k.keyB = true) → backn nk l t = backL nk (pairsN l) t
  | [], _, _ => rfl
  | x :: r, t, h => by
    have hr := fun y hy => h y (List.mem_cons_of_mem x hy)
    unfold backn pairsN
    by_cases c : x.v = .none
    · rw [if_pos c, List.filter_cons_of_neg (by simp [c])]; exact backn_L r t hr
    · rw [if_neg c, if_pos (h x (.head _) c), List.filter_cons_of_pos (by simp [c]), List.map_cons]
      unfold backL
      congr 1; funext t'; exact backn_L r t' hr
theorem backL_append : ∀ (l l' : List (PV × PV)) (t : PT), backL nk (l ++ l') t = (backL nk l t).bind (backL nk l')
  | [], _, _ => rfl
  | x :: r, l', t => by
    show (backF nk t x.1 x.2).bind (backL nk (r ++ l')) = ((backF nk t x.1 x.2).bind (backL nk r)).bind (backL nk l')
    rw [Option.bind_assoc]
    congr 1; funext t'; exact backL_append r l' t'
theorem room_of (h : WF t) {M : List PV} (hM : ∀ k, NDom t k → k ∈ M) (hl : M.length < t.ns.length) : ∃ i, i < t.ns.length ∧ (gd t.ns i).k = .none := by
  apply Decidable.byContradiction
  intro c
  have hall : ∀ i, i < t.ns.length → (gd t.ns i).k ≠ .none := fun i hil e => c ⟨i, hil, e⟩
  have hnd : ((List.range t.ns.length).map fun i => (gd t.ns i).k).Nodup := by
    rw [List.nodup_iff_pairwise_ne, List.pairwise_map]
    refine List.Pairwise.imp_of_mem ?_ (List.nodup_iff_pairwise_ne.mp (List.nodup_range (n := t.ns.length)))
    intro a b ha hb hne e
    exact hne (h.ci.uniq a b (List.mem_range.mp ha) (List.mem_range.mp hb) e (hall a (List.mem_range.mp ha)))
  have := pigeon (L := M) hnd (by
    intro x hx
    obtain ⟨i, hi, rfl⟩ := List.mem_map.mp hx
    exact hM _ ⟨hall i (List.mem_range.mp hi), i, List.mem_range.mp hi, rfl⟩)
  simp only [List.length_map, List.length_range] at this
  omega
/-- how many of the keys are for the hash part -/
noncomputable def outN (s : Nat) (L : List (PV × PV)) : Nat := (L.filter fun x => ¬ (1 ≤ x.1.idx ∧ x.1.idx ≤ (s : Int))).length
/-- t' is t with all of L -/
structure Fold (t t' : PT) (L : List (PV × PV)) : Prop where
  wf : WF t'
  fl : t'.fl = t.fl
  ent : ∀ k u, Ent t' k u ↔ (k, u) ∈ L ∨ Ent t k u
  dom : ∀ k, Dom t' k → k ∈ L.map Prod.fst ∨ Dom t k
/-- what may be put back into t -/
structure Fit (t : PT) (L : List (PV × PV)) : Prop where
  nd : (L.map Prod.fst).Nodup
  ks : ∀ x ∈ L, x.1 ∈ KS
  out : ∀ x ∈ L, ¬ Dom t x.1
  val : ∀ x ∈ L, x.2 ≠ .none
theorem Fold.nil (h : WF t) : Fold t t [] := ⟨h, rfl, fun k u => by simp, fun k h => .inr h⟩
theorem Fit.step {x : PV × PV} {L : List (PV × PV)} {t t' : PT} (F : Fit t (x :: L)) (I : Ins t t' x.1 x.2) : Fit t' L := by
  obtain ⟨h1, h2⟩ := List.nodup_cons.mp (show (x.1 :: L.map Prod.fst).Nodup from F.nd)
  refine ⟨h2, fun y hy => F.ks y (.tail _ hy), fun y hy hd => ?_, fun y hy => F.val y (.tail _ hy)⟩
  rcases I.dom _ hd with e | e
  · exact h1 (by rw [← e]; exact List.mem_map_of_mem hy)
  · exact F.out y (.tail _ hy) e
theorem Fold.cons {x : PV × PV} {L : List (PV × PV)} {t t1 t' : PT} (h : WF t) (F : Fit t (x :: L)) (I : Ins t t1 x.1 x.2) (G : Fold t1 t' L) : Fold t t' (x :: L) := by
  refine ⟨G.wf, G.fl.trans I.fl, fun k u => ?_, fun k hd => ?_⟩
  · rw [G.ent]
    by_cases hu : u = .none
    · subst hu
      constructor
      · rintro (e | ⟨e, _⟩)
        · exact .inl (.tail _ e)
        · exact (e rfl).elim
      · rintro (e | ⟨e, _⟩)
        · exact (F.val _ e rfl).elim
        · exact (e rfl).elim
    · rw [I.ent k u hu]
      constructor
      · rintro (e | ⟨e1, e2⟩ | ⟨_, e⟩)
        · exact .inl (.tail _ e)
        · exact .inl (by rw [e1, e2]; exact .head _)
        · exact .inr e
      · rintro (e | e)
        · rcases List.mem_cons.mp e with e | e
          · exact .inr (.inl ⟨by rw [← e], by rw [← e]⟩)
          · exact .inl e
        · refine .inr (.inr ⟨fun e2 => ?_, e⟩)
          exact F.out x (.head _) (by rw [← e2]; exact e.dom h)
  · rcases G.dom k hd with e | e
    · exact .inl (by rw [List.map_cons]; exact .tail _ e)
    · rcases I.dom k e with e | e
      · exact .inl (by rw [List.map_cons, e]; exact .head _)
      · exact .inr e
theorem fold_room (nk : PT → PV → PV → Option PT) : ∀ (L : List (PV × PV)) (t : PT), WF t → Fit t L → ∀ (M : List PV) (s : Nat), (∀ k, NDom t k → k ∈ M) → M.length + outN t.es.length L + s ≤ t.ns.length →
    ∃ t', backL (newKeyF nk) L t = some t' ∧ Fold t t' L ∧ t'.es.length = t.es.length ∧ ∃ M' : List PV, (∀ k, NDom t' k → k ∈ M') ∧ M'.length + s ≤ t'.ns.length
  | [], t, h, F, M, s, hM, hl => ⟨t, rfl, .nil h, rfl, M, hM, by omega⟩
  | x :: L, t, h, F, M, s, hM, hl => by
    have e1 : outN t.es.length (x :: L) = (if InA t x.1 then 0 else 1) + outN t.es.length L := by
      unfold outN
      by_cases c : InA t x.1
      · rw [if_pos c, List.filter_cons_of_neg (by simpa using c)]; omega
      · rw [if_neg c, List.filter_cons_of_pos (by simp only [decide_eq_true_eq]; exact c), List.length_cons]; omega
    rw [e1] at hl
    have room : InA t x.1 ∨ ∃ i, i < t.ns.length ∧ (gd t.ns i).k = .none := by
      by_cases c : InA t x.1
      · exact .inl c
      · rw [if_neg c] at hl
        exact .inr (room_of h hM (by omega))
    obtain ⟨t1, f1, I⟩ := back_room h (F.ks x (.head _)) (F.out x (.head _)) room nk x.2
    have key : ∃ M1 : List PV, (∀ k, NDom t1 k → k ∈ M1) ∧ M1.length + outN t1.es.length L + s ≤ t1.ns.length := by
      rw [I.es, I.ns]
      by_cases c : InA t x.1
      · rw [if_pos c] at hl
        exact ⟨M, fun k hk => (I.nd k hk).elim (fun e => (e.2 c).elim) (hM k), by omega⟩
      · rw [if_neg c] at hl
        exact ⟨x.1 :: M, fun k hk => (I.nd k hk).elim (fun e => e.1 ▸ .head _) (fun e => .tail _ (hM k e)), by rw [List.length_cons]; omega⟩
    obtain ⟨M1, hM1, hl1⟩ := key
    obtain ⟨t', f2, G, ge, M', hM', hl'⟩ := fold_room nk L t1 I.wf (F.step I.toIns) M1 s hM1 hl1
    refine ⟨t', ?_, .cons h F I.toIns G, ge.trans I.es, M', hM', hl'⟩
    show (backF _ t x.1 x.2).bind _ = _
    rw [f1]; exact f2
/-- a new_key that always works -/
noncomputable def NKAny (nk : PT → PV → PV → Option PT) : Prop := ∀ {t : PT} {k : PV} (v : PV), WF t → k ∈ KS → ¬ InA t k → ¬ Dom t k → ∃ t', nk t k v = some t' ∧ Ins t t' k v
theorem back_any (N : NKAny nk) (h : WF t) (hk : k ∈ KS) (hd : ¬ Dom t k) (v : PV) : ∃ t', backF nk t k v = some t' ∧ Ins t t' k v := by
  have he := h.en
  unfold backF
  rw [if_pos (by omega)]
  by_cases hi : InA t k
  · exact ⟨_, if_pos hi, (set_arr h hk hi).toIns⟩
  · obtain ⟨t', e, I⟩ := N v h hk hi hd
    exact ⟨t', (if_neg hi).trans e, I⟩
theorem fold_any (N : NKAny nk) : ∀ (L : List (PV × PV)) (t : PT), WF t → Fit t L → ∃ t', backL nk L t = some t' ∧ Fold t t' L
  | [], t, h, F => ⟨t, rfl, .nil h⟩
  | x :: L, t, h, F => by
    obtain ⟨t1, f1, I⟩ := back_any N h (F.ks x (.head _)) (F.out x (.head _)) x.2
    obtain ⟨t', f2, G⟩ := fold_any N L t1 I.wf (F.step I)
    refine ⟨t', ?_, .cons h F I G⟩
    show (backF _ t x.1 x.2).bind _ = _
    rw [f1]; exact f2
end
end
section
noncomputable def refresh (t : PT) (x N : Nat) : PT := { t with es := padF t.es x, ns := List.replicate N blank, fr := N }
theorem pairsA_cons {v : PV} {r : List PV} {i : Int} : pairsA (v :: r) i = if v = .none then pairsA r (i + 1) else (.int i, v) :: pairsA r (i + 1) := rfl
noncomputable def newL (t : PT) (x : Nat) : List (PV × PV) := pairsA (t.es.drop x) (x + 1) ++ pairsN t.ns.reverse
theorem padF_len {es : List PV} {x : Nat} : (padF es x).length = x := by unfold padF; simp; omega
theorem padF_getD {es : List PV} {x j : Nat} : (padF es x).getD j .none = if j < x then es.getD j .none else .none := by
  unfold padF
  simp only [List.getD_eq_getElem?_getD]
  by_cases c : j < x
  · rw [if_pos c]
    by_cases d : j < es.length
    · rw [List.getElem?_append_left (by simp; omega), List.getElem?_take_of_lt c]
    · rw [List.getElem?_append_right (by simp; omega), List.getElem?_eq_none (l := es) (by omega)]
      rw [List.getElem?_replicate]; split <;> rfl
  · rw [if_neg c, List.getElem?_eq_none (by simp; omega)]; rfl
theorem mem_pairsA {k u : PV} : ∀ {vs : List PV} {i : Int}, (k, u) ∈ pairsA vs i ↔ u ≠ .none ∧ ∃ j : Nat, j < vs.length ∧ k = .int (i + j) ∧ vs.getD j .none = u
  | [], i => by simp [pairsA]
  | v :: r, i => by
    have ih := mem_pairsA (k := k) (u := u) (vs := r) (i := i + 1)
    have hd : ∀ P : Prop, (v ≠ .none ∧ k = .int i ∧ u = v ∨ P) ↔ ((u ≠ .none ∧ k = .int (i + (0 : Nat)) ∧ (v :: r).getD 0 .none = u) ∨ P) := by
      intro P
      have : i + ((0 : Nat) : Int) = i := by omega
      rw [this]
      constructor
      · rintro (⟨a, b, c⟩ | h)
        · exact .inl ⟨by rw [c]; exact a, b, c.symm⟩
        · exact .inr h
      · rintro (⟨a, b, c⟩ | h)
        · exact .inl ⟨by rw [show v = u from c]; exact a, b, c.symm⟩
        · exact .inr h
    have tl : (u ≠ .none ∧ ∃ j : Nat, j < r.length ∧ k = .int (i + 1 + j) ∧ r.getD j .none = u) ↔ (u ≠ .none ∧ ∃ j : Nat, j < r.length ∧ k = .int (i + (j + 1 : Nat)) ∧ (v :: r).getD (j + 1) .none = u) := by
      have e : ∀ j : Nat, i + 1 + (j : Int) = i + ((j + 1 : Nat) : Int) := fun j => by omega
      simp only [e]; exact Iff.rfl
    have all : (u ≠ .none ∧ ∃ j : Nat, j < (v :: r).length ∧ k = .int (i + j) ∧ (v :: r).getD j .none = u) ↔ ((u ≠ .none ∧ k = .int (i + (0 : Nat)) ∧ (v :: r).getD 0 .none = u) ∨ (u ≠ .none ∧ ∃ j : Nat, j < r.length ∧ k = .int (i + (j + 1 : Nat)) ∧ (v :: r).getD (j + 1) .none = u)) := by
      constructor
      · rintro ⟨hu, j, hj, e1, e2⟩
        cases j with
        | zero => exact .inl ⟨hu, e1, e2⟩
        | succ j => exact .inr ⟨hu, j, by simpa using hj, e1, e2⟩
      · rintro (⟨hu, e1, e2⟩ | ⟨hu, j, hj, e1, e2⟩)
        · exact ⟨hu, 0, by simp, e1, e2⟩
        · exact ⟨hu, j + 1, by simpa using hj, e1, e2⟩
    rw [all, ← tl, ← ih, ← hd]
    rw [pairsA_cons]
    by_cases c : v = .none
    · rw [if_pos c]; simp [c]
    · rw [if_neg c, List.mem_cons]
      constructor
      · rintro (e | e)
        · exact .inl ⟨c, (Prod.mk.inj e).1, (Prod.mk.inj e).2⟩
        · exact .inr e
      · rintro (⟨_, a, b⟩ | e)
        · exact .inl (by rw [a, b])
        · exact .inr e
theorem nodup_pairsA : ∀ (vs : List PV) (i : Int), ((pairsA vs i).map Prod.fst).Nodup
  | [], _ => by simp [pairsA]
  | v :: r, i => by
    rw [pairsA_cons]
    by_cases c : v = .none
    · rw [if_pos c]; exact nodup_pairsA r _
    · rw [if_neg c, List.map_cons, List.nodup_cons]
      refine ⟨fun h => ?_, nodup_pairsA r _⟩
      obtain ⟨⟨k, u⟩, hm, e⟩ := List.mem_map.mp h
      obtain ⟨_, j, _, e2, _⟩ := mem_pairsA.mp hm
      dsimp only at e
      rw [e2] at e
      have := PV.int.inj e; omega
theorem mem_pairsN {k u : PV} {l : List PN} : (k, u) ∈ pairsN l ↔ u ≠ .none ∧ ∃ x ∈ l, x.k = k ∧ x.v = u := by
  unfold pairsN
  rw [List.mem_map]
  constructor
  · rintro ⟨x, hx, e⟩
    obtain ⟨h1, h2⟩ := List.mem_filter.mp hx
    obtain ⟨e1, e2⟩ := Prod.mk.inj e
    exact ⟨by rw [← e2]; simpa using h2, x, h1, e1, e2⟩
  · rintro ⟨hu, x, hx, e1, e2⟩
    exact ⟨x, List.mem_filter.mpr ⟨hx, by rw [e2]; simpa using hu⟩, by rw [e1, e2]⟩
section
variable {t : PT} {k v : PV} {nk : PT → PV → PV → Option PT}
theorem nent_mem {u : PV} : NEnt t k u ↔ ∃ x ∈ t.ns, x.k = k ∧ x.v = u := by
  constructor
  · rintro ⟨i, hi, e1, e2⟩; exact ⟨_, gd_mem hi, e1, e2⟩
  · rintro ⟨x, hx, e1, e2⟩
    obtain ⟨i, hi, rfl⟩ := gd_of_mem hx
    exact ⟨i, hi, e1, e2⟩
theorem WF.keyMem (h : WF t) {x : PN} (hx : x ∈ t.ns) (hv : x.v ≠ .none) : x.k ∈ KS := by
  obtain ⟨i, hi, rfl⟩ := gd_of_mem hx
  exact h.ci.keys i hi (h.ci.live_key hi hv)
theorem nodup_pairsN (h : WF t) : ((pairsN t.ns).map Prod.fst).Nodup := by
  unfold pairsN
  rw [List.map_map, List.nodup_iff_pairwise_ne, List.pairwise_map, List.pairwise_filter, List.pairwise_iff_getElem]
  intro i j hi hj hij hvi hvj e
  have e1 : ∀ (i : Nat) (hi : i < t.ns.length), t.ns[i] = gd t.ns i := fun i hi => by
    have := gd_some hi; rw [List.getElem?_eq_getElem hi] at this; exact Option.some.inj this
  rw [e1] at hvi
  have e' : (gd t.ns i).k = (gd t.ns j).k := by rw [← e1 i hi, ← e1 j hj]; exact e
  have := h.ci.uniq i j hi hj e' (h.ci.live_key hi (by simpa using hvi))
  omega
theorem nodup_pairsR (h : WF t) : ((pairsN t.ns.reverse).map Prod.fst).Nodup := by
  have : (pairsN t.ns.reverse).map Prod.fst = ((pairsN t.ns).map Prod.fst).reverse := by
    unfold pairsN; rw [List.filter_reverse, List.map_reverse, List.map_reverse]
  rw [this, List.nodup_iff_pairwise_ne, List.pairwise_reverse]; exact (List.nodup_iff_pairwise_ne.mp (nodup_pairsN h)).imp fun e => e.symm
theorem refresh_gd {x N i : Nat} (hi : i < N) : gd (refresh t x N).ns i = ⟨.none, .none, -1⟩ := by
  unfold gd refresh
  rw [List.getD_eq_getElem?_getD, List.getElem?_replicate, if_pos hi]; rfl
theorem refresh_wf (h : WF t) {x N : Nat} (hx : x ≤ 4) (hN : sizesB N = true) : WF (refresh t x N) := by
  have hl : (refresh t x N).ns.length = N := by unfold refresh; simp
  have hb : ∀ i, i < N → gd (refresh t x N).ns i = ⟨.none, .none, -1⟩ := fun i hi => refresh_gd hi
  refine ⟨?_, ?_, by rw [hl]; exact hN, ?_, fun i hi e => ?_⟩
  · show (padF t.es x).length ≤ 4
    rw [padF_len]; exact hx
  · show (padF t.es x).getD 3 .none = .none
    rw [padF_getD]; split
    · exact h.e4
    · rfl
  · rw [hl]; exact CI.blank hb
  · rw [hl] at hi; rw [hb i hi] at e; exact (e rfl).elim
theorem refresh_ent {x N : Nat} {u : PV} : Ent (refresh t x N) k u ↔ u ≠ .none ∧ ∃ i : Nat, i < x ∧ k = .int (i + 1) ∧ t.es.getD i .none = u := by
  constructor
  · rintro ⟨hu, ⟨i, hi, e1, e2⟩ | ⟨i, hi, e1, e2⟩⟩
    · have hi : i < (padF t.es x).length := hi
      have e2 : (padF t.es x).getD i .none = u := e2
      rw [padF_len] at hi
      rw [padF_getD, if_pos hi] at e2
      exact ⟨hu, i, hi, e1, e2⟩
    · have hi : i < (List.replicate N blank).length := hi
      rw [refresh_gd (by simpa using hi)] at e2
      exact (hu e2.symm).elim
  · rintro ⟨hu, i, hi, e1, e2⟩
    refine ⟨hu, .inl ⟨i, ?_, e1, ?_⟩⟩
    · show i < (padF t.es x).length
      rw [padF_len]; exact hi
    · show (padF t.es x).getD i .none = u
      rw [padF_getD, if_pos hi]; exact e2
theorem getD_lt {l : List PV} {i : Nat} (h : l.getD i .none ≠ .none) : i < l.length := by
  apply Decidable.byContradiction
  intro c
  rw [List.getD_eq_getElem?_getD, List.getElem?_eq_none (by omega)] at h
  exact h rfl
theorem refresh_dom {x N : Nat} (hd : Dom (refresh t x N) k) : ∃ u, Ent (refresh t x N) k u := by
  rcases hd with ⟨u, hu, e⟩ | ⟨h0, i, hi, e⟩
  · exact ⟨u, hu, .inl e⟩
  · have hi : i < (List.replicate N blank).length := hi
    rw [refresh_gd (by simpa using hi)] at e
    exact (h0 e.symm).elim
theorem getD_drop {l : List PV} {x j : Nat} : (l.drop x).getD j .none = l.getD (x + j) .none := by
  rw [List.getD_eq_getElem?_getD, List.getD_eq_getElem?_getD, List.getElem?_drop]
theorem newL_ent {x N : Nat} (u : PV) : Ent t k u ↔ (k, u) ∈ newL t x ∨ Ent (refresh t x N) k u := by
  unfold newL
  rw [List.mem_append, mem_pairsA, mem_pairsN, refresh_ent]
  constructor
  · rintro ⟨hu, ⟨i, hi, e1, e2⟩ | e⟩
    · by_cases c : i < x
      · exact .inr ⟨hu, i, c, e1, e2⟩
      · refine .inl (.inl ⟨hu, i - x, by rw [List.length_drop]; omega, ?_, ?_⟩)
        · rw [e1]; congr 1; omega
        · rw [getD_drop, show x + (i - x) = i by omega]; exact e2
    · obtain ⟨y, hy, e1, e2⟩ := nent_mem.mp e
      exact .inl (.inr ⟨hu, y, List.mem_reverse.mpr hy, e1, e2⟩)
  · rintro ((⟨hu, j, hj, e1, e2⟩ | ⟨hu, y, hy, e1, e2⟩) | ⟨hu, i, hi, e1, e2⟩)
    · rw [getD_drop] at e2
      exact ⟨hu, .inl ⟨x + j, getD_lt (by rw [e2]; exact hu), by rw [e1]; congr 1; omega, e2⟩⟩
    · exact ⟨hu, .inr (nent_mem.mpr ⟨y, List.mem_reverse.mp hy, e1, e2⟩)⟩
    · exact ⟨hu, .inl ⟨i, getD_lt (by rw [e2]; exact hu), e1, e2⟩⟩
theorem newL_fit (h : WF t) {x N : Nat} : Fit (refresh t x N) (newL t x) := by
  have hA : ∀ k u, (k, u) ∈ pairsA (t.es.drop x) (x + 1) → u ≠ .none ∧ ∃ i : Nat, x ≤ i ∧ i < t.es.length ∧ k = .int (i + 1) ∧ t.es.getD i .none = u := by
    intro k u hm
    obtain ⟨hu, j, hj, e1, e2⟩ := mem_pairsA.mp hm
    rw [getD_drop] at e2
    exact ⟨hu, x + j, by omega, getD_lt (by rw [e2]; exact hu), by rw [e1]; congr 1; omega, e2⟩
  have hN : ∀ k u, (k, u) ∈ pairsN t.ns.reverse → u ≠ .none ∧ k ∈ KS ∧ ¬ InA t k := by
    intro k u hm
    obtain ⟨hu, y, hy, e1, e2⟩ := mem_pairsN.mp hm
    have hy := List.mem_reverse.mp hy
    have hk := h.keyMem hy (by rw [e2]; exact hu)
    rw [e1] at hk
    exact ⟨hu, hk, nent_idx h (nent_mem.mpr ⟨y, hy, e1, e2⟩) (ne_none_all k hk)⟩
  refine ⟨?_, ?_, ?_, ?_⟩
  · unfold newL
    rw [List.map_append, List.nodup_append]
    refine ⟨nodup_pairsA _ _, nodup_pairsR h, ?_⟩
    intro a ha b hb e
    obtain ⟨⟨k, u⟩, hm, rfl⟩ := List.mem_map.mp ha
    obtain ⟨⟨k', u'⟩, hm', rfl⟩ := List.mem_map.mp hb
    obtain ⟨_, i, _, hi, e1, _⟩ := hA k u hm
    obtain ⟨_, _, e2⟩ := hN k' u' hm'
    refine e2 ?_
    rw [← show k = k' from e, e1]
    show 1 ≤ (i : Int) + 1 ∧ (i : Int) + 1 ≤ _
    omega
  · rintro ⟨k, u⟩ hm
    rcases List.mem_append.mp hm with hm | hm
    · obtain ⟨hu, i, _, hi, e1, e2⟩ := hA k u hm
      have := h.en
      have hi3 : i ≠ 3 := fun e => hu (by rw [← e2, e]; exact h.e4)
      have : i = 0 ∨ i = 1 ∨ i = 2 := by omega
      show k ∈ KS
      rw [e1]
      rcases this with rfl | rfl | rfl <;> decide
    · exact (hN k u hm).2.1
  · rintro ⟨k, u⟩ hm hd
    obtain ⟨u', he⟩ := refresh_dom hd
    obtain ⟨_, i, hi, e1, e2⟩ := refresh_ent.mp he
    rcases List.mem_append.mp hm with hm | hm
    · obtain ⟨_, j, hj, _, e3, _⟩ := hA k u hm
      have := PV.int.inj ((show PV.int _ = k from e1.symm).trans e3)
      omega
    · refine (hN k u hm).2.2 ?_
      have := getD_lt (l := t.es) (i := i) (by rw [e2]; exact he.1)
      rw [show k = _ from e1]
      show 1 ≤ (i : Int) + 1 ∧ (i : Int) + 1 ≤ _
      omega
  · rintro ⟨k, u⟩ hm
    rcases List.mem_append.mp hm with hm | hm
    · exact (hA k u hm).1
    · exact (hN k u hm).1
/-- another table with the same entries -/
structure Same (t t' : PT) : Prop where
  wf : WF t'
  fl : t'.fl = t.fl
  ent : ∀ k u, Ent t' k u ↔ Ent t k u
  dom : ∀ k, Dom t' k → ∃ u, Ent t k u
theorem Fold.same {x N : Nat} {t' : PT} (F : Fold (refresh t x N) t' (newL t x)) : Same t t' := by
  refine ⟨F.wf, F.fl, fun k u => ?_, fun k hd => ?_⟩
  · exact (F.ent k u).trans (newL_ent (x := x) (N := N) u).symm
  · rcases F.dom k hd with e | e
    · obtain ⟨⟨k', u⟩, hm, rfl⟩ := List.mem_map.mp e
      exact ⟨u, (newL_ent (x := x) (N := N) u).mpr (.inl hm)⟩
    · obtain ⟨u, he⟩ := refresh_dom e
      exact ⟨u, (newL_ent (x := x) (N := N) u).mpr (.inr he)⟩
theorem resize_of (h : WF t) {x N : Nat} {y : Int} (hx : x ≤ 4) (hy : y ≤ 64) (hN : mkSize y = some N) (hb : sizesB N = true) {t' : PT} (hf : backL nk (newL t x) (refresh t x N) = some t') (w : WF t') : resizeF nk t x y = some t' := by
  have h1 := h.en
  have h2 := sizes_le h.nn
  have h3 := sizes_le hb
  have h4 := w.en
  have h5 := sizes_le w.nn
  unfold resizeF
  rw [if_pos ⟨by omega, by omega, hy, by omega, by omega⟩, hN]
  show (if N ≤ 64 then _ else _) = _
  rw [if_pos (by omega), show ((x : Int)).toNat = x by omega]
  unfold newL at hf
  rw [backL_append, ← backs_L] at hf
  obtain ⟨t1, e1, e2⟩ := Option.bind_eq_some_iff.mp hf
  refine (congrArg (Option.bind · _) e1).trans ?_
  show (backn nk t.ns.reverse t1).bind _ = _
  have e2' : ∀ t1, backL nk (pairsN t.ns.reverse) t1 = backn nk t.ns.reverse t1 := fun t1 => (backn_L _ _ fun y hy hv => keyB_all _ (h.keyMem (List.mem_reverse.mp hy) hv)).symm
  rw [← e2', e2]
  exact if_pos ⟨by omega, by omega⟩
end
end
section
noncomputable def K3 (a b c : Int) : List Int := a :: b :: c :: List.replicate 24 0
theorem K3_len {a b c : Int} : (K3 a b c).length = 27 := rfl
noncomputable def eq1 (k : PV) (j : Int) : Int := if k = .int j then 1 else 0
theorem cKey_K {k : PV} (hk : k ∈ KS) {a b c : Int} : cKey k (K3 a b c) = some (eq1 k 1 + eq1 k 2 + eq1 k 3, K3 (a + eq1 k 1) (b + eq1 k 2) (c + eq1 k 3)) := by
  rcases idx_all k hk with e | e | e | e
  · have h1 : eq1 k 1 = 0 := if_neg fun h => by rw [h] at e; exact absurd e (by decide)
    have h2 : eq1 k 2 = 0 := if_neg fun h => by rw [h] at e; exact absurd e (by decide)
    have h3 : eq1 k 3 = 0 := if_neg fun h => by rw [h] at e; exact absurd e (by decide)
    unfold cKey
    rw [e, if_neg (by decide), h1, h2, h3]
    simp only [Int.add_zero]
  · subst e
    show cKey (.int 1) (K3 a b c) = some (1, K3 (a + 1) (b + 0) (c + 0))
    rw [Int.add_zero, Int.add_zero]; rfl
  · subst e
    show cKey (.int 2) (K3 a b c) = some (1, K3 (a + 0) (b + 1) (c + 0))
    rw [Int.add_zero, Int.add_zero]; rfl
  · subst e
    show cKey (.int 3) (K3 a b c) = some (1, K3 (a + 0) (b + 0) (c + 1))
    rw [Int.add_zero, Int.add_zero]; rfl
noncomputable def one (p : PV) : Int := match p with | .none => 0 | _ => 1
theorem one_range (p : PV) : 0 ≤ one p ∧ one p ≤ 1 := by cases p <;> exact ⟨by first | exact Int.le_refl _ | exact Int.zero_le_ofNat 1, by first | exact Int.le_refl _ | exact Int.zero_le_ofNat 1⟩
theorem es_cases {P : List PV → Prop} (h0 : P []) (h1 : ∀ a, P [a]) (h2 : ∀ a b, P [a, b]) (h3 : ∀ a b c, P [a, b, c]) (h4 : ∀ a b c, P [a, b, c, .none]) :
    ∀ es : List PV, es.length ≤ 4 → es.getD 3 .none = .none → P es
  | [], _, _ => h0
  | [a], _, _ => h1 a
  | [a, b], _, _ => h2 a b
  | [a, b, c], _, _ => h3 a b c
  | [a, b, c, d], _, h => by
    obtain rfl : d = .none := h
    exact h4 a b c
  | _ :: _ :: _ :: _ :: _ :: _, h, _ => by simp at h
theorem ca_K : ∀ es : List PV, es.length ≤ 4 → es.getD 3 .none = .none → caOuter es 65 27 0 1 1 0 (List.replicate 27 0) = some (one (es.getD 0 .none) + one (es.getD 1 .none) + one (es.getD 2 .none), K3 (one (es.getD 0 .none)) (one (es.getD 1 .none)) (one (es.getD 2 .none))) := by
  apply es_cases
  · rfl
  · intro a; cases a <;> rfl
  · intro a b; cases a <;> cases b <;> rfl
  · intro a b c; cases a <;> cases b <;> cases c <;> rfl
  · intro a b c; cases a <;> cases b <;> cases c <;> rfl
noncomputable def nj (j : Int) : List PN → Int
  | [] => 0
  | x :: r => (if x.v ≠ .none then eq1 x.k j else 0) + nj j r
noncomputable def nl : List PN → Int
  | [] => 0
  | x :: r => one x.v + nl r
theorem one_ne {p : PV} (h : p ≠ .none) : one p = 1 := by cases p <;> first | rfl | exact (h rfl).elim
theorem eq1_range (k : PV) (j : Int) : 0 ≤ eq1 k j ∧ eq1 k j ≤ 1 := by unfold eq1; split <;> decide
theorem nj_nonneg (j : Int) : ∀ l, 0 ≤ nj j l
  | [] => Int.le_refl 0
  | x :: r => by
    have h1 := nj_nonneg j r
    have h2 := eq1_range x.k j
    unfold nj
    split <;> omega
theorem cN_K : ∀ (l : List PN), (∀ x ∈ l, x.v ≠ .none → x.k ∈ KS) → ∀ a b c t w : Int, cNodes l (K3 a b c) t w = some (t + nl l, w + (nj 1 l + nj 2 l + nj 3 l), K3 (a + nj 1 l) (b + nj 2 l) (c + nj 3 l))
  | [], _, a, b, c, t, w => by
    show some (t, w, K3 a b c) = some (t + 0, w + (0 + 0 + 0), K3 (a + 0) (b + 0) (c + 0))
    simp only [Int.add_zero]
  | x :: r, h, a, b, c, t, w => by
    have ih := cN_K r fun y hy => h y (.tail _ hy)
    unfold cNodes nj nl
    by_cases d : x.v = .none
    · rw [if_pos d, ih, d, if_neg (by simp), if_neg (by simp), if_neg (by simp)]
      simp only [Int.zero_add, one]
    · rw [if_neg d, cKey_K (h x (.head _) d)]
      dsimp only
      rw [ih, if_pos d, if_pos d, if_pos d, one_ne d]
      simp only [Option.some.injEq, Prod.mk.injEq, Int.add_assoc]
      refine ⟨trivial, ?_, trivial⟩
      omega
noncomputable def sumj (s : Nat) (f : Int → Int) : Int := (if 1 ≤ s then f 1 else 0) + (if 2 ≤ s then f 2 else 0) + (if 3 ≤ s then f 3 else 0)
theorem eq1_self {i : Int} : eq1 (.int i) i = 1 := if_pos rfl
theorem eq1_idx {k : PV} (h : k.idx = -1) {j : Int} (hj : 0 < j) : eq1 k j = 0 := if_neg fun e => by subst e; have : j = -1 := h; omega
theorem out_one {k : PV} (hk : k ∈ KS) {s : Nat} : (if 1 ≤ k.idx ∧ k.idx ≤ (s : Int) then 0 else 1) + sumj s (eq1 k) = (1 : Int) := by
  unfold sumj
  rcases idx_all k hk with e | e | e | e
  · rw [e, eq1_idx e (by decide), eq1_idx e (by decide), eq1_idx e (by decide), if_neg (by omega)]
    simp
  · subst e
    rw [show eq1 (.int 1) 1 = 1 from rfl, show eq1 (.int 1) 2 = 0 from rfl, show eq1 (.int 1) 3 = 0 from rfl, show (PV.int 1).idx = 1 from rfl]
    split <;> split <;> split <;> split <;> omega
  · subst e
    rw [show eq1 (.int 2) 1 = 0 from rfl, show eq1 (.int 2) 2 = 1 from rfl, show eq1 (.int 2) 3 = 0 from rfl, show (PV.int 2).idx = 2 from rfl]
    split <;> split <;> split <;> split <;> omega
  · subst e
    rw [show eq1 (.int 3) 1 = 0 from rfl, show eq1 (.int 3) 2 = 0 from rfl, show eq1 (.int 3) 3 = 1 from rfl, show (PV.int 3).idx = 3 from rfl]
    split <;> split <;> split <;> split <;> omega
theorem outN_cons {s : Nat} {x : PV × PV} {L : List (PV × PV)} : (outN s (x :: L) : Int) = (if 1 ≤ x.1.idx ∧ x.1.idx ≤ (s : Int) then 0 else 1) + outN s L := by
  unfold outN
  by_cases c : 1 ≤ x.1.idx ∧ x.1.idx ≤ (s : Int)
  · rw [if_pos c, List.filter_cons_of_neg (by simpa using c)]; omega
  · rw [if_neg c, List.filter_cons_of_pos (by simp only [decide_eq_true_eq]; exact c), List.length_cons]; omega
theorem outN_N {s : Nat} : ∀ l : List PN, (∀ x ∈ l, x.v ≠ .none → x.k ∈ KS) → (outN s (pairsN l) : Int) + sumj s (fun j => nj j l) = nl l
  | [], _ => by unfold sumj; simp [outN, pairsN, nj, nl]
  | x :: r, h => by
    have ih := outN_N (s := s) r fun y hy => h y (.tail _ hy)
    by_cases d : x.v = .none
    · have e : pairsN (x :: r) = pairsN r := by unfold pairsN; rw [List.filter_cons_of_neg (by simp [d])]
      rw [e]
      have e2 : ∀ j, nj j (x :: r) = nj j r := fun j => by show (if x.v ≠ .none then eq1 x.k j else 0) + nj j r = _; rw [if_neg (by simp [d])]; omega
      have e3 : nl (x :: r) = nl r := by show one x.v + nl r = _; rw [d]; show 0 + _ = _; omega
      rw [e3, ← ih]; unfold sumj; simp only [e2]
    · have e : pairsN (x :: r) = (x.k, x.v) :: pairsN r := by unfold pairsN; rw [List.filter_cons_of_pos (by simp [d]), List.map_cons]
      rw [e, outN_cons]
      have e2 : ∀ j, nj j (x :: r) = eq1 x.k j + nj j r := fun j => by show (if x.v ≠ .none then eq1 x.k j else 0) + nj j r = _; rw [if_pos d]
      have e3 : nl (x :: r) = 1 + nl r := by show one x.v + nl r = _; rw [one_ne d]
      have ho := out_one (h x (.head _) d) (s := s)
      rw [e3]
      unfold sumj at ih ho ⊢; simp only [e2]
      by_cases c1 : 1 ≤ s <;> by_cases c2 : 2 ≤ s <;> by_cases c3 : 3 ≤ s <;> simp only [c1, c2, c3, if_true, if_false] at ih ho ⊢ <;> omega
noncomputable def cnt : List PV → Int
  | [] => 0
  | a :: r => one a + cnt r
theorem cnt_drop : ∀ (l : List PV) (i : Nat), cnt (l.drop i) = one (l.getD i .none) + cnt (l.drop (i + 1))
  | [], i => by rw [List.drop_nil, List.drop_nil]; rfl
  | _ :: _, 0 => rfl
  | _ :: r, i + 1 => cnt_drop r i
theorem outN_cnt {s : Nat} : ∀ (l : List PV) (k : Int), (s : Int) < k → (outN s (pairsA l k) : Int) = cnt l
  | [], _, _ => rfl
  | a :: r, k, h => by
    have ih := outN_cnt (s := s) r (k + 1) (by omega)
    unfold pairsA
    by_cases c : a = .none
    · rw [if_pos c, ih, c]; exact (Int.zero_add _).symm
    · rw [if_neg c, outN_cons, if_neg (fun e => by have e2 : k ≤ (s : Int) := e.2; omega), ih]
      show 1 + cnt r = one a + cnt r
      rw [one_ne c]
theorem outN_A {s : Nat} (hs : s ≤ 4) (es : List PV) (h4 : es.length ≤ 4) (h3 : es.getD 3 .none = .none) :
    (outN s (pairsA (es.drop s) (s + 1)) : Int) + sumj s (fun j => one (es.getD (j - 1).toNat .none)) = one (es.getD 0 .none) + one (es.getD 1 .none) + one (es.getD 2 .none) := by
  rw [outN_cnt _ _ (by omega)]
  have c0 := cnt_drop es 0
  have c1 := cnt_drop es 1
  have c2 := cnt_drop es 2
  have c3 := cnt_drop es 3
  have c4 : cnt (es.drop 4) = 0 := by rw [List.drop_eq_nil_of_le h4]; rfl
  rw [h3, show one PV.none = 0 from rfl] at c3
  have : s = 0 ∨ s = 1 ∨ s = 2 ∨ s = 3 ∨ s = 4 := by omega
  rcases this with rfl | rfl | rfl | rfl | rfl
  · show cnt (es.drop 0) + ((0 : Int) + 0 + 0) = _; omega
  · show cnt (es.drop 1) + (one (es.getD 0 .none) + 0 + 0) = _; omega
  · show cnt (es.drop 2) + (one (es.getD 0 .none) + one (es.getD 1 .none) + 0) = _; omega
  · show cnt (es.drop 3) + (one (es.getD 0 .none) + one (es.getD 1 .none) + one (es.getD 2 .none)) = _; omega
  · show cnt (es.drop 4) + (one (es.getD 0 .none) + one (es.getD 1 .none) + one (es.getD 2 .none)) = _; omega
theorem outN_append {s : Nat} {a b : List (PV × PV)} : outN s (a ++ b) = outN s a + outN s b := by
  unfold outN; rw [List.filter_append, List.length_append]
theorem outN_rev {s : Nat} {l : List PN} : outN s (pairsN l.reverse) = outN s (pairsN l) := by
  unfold outN pairsN; rw [List.filter_reverse, List.map_reverse, List.filter_reverse, List.length_reverse]
theorem cs_cons {wanted c g u s p : Int} {cs : List Int} : csLoop wanted (c :: cs) g u s p = if wanted ≤ p.fdiv 2 then (s, u) else if 0 < c then (if p.fdiv 2 < g + c then (if g + c = wanted then (p, g + c) else csLoop wanted cs (g + c) (g + c) p (p * 2)) else (if g + c = wanted then (s, u) else csLoop wanted cs (g + c) u s (p * 2))) else (if g = wanted then (s, u) else csLoop wanted cs g u s (p * 2)) := rfl
theorem cs_mid {wanted c g u s p : Int} {cs : List Int} (hc : 0 ≤ c) : csLoop wanted (c :: cs) g u s p = (s, u) ∨ csLoop wanted (c :: cs) g u s p = (p, g + c) ∨ (g + c ≠ wanted ∧ (csLoop wanted (c :: cs) g u s p = csLoop wanted cs (g + c) (g + c) p (p * 2) ∨ csLoop wanted (c :: cs) g u s p = csLoop wanted cs (g + c) u s (p * 2))) := by
  rw [cs_cons]
  by_cases h1 : wanted ≤ p.fdiv 2
  · rw [if_pos h1]; exact .inl rfl
  rw [if_neg h1]
  by_cases h2 : 0 < c
  · rw [if_pos h2]
    by_cases h3 : p.fdiv 2 < g + c
    · rw [if_pos h3]
      by_cases h4 : g + c = wanted
      · rw [if_pos h4]; exact .inr (.inl rfl)
      · rw [if_neg h4]; exact .inr (.inr ⟨h4, .inl rfl⟩)
    · rw [if_neg h3]
      by_cases h4 : g + c = wanted
      · rw [if_pos h4]; exact .inl rfl
      · rw [if_neg h4]; exact .inr (.inr ⟨h4, .inr rfl⟩)
  · rw [if_neg h2]
    obtain rfl : c = 0 := by omega
    rw [Int.add_zero]
    by_cases h4 : g = wanted
    · rw [if_pos h4]; exact .inl rfl
    · rw [if_neg h4]; exact .inr (.inr ⟨h4, .inr rfl⟩)
theorem cs_K {a b c : Int} (ha : 0 ≤ a) (hb : 0 ≤ b) (hc : 0 ≤ c) : ∃ s : Nat, s ≤ 4 ∧ ∃ u : Int, csLoop (a + b + c) (K3 a b c) 0 0 0 1 = ((s : Int), u) ∧ 0 ≤ u ∧ u ≤ (if 1 ≤ s then a else 0) + (if 2 ≤ s then b else 0) + (if 3 ≤ s then c else 0) := by
  have fin : ∀ {R : Int × Int}, (R = (0, 0) ∨ R = (1, a) ∨ R = (2, a + b) ∨ R = (4, a + b + c)) → ∃ s : Nat, s ≤ 4 ∧ ∃ u : Int, R = ((s : Int), u) ∧ 0 ≤ u ∧ u ≤ (if 1 ≤ s then a else 0) + (if 2 ≤ s then b else 0) + (if 3 ≤ s then c else 0) := by
    rintro R (rfl | rfl | rfl | rfl)
    · exact ⟨0, by omega, 0, rfl, by omega, by simp⟩
    · exact ⟨1, by omega, a, rfl, by omega, by simp⟩
    · exact ⟨2, by omega, a + b, rfl, by omega, by simp⟩
    · exact ⟨4, by omega, a + b + c, rfl, by omega, by simp⟩
  apply fin
  unfold K3
  generalize List.replicate 24 (0 : Int) = tl
  have e3 : ∀ {u s : Int}, csLoop (a + b + c) (c :: tl) (a + b) u s 4 = (s, u) ∨ csLoop (a + b + c) (c :: tl) (a + b) u s 4 = (4, a + b + c) := fun {u s} => by
    rcases cs_mid (wanted := a + b + c) (g := a + b) (u := u) (s := s) (p := 4) (cs := tl) hc with h | h | ⟨h, _⟩
    · exact .inl h
    · exact .inr h
    · exact (h rfl).elim
  have e2 : ∀ {u s : Int}, csLoop (a + b + c) (b :: c :: tl) a u s 2 = (s, u) ∨ csLoop (a + b + c) (b :: c :: tl) a u s 2 = (2, a + b) ∨ csLoop (a + b + c) (b :: c :: tl) a u s 2 = (4, a + b + c) := fun {u s} => by
    rcases cs_mid (wanted := a + b + c) (g := a) (u := u) (s := s) (p := 2) (cs := c :: tl) hb with h | h | ⟨_, h | h⟩
    · exact .inl h
    · exact .inr (.inl h)
    · rw [h]; exact (e3 (u := a + b) (s := 2)).elim (fun h => .inr (.inl h)) fun h => .inr (.inr h)
    · rw [h]; exact (e3 (u := u) (s := s)).elim (fun h => .inl h) fun h => .inr (.inr h)
  rcases cs_mid (wanted := a + b + c) (g := 0) (u := 0) (s := 0) (p := 1) (cs := b :: c :: tl) ha with h | h | ⟨_, h | h⟩
  · exact .inl h
  · exact .inr (.inl (h.trans (by rw [Int.zero_add])))
  · rw [h, Int.zero_add]; exact .inr (e2 (u := a) (s := 1))
  · rw [h, Int.zero_add]
    rcases e2 (u := 0) (s := 0) with h | h | h
    · exact .inl h
    · exact .inr (.inr (.inl h))
    · exact .inr (.inr (.inr h))
noncomputable def mkOk (y : Nat) : Bool := match mkSize y with
  | some N => sizesB N && decide (y ≤ N)
  | none => false
theorem mkOk_all : ∀ y ∈ List.range 33, mkOk y = true := by decide +kernel
theorem mkSize_ok {y : Nat} (h : y ≤ 32) : ∃ N, mkSize y = some N ∧ sizesB N = true ∧ y ≤ N := by
  have := mkOk_all y (List.mem_range.mpr (by omega))
  unfold mkOk at this
  cases e : mkSize y with
  | none => rw [e] at this; cases this
  | some N =>
    rw [e] at this
    obtain ⟨h1, h2⟩ := Bool.and_eq_true_iff.mp this
    exact ⟨N, rfl, h1, of_decide_eq_true h2⟩
end
section
section
variable {t : PT} {k v : PV} {nk : PT → PV → PV → Option PT}
theorem nl_len : ∀ l : List PN, nl l = (pairsN l).length
  | [] => rfl
  | x :: r => by
    have ih := nl_len r
    show one x.v + nl r = _
    by_cases d : x.v = .none
    · have e : pairsN (x :: r) = pairsN r := by unfold pairsN; rw [List.filter_cons_of_neg (by simp [d])]
      rw [e, d, ih]; show 0 + _ = _; omega
    · have e : pairsN (x :: r) = (x.k, x.v) :: pairsN r := by unfold pairsN; rw [List.filter_cons_of_pos (by simp [d]), List.map_cons]
      rw [e, one_ne d, ih, List.length_cons]; omega
theorem nl_le (h : WF t) : nl t.ns ≤ 12 := by
  rw [nl_len]
  have := pigeon (L := KS) (nodup_pairsN h) (by
    intro k hk
    obtain ⟨⟨k', u⟩, hm, rfl⟩ := List.mem_map.mp hk
    obtain ⟨hu, x, hx, e1, e2⟩ := mem_pairsN.mp hm
    rw [← show x.k = k' from e1]
    exact h.keyMem hx (by rw [e2]; exact hu))
  rw [List.length_map] at this
  have e : KS.length = 12 := rfl
  omega
/-- the new measure: then there is room -/
theorem rehash_room (h : WF t) (hk : k ∈ KS) (hd : ∀ u, ¬ Ent t k u) (nk0 : PT → PV → PV → Option PT) (v : PV) :
    ∃ t', ((rehashF (newKeyF nk0) t k).bind fun t1 => backF (newKeyF nk0) t1 k v) = some t' ∧ WF t' ∧ t'.fl = t.fl ∧ (∀ k' u, u ≠ .none → (Ent t' k' u ↔ (k' = k ∧ u = v) ∨ (k' ≠ k ∧ Ent t k' u))) ∧ (∀ k', Dom t' k' → k' = k ∨ ∃ u, Ent t k' u) := by
  have hen := h.en
  have hns := sizes_le h.nn
  have hkm : ∀ x ∈ t.ns, x.v ≠ .none → x.k ∈ KS := fun x hx hv => h.keyMem hx hv
  have hnl := nl_le h
  have o0 := one_range (t.es.getD 0 .none)
  have o1 := one_range (t.es.getD 1 .none)
  have o2 := one_range (t.es.getD 2 .none)
  have n1 := nj_nonneg 1 t.ns
  have n2 := nj_nonneg 2 t.ns
  have n3 := nj_nonneg 3 t.ns
  have q1 := eq1_range k 1
  have q2 := eq1_range k 2
  have q3 := eq1_range k 3
  obtain ⟨s, hs4, u, hcs, hu0, hu⟩ := cs_K (a := one (t.es.getD 0 .none) + nj 1 t.ns + eq1 k 1) (b := one (t.es.getD 1 .none) + nj 2 t.ns + eq1 k 2) (c := one (t.es.getD 2 .none) + nj 3 t.ns + eq1 k 3) (by omega) (by omega) (by omega)
  have hA := outN_A hs4 t.es hen h.e4
  have hN := outN_N (s := s) t.ns hkm
  have hE := out_one hk (s := s)
  obtain ⟨sl, hsl⟩ : ∃ sl : Nat, sl = if 1 ≤ k.idx ∧ k.idx ≤ (s : Int) then 0 else 1 := ⟨_, rfl⟩
  have hslI : (if 1 ≤ k.idx ∧ k.idx ≤ (s : Int) then 0 else 1 : Int) = sl := by rw [hsl]; split <;> rfl
  rw [hslI] at hE
  have hout : (outN s (newL t s) : Int) = outN s (pairsA (t.es.drop s) (s + 1)) + outN s (pairsN t.ns) := by
    unfold newL; rw [outN_append, outN_rev]; omega
  have hy : (outN s (newL t s) : Int) + sl ≤ one (t.es.getD 0 .none) + one (t.es.getD 1 .none) + one (t.es.getD 2 .none) + (nl t.ns + 1) - u := by
    unfold sumj at hA hN hE
    simp only [show ((1 : Int) - 1).toNat = 0 from rfl, show ((2 : Int) - 1).toNat = 1 from rfl, show ((3 : Int) - 1).toNat = 2 from rfl] at hA
    by_cases c1 : 1 ≤ s <;> by_cases c2 : 2 ≤ s <;> by_cases c3 : 3 ≤ s <;> simp only [c1, c2, c3, if_true, if_false] at hA hN hE hu <;> omega
  obtain ⟨y, hyy⟩ : ∃ y : Nat, (y : Int) = one (t.es.getD 0 .none) + one (t.es.getD 1 .none) + one (t.es.getD 2 .none) + (nl t.ns + 1) - u := ⟨_, Int.toNat_of_nonneg (by omega)⟩
  obtain ⟨N, hN1, hN2, hN3⟩ := mkSize_ok (y := y) (by omega)
  have hrl : (refresh t s N).ns.length = N := by unfold refresh; simp
  have hrE : (refresh t s N).es.length = s := padF_len
  obtain ⟨t1, f1, G, g1, M', g2, g3⟩ := fold_room nk0 (newL t s) (refresh t s N) (refresh_wf h hs4 hN2) (newL_fit h) [] sl (fun k' hk' => by
    obtain ⟨h0, i, hi, e⟩ := hk'
    rw [hrl] at hi
    rw [refresh_gd hi] at e
    exact (h0 e.symm).elim) (by rw [hrl, hrE, List.length_nil]; omega)
  have S := G.same
  have hre : rehashF (newKeyF nk0) t k = some t1 := by
    unfold rehashF
    rw [if_pos ⟨by omega, by omega⟩, ca_K t.es hen h.e4]
    simp only [Option.bind_some]
    rw [if_pos K3_len, cN_K t.ns hkm]
    simp only [Option.bind_some]
    rw [if_pos K3_len, cKey_K hk]
    simp only [Option.bind_some]
    rw [if_pos K3_len]
    have e1 : one (t.es.getD 0 .none) + one (t.es.getD 1 .none) + one (t.es.getD 2 .none) + (0 + (nj 1 t.ns + nj 2 t.ns + nj 3 t.ns) + (eq1 k 1 + eq1 k 2 + eq1 k 3)) = (one (t.es.getD 0 .none) + nj 1 t.ns + eq1 k 1) + (one (t.es.getD 1 .none) + nj 2 t.ns + eq1 k 2) + (one (t.es.getD 2 .none) + nj 3 t.ns + eq1 k 3) := by omega
    rw [e1, hcs]
    have e2 : one (t.es.getD 0 .none) + one (t.es.getD 1 .none) + one (t.es.getD 2 .none) + (0 + nl t.ns + 1) - u = (y : Int) := by omega
    show resizeF (newKeyF nk0) t s (one (t.es.getD 0 .none) + one (t.es.getD 1 .none) + one (t.es.getD 2 .none) + (0 + nl t.ns + 1) - u) = some t1
    rw [e2]
    exact resize_of h hs4 (by omega) hN1 hN2 f1 G.wf
  have hd1 : ¬ Dom t1 k := fun e => by
    obtain ⟨u', he⟩ := S.dom k e
    exact hd u' he
  have hes1 : t1.es.length = s := g1.trans hrE
  have room : InA t1 k ∨ ∃ i, i < t1.ns.length ∧ (gd t1.ns i).k = .none := by
    by_cases c : InA t1 k
    · exact .inl c
    · refine .inr (room_of G.wf g2 ?_)
      unfold InA at c
      rw [hes1] at c
      rw [if_neg c] at hsl
      omega
  obtain ⟨t', f2, I⟩ := back_room G.wf hk hd1 room nk0 v
  refine ⟨t', by rw [hre]; exact f2, I.wf, I.fl.trans S.fl, fun k' u' hu' => ?_, fun k' hk' => ?_⟩
  · rw [I.ent k' u' hu', S.ent]
  · rcases I.dom k' hk' with e | e
    · exact .inl e
    · exact .inr (S.dom k' e)
theorem WF.free_of (h : WF t) {fr' : Int} (w : WF { t with fr := fr' }) : (∀ k u, Ent { t with fr := fr' } k u ↔ Ent t k u) := fun _ _ => Iff.rfl
/-- two levels are enough -/
theorem nk_any (nk0 : PT → PV → PV → Option PT) : NKAny (newKeyF (newKeyF nk0)) := by
  intro t k v h hk hi hd
  rcases nk_cases h hk hi (fun e => hd (.inr e)) (newKeyF nk0) v with ⟨t', e, I⟩ | ⟨_, fr', w, e⟩
  · exact ⟨t', e, I.toIns⟩
  · obtain ⟨t', e2, a1, a2, a3, a4⟩ := rehash_room w hk (fun u he => hd (Ent.dom (t := t) h he)) nk0 v
    exact ⟨t', e.trans e2, ⟨a1, a2, a3, fun k' hk' => (a4 k' hk').imp id fun ⟨u, he⟩ => Ent.dom (t := t) h he⟩⟩
/-- sizes set anew -/
theorem resize_any (N : NKAny nk) (h : WF t) {x y : Nat} (hx : x ≤ 4) (hy : y ≤ 32) : ∃ t', resizeF nk t x y = some t' ∧ Same t t' := by
  obtain ⟨n, h1, h2, h3⟩ := mkSize_ok hy
  obtain ⟨t', f, G⟩ := fold_any N (newL t x) (refresh t x n) (refresh_wf h hx h2) (newL_fit h)
  exact ⟨t', resize_of h hx (by omega) h1 h2 f G.wf, G.same⟩
/-- put -/
theorem put_any (N : NKAny nk) (h : WF t) (hk : k ∈ KS) (v : PV) : ∃ t', putF nk t k v = some t' ∧ WF t' ∧ t'.fl = t.fl ∧ ∀ k' u, u ≠ .none → (Ent t' k' u ↔ (k' = k ∧ u = v) ∨ (k' ≠ k ∧ Ent t k' u)) := by
  have hen := h.en
  have hns := sizes_le h.nn
  have h0 := ne_none_all k hk
  unfold putF
  rw [if_pos ⟨by omega, by omega⟩]
  by_cases hi : InA t k
  · have I := set_arr h hk hi (v := v)
    exact ⟨_, if_pos hi, I.wf, I.fl, I.ent⟩
  · rw [if_neg hi]
    rcases h.find hk with ⟨e, hd⟩ | ⟨i, hil, e1, e⟩
    · rw [e]
      simp only [Option.bind_some]
      rw [if_pos (by decide)]
      obtain ⟨t', e2, I⟩ := N v h hk hi (fun hd' => hd'.elim (fun ⟨u, _, ha⟩ => hi (aent_idx ha)) hd)
      exact ⟨t', e2, I.wf, I.fl, I.ent⟩
    · rw [e]
      simp only [Option.bind_some]
      rw [if_neg (by omega), show ((i : Int)).toNat = i by omega, if_pos hil]
      have hg : gd (t.up i (PN.wV v)).ns = ups (gd t.ns) i { gd t.ns i with v := v } := gd_modify hil
      have hlen : (t.up i (PN.wV v)).ns.length = t.ns.length := up_len
      have hgk : ∀ j, (gd (t.up i (PN.wV v)).ns j).k = (gd t.ns j).k := fun j => by
        rw [hg]
        by_cases c : j = i
        · subst c; rw [ups_same]
        · rw [ups_ne c]
      refine ⟨_, rfl, ⟨h.en, h.e4, by rw [hlen]; exact h.nn, ?_, fun j hj hk' => ?_⟩, rfl, fun k' u hu => ?_⟩
      · rw [hlen, hg]; exact h.ci.value (by rw [e1]; exact h0)
      · rw [hlen] at hj; rw [hgk] at hk' ⊢; exact h.ar j hj hk'
      · constructor
        · rintro ⟨_, ea | ⟨j, hj, e2, e3⟩⟩
          · by_cases c : k' = k
            · subst c; exact (hi (aent_idx (t := t) ea)).elim
            · exact .inr ⟨c, hu, .inl ea⟩
          · rw [hlen] at hj
            rw [hgk] at e2
            by_cases c : j = i
            · subst c; rw [hg, ups_same] at e3; exact .inl ⟨e2.symm.trans e1, e3.symm⟩
            · rw [hg, ups_ne c] at e3
              refine .inr ⟨fun e4 => c ?_, hu, .inr ⟨j, hj, e2, e3⟩⟩
              exact h.ci.uniq j i hj hil (by rw [e2, e4, e1]) (by rw [e2, e4]; exact h0)
        · rintro (⟨rfl, rfl⟩ | ⟨hne, _, ea | ⟨j, hj, e2, e3⟩⟩)
          · exact ⟨hu, .inr ⟨i, hlen ▸ hil, by rw [hgk]; exact e1, by rw [hg, ups_same]⟩⟩
          · exact ⟨hu, .inl ea⟩
          · have c : j ≠ i := fun e4 => hne (by rw [← e2, e4, e1])
            exact ⟨hu, .inr ⟨j, hlen ▸ hj, by rw [hgk]; exact e2, by rw [hg, ups_ne c]; exact e3⟩⟩
end
end
section
/-- plain[k] = e -/
noncomputable def dSet (D : List (PV × En)) (k : PV) (e : En) : List (PV × En) := if D.any (fun x => x.1 = k) then D.map (fun x => if x.1 = k then (k, e) else x) else D ++ [(k, e)]
theorem dGet_nil {k : PV} : dGet [] k = .none := rfl
theorem dGet_cons {x : PV × En} {r : List (PV × En)} {k : PV} : dGet (x :: r) k = if x.1 = k then x.2.p else dGet r k := by
  unfold dGet
  by_cases e : x.1 = k
  · simp [e]
  · simp [e]
theorem dGet_map {k : PV} {e : En} {k' : PV} : ∀ D : List (PV × En), dGet (D.map fun x => if x.1 = k then (k, e) else x) k' = if k' = k ∧ D.any (fun x => x.1 = k) = true then e.p else dGet D k'
  | [] => by simp [dGet_nil]
  | x :: r => by
    rw [List.map_cons, dGet_cons, dGet_cons, dGet_map r, List.any_cons]
    by_cases c : x.1 = k
    · by_cases c2 : k' = k
      · subst c2; simp [c]
      · have c3 : ¬ k = k' := fun e => c2 e.symm
        simp [c, c2, c3]
    · have c4 : decide (x.1 = k) = false := decide_eq_false c
      rw [if_neg c, c4, Bool.false_or]
      by_cases c2 : x.1 = k'
      · rw [if_pos c2, if_pos c2, if_neg fun h => c (c2.trans h.1)]
      · rw [if_neg c2, if_neg c2]
theorem dGet_append {k : PV} {e : En} {k' : PV} : ∀ D : List (PV × En), D.any (fun x => x.1 = k) = false → dGet (D ++ [(k, e)]) k' = if k' = k then e.p else dGet D k'
  | [], _ => by
    rw [List.nil_append, dGet_cons]
    by_cases c : k = k'
    · rw [if_pos c, if_pos c.symm]
    · rw [if_neg c, if_neg fun e => c e.symm]
  | x :: r, h => by
    rw [List.any_cons, Bool.or_eq_false_iff] at h
    have h1 : ¬ x.1 = k := of_decide_eq_false h.1
    rw [List.cons_append, dGet_cons, dGet_append r h.2, dGet_cons]
    by_cases c : x.1 = k'
    · rw [if_pos c, if_neg fun e => h1 (c.trans e), if_pos c]
    · rw [if_neg c, if_neg c]
theorem dGet_dSet {D : List (PV × En)} {k k' : PV} {e : En} : dGet (dSet D k e) k' = if k' = k then e.p else dGet D k' := by
  unfold dSet
  by_cases c : D.any (fun x => x.1 = k) = true
  · rw [if_pos c, dGet_map]
    by_cases c2 : k' = k
    · rw [if_pos ⟨c2, c⟩, if_pos c2]
    · rw [if_neg fun h => c2 h.1, if_neg c2]
  · rw [if_neg c, dGet_append D (by cases hq : D.any (fun x => x.1 = k) <;> first | rfl | exact (c hq).elim)]
theorem dSet_keys {D : List (PV × En)} {k : PV} {e : En} : ∀ x ∈ dSet D k e, x.1 = k ∨ ∃ y ∈ D, y.1 = x.1 := by
  intro x hx
  unfold dSet at hx
  split at hx
  · obtain ⟨y, hy, rfl⟩ := List.mem_map.mp hx
    by_cases c : y.1 = k
    · rw [if_pos c]; exact .inl rfl
    · rw [if_neg c]; exact .inr ⟨y, hy, rfl⟩
  · rcases List.mem_append.mp hx with h | h
    · exact .inr ⟨x, h, rfl⟩
    · rw [List.mem_singleton.mp h]; exact .inl rfl
theorem dSet_nodup {D : List (PV × En)} {k : PV} {e : En} (h : (D.map (·.1)).Nodup) : ((dSet D k e).map (·.1)).Nodup := by
  unfold dSet
  split
  · rw [List.map_map]
    have : D.map ((fun x => x.1) ∘ fun x => if x.1 = k then (k, e) else x) = D.map (·.1) := by
      apply List.map_congr_left
      intro x _
      show (if x.1 = k then (k, e) else x).1 = x.1
      split
      · rename_i c; exact c.symm
      · rfl
    rw [this]; exact h
  · rename_i c
    rw [List.map_append, List.nodup_append]
    refine ⟨h, by simp, ?_⟩
    intro a ha b hb
    rw [show b = k by simpa using hb]
    rintro rfl
    obtain ⟨x, hx, rfl⟩ := List.mem_map.mp ha
    exact c (List.any_eq_true.mpr ⟨x, hx, by simp⟩)
theorem dGet_mem {D : List (PV × En)} (h : (D.map (·.1)).Nodup) : ∀ x ∈ D, dGet D x.1 = x.2.p := by
  induction D with
  | nil => intro x hx; cases hx
  | cons y r ih =>
    obtain ⟨h1, h2⟩ := List.nodup_cons.mp (show (y.1 :: r.map (·.1)).Nodup from h)
    intro x hx
    rw [dGet_cons]
    rcases List.mem_cons.mp hx with rfl | hx
    · rw [if_pos rfl]
    · rw [if_neg fun e => h1 (by rw [e]; exact List.mem_map_of_mem hx)]
      exact ih h2 x hx
/-- flags: what a bit more notes -/
noncomputable def bitSet (f j : Nat) : Bool := decide (Builtin.bitAnd ((f : Int).fdiv (2 ^ (j : Int).toNat)) 1 = 1)
theorem flags_all : ∀ f ∈ List.range 32, ∀ j ∈ List.range 5, bitSet f j = false → 0 ≤ Builtin.bitOr f (1 * 2 ^ (j : Int).toNat) ∧ Builtin.bitOr f (1 * 2 ^ (j : Int).toNat) < 32 ∧ (notedF (Builtin.bitOr f (1 * 2 ^ (j : Int).toNat))).isPerm (notedF f ++ [EVS.getD j []]) = true := by decide +kernel
theorem noted_all : ∀ f ∈ List.range 32, ∀ j ∈ List.range 5, (bitSet f j = true ↔ EVS.getD j [] ∈ notedF f) := by decide +kernel
theorem noted_sub {fl : Int} : ∀ wd ∈ notedF fl, wd ∈ EVS.take 5 := by
  have : ∀ (l : List (List UInt8)) (i : Nat), ∀ wd ∈ notedFrom fl l i, wd ∈ l := by
    intro l
    induction l with
    | nil => intro i wd h; cases h
    | cons x r ih =>
      intro i wd h
      unfold notedFrom at h
      split at h
      · rcases List.mem_cons.mp h with rfl | h
        · exact .head _
        · exact .tail _ (ih _ wd h)
      · exact .tail _ (ih _ wd h)
  exact this _ _
theorem noted_zero : notedF 0 = [] := by decide +kernel
theorem ws_all : ∀ wd ∈ WS, wd.length < 32 ∧ PV.bytes wd ∈ KS := by decide +kernel
theorem ev6_all : ∀ j ∈ List.range 6, EVS.getD j [] ∈ WS ∧ EVS.findIdx? (fun x => decide (x = EVS.getD j [])) = some j := by decide +kernel
theorem ws_index : ∀ wd ∈ WS, wd = [111, 116, 104, 101, 114] ∨ ∃ j, EVS.findIdx? (fun x => decide (x = wd)) = some j ∧ EVS.getD j [] = wd := by
  intro wd h
  have : ∀ wd ∈ WS, wd = [111, 116, 104, 101, 114] ∨ ((EVS.findIdx? (fun x => decide (x = wd))).isSome = true ∧ EVS.getD ((EVS.findIdx? (fun x => decide (x = wd))).getD 0) [] = wd) := by decide +kernel
  refine (this wd h).imp id fun ⟨h1, h2⟩ => ?_
  obtain ⟨j, hj⟩ := Option.isSome_iff_exists.mp h1
  rw [hj] at h2
  exact ⟨j, hj, h2⟩
/-- the law's invariant -/
structure LI (t : PT) (D : List (PV × En)) : Prop where
  wf : WF t
  ag : ∀ k ∈ KS, ∀ u, u ≠ .none → (Ent t k u ↔ dGet D k = u)
  ks : ∀ x ∈ D, x.1 ∈ KS
  nd : (D.map (·.1)).Nodup
  f0 : 0 ≤ t.fl
  f32 : t.fl < 32
  bits : ∀ wd ∈ notedF t.fl, dGet D (.bytes wd) = .none
section
variable {t t' : PT} {D : List (PV × En)} {k : PV} {e : En}
theorem ent_val {r : PV} (h : LI t D) (hk : k ∈ KS) (hr : ∀ u, u ≠ .none → (Ent t k u ↔ r = u)) : r = dGet D k := by
  by_cases c : r = .none
  · by_cases c2 : dGet D k = .none
    · rw [c, c2]
    · have := (hr _ c2).mp ((h.ag k hk _ c2).mpr rfl)
      exact this
  · exact ((h.ag k hk r c).mp ((hr r c).mpr rfl)).symm
theorem LI.any (h : LI t D) (hk : k ∈ KS) (hi : ¬ InA t k) : getAny t.ns k 65 = some (dGet D k) := by
  obtain ⟨r, h1, h2⟩ := h.wf.getAny hk hi
  rw [h1, ent_val h hk h2]
theorem LI.key (h : LI t D) (hk : k ∈ KS) : getKey t.es t.ns k 65 = some (dGet D k) := by
  obtain ⟨r, h1, h2⟩ := h.wf.getKey hk
  rw [h1, ent_val h hk h2]
theorem LI.word (h : LI t D) {wd : List UInt8} (hw : wd ∈ WS) : getAny t.ns (.bytes wd) 65 = some (dGet D (.bytes wd)) := h.any (ws_all wd hw).2 fun c => absurd (show (1 : Int) ≤ -1 from c.1) (by decide)
theorem LI.hD (h : LI t D) : ∀ x ∈ D, x.1.key ∧ getKey t.es t.ns x.1 65 = some x.2.p := fun x hx => by
  have hk := h.ks x hx
  exact ⟨PV.keyB_key (keyB_all _ hk), by rw [h.key hk, dGet_mem h.nd x hx]⟩
theorem LI.len (h : LI t D) : D.length ≤ 12 := by
  have := pigeon (L := KS) h.nd (by intro k hk; obtain ⟨x, hx, rfl⟩ := List.mem_map.mp hk; exact h.ks x hx)
  rw [List.length_map] at this
  have e : KS.length = 12 := rfl
  omega
theorem LI.hnone (h : LI t D) : ∀ wd ∈ notedF t.fl, wd.length < 32 ∧ dGet D (.bytes wd) = .none := fun wd hw => by
  refine ⟨?_, h.bits wd hw⟩
  have := noted_sub wd hw
  have all : ∀ wd ∈ EVS.take 5, wd.length < 32 := by decide +kernel
  exact all wd this
theorem LI.ns (h : LI t D) : t.ns.length ≤ 64 := by have := sizes_le h.wf.nn; omega
theorem LI.es (h : LI t D) : t.es.length ≤ 64 := by have := h.wf.en; omega
/-- an event asked for -/
theorem LI.fast (h : LI t D) {wd : List UInt8} (hw : wd ∈ WS) {j : Nat} (hj : EVS.findIdx? (fun x => decide (x = wd)) = some j) (hjw : EVS.getD j [] = wd) :
    ∃ t', fastF t (.bytes wd) j = some (dGet D (.bytes wd), t') ∧ LI t' D ∧ { t' with fl := t.fl } = t ∧
      (notedF t'.fl).Perm (if dGet D (.bytes wd) = .none ∧ (j : Int) < 5 ∧ wd ∉ notedF t.fl then notedF t.fl ++ [wd] else notedF t.fl) := by
  obtain ⟨f, hf⟩ : ∃ f : Nat, (f : Int) = t.fl := ⟨t.fl.toNat, Int.toNat_of_nonneg h.f0⟩
  have hf32 : f < 32 := by have := h.f32; omega
  have hfr := List.mem_range.mpr hf32
  unfold fastF
  by_cases c : (j : Int) < 5 ∧ Builtin.bitAnd (t.fl.fdiv (2 ^ (j : Int).toNat)) 1 = 1
  · rw [if_pos c]
    have hb : bitSet f j = true := decide_eq_true (by rw [hf]; exact c.2)
    have hm := (noted_all f hfr j (List.mem_range.mpr (by omega))).mp hb
    rw [hjw, hf] at hm
    have hn := h.bits wd hm
    refine ⟨t, by rw [hn], h, rfl, ?_⟩
    rw [if_neg fun x => x.2.2 hm]
  · rw [if_neg c, h.word hw]
    by_cases c2 : dGet D (.bytes wd) = .none ∧ (j : Int) < 5
    · have hb : bitSet f j = false := decide_eq_false (by rw [hf]; exact fun x => c ⟨c2.2, x⟩)
      have hjr : j ∈ List.range 5 := List.mem_range.mpr (by omega)
      obtain ⟨g0, g1, g2⟩ := flags_all f hfr j hjr hb
      rw [hf] at g0 g1 g2
      have g3 := List.isPerm_iff.mp g2
      rw [hjw] at g3
      have hnm : wd ∉ notedF t.fl := fun hm => by
        rw [← hjw, ← hf] at hm
        rw [(noted_all f hfr j hjr).mpr hm] at hb; cases hb
      refine ⟨{ t with fl := Builtin.bitOr t.fl (1 * 2 ^ (j : Int).toNat) }, ?_, ⟨⟨h.wf.en, h.wf.e4, h.wf.nn, h.wf.ci, h.wf.ar⟩, h.ag, h.ks, h.nd, g0, g1, ?_⟩, rfl, ?_⟩
      · show some (if dGet D (.bytes wd) = .none ∧ (j : Int) < 5 then _ else _) = _
        rw [if_pos c2]
      · intro wd' hw'
        rcases List.mem_append.mp (g3.mem_iff.mp hw') with hm | hm
        · exact h.bits wd' hm
        · rw [List.mem_singleton.mp hm]; exact c2.1
      · rw [if_pos ⟨c2.1, c2.2, hnm⟩]; exact g3
    · refine ⟨t, ?_, h, rfl, ?_⟩
      · show some (if dGet D (.bytes wd) = .none ∧ (j : Int) < 5 then _ else _) = _
        rw [if_neg c2]
      · rw [if_neg fun x => c2 ⟨x.1, x.2.1⟩]
theorem LI.same (h : LI t D) (S : Same t t') : LI t' D :=
  ⟨S.wf, fun k hk u hu => (S.ent k u).trans (h.ag k hk u hu), h.ks, h.nd, by rw [S.fl]; exact h.f0, by rw [S.fl]; exact h.f32, by rw [S.fl]; exact h.bits⟩
theorem LI.put (h : LI t D) {f : Int} {nk : PT → PV → PV → Option PT} (N : NKAny nk) (hk : k ∈ KS) (e : En) (f0 : 0 ≤ f) (f32 : f < 32) (hb : ∀ wd ∈ notedF f, dGet (dSet D k e) (.bytes wd) = .none) :
    ∃ t', putF nk { t with fl := f } k e.p = some t' ∧ t'.fl = f ∧ LI t' (dSet D k e) := by
  have wf : WF { t with fl := f } := ⟨h.wf.en, h.wf.e4, h.wf.nn, h.wf.ci, h.wf.ar⟩
  obtain ⟨t', p1, p2, p3, p4⟩ := put_any N wf hk e.p
  refine ⟨t', p1, p3, p2, ?_, ?_, dSet_nodup h.nd, by rw [p3]; exact f0, by rw [p3]; exact f32, by rw [p3]; exact hb⟩
  · intro k' hk' u hu
    rw [p4 k' u hu, dGet_dSet]
    by_cases c : k' = k
    · rw [if_pos c]
      constructor
      · rintro (⟨_, e2⟩ | ⟨hne, _⟩)
        · exact e2.symm
        · exact (hne c).elim
      · intro e2; exact .inl ⟨c, e2.symm⟩
    · rw [if_neg c]
      constructor
      · rintro (⟨e2, _⟩ | ⟨_, e2⟩)
        · exact (c e2).elim
        · exact (h.ag k' hk' u hu).mp e2
      · intro e2; exact .inr ⟨c, (h.ag k' hk' u hu).mpr e2⟩
  · intro x hx
    rcases dSet_keys x hx with e2 | ⟨y, hy, e2⟩
    · rw [e2]; exact hk
    · rw [← e2]; exact h.ks y hy
end
end
section
theorem own_iff {T : Tb} {L : Ledger} : Own T L ↔ T.addrs.Nodup ∧ ∀ a ∈ L.map (·.1), a ∉ T.addrs := by
  constructor
  · rintro ⟨h1, h2⟩
    refine ⟨h1, fun a ha => ?_⟩
    obtain ⟨p, hp, rfl⟩ := List.mem_map.mp ha
    exact h2 p hp
  · rintro ⟨h1, h2⟩
    exact ⟨h1, fun p hp => h2 _ (List.mem_map_of_mem hp)⟩
theorem all_iff {L : Ledger} {Q : Addr → Prop} : (∀ p ∈ L, Q p.1) ↔ ∀ a ∈ L.map (·.1), Q a := by
  constructor
  · intro h a ha
    obtain ⟨p, hp, rfl⟩ := List.mem_map.mp ha
    exact h p hp
  · intro h p hp
    exact h _ (List.mem_map_of_mem hp)
/-- the law's objects, in order -/
theorem law_setup {P : Params} {h₀ h : Heap} {L : Addr} {T1 Va Vb U W : Tb} {sk pd wl tp d1 d2 : Addr} {S o ow ot o1 o2 : Obj} {R0 : Ledger}
    (N : News h₀ L h ((d1, o1) :: (d2, o2) :: (tbObjs P W ++ (tbObjs P U ++ ((wl, ow) :: (tbObjs P Vb ++ (tbObjs P Va ++ ((tp, ot) :: (pd, o) :: (tbObjs P T1 ++ ((sk, S) :: R0))))))))))
    (O1 : Own T1 ((sk, S) :: R0)) (lp : ∀ p ∈ tbObjs P T1 ++ ((sk, S) :: R0), p.1 < pd) (Oa : Own Va ((tp, ot) :: (pd, o) :: (tbObjs P T1 ++ ((sk, S) :: R0)))) (Ob : Own Vb (tbObjs P Va ++ ((tp, ot) :: (pd, o) :: (tbObjs P T1 ++ ((sk, S) :: R0)))))
    (lw : ∀ p ∈ tbObjs P Vb ++ (tbObjs P Va ++ ((tp, ot) :: (pd, o) :: (tbObjs P T1 ++ ((sk, S) :: R0)))), p.1 < wl)
    (Ou : Own U ((wl, ow) :: (tbObjs P Vb ++ (tbObjs P Va ++ ((tp, ot) :: (pd, o) :: (tbObjs P T1 ++ ((sk, S) :: R0)))))))
    (Ow : Own W (tbObjs P U ++ ((wl, ow) :: (tbObjs P Vb ++ (tbObjs P Va ++ ((tp, ot) :: (pd, o) :: (tbObjs P T1 ++ ((sk, S) :: R0)))))))) (hR0 : ∀ p ∈ R0, p.1 ≠ sk) :
    News h₀ L h (tbObjs P Va ++ (tbObjs P Vb ++ (tbObjs P W ++ (tbObjs P T1 ++ ((sk, S) :: (pd, o) :: (tbObjs P U ++ ((wl, ow) :: R0))))))) ∧
    Own Va (tbObjs P Vb ++ (tbObjs P W ++ (tbObjs P T1 ++ ((sk, S) :: (pd, o) :: (tbObjs P U ++ ((wl, ow) :: R0)))))) ∧
    Own Vb (tbObjs P Va ++ (tbObjs P W ++ (tbObjs P T1 ++ ((sk, S) :: (pd, o) :: (tbObjs P U ++ ((wl, ow) :: R0)))))) ∧
    Own W (tbObjs P Va ++ (tbObjs P Vb ++ (tbObjs P T1 ++ ((sk, S) :: (pd, o) :: (tbObjs P U ++ ((wl, ow) :: R0)))))) ∧
    Own T1 ((sk, S) :: (pd, o) :: (tbObjs P U ++ ((wl, ow) :: (tbObjs P Va ++ (tbObjs P Vb ++ (tbObjs P W ++ R0)))))) ∧
    Own U ((wl, ow) :: (tbObjs P Va ++ (tbObjs P Vb ++ (tbObjs P W ++ R0)))) ∧ pd ≠ sk ∧
    (∀ p ∈ tbObjs P U ++ ((wl, ow) :: (tbObjs P Va ++ (tbObjs P Vb ++ (tbObjs P W ++ R0)))), p.1 ≠ sk) ∧
    (∀ p ∈ tbObjs P U ++ ((wl, ow) :: (tbObjs P Va ++ (tbObjs P Vb ++ (tbObjs P W ++ R0)))), p.1 ≠ pd) := by
  have lp' := (all_iff (Q := fun a => a < pd)).mp lp
  have lw' := (all_iff (Q := fun a => a < wl)).mp lw
  have hR' := (all_iff (Q := fun a => a ≠ sk)).mp hR0
  rw [all_iff (Q := fun a => a ≠ sk), all_iff (Q := fun a => a ≠ pd)]
  simp only [own_iff, List.map_append, List.map_cons, tbObjs_keys, List.mem_append, List.mem_cons] at *
  clear lp lw hR0
  have irr : ∀ a : Addr, ¬ a < a := fun a => Nat.lt_irrefl a
  refine ⟨?_, ?_⟩
  · refine News.sub N fun p hp => ?_
    simp only [List.mem_append, List.mem_cons] at hp ⊢
    rcases hp with h | h | h | h | h | h | h | h | h <;> simp only [h, true_or, or_true]
  · clear N
    generalize T1.addrs = A1 at *
    generalize Va.addrs = Aa at *
    generalize Vb.addrs = Ab at *
    generalize U.addrs = Au at *
    generalize W.addrs = Aw at *
    generalize List.map (fun x => x.fst) R0 = K at *
    obtain ⟨n1, O1⟩ := O1
    obtain ⟨n2, Oa⟩ := Oa
    obtain ⟨n3, Ob⟩ := Ob
    obtain ⟨n4, Ou⟩ := Ou
    obtain ⟨n5, Ow⟩ := Ow
    refine ⟨⟨n2, ?_⟩, ⟨n3, ?_⟩, ⟨n5, ?_⟩, ⟨n1, ?_⟩, ⟨n4, ?_⟩, ?_, ?_, ?_⟩
    all_goals grind
end
end
section
theorem reg_F51_1 : True := by
  k_with "my calls" => ((with_reducible refine (?_ : wpAny _ _ (call (Value.ref 491) _) _ _ _)); k_dflt (refine Runs.use (table_new1) (by k_asm) (by k_asm) (by k_asm) (by k_extra "my news") (by k_asm) (by first | exact rfl | assumption) (by k_extra "my room") (by k_extra "my units") ?_); k_whole; intro r9 Λ9 h9 tk9 F9 N9 P9; ((refine ex_elim2 P9 fun T9 b9 P9q1 => ?_; clear P9; refine and_elim5 P9q1 fun P9e2 ha9 hab9 P9e5 O9 => ?_; clear P9q1); subst P9e2; subst P9e5); k_extra "my after")
  k_with "my calls" => ((with_reducible refine (?_ : wpAny _ _ (call (Value.ref 491) _) _ _ _)); k_dflt (refine useG (table_new1) (by k_asm) (by k_asm) (by k_asm) (by k_extra "my news") (by k_asm) (by k_asm) (by k_extra "my rm") (by exact rfl) ?_); k_whole; intro r9 Λ9 h9 tk9 F9 N9 P9; ((refine ex_elim2 P9 fun T9 b9 P9q1 => ?_; clear P9; refine and_elim5 P9q1 fun P9e2 ha9 hab9 P9e5 O9 => ?_; clear P9q1); subst P9e2; subst P9e5); k_extra "my after")
  trivial
theorem own_off_mem {P : Params} {T : Tb} {Λ : Ledger} {x : Addr} {o : Obj} (O : Own T Λ) (h : (x, o) ∈ Λ) : ∀ p ∈ tbObjs P T, p.1 ≠ x := fun p hp e => by
  refine O.off _ h ?_
  rw [← tbObjs_keys P, ← e]; exact List.mem_map.mpr ⟨p, hp, rfl⟩
theorem reg_F51_2 : True := by
  k_with "my perm" => (intro p hp; simp only [List.mem_append, List.mem_cons, List.not_mem_nil, or_false, false_or] at hp ⊢; (repeat' (rcases hp with hp | hp)); all_goals (simp only [hp, true_or, or_true]))
  trivial
theorem kvsOf_dSet {D : List (PV × En)} {k : PV} {e : En} : stored (kvsOf D) k e.v = kvsOf (dSet D k e) := by
  unfold stored dSet
  have e1 : (kvsOf D).any (fun kv => kv.1 = k) = D.any (fun x => x.1 = k) := by
    unfold kvsOf; rw [List.any_map]; rfl
  rw [e1]
  split
  · unfold kvsOf
    rw [List.map_map, List.map_map]
    apply List.map_congr_left
    intro x _
    show (if x.1 = k then (x.1, e.v) else (x.1, x.2.v)) = ((if x.1 = k then (k, e) else x).1, (if x.1 = k then (k, e) else x).2.v)
    split
    · rename_i c; rw [c]
    · rfl
  · unfold kvsOf; rw [List.map_append]; rfl
theorem updF_pre {d : Addr} {o : Obj} {l : Ledger} {g : Obj → Ledger} (h : UpdF d o l g) : ∀ {A : Ledger}, (∀ p ∈ A, p.1 ≠ d) → UpdF d o (A ++ l) (fun o' => A ++ g o')
  | [], _ => h
  | x :: A, hA => .tail (hA x (.head _)) (updF_pre h fun p hp => hA p (.tail _ hp))
section
variable {w : World} {A0 : Around} {E : Value → Shared → Prop} {s : Shared} {h₀ : Heap} {L pd sk sc b : Addr} {m : Str → Option Value} {T : Tb} {R : Ledger} {o S : Obj} {D : List (PV × En)}
/-- plain[key] = value -/
theorem plain_set {key u : Value} {k q : PV} {Q : Unit → Shared → Prop} (F : Fr h₀ L s.heap m) (N : News h₀ L s.heap (tbObjs w.params T ++ ((sk, S) :: (pd, o) :: R))) (O : Own T ((sk, S) :: (pd, o) :: R)) (hps : pd ≠ sk) (hRp : ∀ p ∈ R, p.1 ≠ pd) (hd : o.IsDictOf (pvKind PG w) (kvsOf D)) (hkey : Is key k) (hk : k ≠ .none) (hu : Is u q) (hl : D.length ≤ 12)
    (h : ∀ h' o', Fr h₀ L h' m → News h₀ L h' (tbObjs w.params T ++ ((sk, S) :: (pd, o') :: R)) → Own T ((sk, S) :: (pd, o') :: R) → o'.IsDictOf (pvKind PG w) (kvsOf (dSet D k ⟨u, q, hu⟩)) → Q () { s with heap := h', toks := s.toks + 1 }) :
    wpAny (model PG w) A0 (setItem (.ref pd) key u) Q E s := by
  have U : UpdF pd o (tbObjs w.params T ++ ((sk, S) :: (pd, o) :: R)) (fun o' => tbObjs w.params T ++ ((sk, S) :: (pd, o') :: R)) :=
    updF_pre (.tail (fun e => hps e.symm) (.head hRp)) (own_off_mem O (.tail _ (.head _)))
  refine kda_set (knd := pvKind PG w) F N U hd (pvIs_of hkey hk) (by unfold kvsOf; rw [List.length_map, sizeLine_eq]; omega) fun h' o' F' N' hd' => ?_
  refine h h' o' F' N' ⟨O.nd, fun p hp => ?_⟩ ?_
  · rcases List.mem_cons.mp hp with rfl | hp
    · exact O.off (sk, S) (.head _)
    · rcases List.mem_cons.mp hp with rfl | hp
      · exact O.off (pd, o) (.tail _ (.head _))
      · exact O.off p (.tail _ (.tail _ hp))
  · have := hd'
    rwa [show stored (kvsOf D) k u = kvsOf (dSet D k ⟨u, q, hu⟩) from kvsOf_dSet (e := ⟨u, q, hu⟩)] at this
/-- a grain -/
theorem grain_can {vs : List Value} {ns : List Int} {z c : Int} {t u : Tok} {k k' : Nat} (O : Own T ((sk, sackObj sc z t k) :: (pd, o) :: R)) (hps : pd ≠ sk) (hR : ∀ p ∈ R, p.1 ≠ sk) (hi : IntsAre vs ns) (hm : (sc, listOf vs.toArray k') ∈ R) (hl : ns.length ≤ 63) (hz : 0 ≤ z) (hz2 : z ≤ 900) (hc : c ≠ 0) :
    Runs w 536 [.ref sk, .int c u] (tbObjs w.params T ++ ((sk, sackObj sc z t k) :: (pd, o) :: R)) 4 fun r Λ' => ∃ t1 t2, r = .int (grain ns z c) t1 ∧ Λ' = tbObjs w.params T ++ ((sk, sackObj sc (z + 1) t2 k) :: (pd, o) :: R) ∧ Own T ((sk, sackObj sc (z + 1) t2 k) :: (pd, o) :: R) := by
  refine (law_grain_spec (A := tbObjs w.params T) (B := (pd, o) :: R) (own_off_mem O (.head _)) (fun p hp => ?_) hi (.tail _ hm) hl hz hz2 hc).mono (Nat.le_refl _) ?_
  · rcases List.mem_cons.mp hp with rfl | hp
    · exact hps
    · exact hR p hp
  · rintro r Λ' ⟨t1, t2, e1, e2⟩
    refine ⟨t1, t2, e1, e2, O.nd, fun p hp => ?_⟩
    rcases List.mem_cons.mp hp with rfl | hp
    · exact O.off (sk, sackObj sc z t k) (.head _)
    · exact O.off p (.tail _ hp)
/-- what the flags note -/
theorem noted_can {t : PT} (O : Own T ((sk, S) :: (pd, o) :: R)) (hb : T.a = b) (hab : T.abs = t) (h0 : 0 ≤ t.fl) (h1 : t.fl < 32) (hRs : ∀ p ∈ R, p.1 ≠ sk) (hRp : ∀ p ∈ R, p.1 ≠ pd) :
    Runs w 541 [.ref b] (tbObjs w.params T ++ ((sk, S) :: (pd, o) :: R)) 12 fun r Λ' => ∃ a vs, r = .ref a ∧ vs.map bytesOf = (notedF t.fl).map some ∧ Λ' = tbObjs w.params T ++ ((sk, S) :: (pd, o) :: (a, listOf (List.toArray vs) vs.length) :: R) ∧
      Own T ((sk, S) :: (pd, o) :: (a, listOf (List.toArray vs) vs.length) :: R) ∧ (∀ p ∈ (a, listOf (List.toArray vs) vs.length) :: R, p.1 ≠ sk) ∧ (∀ p ∈ (a, listOf (List.toArray vs) vs.length) :: R, p.1 ≠ pd) := by
  refine (law_noted_abs O hb hab h0 h1).post ?_
  rintro r Λ' ⟨a, vs, e1, e2, rfl, O2, e4⟩
  have n1 := e4 (sk, S) (.head _)
  have n2 := e4 (pd, o) (.tail _ (.head _))
  refine ⟨_, ⟨a, vs, e1, e2, rfl, ⟨O2.nd, fun p hp => ?_⟩, fun p hp => ?_, fun p hp => ?_⟩, fun p hp => ?_⟩
  · simp only [List.mem_cons] at hp
    refine O2.off p ?_
    simp only [List.mem_cons]
    rcases hp with h | h | h | h <;> simp [h]
  · rcases List.mem_cons.mp hp with rfl | hp
    · exact fun e => n1 e.symm
    · exact hRs p hp
  · rcases List.mem_cons.mp hp with rfl | hp
    · exact fun e => n2 e.symm
    · exact hRp p hp
  · simp only [List.mem_append, List.mem_cons] at hp ⊢
    rcases hp with h | h | h | h | h <;> simp [h]
theorem lists_ne_b {A : Around} {l l' : Addr} {Λ : Ledger} {vs us : List Value} {bs cs : List (List UInt8)} {n n' : Nat} {Q : Value → Shared → Prop} (N : News h₀ L s.heap Λ) (hm : (l, listOf vs.toArray n) ∈ Λ) (hm' : (l', listOf us.toArray n') ∈ Λ) (h1 : vs.map bytesOf = bs.map some) (h2 : us.map bytesOf = cs.map some) (e : bs = cs) (hu : A.units < cLine) (h : Q (.bool false) s) :
    wpAny (model PG w) A (compareOp .NotEq (.ref l) (.ref l')) Q E s := by
  subst e; exact lists_ne N hm hm' (AreP.bytes h1) (AreP.bytes h2) hu h
theorem getD_at {vs : List Value} {ps : List PV} (h : AreP vs ps) {i : Nat} (hi : i < ps.length) : ∃ v, vs[i]? = some v ∧ Is v (ps.getD i .none) := by
  have hl := h.length
  refine ⟨vs[i], List.getElem?_eq_getElem (by omega), ?_⟩
  have := h.at i (by omega) hi
  rw [List.getD_eq_getElem?_getD, List.getElem?_eq_getElem hi]; exact this
/-- one of a list of plain values -/
theorem pick_plain {Λ : Ledger} {vs : List Value} {ps : List PV} {x : Int} {u : Tok} {k : Nat} {l : Addr} {value slice : PySem.Expr} {Q : Value → Shared → Prop} (N : News h₀ L s.heap Λ) (hm : (l, listOf vs.toArray k) ∈ Λ) (hi : AreP vs ps) (h0 : 0 ≤ x) (h1 : x < ps.length)
    (h : ∀ v, Is v (ps.getD x.toNat .none) → Q v s) (hs : subscripted slice false (.ref l) (.int x u) = operate [.ref l, .int x u] (getItem (.ref l) (.int x u))) (h63 : ps.length ≤ 63) : wpAny (model PG w) A0 (subscriptTail value slice (.ref l) (.int x u)) Q E s := by
  have hl' := isList_of N hm
  obtain ⟨v, hv, hiv⟩ := getD_at hi (i := x.toNat) (by omega)
  exact tail_any hl'.typeIs slot_list_getitem.lookup (wpAny_getItem_list hl' h0 (by omega) (by simpa using hv) (h v hiv)) hs
/-- one of a list of values -/
theorem pick_any {Λ : Ledger} {vs : List Value} {x : Int} {u : Tok} {k : Nat} {l : Addr} {value slice : PySem.Expr} {Q : Value → Shared → Prop} {v : Value} (N : News h₀ L s.heap Λ) (hm : (l, listOf vs.toArray k) ∈ Λ) (h0 : 0 ≤ x) (h1 : x < 63) (hv : vs[x.toNat]? = some v)
    (h : Q v s) (hs : subscripted slice false (.ref l) (.int x u) = operate [.ref l, .int x u] (getItem (.ref l) (.int x u))) : wpAny (model PG w) A0 (subscriptTail value slice (.ref l) (.int x u)) Q E s := by
  have hl' := isList_of N hm
  exact tail_any hl'.typeIs slot_list_getitem.lookup (wpAny_getItem_list hl' h0 (by omega) (by simpa using hv) h) hs
end
theorem grain_range {ns : List Int} {z c : Int} (hc : 0 < c) : 0 ≤ grain ns z c ∧ grain ns z c < c := by
  unfold grain
  exact ⟨Int.fmod_nonneg_of_pos _ hc, Int.fmod_lt_of_pos _ hc⟩
/-- before the first grain -/
theorem law_start {h₀ h : Heap} {L sk sc wl kl : Addr} {S : Obj} {a b c : Obj} (N : News h₀ L h [(sk, S), (sc, a), (wl, b), (kl, c)]) (l : sc < sk ∧ wl < sk ∧ kl < sk) : ∃ R0 : Ledger, News h₀ L h ((sk, S) :: R0) ∧ (sc, a) ∈ R0 ∧ (wl, b) ∈ R0 ∧ (kl, c) ∈ R0 ∧ ∀ p ∈ R0, p.1 ≠ sk :=
  ⟨[(sc, a), (wl, b), (kl, c)], N, .head _, .tail _ (.head _), .tail _ (.tail _ (.head _)), fun p hp => by
    simp only [List.mem_cons, List.not_mem_nil, or_false] at hp
    rcases hp with rfl | rfl | rfl
    · exact Nat.ne_of_lt l.1
    · exact Nat.ne_of_lt l.2.1
    · exact Nat.ne_of_lt l.2.2⟩
theorem ints_take {vs : List Value} {l : List Int} (_ : IntsAre vs (List.take 63 l)) : (List.take 63 l).length ≤ 63 := List.length_take_le _ _
theorem take_gen {vs : List Value} {l : List Int} (h : IntsAre vs (List.take 63 l)) : ∃ ns, IntsAre vs ns ∧ ns.length ≤ 63 := ⟨_, h, List.length_take_le _ _⟩
noncomputable def NK : PT → PV → PV → Option PT := newKeyF (newKeyF fun _ _ _ => none)
theorem NK_any : NKAny NK := nk_any _
theorem NK_spec (w : World) : NKSpec w NK 96 := new_key_spec (new_key_spec (D := 0) (by intro T R b v u p q _ _ _ _ _ t' h; cases h))
theorem LI_empty : LI ⟨[], [], 0, 0⟩ [] := by
  refine ⟨⟨by decide, rfl, rfl, CI.blank (n := 0) (f := gd []) fun i hi => by omega, fun i hi => absurd hi (by simp)⟩, fun k _ u hu => ⟨?_, fun e => (hu e.symm).elim⟩, by simp, by simp, by decide, by decide, fun wd h => rfl⟩
  rintro ⟨_, ⟨i, hi, _⟩ | ⟨i, hi, _⟩⟩ <;> exact absurd hi (by simp)
theorem LI_new {x y : Int} (hx0 : 0 ≤ x) (hx : x ≤ 4) (hy0 : 0 ≤ y) (hy : y ≤ 32) : ∃ t' : PT, (0 < x ∨ 0 < y → resizeF NK ⟨[], [], 0, 0⟩ x y = some t') ∧ (¬ (0 < x ∨ 0 < y) → t' = ⟨[], [], 0, 0⟩) ∧ LI t' [] ∧ t'.fl = 0 := by
  by_cases c : 0 < x ∨ 0 < y
  · obtain ⟨t', e, S⟩ := resize_any NK_any LI_empty.wf (x := x.toNat) (y := y.toNat) (by omega) (by omega)
    rw [show ((x.toNat : Nat) : Int) = x by omega, show ((y.toNat : Nat) : Int) = y by omega] at e
    exact ⟨t', fun _ => e, fun h => (h c).elim, LI_empty.same S, S.fl⟩
  · exact ⟨_, fun h => (c h).elim, fun _ => rfl, LI_empty, rfl⟩
theorem reg_F51_3 : True := by
  k_with "my calls" => ((with_reducible refine (?_ : wpAny _ _ (call (Value.ref 536) _) _ _ _)); k_dflt (refine Runs.use (grain_can (by assumption) (by assumption) (by assumption) (by assumption) (by k_extra "my in") (by omega) (by omega) (by omega) (by decide)) (by k_asm) (by k_asm) (by k_asm) (by k_extra "my news") (by k_asm) (by first | exact rfl | assumption) (by k_extra "my room") (by k_extra "my units") ?_); k_whole; intro r9 Λ9 h9 tk9 F9 N9 P9; ((refine ex_elim2 P9 fun t9 u9 P9q1 => ?_; clear P9; refine and_elim3 P9q1 fun P9e2 P9e3 O9 => ?_; clear P9q1); subst P9e2; subst P9e3); k_extra "my after")
  k_with "my calls" => ((with_reducible refine (?_ : wpAny _ _ (call (Value.ref 536) _) _ _ _)); k_dflt (refine useG (grain_can (by assumption) (by assumption) (by assumption) (by assumption) (by k_extra "my in") (by omega) (by omega) (by omega) (by decide)) (by k_asm) (by k_asm) (by k_asm) (by k_extra "my news") (by k_asm) (by k_asm) (by k_extra "my rm") (by exact rfl) ?_); k_whole; intro r9 Λ9 h9 tk9 F9 N9 P9; ((refine ex_elim2 P9 fun t9 u9 P9q1 => ?_; clear P9; refine and_elim3 P9q1 fun P9e2 P9e3 O9 => ?_; clear P9q1); subst P9e2; subst P9e3); k_extra "my after")
  trivial
theorem reg_F51_4 : True := by
  k_with "my calls" => ((with_reducible refine (?_ : wpAny _ _ (call (Value.ref 541) _) _ _ _)); k_dflt (refine Runs.use (noted_can (by assumption) (by first | exact rfl | assumption) (by first | assumption | exact rfl) (by assumption) (by assumption) (by assumption) (by assumption)) (by k_asm) (by k_asm) (by k_asm) (by k_extra "my news") (by k_asm) (by first | exact rfl | assumption) (by k_extra "my room") (by k_extra "my units") ?_); k_whole; intro r9 Λ9 h9 tk9 F9 N9 P9; ((refine ex_elim2 P9 fun a9 vs9 P9q1 => ?_; clear P9; refine and_elim6 P9q1 fun P9e2 hv9 P9e4 O9 hRs9 hRp9 => ?_; clear P9q1); subst P9e2; subst P9e4); k_extra "my after")
  k_with "my calls" => ((with_reducible refine (?_ : wpAny _ _ (call (Value.ref 541) _) _ _ _)); k_dflt (refine useG (noted_can (by assumption) (by first | exact rfl | assumption) (by first | assumption | exact rfl) (by assumption) (by assumption) (by assumption) (by assumption)) (by k_asm) (by k_asm) (by k_asm) (by k_extra "my news") (by k_asm) (by k_asm) (by k_extra "my rm") (by exact rfl) ?_); k_whole; intro r9 Λ9 h9 tk9 F9 N9 P9; ((refine ex_elim2 P9 fun a9 vs9 P9q1 => ?_; clear P9; refine and_elim6 P9q1 fun P9e2 hv9 P9e4 O9 hRs9 hRp9 => ?_; clear P9q1); subst P9e2; subst P9e4); k_extra "my after")
  trivial
noncomputable def CanOn : Prop := True
theorem own_same {T : Tb} {L L' : Ledger} (O : Own T L) (h : L'.map (·.1) = L.map (·.1)) : Own T L' := own_iff.mpr ⟨(own_iff.mp O).1, by rw [h]; exact (own_iff.mp O).2⟩
theorem meta_keys {P : Params} {T : Tb} {x : Option Addr} : (tbObjs P (T.wMeta x)).map (·.1) = (tbObjs P T).map (·.1) := by rw [tbObjs_keys, tbObjs_keys]; rfl
theorem mem_rev3 {A B C X : Ledger} : ∀ p ∈ A ++ (B ++ (C ++ X)), p ∈ C ++ (B ++ (A ++ X)) := fun p hp => by
  simp only [List.mem_append] at hp ⊢; rcases hp with h | h | h | h <;> simp [h]
theorem law_can {P : Params} {h₀ h : Heap} {L : Addr} {T1 Va Vb W Va' Vb' W' U : Tb} {sk pd wl : Addr} {S o ow : Obj} {R0 : Ledger}
    (N : News h₀ L h (tbObjs P W' ++ (tbObjs P Va' ++ (tbObjs P Vb' ++ (tbObjs P T1 ++ ((sk, S) :: (pd, o) :: (tbObjs P U ++ ((wl, ow) :: R0))))))))
    (o1 : Own T1 ((sk, S) :: (pd, o) :: (tbObjs P U ++ ((wl, ow) :: (tbObjs P Va ++ (tbObjs P Vb ++ (tbObjs P W ++ R0))))))) (ou : Own U ((wl, ow) :: (tbObjs P Va ++ (tbObjs P Vb ++ (tbObjs P W ++ R0)))))
    (hs : ∀ p ∈ tbObjs P U ++ ((wl, ow) :: (tbObjs P Va ++ (tbObjs P Vb ++ (tbObjs P W ++ R0)))), p.1 ≠ sk) (hp : ∀ p ∈ tbObjs P U ++ ((wl, ow) :: (tbObjs P Va ++ (tbObjs P Vb ++ (tbObjs P W ++ R0)))), p.1 ≠ pd)
    (ea : Va'.addrs = Va.addrs) (eb : Vb'.addrs = Vb.addrs) (ew : W'.addrs = W.addrs) :
    ∃ R R1, R = tbObjs P U ++ R1 ∧ News h₀ L h (tbObjs P T1 ++ ((sk, S) :: (pd, o) :: R)) ∧ Own T1 ((sk, S) :: (pd, o) :: R) ∧ Own U R1 ∧ (∀ p ∈ R, p.1 ≠ sk) ∧ (∀ p ∈ R, p.1 ≠ pd) ∧ HasTab P Va' R1 ∧ HasTab P Vb' R1 ∧ HasTab P W' R1 ∧ (wl, ow) ∈ R1 ∧ ∀ p ∈ R0, p ∈ R1 := by
  have ka : (tbObjs P Va').map (·.1) = (tbObjs P Va).map (·.1) := by rw [tbObjs_keys, tbObjs_keys, ea]
  have kb : (tbObjs P Vb').map (·.1) = (tbObjs P Vb).map (·.1) := by rw [tbObjs_keys, tbObjs_keys, eb]
  have kw : (tbObjs P W').map (·.1) = (tbObjs P W).map (·.1) := by rw [tbObjs_keys, tbObjs_keys, ew]
  refine ⟨_, (wl, ow) :: (tbObjs P Va' ++ (tbObjs P Vb' ++ (tbObjs P W' ++ R0))), rfl, News.sub N fun p hp => ?_, own_same o1 (by simp only [List.map_append, List.map_cons, ka, kb, kw]), own_same ou (by simp only [List.map_append, List.map_cons, ka, kb, kw]), ?_, ?_, fun p h => ?_, fun p h => ?_, fun p h => ?_, .head _, fun p h => ?_⟩
  · simp only [List.mem_append, List.mem_cons] at hp ⊢
    rcases hp with h | h | h | h | h | h | h | h | h <;> simp only [h, true_or, or_true]
  · rw [all_iff (Q := fun a => a ≠ sk)] at hs ⊢
    simpa only [List.map_append, List.map_cons, ka, kb, kw] using hs
  · rw [all_iff (Q := fun a => a ≠ pd)] at hp ⊢
    simpa only [List.map_append, List.map_cons, ka, kb, kw] using hp
  · exact .tail _ (List.mem_append_left _ h)
  · exact .tail _ (List.mem_append_right _ (List.mem_append_left _ h))
  · exact .tail _ (List.mem_append_right _ (List.mem_append_right _ (List.mem_append_left _ h)))
  · exact .tail _ (List.mem_append_right _ (List.mem_append_right _ (List.mem_append_right _ h)))
theorem dict_nil {w : World} {o : Obj} (h : o.IsDictOf (intKind PG w) []) : o.IsDictOf (pvKind PG w) (kvsOf []) := by
  have J79 := h; (try clear h); ((refine ex_elim2 J79 fun es ep J79q1 => ?_; clear J79; refine and_elim5 J79q1 fun h1 h2 h3 h4 h5 => ?_; clear J79q1))
  refine ⟨es, ep, h1, h2, ?_, ?_, by simp [kvsOf]⟩
  · cases h4' : es.toList with
    | nil =>
      have : es = #[] := by simpa using h4'
      subst this
      intro i hi; simp at hi
    | cons x r => rw [h4'] at h4; cases h4
  · cases h4' : es.toList with
    | nil => exact .nil
    | cons x r => rw [h4'] at h4; cases h4
section
variable {w : World} {A0 : Around} {E : Value → Shared → Prop} {s : Shared} {h₀ : Heap} {L : Addr} {Λ : Ledger} {vs : List Value} {ps : List PV} {x : Int} {u : Tok} {k : Nat} {l : Addr} {value slice : PySem.Expr} {Q : Value → Shared → Prop}
theorem pick_word {ns : List Int} {z c : Int} (N : News h₀ L s.heap Λ) (hm : (l, listOf vs.toArray k) ∈ Λ) (hi : AreP vs (WS.map PV.bytes)) (hc : 0 < c) (hc8 : c ≤ 8)
    (h : ∀ v wd, wd ∈ WS → Is v (.bytes wd) → Q v s) (hs : subscripted slice false (.ref l) (.int (grain ns z c) u) = operate [.ref l, .int (grain ns z c) u] (getItem (.ref l) (.int (grain ns z c) u))) : wpAny (model PG w) A0 (subscriptTail value slice (.ref l) (.int (grain ns z c) u)) Q E s := by
  have g := grain_range (ns := ns) (z := z) hc
  have e8 : (WS.map PV.bytes).length = 8 := rfl
  have e9 : WS.length = 8 := rfl
  refine pick_plain N hm hi g.1 (by omega) (fun v hv => ?_) hs (by omega)
  have hi8 : (grain ns z c).toNat < WS.length := by omega
  refine h v (WS[(grain ns z c).toNat]) (List.getElem_mem hi8) ?_
  rw [List.getD_eq_getElem?_getD, List.getElem?_map, List.getElem?_eq_getElem hi8] at hv
  exact hv
theorem pick_val {ns : List Int} {z c : Int} (N : News h₀ L s.heap Λ) (hm : (l, listOf vs.toArray k) ∈ Λ) (hi : AreP vs ps) (hc : 0 < c) (hc8 : c ≤ ps.length) (h63 : ps.length ≤ 63)
    (h : ∀ v q, Is v q → Q v s) (hs : subscripted slice false (.ref l) (.int (grain ns z c) u) = operate [.ref l, .int (grain ns z c) u] (getItem (.ref l) (.int (grain ns z c) u))) : wpAny (model PG w) A0 (subscriptTail value slice (.ref l) (.int (grain ns z c) u)) Q E s := by
  have g := grain_range (ns := ns) (z := z) hc
  exact pick_plain N hm hi g.1 (by omega) (fun v hv => h v _ hv) hs h63
end
noncomputable def KIN : List String := ["ask", "set", "number", "size", "ask", "text"]
/-- the kinds -/
noncomputable def Kinds (vs : List Value) : Prop := ∀ i : Nat, i < 6 → ∃ t, vs[i]? = some (.str (Str.ofString (KIN.getD i "")) t)
theorem kinds_at {vs : List Value} (h : Kinds vs) {ns : List Int} {z : Int} : ∃ kd t, vs[(grain ns z 6).toNat]? = some (.str (Str.ofString kd) t) ∧ (kd = "ask" ∨ kd = "set" ∨ kd = "number" ∨ kd = "size" ∨ kd = "text") := by
  have g := grain_range (ns := ns) (z := z) (c := 6) (by decide)
  obtain ⟨t, ht⟩ := h (grain ns z 6).toNat (by omega)
  refine ⟨_, t, ht, ?_⟩
  have : ∀ i : Nat, i < 6 → (KIN.getD i "" = "ask" ∨ KIN.getD i "" = "set" ∨ KIN.getD i "" = "number" ∨ KIN.getD i "" = "size" ∨ KIN.getD i "" = "text") := by decide
  exact this _ (by omega)
theorem kinds_mk {a b c d e f : Tok} : Kinds [.str (Str.ofString "ask") a, .str (Str.ofString "set") b, .str (Str.ofString "number") c, .str (Str.ofString "size") d, .str (Str.ofString "ask") e, .str (Str.ofString "text") f] := by
  intro i hi
  have : i = 0 ∨ i = 1 ∨ i = 2 ∨ i = 3 ∨ i = 4 ∨ i = 5 := by omega
  rcases this with rfl | rfl | rfl | rfl | rfl | rfl
  · exact ⟨a, rfl⟩
  · exact ⟨b, rfl⟩
  · exact ⟨c, rfl⟩
  · exact ⟨d, rfl⟩
  · exact ⟨e, rfl⟩
  · exact ⟨f, rfl⟩
theorem words_mk {a b c d e f g h : Tok} : AreP [.bytes #[95, 95, 105, 110, 100, 101, 120] a, .bytes #[95, 95, 110, 101, 119, 105, 110, 100, 101, 120] b, .bytes #[95, 95, 103, 99] c, .bytes #[95, 95, 109, 111, 100, 101] d, .bytes #[95, 95, 101, 113] e, .bytes #[95, 95, 97, 100, 100] f, .bytes #[95, 95, 99, 97, 108, 108] g, .bytes #[111, 116, 104, 101, 114] h] (WS.map PV.bytes) :=
  .cons (Is.bytes _ _) (.cons (Is.bytes _ _) (.cons (Is.bytes _ _) (.cons (Is.bytes _ _) (.cons (Is.bytes _ _) (.cons (Is.bytes _ _) (.cons (Is.bytes _ _) (.cons (Is.bytes _ _) .nil)))))))
/-- a turn's iterator goes to the rest -/
theorem own_iter {P : Params} {T : Tb} {sk pd I : Addr} {S o : Obj} {R own : Ledger} {h₀ h : Heap} {L : Addr} (N : News h₀ L h (own ++ (tbObjs P T ++ ((sk, S) :: (pd, o) :: R)))) (O : Own T ((sk, S) :: (pd, o) :: R)) (hoff : ∀ p ∈ tbObjs P T ++ ((sk, S) :: (pd, o) :: R), p.1 ∉ [I]) (hown : ∀ p ∈ own, p.1 = I) (hRs : ∀ p ∈ R, p.1 ≠ sk) (hRp : ∀ p ∈ R, p.1 ≠ pd) :
    News h₀ L h (tbObjs P T ++ ((sk, S) :: (pd, o) :: (own ++ R))) ∧ Own T ((sk, S) :: (pd, o) :: (own ++ R)) ∧ (∀ p ∈ own ++ R, p.1 ≠ sk) ∧ (∀ p ∈ own ++ R, p.1 ≠ pd) := by
  have hI : ∀ p ∈ tbObjs P T ++ ((sk, S) :: (pd, o) :: R), p.1 ≠ I := fun p hp e => hoff p hp (by rw [e]; exact .head _)
  refine ⟨News.sub N fun p hp => ?_, ⟨O.nd, fun p hp hx => ?_⟩, fun p hp => ?_, fun p hp => ?_⟩
  · simp only [List.mem_append, List.mem_cons] at hp ⊢
    rcases hp with h | h | h | h | h <;> simp [h]
  · simp only [List.mem_append, List.mem_cons] at hp
    rcases hp with h | h | h | h
    · exact O.off p (by simp [h]) hx
    · exact O.off p (by simp [h]) hx
    · obtain ⟨q, hq, e⟩ := mem_addrs' (P := P) hx
      exact hI q (List.mem_append_left _ hq) (by rw [e]; exact hown p h)
    · exact O.off p (by simp [h]) hx
  · rcases List.mem_append.mp hp with h | h
    · rw [hown p h]; exact fun e => hI (sk, S) (List.mem_append_right _ (.head _)) e.symm
    · exact hRs p h
  · rcases List.mem_append.mp hp with h | h
    · rw [hown p h]; exact fun e => hI (pd, o) (List.mem_append_right _ (.tail _ (.head _))) e.symm
    · exact hRp p h
theorem name_all {w : World} {T : Tb} {sk pd sc : Addr} {z : Int} {t : Tok} {k : Nat} {o : Obj} {R : Ledger} {h₀ h : Heap} {L : Addr} (_ : News h₀ L h (tbObjs w.params T ++ ((sk, sackObj sc z t k) :: (pd, o) :: R))) : ∃ (w' : World) (a b d : Addr) (o' : Obj), w' = w ∧ a = sk ∧ b = pd ∧ d = sc ∧ o' = o := ⟨_, _, _, _, _, rfl, rfl, rfl, rfl, rfl⟩
/-- what a turn of the law keeps -/
noncomputable def LJ (w : World) (b sk sc pd : Addr) (R : Ledger) (i : Nat) (Λ : Ledger) : Prop :=
  ∃ (T : Tb) (D : List (PV × En)) (o : Obj) (z : Int) (t : Tok), Λ = tbObjs w.params T ++ ((sk, sackObj sc z t 0) :: (pd, o) :: R) ∧ T.a = b ∧ Own T ((sk, sackObj sc z t 0) :: (pd, o) :: R) ∧ o.IsDictOf (pvKind PG w) (kvsOf D) ∧ LI T.abs D ∧ 0 ≤ z ∧ z ≤ 3 + 5 * i
section
variable {w : World} {T : Tb} {R : Ledger} {o ox : Obj} {sk pd sc x : Addr}
/-- a grain beside a list just made -/
theorem grain_lit {vs : List Value} {ns : List Int} {z c : Int} {t u : Tok} {k k' : Nat} (O : Own T ((sk, sackObj sc z t k) :: (pd, o) :: R)) (hps : pd ≠ sk) (hR : ∀ p ∈ R, p.1 ≠ sk) (hi : IntsAre vs ns) (hm : (sc, listOf vs.toArray k') ∈ R) (hl : ns.length ≤ 63) (hx : ∀ p ∈ tbObjs w.params T ++ ((sk, sackObj sc z t k) :: (pd, o) :: R), p.1 < x) (hz : 0 ≤ z) (hz2 : z ≤ 900) (hc : c ≠ 0) :
    Runs w 536 [.ref sk, .int c u] ((x, ox) :: (tbObjs w.params T ++ ((sk, sackObj sc z t k) :: (pd, o) :: R))) 4 fun r Λ' => ∃ t1 t2, r = .int (grain ns z c) t1 ∧ Λ' = (x, ox) :: (tbObjs w.params T ++ ((sk, sackObj sc (z + 1) t2 k) :: (pd, o) :: R)) ∧ Own T ((sk, sackObj sc (z + 1) t2 k) :: (pd, o) :: R) := by
  refine (law_grain_spec (A := (x, ox) :: tbObjs w.params T) (B := (pd, o) :: R) (fun p hp => ?_) (fun p hp => ?_) hi (.tail _ hm) hl hz hz2 hc).mono (Nat.le_refl _) ?_
  · rcases List.mem_cons.mp hp with rfl | hp
    · exact fun e => Nat.ne_of_lt (hx (sk, sackObj sc z t k) (List.mem_append_right _ (.head _))) e.symm
    · exact own_off_mem O (.head _) p hp
  · rcases List.mem_cons.mp hp with rfl | hp
    · exact hps
    · exact hR p hp
  · rintro r Λ' ⟨t1, t2, e1, e2⟩
    refine ⟨t1, t2, e1, e2, O.nd, fun p hp => ?_⟩
    rcases List.mem_cons.mp hp with rfl | hp
    · exact O.off (sk, sackObj sc z t k) (.head _)
    · exact O.off p (.tail _ hp)
end
theorem reg_F51_5 : True := by
  k_with "my calls" => ((with_reducible refine (?_ : wpAny _ _ (call (Value.ref 536) _) _ _ _)); k_dflt (refine Runs.use (grain_lit (by assumption) (by assumption) (by assumption) (by assumption) (by k_extra "my in") (by omega) (by assumption) (by omega) (by omega) (by decide)) (by k_asm) (by k_asm) (by k_asm) (by k_extra "my news") (by k_asm) (by first | exact rfl | assumption) (by k_extra "my room") (by k_extra "my units") ?_); k_whole; intro r9 Λ9 h9 tk9 F9 N9 P9; ((refine ex_elim2 P9 fun t9 u9 P9q1 => ?_; clear P9; refine and_elim3 P9q1 fun P9e2 P9e3 O9 => ?_; clear P9q1); subst P9e2; subst P9e3); k_extra "my after")
  k_with "my calls" => ((with_reducible refine (?_ : wpAny _ _ (call (Value.ref 536) _) _ _ _)); k_dflt (refine useG (grain_lit (by assumption) (by assumption) (by assumption) (by assumption) (by k_extra "my in") (by omega) (by assumption) (by omega) (by omega) (by decide)) (by k_asm) (by k_asm) (by k_asm) (by k_extra "my news") (by k_asm) (by k_asm) (by k_extra "my rm") (by exact rfl) ?_); k_whole; intro r9 Λ9 h9 tk9 F9 N9 P9; ((refine ex_elim2 P9 fun t9 u9 P9q1 => ?_; clear P9; refine and_elim3 P9q1 fun P9e2 P9e3 O9 => ?_; clear P9q1); subst P9e2; subst P9e3); k_extra "my after")
  trivial
section
variable {w : World} {A0 : Around} {E : Value → Shared → Prop} {s : Shared} {h₀ : Heap} {L : Addr} {Λ : Ledger} {u : Tok} {k : Nat} {l : Addr} {value slice : PySem.Expr} {Q : Value → Shared → Prop}
theorem pick_num {ns : List Int} {z : Int} {a b c d : Tok} (N : News h₀ L s.heap Λ) (hm : (l, listOf #[.int 1 a, .int 2 b, .int 3 c, .int (-1) d] k) ∈ Λ)
    (h : ∀ n t, PV.int n ∈ KS → Q (.int n t) s) (hs : subscripted slice false (.ref l) (.int (grain ns z 4) u) = operate [.ref l, .int (grain ns z 4) u] (getItem (.ref l) (.int (grain ns z 4) u))) : wpAny (model PG w) A0 (subscriptTail value slice (.ref l) (.int (grain ns z 4) u)) Q E s := by
  have g := grain_range (ns := ns) (z := z) (c := 4) (by decide)
  have key : ∀ i : Nat, i < 4 → ∃ n t, [Value.int 1 a, .int 2 b, .int 3 c, .int (-1) d][i]? = some (.int n t) ∧ PV.int n ∈ KS := by
    intro i hi
    have : i = 0 ∨ i = 1 ∨ i = 2 ∨ i = 3 := by omega
    rcases this with rfl | rfl | rfl | rfl
    · exact ⟨_, _, rfl, by decide⟩
    · exact ⟨_, _, rfl, by decide⟩
    · exact ⟨_, _, rfl, by decide⟩
    · exact ⟨_, _, rfl, by decide⟩
  obtain ⟨n, t, e, hk⟩ := key (grain ns z 4).toNat (by omega)
  exact pick_any (vs := [Value.int 1 a, .int 2 b, .int 3 c, .int (-1) d]) N hm g.1 (by omega) e (h n t hk) hs
end
section
variable {w : World} {A0 : Around} {E : Value → Shared → Prop} {s : Shared} {h₀ : Heap} {L : Addr} {Λ : Ledger} {u : Tok} {k : Nat} {l : Addr} {value slice : PySem.Expr} {Q : Value → Shared → Prop}
theorem pick_v4 {ns : List Int} {z : Int} {a b c : Tok} (N : News h₀ L s.heap Λ) (hm : (l, listOf #[.none, .int 7 a, .bytes #[118] b, .int 0 c] k) ∈ Λ)
    (h : ∀ v q, Is v q → Q v s) (hs : subscripted slice false (.ref l) (.int (grain ns z 4) u) = operate [.ref l, .int (grain ns z 4) u] (getItem (.ref l) (.int (grain ns z 4) u))) : wpAny (model PG w) A0 (subscriptTail value slice (.ref l) (.int (grain ns z 4) u)) Q E s :=
  pick_val (vs := [.none, .int 7 a, .bytes #[118] b, .int 0 c]) (ps := [.none, .int 7, .bytes [118], .int 0]) N hm (.cons Is.none (.cons (Is.int _ _) (.cons (Is.bytes _ _) (.cons (Is.int _ _) .nil)))) (by decide) (by decide) (by decide) h hs
theorem pick_v3 {ns : List Int} {z : Int} {a b c : Tok} (N : News h₀ L s.heap Λ) (hm : (l, listOf #[.int 7 a, .bytes #[118] b, .int 0 c] k) ∈ Λ)
    (h : ∀ v q, Is v q → Q v s) (hs : subscripted slice false (.ref l) (.int (grain ns z 3) u) = operate [.ref l, .int (grain ns z 3) u] (getItem (.ref l) (.int (grain ns z 3) u))) : wpAny (model PG w) A0 (subscriptTail value slice (.ref l) (.int (grain ns z 3) u)) Q E s :=
  pick_val (vs := [.int 7 a, .bytes #[118] b, .int 0 c]) (ps := [.int 7, .bytes [118], .int 0]) N hm (.cons (Is.int _ _) (.cons (Is.bytes _ _) (.cons (Is.int _ _) .nil))) (by decide) (by decide) (by decide) h hs
end
/-- the two tables that meta serves -/
noncomputable def Worn (w : World) (b wl : Addr) (R : Ledger) : Prop := ∃ (V1 V2 : Tb) (c d : Addr) (k : Nat), V1.a = c ∧ V2.a = d ∧ HasTab w.params V1 R ∧ HasTab w.params V2 R ∧ V1.mt = some b ∧ V2.mt = some b ∧ (wl, listOf #[.ref c, .ref d] k) ∈ R
section
variable {w : World} {T : Tb} {R R0 : Ledger} {o : Obj} {b g pd wl : Addr} {t : PT} {D : List (PV × En)}
theorem law_holds_LI (O : Own T R) (hb : T.a = b) (hab : T.abs = t) (hLI : LI t D) (hpd : (pd, o) ∈ R) (hdd : o.IsDictOf (pvKind PG w) (kvsOf D)) (lo : (pd == sysModules) = false) (hW : Worn w b wl R0) (hsub : ∀ p ∈ R0, p ∈ R) :
    Runs w 546 [.ref g, .ref b, .ref pd, .ref wl] (tbObjs w.params T ++ R) 60 fun r Λ' => r = .bool true ∧ NKPost w.params b R t Λ' := by
  subst hab
  have J79 := hW; (try clear hW); ((refine ex_elim5 J79 fun V1 V2 c d k J79q1 => ?_; clear J79; refine and_elim7 J79q1 fun e1 e2 e3 e4 e5 e6 e7 => ?_; clear J79q1))
  have hns := hLI.ns
  have hes := hLI.es
  simp only [Tb.abs, List.length_map] at hns hes
  refine law_holds_spec O hb hpd hdd lo e1 e2 (fun p hp => hsub p (e3 p hp)) (fun p hp => hsub p (e4 p hp)) e5 e6 (hsub _ e7) hns hes hLI.f0 hLI.f32 hLI.hD (by have := hLI.len; omega) hLI.hnone ?_
  intro j wd hj
  have hj6 : j < 6 := by
    have := (List.getElem?_eq_some_iff.mp hj).1
    rw [List.length_take] at this; omega
  have hwd : EVS.getD j [] = wd := by
    rw [List.getElem?_take_of_lt hj6] at hj
    rw [List.getD_eq_getElem?_getD, hj]; rfl
  obtain ⟨hw, hi⟩ := ev6_all j (List.mem_range.mpr hj6)
  rw [hwd] at hw hi
  obtain ⟨t', f1, L1, k1, _⟩ := hLI.fast hw hi hwd
  obtain ⟨t'', f2, L2, k2, _⟩ := L1.fast hw hi hwd
  refine ⟨(ws_all wd hw).1, hi, hLI.word hw, t', t'', f1, L1.ns, f2, ?_⟩
  rw [← k1, ← k2]
theorem law_asked_LI (O : Own T R) (hb : T.a = b) (hab : T.abs = t) (hLI : LI t D) (hpd : (pd, o) ∈ R) (hdd : o.IsDictOf (pvKind PG w) (kvsOf D)) (lo : (pd == sysModules) = false) {v : Value} {wd : List UInt8} (hv : Is v (.bytes wd)) (hw : wd ∈ WS) {j : Nat} (hj : EVS.findIdx? (fun x => decide (x = wd)) = some j) (hjw : EVS.getD j [] = wd) :
    Runs w 553 [.ref g, .ref b, .ref pd, v] (tbObjs w.params T ++ R) 40 fun r Λ' => r = .bool true ∧ ∃ t', LI t' D ∧ NKPost w.params b R t' Λ' := by
  subst hab
  have hns := hLI.ns
  simp only [Tb.abs, List.length_map] at hns
  obtain ⟨t', f1, L1, k1, hp⟩ := hLI.fast hw hj hjw
  refine (law_asked_spec O hb hpd hdd lo hv (ws_all wd hw).1 hj hns hLI.f0 hLI.f32 f1 L1.f0 L1.f32 hp).mono (Nat.le_refl _) ?_
  rintro r Λ' ⟨e, n⟩
  exact ⟨e, t', L1, n⟩
theorem get_int_abs (O : Own T R) (hb : T.a = b) (hab : T.abs = t) {x : Int} {tk : Tok} (hn : t.ns.length ≤ 64) (he : t.es.length ≤ 64) {fuel : Nat} {r : PV} (hr : getInt t.es t.ns x fuel = some r) :
    Runs w 328 [.ref b, .int x tk] (tbObjs w.params T ++ R) 12 fun r' Λ' => tbObjs w.params T ++ R = Λ' ∧ Is r' r := by
  subst hab
  exact get_int_own O hb (by simpa [Tb.abs] using hn) (by simpa [Tb.abs] using he) hr
end
theorem reg_F51_6 : True := by
  k_with "my calls" => ((with_reducible refine (?_ : wpAny _ _ (call (Value.ref 546) _) _ _ _)); k_dflt (refine Runs.use (law_holds_LI (by assumption) (by first | exact rfl | assumption) (by first | assumption | exact rfl) (by assumption) (by k_extra "my in") (by assumption) (by assumption) (by assumption) (by intro p hp; k_extra "my in")) (by k_asm) (by k_asm) (by k_asm) (by k_extra "my news") (by k_asm) (by first | exact rfl | assumption) (by k_extra "my room") (by k_extra "my units") ?_); k_whole; intro r9 Λ9 h9 tk9 F9 N9 P9; ((refine and_elim2 P9 fun P9e0 P9q1 => ?_; clear P9; refine ex_elim1 P9q1 fun T9 P9q2 => ?_; clear P9q1; refine and_elim4 P9q2 fun ha9 hab9 P9e4 O9 => ?_; clear P9q2); subst P9e0; subst P9e4); k_extra "my after")
  k_with "my calls" => ((with_reducible refine (?_ : wpAny _ _ (call (Value.ref 546) _) _ _ _)); k_dflt (refine useG (law_holds_LI (by assumption) (by first | exact rfl | assumption) (by first | assumption | exact rfl) (by assumption) (by k_extra "my in") (by assumption) (by assumption) (by assumption) (by intro p hp; k_extra "my in")) (by k_asm) (by k_asm) (by k_asm) (by k_extra "my news") (by k_asm) (by k_asm) (by k_extra "my rm") (by exact rfl) ?_); k_whole; intro r9 Λ9 h9 tk9 F9 N9 P9; ((refine and_elim2 P9 fun P9e0 P9q1 => ?_; clear P9; refine ex_elim1 P9q1 fun T9 P9q2 => ?_; clear P9q1; refine and_elim4 P9q2 fun ha9 hab9 P9e4 O9 => ?_; clear P9q2); subst P9e0; subst P9e4); k_extra "my after")
  trivial
theorem reg_F51_7 : True := by
  k_with "my calls" => ((with_reducible refine (?_ : wpAny _ _ (call (Value.ref 553) _) _ _ _)); k_dflt (refine Runs.use (law_asked_LI (by assumption) (by first | exact rfl | assumption) (by first | assumption | exact rfl) (by assumption) (by k_extra "my in") (by assumption) (by assumption) (by k_extra "my is") (by assumption) (by assumption) (by assumption)) (by k_asm) (by k_asm) (by k_asm) (by k_extra "my news") (by k_asm) (by first | exact rfl | assumption) (by k_extra "my room") (by k_extra "my units") ?_); k_whole; intro r9 Λ9 h9 tk9 F9 N9 P9; (obtain ⟨rfl, t9, hLI9, T9, ha9, hab9, rfl, O9⟩ := P9); k_extra "my after")
  k_with "my calls" => ((with_reducible refine (?_ : wpAny _ _ (call (Value.ref 553) _) _ _ _)); k_dflt (refine useG (law_asked_LI (by assumption) (by first | exact rfl | assumption) (by first | assumption | exact rfl) (by assumption) (by k_extra "my in") (by assumption) (by assumption) (by k_extra "my is") (by assumption) (by assumption) (by assumption)) (by k_asm) (by k_asm) (by k_asm) (by k_extra "my news") (by k_asm) (by k_asm) (by k_extra "my rm") (by exact rfl) ?_); k_whole; intro r9 Λ9 h9 tk9 F9 N9 P9; (obtain ⟨rfl, t9, hLI9, T9, ha9, hab9, rfl, O9⟩ := P9); k_extra "my after")
  trivial
theorem reg_F51_8 : True := by
  k_with "my calls" => ((with_reducible refine (?_ : wpAny _ _ (call (Value.ref 328) _) _ _ _)); k_dflt (refine Runs.use (get_int_abs (by assumption) (by first | exact rfl | assumption) (by first | assumption | exact rfl) (by assumption) (by assumption) (by assumption)) (by k_asm) (by k_asm) (by k_asm) (by k_extra "my news") (by k_asm) (by first | exact rfl | assumption) (by k_extra "my room") (by k_extra "my units") ?_); k_whole; intro r9 Λ9 h9 tk9 F9 N9 P9; ((refine and_elim2 P9 fun P9e0 hr9 => ?_; clear P9); subst P9e0); k_extra "my after")
  k_with "my calls" => ((with_reducible refine (?_ : wpAny _ _ (call (Value.ref 328) _) _ _ _)); k_dflt (refine useK (get_int_abs (by assumption) (by first | exact rfl | assumption) (by first | assumption | exact rfl) (by assumption) (by assumption) (by assumption)) (by k_asm) (by k_asm) (by k_asm) (by k_extra "my news") (by k_asm) (by k_asm) (by k_extra "my rm") (by exact rfl) ?_); k_whole; intro r9 h9 tk9 F9 N9 hr9; k_extra "my after")
  trivial
theorem turn_off {P : Params} {T T' : Tb} {sk pd I : Addr} {S S' o o' oI : Obj} {R L : Ledger} (O : Own T' L) (hI : (I, oI) ∈ L) (hoff : ∀ p ∈ tbObjs P T ++ ((sk, S) :: (pd, o) :: R), p.1 ∉ [I]) : ∀ p ∈ tbObjs P T' ++ ((sk, S') :: (pd, o') :: R), p.1 ∉ [I] := by
  intro p hp hx
  have e := List.mem_singleton.mp hx
  rcases List.mem_append.mp hp with h | h
  · exact own_off_mem (P := P) O hI p h e
  · rcases List.mem_cons.mp h with rfl | h
    · exact hoff (sk, S) (List.mem_append_right _ (.head _)) hx
    · rcases List.mem_cons.mp h with rfl | h
      · exact hoff (pd, o) (List.mem_append_right _ (.tail _ (.head _))) hx
      · exact hoff p (List.mem_append_right _ (.tail _ (.tail _ h))) hx
theorem worn_mk {w : World} {Va Vb : Tb} {b wl c d : Addr} {R R1 : Ledger} {k : Nat} (hin : ∀ p ∈ R1, p ∈ R) (hwl : (wl, listOf #[.ref c, .ref d] k) ∈ R1) (hVa : HasTab w.params (Va.wMeta (some b)) R1) (hVb : HasTab w.params (Vb.wMeta (some b)) R1) (e1 : Va.a = c) (e2 : Vb.a = d) : Worn w b wl R :=
  ⟨Va.wMeta (some b), Vb.wMeta (some b), c, d, k, e1, e2, fun p hp => hin p (hVa p hp), fun p hp => hin p (hVb p hp), rfl, rfl, hin _ hwl⟩
end
section
noncomputable def GoOn : Prop := True
theorem reg_F52_1 : True := by
  k_with "my own" => (repeat (first | exact List.mem_append_left _ (by assumption) | apply List.mem_append_right | apply List.mem_cons_of_mem))
  trivial
theorem sub_can {A R X : Ledger} {x y : Addr × Obj} (h : ∀ p ∈ R, p ∈ X) : ∀ p ∈ A ++ (x :: y :: R), p ∈ A ++ (x :: y :: X) := fun p hp => by
  simp only [List.mem_append, List.mem_cons] at hp ⊢
  rcases hp with h1 | h1 | h1 | h1
  · simp [h1]
  · simp [h1]
  · simp [h1]
  · simp [h p h1]
theorem sub_can2 {R X : Ledger} {x y : Addr × Obj} (h : ∀ p ∈ R, p ∈ X) : ∀ p ∈ x :: y :: R, p ∈ x :: y :: X := fun p hp => sub_can (A := []) h p hp
theorem word_other {wd : List UInt8} {j : Nat} (hj : EVS.findIdx? (fun x => decide (x = wd)) = some j) : (!decide (PV.bytes wd = PV.bytes [111, 116, 104, 101, 114])) = true := by
  rw [Bool.not_eq_true', decide_eq_false_iff_not]
  intro e
  obtain rfl := PV.bytes.inj e
  rw [show EVS.findIdx? (fun x => decide (x = [111, 116, 104, 101, 114])) = none by decide +kernel] at hj
  cases hj
noncomputable def EndOn : Prop := True
theorem law_other {P : Params} {T U : Tb} {sk pd : Addr} {S o : Obj} {R1 : Ledger} (O : Own T ((sk, S) :: (pd, o) :: (tbObjs P U ++ R1))) (OU : Own U R1) (hs : ∀ p ∈ tbObjs P U ++ R1, p.1 ≠ sk) (hp : ∀ p ∈ tbObjs P U ++ R1, p.1 ≠ pd) : Own U (tbObjs P T ++ ((sk, S) :: (pd, o) :: R1)) := by
  rw [all_iff (Q := fun a => a ≠ sk)] at hs
  rw [all_iff (Q := fun a => a ≠ pd)] at hp
  simp only [own_iff, List.map_append, List.map_cons, tbObjs_keys, List.mem_append, List.mem_cons] at *
  generalize T.addrs = A1 at *
  generalize U.addrs = Au at *
  generalize List.map (fun x => x.fst) R1 = K at *
  obtain ⟨n1, O⟩ := O
  obtain ⟨n2, OU⟩ := OU
  refine ⟨n2, ?_⟩
  grind
theorem mem_other {A U R1 : Ledger} {x y : Addr × Obj} : ∀ p ∈ U ++ (A ++ (x :: y :: R1)), p ∈ A ++ (x :: y :: (U ++ R1)) := fun p hp => by
  simp only [List.mem_append, List.mem_cons] at hp ⊢
  rcases hp with h | h | h | h | h <;> simp [h]
theorem set_text_abs {w : World} {nk : PT → PV → PV → Option PT} {D : Nat} (H : NKSpec w nk D) {T : Tb} {R : Ledger} (O : Own T R) {b : Addr} (hb : T.a = b) {t : PT} (hab : T.abs = t) {v u : Value} {p q : PV} (hv : Is v p) (hp : p.key) (hq : Is u q) {t' : PT} (hr : putF nk { t with fl := 0 } p q = some t') :
    Runs w 363 [.ref b, v, u, .none] (tbObjs w.params T ++ R) (D + 20) fun _ Λ' => NKPost w.params b R t' Λ' := by
  subst hab; exact set_text_spec H O hb hv hp hq hr
theorem cmp_law {t u : PT} {D D' : List (PV × En)} (hT : LI t D) (hU : LI u D') {wd : List UInt8} (hw : wd ∈ WS) {j : Nat} (hj : EVS.findIdx? (fun x => decide (x = wd)) = some j) (hjw : EVS.getD j [] = wd) :
    ∃ t1 u1, compareF t u (.bytes wd) j = some (if dGet D (.bytes wd) = dGet D' (.bytes wd) then dGet D (.bytes wd) else .none, t1, u1) ∧ LI t1 D ∧ LI u1 D' := by
  have J79 := hT.fast hw hj hjw; ((refine ex_elim1 J79 fun t1 J79q1 => ?_; clear J79; refine and_elim4 J79q1 fun f1 L1 J79u3 J79u4 => ?_; clear J79q1))
  have J79 := hU.fast hw hj hjw; ((refine ex_elim1 J79 fun u1 J79q1 => ?_; clear J79; refine and_elim4 J79q1 fun f2 L2 J79u3 J79u4 => ?_; clear J79q1))
  unfold compareF
  rw [f1]
  simp only [Option.bind_some]
  by_cases c : dGet D (.bytes wd) = .none
  · rw [if_pos c]
    refine ⟨t1, u, ?_, L1, hU⟩
    by_cases c2 : dGet D (.bytes wd) = dGet D' (.bytes wd)
    · rw [if_pos c2, c]
    · rw [if_neg c2]
  · rw [if_neg c, f2]
    refine ⟨t1, u1, ?_, L1, L2⟩
    simp only [Option.bind_some]
    by_cases c2 : dGet D (.bytes wd) = dGet D' (.bytes wd)
    · rw [if_pos c2, if_neg]
      rintro (h | h)
      · exact c (c2.trans h)
      · exact h c2
    · rw [if_neg c2, if_pos (.inr c2)]
theorem pick_word6 {w : World} {A0 : Around} {E : Value → Shared → Prop} {s : Shared} {h₀ : Heap} {L : Addr} {Λ : Ledger} {u : Tok} {k : Nat} {l : Addr} {value slice : PySem.Expr} {Q : Value → Shared → Prop} {vs : List Value} {ns : List Int} {z : Int} (N : News h₀ L s.heap Λ) (hm : (l, listOf vs.toArray k) ∈ Λ) (hi : AreP vs (WS.map PV.bytes))
    (h : ∀ v wd j, wd ∈ WS → EVS.findIdx? (fun x => decide (x = wd)) = some j → EVS.getD j [] = wd → Is v (.bytes wd) → Q v s) (hs : subscripted slice false (.ref l) (.int (grain ns z 6) u) = operate [.ref l, .int (grain ns z 6) u] (getItem (.ref l) (.int (grain ns z 6) u))) : wpAny (model PG w) A0 (subscriptTail value slice (.ref l) (.int (grain ns z 6) u)) Q E s := by
  have g := grain_range (ns := ns) (z := z) (c := 6) (by decide)
  have e8 : (WS.map PV.bytes).length = 8 := rfl
  have e9 : WS.length = 8 := rfl
  refine pick_plain N hm hi g.1 (by omega) (fun v hv => ?_) hs (by omega)
  have hi8 : (grain ns z 6).toNat < WS.length := by omega
  rw [List.getD_eq_getElem?_getD, List.getElem?_map, List.getElem?_eq_getElem hi8] at hv
  obtain ⟨h1, h2⟩ := ev6_all (grain ns z 6).toNat (List.mem_range.mpr (by omega))
  have h3 : ∀ i : Nat, (h : i < WS.length) → i < 6 → WS[i] = EVS.getD i [] := by decide +kernel
  have h4 := h3 _ hi8 (by omega)
  rw [← h4] at h1 h2
  exact h v _ _ h1 h2 h4.symm hv
theorem cmp_eq_same {w : World} {A : Around} {E : Value → Shared → Prop} {s : Shared} {Q : Value → Shared → Prop} {v u : Value} {p : PV} (hv : Is v p) (hq : Is u p) (h : Q (.bool true) s) : wpAny (model PG w) A (compareOp .Eq v u) Q E s := cmp_eq_PV hv hq (by rw [decide_eq_true (rfl : p = p)]; exact h)
theorem other_inst {P : Params} {U : Tb} {R R1 : Ledger} {b : Addr} (h : R = tbObjs P U ++ R1) (ha : U.a = b) : (b, instObj 491 U.d) ∈ R ∧ (U.d, tbDict P U) ∈ R := by
  subst ha; subst h; exact ⟨HasTab.left.inst, HasTab.left.dict⟩
theorem other_all {P : Params} {T U : Tb} {sk pd : Addr} {S o : Obj} {R1 : Ledger} {h₀ h : Heap} {L : Addr} (N : News h₀ L h (tbObjs P T ++ ((sk, S) :: (pd, o) :: (tbObjs P U ++ R1)))) (O : Own T ((sk, S) :: (pd, o) :: (tbObjs P U ++ R1))) (OU : Own U R1) (hs : ∀ p ∈ tbObjs P U ++ R1, p.1 ≠ sk) (hp : ∀ p ∈ tbObjs P U ++ R1, p.1 ≠ pd) :
    News h₀ L h (tbObjs P U ++ (tbObjs P T ++ ((sk, S) :: (pd, o) :: R1))) ∧ Own U (tbObjs P T ++ ((sk, S) :: (pd, o) :: R1)) ∧ Own T ((sk, S) :: (pd, o) :: R1) :=
  ⟨News.sub N mem_other, law_other O OU hs hp, O.sub fun p h => by
    simp only [List.mem_cons, List.mem_append] at h ⊢
    rcases h with h | h | h <;> simp [h]⟩
theorem cmp_split {t u : PT} {D D' : List (PV × En)} {wd : List UInt8} {j : Nat} {q : PV} (hc : ∃ t1 u1, compareF t u (.bytes wd) j = some (if dGet D (.bytes wd) = q then dGet D (.bytes wd) else .none, t1, u1) ∧ LI t1 D ∧ LI u1 D') :
    (decide (dGet D (.bytes wd) = q) = true ∧ dGet D (.bytes wd) = q ∧ ∃ t1 u1, compareF t u (.bytes wd) j = some (q, t1, u1) ∧ LI t1 D ∧ LI u1 D') ∨ (decide (dGet D (.bytes wd) = q) = false ∧ ¬ dGet D (.bytes wd) = q ∧ ∃ t1 u1, compareF t u (.bytes wd) j = some (.none, t1, u1) ∧ LI t1 D ∧ LI u1 D') := by
  by_cases c : dGet D (.bytes wd) = q
  · rw [if_pos c, c] at hc; exact .inl ⟨decide_eq_true c, c, hc⟩
  · rw [if_neg c] at hc; exact .inr ⟨decide_eq_false c, c, hc⟩
theorem compare_abs {w : World} {V1 V2 T U : Tb} {R : Ledger} (O : Own T (tbObjs w.params U ++ R)) (O' : Own U R) {b b' c d g : Addr} (hb : T.a = b) (hb' : U.a = b') {t u : PT} (hab : T.abs = t) (hab' : U.abs = u) (h1 : V1.a = c) (h2 : V2.a = d) (hV1 : HasTab w.params V1 R) (hV2 : HasTab w.params V2 R) (hm1 : V1.mt = some b) (hm2 : V2.mt = some b') {v : Value} {wd : List UInt8} (hv : Is v (.bytes wd)) (hp : wd.length < 32) {j : Nat} (hj : EVS.findIdx? (fun x => decide (x = wd)) = some j) (hn : t.ns.length ≤ 64) (hn' : u.ns.length ≤ 64) {r : PV} {t' u' : PT} (hr : compareF t u (.bytes wd) j = some (r, t', u')) :
    Runs w 529 [.ref g, .ref c, .ref d, v] (tbObjs w.params T ++ (tbObjs w.params U ++ R)) 24 fun r' Λ' => Is r' r ∧ ∃ T' U', T'.a = b ∧ U'.a = b' ∧ T'.abs = t' ∧ U'.abs = u' ∧ Λ' = tbObjs w.params T' ++ (tbObjs w.params U' ++ R) ∧ Own T' (tbObjs w.params U' ++ R) ∧ Own U' R := by
  subst hab; subst hab'
  exact compare_diff O O' hb hb' h1 h2 hV1 hV2 hm1 hm2 hv hp hj (by simpa [Tb.abs] using hn) (by simpa [Tb.abs] using hn') hr
theorem lists_ne_nil {w : World} {A : Around} {E : Value → Shared → Prop} {s : Shared} {h₀ : Heap} {L l l' : Addr} {Λ : Ledger} {vs : List Value} {bs : List (List UInt8)} {n n' : Nat} {Q : Value → Shared → Prop} (N : News h₀ L s.heap Λ) (hm : (l, listOf vs.toArray n) ∈ Λ) (hm' : (l', listOf #[] n') ∈ Λ) (h1 : vs.map bytesOf = bs.map some) (e : bs = []) (hu : A.units < cLine) (h : Q (.bool false) s) :
    wpAny (model PG w) A (compareOp .NotEq (.ref l) (.ref l')) Q E s := lists_ne_b (us := []) (cs := []) N hm hm' h1 rfl e hu h
theorem other_none : EVS.findIdx? (fun x => decide (x = [111, 116, 104, 101, 114])) = none := by decide +kernel
theorem GF52.onF52 : True := trivial
open GF52
theorem reg_F52_2 : True := by
  k_with "subscriptTail Name" => ((fail_if_success (fail_if_success (have g9 := onF52))); ((k_here; (with_reducible refine (?_ : wpAny _ _ (subscriptTail _ _ (Value.ref _) (Value.int (grain _ _ _) _)) _ _ _)); k_dflt (first | ((with_reducible rename EndOn => zz8); refine' pick_word6 ?Nq9 ?mq9 ?iq9 ?_ ?hsq9; (case Nq9 => k_asm); (case mq9 => k_extra "my in"); (case iq9 => assumption); (case hsq9 => with_unfolding_all rfl); k_whole; intro vw9 ww9 j9 hww9 hj9 hjw9 hvw9; (try k_sweep)) | (refine' pick_word ?Nq9 ?mq9 ?iq9 ?cq9 ?c8q9 ?_ ?hsq9; (case Nq9 => k_asm); (case mq9 => k_extra "my in"); (case iq9 => assumption); (case cq9 => decide); (case c8q9 => decide); (case hsq9 => with_unfolding_all rfl); k_whole; intro vw9 ww9 hww9 hvw9; (try k_sweep)) | (refine' pick_any ?Nq9 ?mq9 ?h0q9 ?h1q9 ?vq9 ?_ ?hsq9; (case Nq9 => k_asm); (case mq9 => k_extra "my in"); (case vq9 => assumption); (case h0q9 => exact (grain_range (by decide)).1); (case h1q9 => exact Int.lt_of_lt_of_le (grain_range (by decide)).2 (by decide)); (case hsq9 => with_unfolding_all rfl); k_whole)))))
  trivial
theorem reg_F52_3 : True := by
  k_with "subscriptTail List" => ((fail_if_success (fail_if_success (have g9 := onF52))); ((k_here; k_dflt (first | ((with_reducible refine (?_ : wpAny _ _ (subscriptTail (Expr.List (Expr.Constant Const.none _ _ :: _) _) _ (Value.ref _) (Value.int (grain _ _ 4) _)) _ _ _)); refine' pick_v4 ?Nq9 ?mq9 ?_ ?hsq9; (case Nq9 => k_asm); (case mq9 => exact List.Mem.head _); (case hsq9 => with_unfolding_all rfl); k_whole; intro vx9 qx9 hvx9; (try k_sweep)) | ((with_reducible refine (?_ : wpAny _ _ (subscriptTail _ _ (Value.ref _) (Value.int (grain _ _ 4) _)) _ _ _)); refine' pick_num ?Nq9 ?mq9 ?_ ?hsq9; (case Nq9 => k_asm); (case mq9 => exact List.Mem.head _); (case hsq9 => with_unfolding_all rfl); k_whole; intro nn9 tn9 hnn9; (try k_sweep)) | ((with_reducible refine (?_ : wpAny _ _ (subscriptTail _ _ (Value.ref _) (Value.int (grain _ _ 3) _)) _ _ _)); refine' pick_v3 ?Nq9 ?mq9 ?_ ?hsq9; (case Nq9 => k_asm); (case mq9 => exact List.Mem.head _); (case hsq9 => with_unfolding_all rfl); k_whole; intro vx9 qx9 hvx9; (try k_sweep))))))
  trivial
theorem reg_F52_4 : True := by
  k_with "call ref" => ((fail_if_success (fail_if_success (have g9 := onF52))); ((k_here; (fail_if_success (with_reducible rename CanOn => zz9)); (first | (with_reducible refine (?_ : wpAny _ _ (call (Value.ref 536) _) _ _ _)) | (with_reducible refine (?_ : wpAny _ _ (call (Value.ref 491) [_, _, _]) _ _ _))); refine myStop ?_)))
  trivial
theorem reg_F52_5 : True := by
  k_with "setAttr ref" => ((fail_if_success (fail_if_success (have g9 := onF52))); ((k_here; (with_reducible refine (?_ : wpAny _ _ (setAttr _ (Str.ofString "meta") _) _ _ _)); refine myStop ?_)))
  trivial
theorem reg_F52_6 : True := by
  k_with "exec If" => ((fail_if_success (fail_if_success (have g9 := onF52))); ((k_here; (fail_if_success (with_reducible rename GoOn => zz9)); (with_reducible refine (?_ : wpAny _ _ (exec (Stmt.If (Expr.BoolOp BoolOp.Or _ _) (Stmt.If _ _ _ _ :: _) _ _) _) _ _ _)); refine myStop ?_)))
  trivial
theorem reg_F52_7 : True := by
  k_with "setItem ref" => ((fail_if_success (fail_if_success (have g9 := onF52))); ((k_here; k_dflt (refine' plain_set ?Fq9 ?Nq9 ?Oq9 ?psq9 ?Rpq9 ?dq9 ?keyq9 ?k0q9 ?uq9 ?lq9 ?_; (case Fq9 => k_asm); (case Nq9 => k_asm); (case Oq9 => assumption); (case psq9 => assumption); (case Rpq9 => assumption); (case dq9 => assumption); (case keyq9 => k_extra "my is"); (case k0q9 => (intro hno; cases hno)); (case uq9 => k_extra "my is"); (case lq9 => omega); intro hs9 os9 Fs9 Ns9 Os9 hds9; (try k_sweep)))))
  trivial
theorem reg_F52_8 : True := by
  k_with "setItem ref int" => ((fail_if_success (fail_if_success (have g9 := onF52))); ((k_here; k_dflt (refine' plain_set ?Fq9 ?Nq9 ?Oq9 ?psq9 ?Rpq9 ?dq9 ?keyq9 ?k0q9 ?uq9 ?lq9 ?_; (case Fq9 => k_asm); (case Nq9 => k_asm); (case Oq9 => assumption); (case psq9 => assumption); (case Rpq9 => assumption); (case dq9 => assumption); (case keyq9 => k_extra "my is"); (case k0q9 => (intro hno; cases hno)); (case uq9 => k_extra "my is"); (case lq9 => omega); intro hs9 os9 Fs9 Ns9 Os9 hds9; (try k_sweep)))))
  trivial
theorem reg_F52_9 : True := by
  k_with "compareOp NotEq ref ref" => ((fail_if_success (fail_if_success (have g9 := onF52))); ((k_here; k_dflt (first | (refine' lists_ne_nil ?Nq9 ?mq9 ?m2q9 ?h1q9 ?hzq9 ?uq9 ?_; (case Nq9 => k_asm); (case mq9 => k_extra "my in"); (case m2q9 => exact List.Mem.head _); (case h1q9 => assumption); (case hzq9 => assumption); (case uq9 => ktr_units); k_whole) | (refine' lists_ne_b ?Nq9 ?mq9 ?m2q9 ?h1q9 ?h2q9 ?hzq9 ?uq9 ?_; (case Nq9 => k_asm); (case mq9 => k_extra "my in"); (case m2q9 => k_extra "my in"); (case h1q9 => assumption); (case h2q9 => assumption); (case hzq9 => assumption); (case uq9 => ktr_units); k_whole)))))
  trivial
theorem reg_F52_10 : True := by
  k_with "call ref" => ((fail_if_success (fail_if_success (have g9 := onF52))); ((k_here; (with_reducible refine (?_ : wpAny _ _ (call (Value.ref 356) _) _ _ _)); refine myStop ?_)))
  trivial
theorem reg_F52_11 : True := by
  k_with "call ref" => ((fail_if_success (fail_if_success (have g9 := onF52))); ((k_here; (with_reducible rename EndOn => zz8); (first | (with_reducible refine (?_ : wpAny _ _ (call (Value.ref 363) _) _ _ _)) | (with_reducible refine (?_ : wpAny _ _ (call (Value.ref 529) _) _ _ _))); refine myStop ?_)))
  trivial
theorem reg_F52_12 : True := by
  k_with "compareOp Eq" => ((fail_if_success (fail_if_success (have g9 := onF52))); ((k_here; k_dflt (first | (refine' cmp_eq_same ?vq9 ?qq9 ?_; (case vq9 => k_extra "my is"); (case qq9 => k_extra "my is"); k_whole) | (refine' cmp_eq_PV ?vq9 ?qq9 ?_; (case vq9 => k_extra "my is"); (case qq9 => k_extra "my is"); k_whole)))))
  trivial
set_option maxHeartbeats 4000000 in
theorem law_end {cl mean} {w : List Int} {s₁ s' : Shared} {L : Addr} {m : Str → Option Value} (F : Fr s₁.heap L s'.heap m) (hg : s₁.gens = #[]) (e1 : s'.gens = s₁.gens) (hos : s'.os = s₁.os) :
    GoodW PySem.Challenge.rw_sm0069_01.row.claim cl mean [ofPy (PyData.list (List.map PyData.int w))] s₁ (.ok (.ret (.bool true))) s' := by
  refine goodW_bool F (e1.trans hg) (raisesW_false ?_) ?_ hos
  · wrow_none_raised
  · wrow_post
/-- the law's own frame, written by its Fc -/
theorem to_fc {w : World} {c : Fc} {dp un D0 : Nat} {gd : Option (List Code)} {L : Addr} {outer : List Env} {body : List Stmt} {Q : Flow → Shared → Prop} {E : Value → Shared → Prop} {s : Shared} (R : Rm dp un D0)
    (h : let ak := fcA c dp un gd L outer; let qk := Q; let sk := s; Rm dp un D0 → wpAny (model PG w) ak (execs body (c.env L)) qk NoE sk) : wpAny (model PG w) (fcA c dp un gd L outer) (execs body (c.env L)) Q E s := wpAny_noRaise (h R)
theorem hd.tw17311223219408574766 : True := trivial
theorem hd.tw17087091549796120035 : True := trivial
theorem hd.tw6924109203229866365 : True := trivial
theorem hd.tw8577926023127775311 : True := trivial
theorem hd.tw13047593935725612058 : True := trivial
theorem hd.tw15616948245753086127 : True := trivial
theorem hd.tw8587404781116728655 : True := trivial
theorem hd.tw11676970753965280953 : True := trivial
theorem hd.tw13293453174229064190 : True := trivial
theorem hd.tw7519716089354478335 : True := trivial
theorem hd.tw978945382295711627 : True := trivial
theorem hd.tw7523672394736509286 : True := trivial
theorem hd.tw11034497122203965937 : True := trivial
theorem hd.tw4065347644161347641 : True := trivial
theorem hd.tw6293948785866598258 : True := trivial
theorem hd.tw5961118342813265553 : True := trivial
theorem hd.tw18185175575083235020 : True := trivial
theorem hd.tw11128854368766332075 : True := trivial
theorem hd.tw12591134339009171964 : True := trivial
theorem hd.tw12715402060735579648 : True := trivial
theorem hd.tw4138081844389336918 : True := trivial
theorem hd.tw6935196080544352101 : True := trivial
theorem hd.tw4377701919642642989 : True := trivial
theorem hd.tw8068729725432388964 : True := trivial
theorem hd.tw9577689765879766989 : True := trivial
theorem hd.tw10216474801634566288 : True := trivial
theorem hd.tw5148922909946612681 : True := trivial
theorem hd.tw5781342201191254626 : True := trivial
theorem hd.tw5265724403161401275 : True := trivial
theorem hd.tw17711083657039698284 : True := trivial
theorem hd.tw5732804406350252772 : True := trivial
theorem hd.tw1452849714261714991 : True := trivial
theorem hd.tw14620637471214046174 : True := trivial
theorem hd.tw12631932088317031055 : True := trivial
theorem hd.tw14176624398918483544 : True := trivial
theorem hd.tw10889348797400549130 : True := trivial
theorem hd.tw15043168886218598503 : True := trivial
theorem hd.tw2448417245163862455 : True := trivial
theorem hd.tw6990203504111849199 : True := trivial
theorem hd.tw10752148897807903841 : True := trivial
theorem hd.tw2867327485932766208 : True := trivial
theorem hd.tw15103106377680225435 : True := trivial
theorem hd.tw11652457597714270106 : True := trivial
theorem hd.tw16649331688326792143 : True := trivial
theorem hd.tw7793673504863384051 : True := trivial
theorem hd.tw13372043803930879067 : True := trivial
theorem hd.tw4856431653887292112 : True := trivial
theorem hd.tw307737655149646647 : True := trivial
theorem hd.tw11117797201346649052 : True := trivial
theorem hd.tw6046454685291232161 : True := trivial
theorem hd.tw13144010927901690077 : True := trivial
theorem hd.tw10543509907540572799 : True := trivial
theorem hd.tw8684328023851190084 : True := trivial
theorem hd.tw12769127236821124696 : True := trivial
theorem hd.tw2619054349758303149 : True := trivial
theorem hd.tw15427206886491885616 : True := trivial
theorem hd.tw10507497572311344420 : True := trivial
theorem hd.tw18322514126500204803 : True := trivial
theorem hd.tw461538923250603899 : True := trivial
theorem hd.tw18241275227582772068 : True := trivial
theorem hd.tw13066319289922817542 : True := trivial
theorem hd.tw8047900516022102942 : True := trivial
theorem hd.tw8671608845466749128 : True := trivial
theorem hd.tw14896477498954680388 : True := trivial
theorem hd.tw8343274005884668182 : True := trivial
theorem hd.tw8801323125487838256 : True := trivial
theorem hd.tw6998783941825042932 : True := trivial
theorem hd.tw16772102934027710169 : True := trivial
theorem hd.tw12936449754285732098 : True := trivial
theorem hd.tw13330244855972007585 : True := trivial
theorem hd.tw2114630138375439770 : True := trivial
theorem hd.tw10012880186880212623 : True := trivial
theorem hd.tw7752767780024739350 : True := trivial
theorem hd.tw7540741092611519060 : True := trivial
theorem hd.tw6528754448969337418 : True := trivial
theorem hd.tw14598272352848978880 : True := trivial
theorem hd.tw9073681462420916055 : True := trivial
theorem hd.tw16357263729072622229 : True := trivial
theorem hd.tw8770205317985620760 : True := trivial
theorem hd.tw14353793391729792155 : True := trivial
theorem hd.tw7854228177987924090 : True := trivial
theorem hd.tw4014540891139286612 : True := trivial
theorem hd.tw4990156530697904881 : True := trivial
theorem hd.tw7746578258024575070 : True := trivial
theorem hd.tw8063901135588099217 : True := trivial
theorem hd.tw12588582704262371052 : True := trivial
theorem hd.tw5282504435634884242 : True := trivial
theorem hd.tw11953376511379268794 : True := trivial
theorem hd.tw1382963296337349011 : True := trivial
theorem hd.tw3182187488490625086 : True := trivial
theorem hd.tw18300207936620678264 : True := trivial
theorem hd.tw15368132723985388332 : True := trivial
theorem hd.tw11249132867342737325 : True := trivial
theorem hd.tw5363564295841288755 : True := trivial
theorem hd.tw5562173858411828344 : True := trivial
theorem hd.tw7891253978561527248 : True := trivial
theorem hd.tw2167537188350426706 : True := trivial
theorem hd.tw5278057926702712004 : True := trivial
theorem hd.tw3443669649825651883 : True := trivial
theorem hd.tw6423634429210846174 : True := trivial
theorem hd.tw12131494931117144662 : True := trivial
theorem hd.tw8311610187620527757 : True := trivial
theorem hd.tw3915529967508079626 : True := trivial
theorem hd.tw6545403380812914513 : True := trivial
theorem hd.tw7698358502638924378 : True := trivial
theorem hd.tw6482722132109649516 : True := trivial
theorem hd.tw3480954088277226078 : True := trivial
theorem hd.tw16502264421070913907 : True := trivial
theorem hd.tw526207354791536317 : True := trivial
theorem hd.tw11912922877643110818 : True := trivial
theorem hd.tw9271970288684553227 : True := trivial
theorem hd.tw13609717118414637909 : True := trivial
theorem hd.tw8081886968326746073 : True := trivial
theorem hd.tw12173100003817136821 : True := trivial
theorem hd.tw7082855905992002993 : True := trivial
theorem hd.tw11631869004601391166 : True := trivial
theorem hd.tw4478964076566166474 : True := trivial
theorem hd.tw4115565904173853331 : True := trivial
theorem hd.tw13566260322249332789 : True := trivial
theorem hd.tw10111801491309104144 : True := trivial
theorem hd.tw17454471701868102899 : True := trivial
theorem hd.tw16456969618363192440 : True := trivial
theorem hd.tw7721951785955056133 : True := trivial
theorem hd.tw13280443560766958183 : True := trivial
theorem hd.tw10525666975642140466 : True := trivial
theorem hd.tw7510230149288206974 : True := trivial
theorem hd.tw2502866573005156581 : True := trivial
theorem hd.tw12901994302517312135 : True := trivial
theorem hd.tw1299046323782801668 : True := trivial
theorem hd.tw17901334829092211166 : True := trivial
theorem hd.tw2195365466389143174 : True := trivial
theorem hd.tw13225837485096350037 : True := trivial
theorem hd.tw16037735763661986305 : True := trivial
theorem hd.tw6598312636042714100 : True := trivial
theorem hd.tw1088296927520436173 : True := trivial
theorem hd.tw1865391376527767206 : True := trivial
theorem hd.tw16155205043701107222 : True := trivial
theorem hd.tw8545014587354053640 : True := trivial
theorem hd.tw9421340871869096474 : True := trivial
theorem hd.tw7610815399733428385 : True := trivial
theorem hd.tw1882180444382439491 : True := trivial
theorem hd.tw7292484366425897655 : True := trivial
theorem hd.tw4136554803537287180 : True := trivial
theorem hd.tw16053994301053490033 : True := trivial
theorem hd.tw701787995468756871 : True := trivial
theorem hd.tw7751791981175770698 : True := trivial
theorem hd.tw7914949630228597729 : True := trivial
theorem hd.tw12050417470231563642 : True := trivial
theorem hd.tw7676003278276379012 : True := trivial
theorem hd.tw4292457097857839397 : True := trivial
theorem hd.tw10844753989422098599 : True := trivial
theorem hd.tw190519026028168232 : True := trivial
theorem hd.tw9277588360372424766 : True := trivial
theorem hd.tw15463257786427224491 : True := trivial
theorem hd.tw17047115858639842297 : True := trivial
theorem hd.tw17420951861521290806 : True := trivial
theorem hd.tw5978321128707920903 : True := trivial
theorem hd.tw6060742912462422084 : True := trivial
theorem hd.tw2457190517430149469 : True := trivial
theorem hd.tw1118553966540926140 : True := trivial
theorem hd.tw9783614193127449063 : True := trivial
theorem hd.tw8965841893048198262 : True := trivial
theorem hd.tw5635641802508607975 : True := trivial
theorem hd.tw13483081372092288885 : True := trivial
theorem hd.tw8977307856219701671 : True := trivial
theorem hd.tw14060154772996877548 : True := trivial
theorem hd.tw8727321023445011275 : True := trivial
theorem hd.tw7654286748164834634 : True := trivial
theorem hd.tw2274498078352570744 : True := trivial
theorem hd.tw4993660671451451078 : True := trivial
theorem hd.tw8538877666451538035 : True := trivial
theorem hd.tw3085183777334472315 : True := trivial
theorem hd.tw2134215046882385847 : True := trivial
theorem hd.tw5318216170032084099 : True := trivial
theorem hd.tw1129884963351977449 : True := trivial
theorem hd.tw5716766192118558609 : True := trivial
theorem hd.tw1563692795949630186 : True := trivial
theorem hd.tw7085514621470718492 : True := trivial
theorem hd.tw16006246977917349235 : True := trivial
theorem hd.tw6830512106363814048 : True := trivial
theorem hd.tw13855946660403688772 : True := trivial
theorem hd.tw5245234834050458271 : True := trivial
theorem hd.tw7541792107247259296 : True := trivial
theorem hd.tw10258999931320997221 : True := trivial
theorem hd.tw10170382586518783626 : True := trivial
theorem hd.tw15166520500009309586 : True := trivial
theorem hd.tw8351282476255451920 : True := trivial
theorem hd.tw17574625026820762457 : True := trivial
theorem hd.tw11011131195910976488 : True := trivial
theorem hd.tw16794629799341752650 : True := trivial
theorem hd.tw10403243965636340961 : True := trivial
theorem hd.tw4225703048834024713 : True := trivial
theorem hd.tw9557236495431379559 : True := trivial
theorem hd.tw4172343393113369950 : True := trivial
theorem hd.tw7366208706002141716 : True := trivial
theorem hd.tw4015398097383911347 : True := trivial
theorem hd.tw12393119488966705847 : True := trivial
theorem hd.tw16945582573551092051 : True := trivial
theorem hd.tw1425423193147277237 : True := trivial
theorem hd.tw3828038474966422129 : True := trivial
theorem hd.tw15987713032478767096 : True := trivial
theorem hd.tw8004679753235328684 : True := trivial
theorem hd.tw881544763273948857 : True := trivial
theorem hd.tw12058812876911547015 : True := trivial
theorem hd.tw17130151131035750659 : True := trivial
theorem hd.tw16853341256802265648 : True := trivial
theorem hd.tw13217225542625558698 : True := trivial
theorem hd.tw9386895884608548742 : True := trivial
theorem hd.tw11213053971927718326 : True := trivial
theorem hd.tw1588505670450824345 : True := trivial
theorem hd.tw15527848837575444561 : True := trivial
theorem hd.tw4523669819894539328 : True := trivial
theorem hd.tw14768889098011018680 : True := trivial
theorem hd.tw13638418597567726942 : True := trivial
theorem hd.tw14772383043592177042 : True := trivial
theorem hd.tw3381375190539634487 : True := trivial
theorem hd.tw9983995961361265002 : True := trivial
theorem hd.tw7752216883906862206 : True := trivial
theorem hd.tw17986969038992634876 : True := trivial
theorem hd.tw7570633941786207912 : True := trivial
theorem hd.tw17588044629489971554 : True := trivial
theorem hd.tw6906073325868019850 : True := trivial
theorem hd.tw10727248033764811480 : True := trivial
theorem hd.tw16009884308244765898 : True := trivial
theorem hd.tw4851647983119433812 : True := trivial
theorem hd.tw16473244170626142550 : True := trivial
theorem hd.tw226724450230711188 : True := trivial
theorem hd.tw6186238094035137676 : True := trivial
theorem hd.tw14960593345356199642 : True := trivial
theorem hd.tw4182648748547736412 : True := trivial
theorem hd.tw10743916045514856203 : True := trivial
theorem hd.tw10784824025267889561 : True := trivial
theorem hd.tw14705683404202351889 : True := trivial
theorem hd.tw3404104791013757517 : True := trivial
theorem hd.tw15508949281206285077 : True := trivial
theorem hd.tw2304311442786299043 : True := trivial
theorem hd.tw4272726840584523970 : True := trivial
theorem hd.tw12487502673411948298 : True := trivial
theorem hd.tw8652628183442184457 : True := trivial
theorem hd.tw16828841361933241965 : True := trivial
theorem hd.tw15595854959937240912 : True := trivial
theorem hd.tw15083628210047938546 : True := trivial
theorem hd.tw6196171512934965099 : True := trivial
theorem hd.tw17950676927832955104 : True := trivial
theorem hd.tw13131943244659133196 : True := trivial
theorem hd.tw6898005170327248138 : True := trivial
theorem hd.tw10458740792067480800 : True := trivial
theorem hd.tw3219085151875037572 : True := trivial
theorem hd.tw17183224562656869120 : True := trivial
theorem hd.tw1506431575118746342 : True := trivial
theorem hd.tw13866372431405929976 : True := trivial
theorem hd.tw4449123307109862055 : True := trivial
theorem hd.tw15833661619300960221 : True := trivial
theorem hd.tw12112201142124510154 : True := trivial
theorem hd.tw11375277706881905925 : True := trivial
theorem hd.tw12394076208661396346 : True := trivial
theorem hd.tw13038990169509382042 : True := trivial
theorem hd.tw17213754286329925777 : True := trivial
theorem hd.tw14310624532144728618 : True := trivial
theorem hd.tw4643362625855044894 : True := trivial
theorem hd.tw16091413853298234908 : True := trivial
theorem hd.tw5238241317806426387 : True := trivial
theorem hd.tw17252343639133405964 : True := trivial
theorem hd.tw16904818350239718627 : True := trivial
theorem hd.tw4282304852377368616 : True := trivial
theorem hd.tw9013056391748086436 : True := trivial
theorem hd.tw13322179722446271537 : True := trivial
theorem hd.tw402640490398009360 : True := trivial
theorem hd.tw2951005344575393816 : True := trivial
theorem hd.tw8716120427605611371 : True := trivial
theorem hd.tw15837987909243819085 : True := trivial
theorem hd.tw8960069828448710407 : True := trivial
theorem hd.tw7120233287515763914 : True := trivial
theorem hd.tw7763873220885509757 : True := trivial
theorem hd.tw6882427118574961969 : True := trivial
theorem hd.tw15642763164714097627 : True := trivial
theorem hd.tw2845679848157327705 : True := trivial
theorem hd.tw6276725880618359904 : True := trivial
theorem hd.tw991583007596301734 : True := trivial
theorem hd.tw5505005885091257285 : True := trivial
theorem hd.tw3789350110615891812 : True := trivial
theorem hd.tw18293851220164018083 : True := trivial
theorem hd.tw13466754112058979494 : True := trivial
theorem hd.tw15048261121198461528 : True := trivial
theorem hd.tw17491280204586788870 : True := trivial
theorem hd.tw1589133516308662214 : True := trivial
theorem hd.tw10781468475247234061 : True := trivial
theorem hd.tw13431754692932380062 : True := trivial
theorem hd.tw5174551420813472067 : True := trivial
theorem hd.tw1610171440888473627 : True := trivial
theorem hd.tw9170477692918782315 : True := trivial
theorem hd.tw4478177076189095293 : True := trivial
theorem hd.tw6136932545381038964 : True := trivial
theorem hd.tw15967140613478806237 : True := trivial
theorem hd.tw16194383521188589630 : True := trivial
theorem hd.tw6726342588429418155 : True := trivial
theorem hd.tw1699103778626983548 : True := trivial
theorem hd.tw189712035060473897 : True := trivial
theorem hd.tw11210553801493137410 : True := trivial
theorem hd.tw13220430256171166289 : True := trivial
theorem hd.tw17387473266821786944 : True := trivial
theorem hd.tw6123773746684550334 : True := trivial
theorem hd.tw7068711184596962023 : True := trivial
theorem hd.tw13285133528070534704 : True := trivial
theorem hd.tw1413172679324656950 : True := trivial
theorem hd.tw663384727985864361 : True := trivial
theorem hd.tw9719896912496429819 : True := trivial
theorem hd.tw5902613922787404954 : True := trivial
theorem hd.tw442638132926106271 : True := trivial
theorem hd.tw16919406825032445293 : True := trivial
theorem hd.tw11713075325732132258 : True := trivial
theorem hd.tw8428860471423672150 : True := trivial
theorem hd.tw9731375825926819010 : True := trivial
theorem hd.tw1580110805410547442 : True := trivial
theorem hd.tw10583446816852156582 : True := trivial
theorem hd.tw10030107230732127627 : True := trivial
theorem hd.tw12949589719889679912 : True := trivial
theorem hd.tw8879563391730754479 : True := trivial
theorem hd.tw250903467453971090 : True := trivial
theorem hd.tw8268277133935991078 : True := trivial
theorem hd.tw14955159897011116063 : True := trivial
theorem hd.tw1033889070964956483 : True := trivial
theorem hd.tw10024716035694756283 : True := trivial
theorem hd.tw10404513684093684653 : True := trivial
theorem hd.tw10246146449241189800 : True := trivial
theorem hd.tw5167245352685981253 : True := trivial
theorem hd.tw5130813555471234732 : True := trivial
theorem hd.tw5505332120971382143 : True := trivial
theorem hd.tw14690822567662456159 : True := trivial
theorem hd.tw7512474625130614241 : True := trivial
theorem hd.tw16259696140248634718 : True := trivial
theorem hd.tw15089522573102190283 : True := trivial
theorem hd.tw11917015161858427179 : True := trivial
theorem hd.tw7382370116671421104 : True := trivial
theorem hd.tw9748044761591592747 : True := trivial
theorem hd.tw18166333605607142505 : True := trivial
theorem hd.tw17895171251205151618 : True := trivial
theorem hd.tw11513968764499736323 : True := trivial
theorem hd.tw212345690472687942 : True := trivial
theorem hd.tw16299908979028503884 : True := trivial
theorem hd.tw1359830224848277088 : True := trivial
theorem hd.tw11079593142295127227 : True := trivial
theorem hd.tw11631947586910100387 : True := trivial
theorem hd.tw2327210489368252092 : True := trivial
theorem hd.tw14560493823538711346 : True := trivial
theorem hd.tw16634568088961857937 : True := trivial
theorem hd.tw6627881031435992008 : True := trivial
theorem hd.tw9398405308114057262 : True := trivial
theorem hd.tw7379015992945566340 : True := trivial
theorem hd.tw5388632664720090651 : True := trivial
theorem hd.tw5629675986466331604 : True := trivial
theorem hd.tw13790719812936386609 : True := trivial
theorem hd.tw6164396464334811476 : True := trivial
theorem hd.tw10919297434634762262 : True := trivial
theorem hd.tw17919194246423945575 : True := trivial
theorem hd.tw2315301623876862497 : True := trivial
theorem hd.tw2101469004524951375 : True := trivial
theorem hd.tw10847404155465417027 : True := trivial
theorem hd.tw9702936160620672325 : True := trivial
theorem hd.tw15615537253650120727 : True := trivial
theorem hd.tw6469175993241445255 : True := trivial
theorem hd.tw7598622570094877466 : True := trivial
theorem hd.tw15207398651663016943 : True := trivial
theorem hd.tw11971110590526175599 : True := trivial
theorem hd.tw12575139184659369484 : True := trivial
theorem hd.tw6184208073178115725 : True := trivial
theorem hd.tw15422856539912107476 : True := trivial
theorem hd.tw464777395874653626 : True := trivial
theorem hd.tw1836080755315867724 : True := trivial
theorem hd.tw17330945745186091897 : True := trivial
theorem hd.tw1409312971732116557 : True := trivial
theorem hd.tw4870687313549177768 : True := trivial
theorem hd.tw1666387254794493845 : True := trivial
theorem hd.tw12350410155528471161 : True := trivial
theorem hd.tw5292301768408028288 : True := trivial
theorem hd.tw5899666649113621702 : True := trivial
theorem hd.tw6683769817339685419 : True := trivial
theorem hd.tw162610821266807592 : True := trivial
theorem hd.tw1954109241102656831 : True := trivial
theorem hd.tw8609351116199087170 : True := trivial
theorem hd.tw6965799899956892507 : True := trivial
theorem hd.tw18093812233618175256 : True := trivial
theorem hd.tw12399718760709695909 : True := trivial
theorem hd.tw1222794163293265305 : True := trivial
theorem hd.tw5054737718236178183 : True := trivial
theorem hd.tw13409441903868389331 : True := trivial
theorem hd.tw9763420282994701918 : True := trivial
theorem hd.tw4360684699965382250 : True := trivial
theorem hd.tw17672654358674132775 : True := trivial
theorem hd.tw9155422001095189878 : True := trivial
theorem hd.tw8735263284916673568 : True := trivial
theorem hd.tw17893044597097874663 : True := trivial
theorem hd.tw13267510147771200024 : True := trivial
theorem hd.tw11032806212648032379 : True := trivial
theorem hd.tw14906377314874228009 : True := trivial
theorem hd.tw6931407450589930559 : True := trivial
theorem hd.tw8112040973832200146 : True := trivial
theorem hd.tw15910714762333108613 : True := trivial
theorem hd.tw257007361410690125 : True := trivial
theorem hd.tw16640546478005224243 : True := trivial
theorem hd.tw17491317419825422843 : True := trivial
theorem hd.tw18343703819029505601 : True := trivial
theorem hd.tw17681399029576232318 : True := trivial
theorem hd.tw10203026625882799534 : True := trivial
theorem hd.tw8959176491354863721 : True := trivial
theorem hd.tw9132557439983319658 : True := trivial
theorem hd.tw2930668341846507884 : True := trivial
theorem hd.tw13277076834127875243 : True := trivial
theorem hd.tw13783031573616600631 : True := trivial
theorem hd.tw15220180469806662145 : True := trivial
theorem hd.tw3484992998616243462 : True := trivial
theorem hd.tw280609765759037681 : True := trivial
theorem hd.tw1331086792558400476 : True := trivial
theorem hd.tw5511420028821071320 : True := trivial
theorem hd.tw16178712458983371728 : True := trivial
theorem hd.tw7152984921513172624 : True := trivial
theorem hd.tw13315533130655954831 : True := trivial
theorem hd.tw7880807054014371918 : True := trivial
theorem hd.tw7270182246851987180 : True := trivial
theorem hd.tw12614811148066621264 : True := trivial
theorem hd.tw13289513938125300765 : True := trivial
theorem hd.tw12127338746724423809 : True := trivial
theorem hd.tw6140570298594658328 : True := trivial
theorem hd.tw14553816603554493358 : True := trivial
theorem hd.tw15992342658441690333 : True := trivial
theorem hd.tw5009564483982726761 : True := trivial
theorem hd.tw17234923516513369237 : True := trivial
theorem hd.tw4383666589626881386 : True := trivial
theorem hd.tw17696971302532935780 : True := trivial
theorem hd.tw11709330566771433103 : True := trivial
theorem hd.tw5976792059365374437 : True := trivial
theorem hd.tw12070654863422294720 : True := trivial
theorem hd.tw5657824000916062451 : True := trivial
theorem hd.tw9406673726873002282 : True := trivial
theorem hd.tw11402939732021071671 : True := trivial
theorem hd.tw5608270528595127837 : True := trivial
theorem hd.tw6411954120941647267 : True := trivial
theorem hd.tw16713699803418581334 : True := trivial
theorem hd.tw8516288146210602744 : True := trivial
theorem hd.tw9131607905817354932 : True := trivial
theorem hd.tw10792051664901133789 : True := trivial
theorem hd.tw2391449824757734642 : True := trivial
theorem hd.tw6785817131721698500 : True := trivial
theorem hd.tw15416985209724490359 : True := trivial
theorem hd.tw7927469264209771579 : True := trivial
theorem hd.tw3442329435671937591 : True := trivial
theorem hd.tw16085158723969306702 : True := trivial
theorem hd.tw9298403506768410418 : True := trivial
theorem hd.tw12070051907170230399 : True := trivial
theorem hd.tw11256106856564762260 : True := trivial
theorem hd.tw9499510787657705874 : True := trivial
theorem hd.tw17562767543260142214 : True := trivial
theorem hd.tw6038821095411175016 : True := trivial
theorem hd.tw10860895700388868024 : True := trivial
theorem hd.tw11587034568685482758 : True := trivial
theorem hd.tw2442259710966052079 : True := trivial
theorem hd.tw16211521421427940678 : True := trivial
theorem hd.tw2603259988358896889 : True := trivial
theorem hd.tw14029546391885035639 : True := trivial
theorem hd.tw2999033326186475339 : True := trivial
theorem hd.tw8664936974563722654 : True := trivial
theorem hd.tw185848376630758926 : True := trivial
theorem hd.tw7369741819223213686 : True := trivial
theorem hd.tw17843490464661113860 : True := trivial
theorem hd.tw17714235663813219645 : True := trivial
theorem hd.tw5366084841770067474 : True := trivial
theorem hd.tw8789358453043137523 : True := trivial
theorem hd.tw14745743045033390146 : True := trivial
theorem hd.tw10614716105012338702 : True := trivial
theorem hd.tw4315991029959535628 : True := trivial
theorem hd.tw4021928978595405253 : True := trivial
theorem hd.tw1800889605409440832 : True := trivial
theorem hd.tw8990313861142287110 : True := trivial
theorem hd.tw7153062008950511462 : True := trivial
theorem hd.tw1097998534492414930 : True := trivial
theorem hd.tw16007149819294483003 : True := trivial
theorem hd.tw5036846961687405229 : True := trivial
theorem hd.tw8134915037123179040 : True := trivial
theorem hd.tw845060206244984605 : True := trivial
theorem hd.tw2855845756224970109 : True := trivial
theorem hd.tw17903497710992402801 : True := trivial
theorem hd.tw13929354066492186541 : True := trivial
theorem hd.tw9345929723534960622 : True := trivial
theorem hd.tw3919010098100093602 : True := trivial
theorem hd.tw1997569388931296116 : True := trivial
theorem hd.tw17948085552500728524 : True := trivial
theorem hd.tw17054507655720011243 : True := trivial
theorem hd.tw11389486352061984695 : True := trivial
theorem hd.tw1760603350576429475 : True := trivial
theorem hd.tw3008623586974134963 : True := trivial
theorem hd.tw16920754564084929960 : True := trivial
theorem hd.tw10491609206876299696 : True := trivial
theorem hd.tw519851828213033955 : True := trivial
theorem hd.tw17975533764899295144 : True := trivial
theorem hd.tw6804821044290156842 : True := trivial
theorem hd.tw4111692666942324129 : True := trivial
theorem hd.tw13321331477185743149 : True := trivial
theorem hd.tw13893168526513508166 : True := trivial
theorem hd.tw9184186324627900627 : True := trivial
theorem hd.tw17336936450418997793 : True := trivial
theorem hd.tw1848646778235469078 : True := trivial
theorem hd.tw6759412095888398321 : True := trivial
theorem hd.tw4402725079659364252 : True := trivial
theorem hd.tw1600037746751723098 : True := trivial
theorem hd.tw15213948185873263833 : True := trivial
theorem hd.tw8458067239894703972 : True := trivial
theorem hd.tw16781597205703756006 : True := trivial
theorem hd.tw8226494294326810461 : True := trivial
theorem hd.tw7824744838776309166 : True := trivial
theorem hd.tw11251137523995926341 : True := trivial
theorem hd.tw16858285156579221889 : True := trivial
theorem hd.tw13770079208771991547 : True := trivial
theorem hd.tw17739348878880393726 : True := trivial
theorem hd.tw11319892378374348655 : True := trivial
theorem hd.tw3452082135128663414 : True := trivial
theorem hd.tw12611767792052310623 : True := trivial
theorem hd.tw17606422857730326317 : True := trivial
theorem hd.tw9555612238305686254 : True := trivial
theorem hd.tw2051048951616859547 : True := trivial
theorem hd.tw13368278939475635651 : True := trivial
theorem hd.tw11465210709893060100 : True := trivial
theorem hd.tw9459050058782445324 : True := trivial
theorem hd.tw3451239065008710300 : True := trivial
theorem hd.tw15344866539931968096 : True := trivial
theorem hd.tw11319097763535126812 : True := trivial
theorem hd.tw10738003575532504788 : True := trivial
theorem hd.tw15759970867653108152 : True := trivial
theorem hd.tw6407587892757256292 : True := trivial
theorem hd.tw15411387601460861337 : True := trivial
theorem hd.tw8184699220007379433 : True := trivial
theorem hd.tw4086058157674990017 : True := trivial
theorem hd.tw12239354291974867115 : True := trivial
theorem hd.tw10905682514733158466 : True := trivial
theorem hd.tw17429513623812275283 : True := trivial
theorem hd.tw7494724483528729301 : True := trivial
theorem hd.tw13132618709999183898 : True := trivial
theorem hd.tw4159134105002834734 : True := trivial
theorem hd.tw4363365295628954845 : True := trivial
theorem hd.tw9228397985900620932 : True := trivial
theorem hd.tw7031273417212677730 : True := trivial
theorem hd.tw9673543361469618366 : True := trivial
theorem hd.tw8457440626546761165 : True := trivial
theorem hd.tw6082411064634330575 : True := trivial
theorem hd.tw8269573656231971908 : True := trivial
theorem hd.tw9566141503761928105 : True := trivial
theorem hd.tw16157073509204512506 : True := trivial
theorem hd.tw15529170255622000948 : True := trivial
theorem hd.tw4642405928176397000 : True := trivial
theorem hd.tw15946388913382835224 : True := trivial
theorem hd.tw13181700845877081190 : True := trivial
theorem hd.tw16240987189780228909 : True := trivial
theorem hd.tw16575926881162592496 : True := trivial
theorem hd.tw1197925565968671727 : True := trivial
theorem hd.tw15673258824015622330 : True := trivial
theorem hd.tw11968265576560266318 : True := trivial
theorem hd.tw8273930003744585626 : True := trivial
theorem hd.tw3493717111155160527 : True := trivial
theorem hd.tw18103420901670897651 : True := trivial
theorem hd.tw12994019391074448376 : True := trivial
theorem hd.tw2783992281797965187 : True := trivial
theorem hd.tw22551697357593593 : True := trivial
theorem hd.tw6291416237084387574 : True := trivial
theorem hd.tw15578025631644234493 : True := trivial
theorem hd.tw18268791191939849864 : True := trivial
theorem hd.tw6868836192036940282 : True := trivial
theorem hd.tw11801993109049149486 : True := trivial
theorem hd.tw13365295217650922812 : True := trivial
theorem hd.tw7534799579077118603 : True := trivial
theorem hd.tw8683856772340465682 : True := trivial
theorem hd.tw6547078798241139092 : True := trivial
theorem hd.tw9533747618267967006 : True := trivial
theorem hd.tw7355570028127101125 : True := trivial
theorem hd.tw3694398316872202419 : True := trivial
theorem hd.tw6767318904944593275 : True := trivial
theorem hd.tw10601615944963115059 : True := trivial
theorem hd.tw11778180911958503814 : True := trivial
theorem hd.tw12268275109542032366 : True := trivial
theorem hd.tw14478148883734587675 : True := trivial
theorem hd.tw12104829723263167379 : True := trivial
theorem hd.tw2608437505485318709 : True := trivial
theorem hd.tw8381844023166312768 : True := trivial
theorem hd.tw541196102884509978 : True := trivial
theorem hd.tw15852365999677673905 : True := trivial
theorem hd.tw3646829019195819677 : True := trivial
theorem hd.tw18264374347568628810 : True := trivial
theorem hd.tw4971549296188076032 : True := trivial
theorem hd.tw758273949599710562 : True := trivial
theorem hd.tw17542962492245011380 : True := trivial
theorem hd.tw17252143746492648416 : True := trivial
theorem hd.tw17377529257436501650 : True := trivial
theorem hd.tw12459740579856956213 : True := trivial
theorem hd.tw17001982702790524580 : True := trivial
theorem hd.tw14457593812595234344 : True := trivial
theorem hd.tw12870888531099404533 : True := trivial
theorem hd.tw15610959940260225430 : True := trivial
theorem hd.tw2323474266016966308 : True := trivial
theorem hd.tw6320253292602491972 : True := trivial
theorem hd.tw11162318198679636149 : True := trivial
theorem hd.tw3673020696563887462 : True := trivial
theorem hd.tw6264232113106981867 : True := trivial
theorem hd.tw18219297243305740317 : True := trivial
theorem hd.tw15367242080415987702 : True := trivial
theorem hd.tw16879956485299554121 : True := trivial
theorem hd.tw18293732401869909652 : True := trivial
theorem hd.tw11660266114150955751 : True := trivial
theorem hd.tw5247051413645994129 : True := trivial
theorem hd.tw8869990164376384126 : True := trivial
theorem hd.tw6442067068224118133 : True := trivial
theorem hd.tw16477043939570097188 : True := trivial
theorem hd.tw16171809288044610508 : True := trivial
theorem hd.tw15615420239508185596 : True := trivial
theorem hd.tw10603584201595350602 : True := trivial
theorem hd.tw15948780112781908787 : True := trivial
theorem hd.tw12602439190401603521 : True := trivial
theorem hd.tw11151547217846952531 : True := trivial
theorem hd.tw10806950440038215891 : True := trivial
theorem hd.tw9657781627882305391 : True := trivial
theorem hd.tw2068664650715991707 : True := trivial
theorem hd.tw4788038989552484473 : True := trivial
theorem hd.tw1241404454085649124 : True := trivial
theorem hd.tw2329189449893159454 : True := trivial
theorem hd.tw2788664435532181463 : True := trivial
theorem hd.tw13532847315355080253 : True := trivial
theorem hd.tw5190246844813560578 : True := trivial
theorem hd.tw14492701947808656938 : True := trivial
theorem hd.tw14852329139284432860 : True := trivial
theorem hd.tw8356816923877370021 : True := trivial
theorem hd.tw26425463804135960 : True := trivial
theorem hd.tw3350844169311001129 : True := trivial
theorem hd.tw15683763237869141255 : True := trivial
theorem hd.tw16432713993328977331 : True := trivial
theorem hd.tw4297731678662094536 : True := trivial
theorem hd.tw12629568148972539762 : True := trivial
theorem hd.tw6755925336976613232 : True := trivial
theorem hd.tw5283464899586487735 : True := trivial
theorem hd.tw876933089483189297 : True := trivial
theorem hd.tw7028611270464810887 : True := trivial
theorem hd.tw16011055738799735888 : True := trivial
theorem hd.tw1194904439430580092 : True := trivial
theorem hd.tw4654797750381630734 : True := trivial
theorem hd.tw10264135568141901301 : True := trivial
theorem hd.tw17070941380808615275 : True := trivial
theorem hd.tw12113243949977362033 : True := trivial
theorem hd.tw9153386212771759811 : True := trivial
theorem hd.tw8228950375871286339 : True := trivial
theorem hd.tw1043307727769730188 : True := trivial
theorem hd.tw6578402527460240241 : True := trivial
theorem hd.tw16064382804478563927 : True := trivial
theorem hd.tw14667805832236412624 : True := trivial
theorem hd.tw6394381022753523788 : True := trivial
theorem hd.tw4068527845204499245 : True := trivial
theorem hd.tw17062030032774818151 : True := trivial
theorem hd.tw2252305205657439004 : True := trivial
theorem hd.tw2708950531961675432 : True := trivial
theorem hd.tw4494801613693538912 : True := trivial
theorem hd.tw10424393626065333798 : True := trivial
theorem hd.tw11551083187376567056 : True := trivial
theorem hd.tw1439246655266547700 : True := trivial
theorem hd.tw6438293893037913957 : True := trivial
theorem hd.tw5486487638281291605 : True := trivial
theorem hd.tw3429492842335990350 : True := trivial
theorem hd.tw12023040214023829324 : True := trivial
set_option Elab.async true
set_option maxHeartbeats 0 in
theorem hd : PySem.Challenge.rw_sm0069_01.Holds := by
  w_on
  o_law
  k_head
  case hw => w_witness2
  k_go0
  (with_reducible rename Top _ _ _ _ _ _ => T8)
  have T9 : Top Mine.vw LO _ _ _ _ := T8
  (with_reducible rename Frag.In _ _ => K8)
  have K9 : Frag.In (Mine.h0.heap_1 _) _ := K8
  clear K8
  (with_reducible rename Fr _ _ _ _ => F8)
  refine let_m F8 ?_
  clear F8
  intro ml F8
  dsimp only
  refine to_fc (c := ⟨_, _, _, _, noCl⟩) (D0 := 400) ⟨by ktr_room, by ktr_units⟩ ?_
  intro ak qk st9 hrm
  w_strict (k_extra "my steps")
  refine MyStop.go ?_; (rename News _ _ _ _ => N1); (rename (_ < _ ∧ _ < _ ∧ _ < _) => l1); (rename IntsAre _ (List.take _ _) => hI0)
  have J79 := law_start N1 l1; ((refine ex_elim1 J79 fun R0 J79q1 => ?_; clear J79; refine and_elim5 J79q1 fun N2 hsc hwl hkl hR0 => ?_; clear J79q1))
  have J79 := take_gen hI0; ((refine ex_elim1 J79 fun ns J79q1 => ?_; clear J79; refine and_elim2 J79q1 fun hI hl63 => ?_; clear J79q1))
  clear N1 l1 hI0
  refine Runs.use (law_grain_spec (A := []) (B := R0) (by intro p hp; cases hp) hR0 hI hsc hl63 (Int.le_refl 0) (by decide) (by decide)) (by k_asm) (by k_asm) (by k_asm) (by exact N2) (by k_asm) (by first | exact rfl | assumption) (by ktr_room) (by ktr_units) ?_
  intro r9 Λ9 h9 tk9 F9 N9 J09; k_extra "my fold"; ((refine ex_elim2 J09 fun t9 u9 J09q1 => ?_; clear J09; refine and_elim2 J09q1 fun J09e2 J09e3 => ?_; clear J09q1); subst J09e2; subst J09e3); k_extra "my after"
  w_strict (k_extra "my steps")
  refine MyStop.go ?_
  refine Runs.use (law_grain_spec (A := []) (B := R0) (z := 0 + 1) (by intro p hp; cases hp) hR0 hI hsc hl63 (by decide) (by decide) (by decide)) (by k_asm) (by k_asm) (by k_asm) (by k_asm) (by k_asm) (by first | exact rfl | assumption) (by ktr_room) (by ktr_units) ?_
  intro r9 Λ9 h9 tk9 F9 N9 J09; k_extra "my fold"; ((refine ex_elim2 J09 fun t9 u9 J09q1 => ?_; clear J09; refine and_elim2 J09q1 fun J09e2 J09e3 => ?_; clear J09q1); subst J09e2; subst J09e3); k_extra "my after"
  w_strict (k_extra "my steps")
  refine MyStop.go ?_
  have g1 := grain_range (ns := ns) (z := 0) (c := 3) (by decide)
  have g2 := grain_range (ns := ns) (z := 0 + 1) (c := 5) (by decide)
  have J79 := LI_new (x := grain ns 0 3) (y := grain ns (0 + 1) 5) g1.1 (by omega) g2.1 (by omega); ((refine ex_elim1 J79 fun t1 J79q1 => ?_; clear J79; refine and_elim4 J79q1 fun q1 q2 hLI hfl => ?_; clear J79q1))
  refine Runs.use (table_new3 (NK_spec _) q1 q2) (by k_asm) (by k_asm) (by k_asm) (by k_asm) (by k_asm) (by first | exact rfl | assumption) (by ktr_room) (by ktr_units) ?_
  intro r9 Λ9 h9 tk9 F9 N9 J09; k_extra "my fold"; ((refine ex_elim2 J09 fun T1 b1 J09q1 => ?_; clear J09; refine and_elim5 J09q1 fun J09e2 ha1 hab1 J09e5 O1 => ?_; clear J09q1); subst J09e2; subst J09e5); k_extra "my after"
  w_strict (k_extra "my steps")
  refine MyStop.go ?_; (rename News _ _ _ _ => N3)
  have J79 := law_setup (P := _) N3 O1 (by first | assumption | exact of_allLt (by assumption)) (by assumption) (by assumption) (by first | assumption | exact of_allLt (by assumption)) (by assumption) (by assumption) hR0; ((refine and_elim9 J79 fun N4 oa ob ow o1 ou hps hRs hRp => ?_; clear J79))
  clear N3
  refine set_meta (by k_asm) (by k_asm) N4 oa (by assumption) ?_
  intro h1 F1 N5 O5; clear N4
  k_extra "my after"
  w_strict (k_extra "my steps")
  refine MyStop.go ?_
  refine set_meta (by k_asm) (by k_asm) (News.sub N5 mem_swap) (own_same ob (by simp only [List.map_append, List.map_cons, meta_keys])) (by assumption) ?_
  intro h2 F2 N6 O6; clear N5
  k_extra "my after"
  w_strict (k_extra "my steps")
  refine MyStop.go ?_
  refine set_meta (by k_asm) (by k_asm) (News.sub N6 mem_rev3) (own_same ow (by simp only [List.map_append, List.map_cons, meta_keys])) (by assumption) ?_
  intro h3 F3 N7 O7; clear N6
  k_extra "my after"
  w_strict (k_extra "my steps")
  refine MyStop.go ?_
  have J79 := law_can N7 o1 ou hRs hRp rfl rfl rfl; ((refine ex_elim2 J79 fun R R1 J79q1 => ?_; clear J79; refine and_elim11 J79q1 fun hRU N8 O8 OU hRs8 hRp8 hVa hVb hVW hwn hR01 => ?_; clear J79q1))
  clear N7 O7 O5 O6 oa ob ow
  have J79 := name_all N8; ((refine ex_elim5 J79 fun w sk pd sc o J79q1 => ?_; clear J79; refine and_elim5 J79q1 fun e1 e2 e3 e4 e5 => ?_; clear J79q1))
  subst e1 e2 e3 e4 e5
  have hCan : CanOn := trivial
  have hin : ∀ p ∈ R1, p ∈ R := fun p hp => by rw [hRU]; exact List.mem_append_right _ hp
  have hsc8 := hin _ (hR01 _ hsc)
  have hwn8 := hin _ hwn
  obtain ⟨wv, hwv, hwl8⟩ : ∃ wv : List Value, AreP wv (WS.map PV.bytes) ∧ (_, listOf wv.toArray 0) ∈ R := ⟨_, words_mk, hin _ (hR01 _ hwl)⟩
  obtain ⟨kv, hkv, hkl8⟩ : ∃ kv : List Value, Kinds kv ∧ (_, listOf kv.toArray 0) ∈ R := ⟨_, kinds_mk, hin _ (hR01 _ hkl)⟩
  have hW := worn_mk hin hwn hVa hVb (by assumption) (by assumption)
  (rename Obj.IsDictOf (intKind _ _) _ [] => hdi)
  have hdd := dict_nil hdi
  clear hdi hsc hwl hkl hR0 hR01 o1 ou hRs hRp
  (with_reducible rename Fr _ _ _ _ => lF); obtain ⟨m0, hm0, lF⟩ := loop_start lF; refine For_invVF lF (by rfl) (by rfl) ?_; clear lF
  subst hm0
  w_strict (k_extra "my steps")
  refine MyStop.go ?_; (with_reducible rename Fr _ _ _ _ => lF); (rename IsRange _ _ _ _ _ _ _ _ => lR); (rename News _ _ _ _ => N10); obtain ⟨m0, hm0, lF⟩ := loop_start lF
  have g3 := grain_range (ns := ns) (z := 0 + 1 + 1) (c := 5) (by decide)
  obtain ⟨K, hK⟩ : ∃ K : Nat, (K : Int) = 4 + grain ns (0 + 1 + 1) 5 := ⟨_, Int.toNat_of_nonneg (by omega)⟩
  rw [← hK] at lR
  let J9 : Nat → (Str → Option Value) → Ledger → Prop := fun i m₁ Λ₁ => LJ w b1 sk sc pd R i Λ₁ ∧ ∃ q0 q1 q2 q3 q4 q5 q6, m₁ = updL m0 [(Str.ofString "turn", q0), (Str.ofString "kind", q1), (Str.ofString "word", q2), (Str.ofString "value", q3), (Str.ofString "noted", q4), (Str.ofString "number", q5), (Str.ofString "again", q6)]; refine for_range (k := K) (Λ₀ := tbObjs w.params T1 ++ ((sk, sackObj sc (0 + 1 + 1 + 1) u9 0) :: (pd, o) :: R)) J9 (by rfl) lF (by k_extra "my news") lR (by omega) ⟨⟨T1, [], o, _, _, rfl, ha1, by assumption, hdd, by rw [hab1]; exact hLI, by decide, by decide⟩, none, none, none, none, none, none, none, (by subst hm0; exact updL_eq ⟨rfl, rfl, rfl, rfl, rfl, rfl, rfl, trivial⟩ (by k_extra "my off"))⟩ ?_ ?_
  · subst hm0
    clear hdd hLI N10
    intro i ti m₁ Λ₁ h tk own I hik J09 hoff J19 hown F₁ N₁; k_extra "my fold"; ((refine and_elim2 J09 fun J09p0 J09q1 => ?_; clear J09; refine ex_elim7 J09q1 fun q0 q1 q2 q3 q4 q5 q6 J09e8 => ?_; clear J09q1); ((refine ex_elim5 J09p0 fun T2 D o2 z tz J09p0q1 => ?_; clear J09p0; refine and_elim7 J09p0q1 fun J09p0e5 e1 O2 hdd hLI hz0 hz1 => ?_; clear J09p0q1); subst J09p0e5); subst J09e8); ((refine ex_elim1 J19 fun oI hI1 => ?_; clear J19))
    have J79 := own_iter N₁ O2 hoff hown hRs8 hRp8; ((refine and_elim4 J79 fun N11 O11 hRs11 hRp11 => ?_; clear J79))
    have J79 := kinds_at hkv (ns := ns) (z := z); ((refine ex_elim2 J79 fun kd tkd J79q1 => ?_; clear J79; refine and_elim2 J79q1 fun hkx hkd => ?_; clear J79q1))
    have hz9 : z ≤ 100 := by omega
    have hDl := hLI.len
    have hf0 := hLI.f0
    have hf32 := hLI.f32
    clear N₁
    k_extra "my after"
    w_strict (k_extra "my steps")
    refine MyStop.go ?_
    (with_reducible rename _ ∈ WS => hwW); (with_reducible rename Is _ (PV.bytes _) => hvW); (with_reducible rename Is _ _ => hvX)
    have hkW := (ws_all _ hwW).2
    have hwk : PV.key (.bytes _) := (ws_all _ hwW).1
    have hNK : NKSpec w NK 96 := NK_spec w
    have hGo : GoOn := trivial
    rcases hkd with hkd | hkd | hkd | hkd | hkd
    · subst hkd
      w_strict (k_extra "my steps")
      refine MyStop.go ?_
      (with_reducible rename Fr _ _ _ _ => lF); obtain ⟨m0', hm0', lF⟩ := loop_start lF; refine For_invVF lF (by rfl) (by rfl) ?_; clear lF
      subst hm0'
      w_strict (k_extra "my steps")
      refine MyStop.go ?_; (with_reducible rename Fr _ _ _ _ => lF); (with_reducible rename IsRange _ _ _ _ _ _ _ _ => lR2); (with_reducible rename News _ _ _ _ => N12); obtain ⟨m0', hm0', lF⟩ := loop_start lF
      have g4 := grain_range (ns := ns) (z := z + 1 + 1 + 1) (c := 2) (by decide)
      obtain ⟨K2, hK2⟩ : ∃ K2 : Nat, (K2 : Int) = 1 + grain ns (z + 1 + 1 + 1) 2 := ⟨_, Int.toNat_of_nonneg (by omega)⟩
      rw [← hK2] at lR2
      refine for_range (k := K2) (Λ₀ := tbObjs w.params T2 ++ ((sk, sackObj sc (z + 1 + 1 + 1 + 1) _ 0) :: (pd, o2) :: _)) (fun i m₁ Λ₁ => ∃ (T3 : Tb) (q : Option Value), Λ₁ = tbObjs w.params T3 ++ ((sk, sackObj sc (z + 1 + 1 + 1 + 1) _ 0) :: (pd, o2) :: _) ∧ T3.a = b1 ∧ Own T3 ((sk, sackObj sc (z + 1 + 1 + 1 + 1) _ 0) :: (pd, o2) :: _) ∧ LI T3.abs D ∧ m₁ = updL m0' [(Str.ofString "again", q)]) (by rfl) lF (by exact N12) lR2 (by omega) ⟨T2, _, rfl, e1, O9, hLI, (by subst hm0'; exact updL_eq ⟨rfl, trivial⟩ (by k_extra "my off"))⟩ ?_ ?_
      · subst hm0'
        intro i2 ti2 m₁ Λ₁ h tk own2 I2 hik2 J09 hoff2 J19 hown2 F₁ N₁; k_extra "my fold"; ((refine ex_elim2 J09 fun T3 q J09q1 => ?_; clear J09; refine and_elim5 J09q1 fun J09e2 e3 O3 hLI3 J09e6 => ?_; clear J09q1); subst J09e2; subst J09e6); ((refine ex_elim1 J19 fun oI2 hI2 => ?_; clear J19))
        have J79 := own_iter N₁ O3 hoff2 hown2 hRs9 hRp9; ((refine and_elim4 J79 fun N13 O13 hRs13 hRp13 => ?_; clear J79))
        clear N₁ O9
        k_extra "my after"
        rcases ws_index _ hwW with hwo | ⟨j, hj, hjw⟩
        · subst hwo
          w_strict (k_extra "my steps")
          refine MyStop.go ?_
          (with_reducible rename News _ _ _ _ => N20)
          exact lsv_next (Λ' := tbObjs w.params T3 ++ ((sk, sackObj sc _ _ 0) :: (pd, _) :: _)) (by k_asm) N20 (by intro p hp; k_extra "my own") (sub_can (by intro p hp; k_extra "my in")) hoff2 ⟨T3, _, rfl, e3, O3, hLI3, updL_eq ⟨rfl, trivial⟩ (by k_extra "my off")⟩
        · have hne : (!decide (PV.bytes _ = PV.bytes [111, 116, 104, 101, 114])) = true := word_other hj
          w_strict (k_extra "my steps")
          refine MyStop.go ?_
          (with_reducible rename News _ _ _ _ => N20)
          exact lsv_next (Λ' := tbObjs w.params T9 ++ ((sk, sackObj sc _ _ 0) :: (pd, _) :: _)) (by k_asm) N20 (by intro p hp; k_extra "my own") (sub_can (by intro p hp; k_extra "my in")) (turn_off O9 (by k_extra "my own") hoff2) ⟨T9, _, rfl, ha9, O9.sub (sub_can2 (by intro p hp; k_extra "my in")), by rw [hab9]; assumption, updL_eq ⟨rfl, trivial⟩ (by k_extra "my off")⟩
      · subst hm0'
        intro m₁ Λ₁ h tk J09 F₁ N₁; k_extra "my fold"; ((refine ex_elim2 J09 fun T3 q J09q1 => ?_; clear J09; refine and_elim5 J09q1 fun J09e2 e3 O3 hLI3 J09e6 => ?_; clear J09q1); subst J09e2; subst J09e6)
        clear O9
        have hI3 := hI1
        k_extra "my after"
        w_strict (k_extra "my steps")
        refine MyStop.go ?_
        (with_reducible rename News _ _ _ _ => N20)
        exact lsv_next (Λ' := tbObjs w.params T9 ++ ((sk, sackObj sc _ _ 0) :: (pd, _) :: R)) (by k_asm) N20 (by intro p hp; k_extra "my own") (sub_can (by intro p hp; k_extra "my in")) (turn_off O9 (by k_extra "my own") hoff) ⟨⟨T9, _, _, _, _, rfl, ha9, O9.sub (sub_can2 (by intro p hp; k_extra "my in")), by assumption, by rw [hab9]; assumption, by omega, by omega⟩, _, _, _, _, _, _, _, updL_eq ⟨rfl, rfl, rfl, rfl, rfl, rfl, rfl, trivial⟩ (by k_extra "my off")⟩
    · subst hkd
      obtain ⟨t', hput, hfl, hLI'⟩ := hLI.put (f := 0) NK_any hkW ⟨_, _, hvX⟩ (by decide) (by decide) (by rw [noted_zero]; intro wd h; cases h)
      have hf0' : 0 ≤ t'.fl := by rw [hfl]; decide
      have hf32' : t'.fl < 32 := by rw [hfl]; decide
      have hn0 : notedF t'.fl = [] := by rw [hfl]; exact noted_zero
      w_strict (k_extra "my steps")
      refine MyStop.go ?_
      (with_reducible rename News _ _ _ _ => N20)
      exact lsv_next (Λ' := tbObjs w.params T9 ++ ((sk, sackObj sc _ _ 0) :: (pd, _) :: R)) (by k_asm) N20 (by intro p hp; k_extra "my own") (sub_can (by intro p hp; k_extra "my in")) (turn_off O9 (by k_extra "my own") hoff) ⟨⟨T9, _, _, _, _, rfl, ha9, O9.sub (sub_can2 (by intro p hp; k_extra "my in")), by assumption, by rw [hab9]; assumption, by omega, by omega⟩, _, _, _, _, _, _, _, updL_eq ⟨rfl, rfl, rfl, rfl, rfl, rfl, rfl, trivial⟩ (by k_extra "my off")⟩
    · subst hkd
      w_strict (k_extra "my steps")
      refine MyStop.go ?_
      (with_reducible rename PV.int _ ∈ KS => hkN)
      obtain ⟨t', hput, hfl, hLI'⟩ := hLI.put (f := T2.abs.fl) NK_any hkN ⟨_, _, hvX⟩ hf0 hf32 (by intro wd h; rw [dGet_dSet, if_neg (by intro e; cases e)]; exact hLI.bits wd h)
      have hf0' : 0 ≤ t'.fl := hLI'.f0
      have hf32' : t'.fl < 32 := hLI'.f32
      have hns' := hLI'.ns
      have hes' := hLI'.es
      have hn0 : notedF t'.fl = notedF T2.abs.fl := by rw [hfl]
      have hgi := hLI'.key hkN
      rw [dGet_dSet, if_pos rfl] at hgi
      first | k_extra "my calls" | skip
      w_strict (k_extra "my steps")
      refine MyStop.go ?_
      (with_reducible rename News _ _ _ _ => N20)
      exact lsv_next (Λ' := tbObjs w.params T9 ++ ((sk, sackObj sc _ _ 0) :: (pd, _) :: R)) (by k_asm) N20 (by intro p hp; k_extra "my own") (sub_can (by intro p hp; k_extra "my in")) (turn_off O9 (by k_extra "my own") hoff) ⟨⟨T9, _, _, _, _, rfl, ha9, O9.sub (sub_can2 (by intro p hp; k_extra "my in")), by assumption, by rw [hab9]; assumption, by omega, by omega⟩, _, _, _, _, _, _, _, updL_eq ⟨rfl, rfl, rfl, rfl, rfl, rfl, rfl, trivial⟩ (by k_extra "my off")⟩
    · subst hkd
      have g4 := grain_range (ns := ns) (z := z + 1 + 1 + 1) (c := 4) (by decide)
      have g9 := grain_range (ns := ns) (z := z + 1 + 1 + 1 + 1) (c := 9) (by decide)
      have J79 := resize_any NK_any hLI.wf (x := (grain ns (z + 1 + 1 + 1) 4).toNat) (y := (grain ns (z + 1 + 1 + 1 + 1) 9).toNat) (by omega) (by omega); ((refine ex_elim1 J79 fun t' J79q1 => ?_; clear J79; refine and_elim2 J79q1 fun hrs hS => ?_; clear J79q1))
      rw [Int.toNat_of_nonneg g4.1, Int.toNat_of_nonneg g9.1] at hrs
      have hLI' := hLI.same hS
      have hf0' : 0 ≤ t'.fl := hLI'.f0
      have hf32' : t'.fl < 32 := hLI'.f32
      have hn0 : notedF t'.fl = notedF T2.abs.fl := by rw [hS.fl]
      w_strict (k_extra "my steps")
      refine MyStop.go ?_
      (with_reducible rename News _ _ _ _ => N20)
      exact lsv_next (Λ' := tbObjs w.params T9 ++ ((sk, sackObj sc _ _ 0) :: (pd, _) :: R)) (by k_asm) N20 (by intro p hp; k_extra "my own") (sub_can (by intro p hp; k_extra "my in")) (turn_off O9 (by k_extra "my own") hoff) ⟨⟨T9, _, _, _, _, rfl, ha9, O9.sub (sub_can2 (by intro p hp; k_extra "my in")), by assumption, by rw [hab9]; assumption, by omega, by omega⟩, _, _, _, _, _, _, _, updL_eq ⟨rfl, rfl, rfl, rfl, rfl, rfl, rfl, trivial⟩ (by k_extra "my off")⟩
    · subst hkd
      obtain ⟨t', hput, hfl, hLI'⟩ := hLI.put (f := 0) NK_any hkW ⟨_, _, hvX⟩ (by decide) (by decide) (by rw [noted_zero]; intro wd h; cases h)
      have hf0' : 0 ≤ t'.fl := by rw [hfl]; decide
      have hf32' : t'.fl < 32 := by rw [hfl]; decide
      have hn0 : notedF t'.fl = [] := by rw [hfl]; exact noted_zero
      w_strict (k_extra "my steps")
      refine MyStop.go ?_
      (with_reducible rename News _ _ _ _ => N20)
      exact lsv_next (Λ' := tbObjs w.params T9 ++ ((sk, sackObj sc _ _ 0) :: (pd, _) :: R)) (by k_asm) N20 (by intro p hp; k_extra "my own") (sub_can (by intro p hp; k_extra "my in")) (turn_off O9 (by k_extra "my own") hoff) ⟨⟨T9, _, _, _, _, rfl, ha9, O9.sub (sub_can2 (by intro p hp; k_extra "my in")), by assumption, by rw [hab9]; assumption, by omega, by omega⟩, _, _, _, _, _, _, _, updL_eq ⟨rfl, rfl, rfl, rfl, rfl, rfl, rfl, trivial⟩ (by k_extra "my off")⟩
  · subst hm0
    clear hdd hLI N10
    intro m₁ Λ₁ h tk J09 F₁ N₁; k_extra "my fold"; ((refine and_elim2 J09 fun J09p0 J09q1 => ?_; clear J09; refine ex_elim7 J09q1 fun q0 q1 q2 q3 q4 q5 q6 J09e8 => ?_; clear J09q1); ((refine ex_elim5 J09p0 fun T2 D o2 z tz J09p0q1 => ?_; clear J09p0; refine and_elim7 J09p0q1 fun J09p0e5 e1 O2 hdd hLI hz0 hz1 => ?_; clear J09p0q1); subst J09p0e5); subst J09e8)
    have hz9 : z ≤ 100 := by omega
    have hDl := hLI.len
    have hEnd : EndOn := trivial
    obtain ⟨hUi, hUd⟩ := other_inst hRU (by assumption)
    k_extra "my after"
    w_strict (k_extra "my steps")
    refine MyStop.go ?_
    (with_reducible rename _ ∈ WS => hwW); (with_reducible rename EVS.findIdx? _ = some _ => hj); (with_reducible rename EVS.getD _ _ = _ => hjw); (with_reducible rename Is _ (PV.bytes _) => hvW); (with_reducible rename Is _ _ => hvX); (with_reducible rename News _ _ _ _ => N20)
    subst hRU
    have J79 := other_all (News.tl (News.tl N20)) (by assumption) OU hRs8 hRp8; ((refine and_elim3 J79 fun N22 OU2 OT2 => ?_; clear J79))
    obtain ⟨u', hputU, hflU, hLIU⟩ := LI_empty.put (f := 0) NK_any (ws_all _ hwW).2 ⟨_, _, hvX⟩ (by decide) (by decide) (by rw [noted_zero]; intro wd h; cases h)
    clear N20
    refine Runs.use (set_text_abs (NK_spec w) OU2 (by assumption) (by assumption) hvW (ws_all _ hwW).1 hvX hputU) (by k_asm) (by k_asm) (by k_asm) (by exact N22) (by k_asm) (by first | exact rfl | assumption) (by ktr_room) (by ktr_units) ?_
    intro r9 Λ9 h9 tk9 F9 N9 J09; k_extra "my fold"; ((refine ex_elim1 J09 fun U2 J09q1 => ?_; clear J09; refine and_elim4 J09q1 fun haU2 habU2 J09e3 OU3 => ?_; clear J09q1); subst J09e3); k_extra "my after"
    have hc := cmp_law hLI hLIU hwW hj hjw
    rw [dGet_dSet, if_pos rfl] at hc
    rcases cmp_split hc with ⟨hpq, hpq', t1, u1, hc1, L1, L2⟩ | ⟨hpq, hpq', t1, u1, hc1, L1, L2⟩
    · w_strict (k_extra "my steps")
      refine MyStop.go ?_
      (with_reducible rename News _ _ _ _ => N30)
      refine Runs.use (compare_abs (own_swap OU3 OT2) (OU3.sub fun _ h => List.mem_append_right _ h) e1 haU2 rfl habU2 (by assumption) (by assumption) (fun p h => .tail _ (.tail _ (hVa p h))) (fun p h => .tail _ (.tail _ (hVW p h))) (by exact rfl) (by exact rfl) hvW (ws_all _ hwW).1 hj hLI.ns hLIU.ns hc1) (by k_asm) (by k_asm) (by k_asm) (by exact News.sub N30 mem_swap) (by k_asm) (by first | exact rfl | assumption) (by ktr_room) (by ktr_units) ?_
      intro r9 Λ9 h9 tk9 F9 N9 J09; k_extra "my fold"; ((refine and_elim2 J09 fun hr9 J09q1 => ?_; clear J09; refine ex_elim2 J09q1 fun T5 U5 J09q2 => ?_; clear J09q1; refine and_elim7 J09q2 fun eT5 eU5 hT5 hU5 J09e7 OT5 OU5 => ?_; clear J09q2); subst J09e7)
      have hc2 := cmp_law L2 L1 hwW hj hjw
      rw [dGet_dSet, if_pos rfl, hpq', if_pos rfl] at hc2
      have J79 := hc2; ((refine ex_elim2 J79 fun u2 t2 J79q1 => ?_; clear J79; refine and_elim3 J79q1 fun hc2 J79u3 J79u4 => ?_; clear J79q1))
      k_extra "my after"
      w_strict (k_extra "my steps")
      refine MyStop.go ?_
      (with_reducible rename News _ _ _ _ => N31)
      refine Runs.use (compare_abs (own_swap OT5 OU5) (OT5.sub fun _ h => List.mem_append_right _ h) eU5 eT5 hU5 hT5 (by assumption) (by assumption) (fun p h => .tail _ (.tail _ (hVW p h))) (fun p h => .tail _ (.tail _ (hVb p h))) (by exact rfl) (by exact rfl) hvW (ws_all _ hwW).1 hj L2.ns L1.ns hc2) (by k_asm) (by k_asm) (by k_asm) (by exact News.sub N31 mem_swap) (by k_asm) (by first | exact rfl | assumption) (by ktr_room) (by ktr_units) ?_
      intro r9 Λ9 h9 tk9 F9 N9 J09; k_extra "my fold"; ((refine and_elim2 J09 fun hr9 J09q1 => ?_; clear J09; refine ex_elim2 J09q1 fun T6 U6 J09q2 => ?_; clear J09q1; refine and_elim7 J09q2 fun eT6 eU6 hT6 hU6 J09e7 OT6 OU6 => ?_; clear J09q2); subst J09e7)
      k_extra "my after"
      w_strict (repeat (first | (k_unfold; (try dsimp only)) | walk1))
      exact law_end (by k_asm) (by assumption) rfl rfl
    · w_strict (k_extra "my steps")
      refine MyStop.go ?_
      (with_reducible rename News _ _ _ _ => N30)
      refine Runs.use (compare_abs (own_swap OU3 OT2) (OU3.sub fun _ h => List.mem_append_right _ h) e1 haU2 rfl habU2 (by assumption) (by assumption) (fun p h => .tail _ (.tail _ (hVa p h))) (fun p h => .tail _ (.tail _ (hVW p h))) (by exact rfl) (by exact rfl) hvW (ws_all _ hwW).1 hj hLI.ns hLIU.ns hc1) (by k_asm) (by k_asm) (by k_asm) (by exact News.sub N30 mem_swap) (by k_asm) (by first | exact rfl | assumption) (by ktr_room) (by ktr_units) ?_
      intro r9 Λ9 h9 tk9 F9 N9 J09; k_extra "my fold"; ((refine and_elim2 J09 fun hr9 J09q1 => ?_; clear J09; refine ex_elim2 J09q1 fun T5 U5 J09q2 => ?_; clear J09q1; refine and_elim7 J09q2 fun eT5 eU5 hT5 hU5 J09e7 OT5 OU5 => ?_; clear J09q2); subst J09e7)
      have hc2 := cmp_law L2 L1 hwW hj hjw
      rw [dGet_dSet, if_pos rfl, if_neg (fun h => hpq' h.symm)] at hc2
      have J79 := hc2; ((refine ex_elim2 J79 fun u2 t2 J79q1 => ?_; clear J79; refine and_elim3 J79q1 fun hc2 J79u3 J79u4 => ?_; clear J79q1))
      k_extra "my after"
      w_strict (k_extra "my steps")
      refine MyStop.go ?_
      (with_reducible rename News _ _ _ _ => N31)
      refine Runs.use (compare_abs (own_swap OT5 OU5) (OT5.sub fun _ h => List.mem_append_right _ h) eU5 eT5 hU5 hT5 (by assumption) (by assumption) (fun p h => .tail _ (.tail _ (hVW p h))) (fun p h => .tail _ (.tail _ (hVb p h))) (by exact rfl) (by exact rfl) hvW (ws_all _ hwW).1 hj L2.ns L1.ns hc2) (by k_asm) (by k_asm) (by k_asm) (by exact News.sub N31 mem_swap) (by k_asm) (by first | exact rfl | assumption) (by ktr_room) (by ktr_units) ?_
      intro r9 Λ9 h9 tk9 F9 N9 J09; k_extra "my fold"; ((refine and_elim2 J09 fun hr9 J09q1 => ?_; clear J09; refine ex_elim2 J09q1 fun T6 U6 J09q2 => ?_; clear J09q1; refine and_elim7 J09q2 fun eT6 eU6 hT6 hU6 J09e7 OT6 OU6 => ?_; clear J09q2); subst J09e7)
      k_extra "my after"
      w_strict (repeat (first | (k_unfold; (try dsimp only)) | walk1))
      exact law_end (by k_asm) (by assumption) rfl rfl
end
end Mine
theorem PySem.Challenge.cw_sm0069_01_holds : PySem.Challenge.rw_sm0069_01.Holds := by
  exact Mine.hd
