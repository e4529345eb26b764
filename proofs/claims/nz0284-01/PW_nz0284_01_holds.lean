import PyProof.Rows.All
import Wide.All
import OpenK.AllK
import Wide.FinOn
import PySem.Challenge.RW_nz0284_01
open PySem PySem.W PySem.Calls PyProof.Rows PySem.Spec
set_option Elab.async false
set_option linter.all false
namespace Mine
set_option maxRecDepth 100000 in
set_option maxHeartbeats 8000000 in
open_top hd for PySem.Challenge.rw_nz0284_01
end Mine
namespace Mine


abbrev prg : Program := PySem.Challenge.rw_nz0284_01.row.toRowW.prog

/-- what a call stands on -/
structure Cx (k : Nat) (w : World) (s0 : Shared) (A₀ A : Around) (base h₀ : Heap) (outer : List Env) (env : Env) (L : Addr) (h : Heap) (m mg mb : Str → Option Value) (news : List (Addr × Obj)) : Prop where
  B : Below A₀ base outer h₀
  F : Fr h₀ L h m
  X : (hd.heap_39 w.params).In h₀
  N : News h₀ L h news
  T : Top hd.view_39 (looseW hd.view_39 [Str.ofString "PostError"]) (ExcName.means s0.heap) mg mb h₀
  hA : A.frames = some (env :: outer)
  hf : env.frame = some L
  hke : env.scope.kind = .function
  hh : A.handled = none
  hd : A.depth + k ≤ 900
  hu : A.units + 20 * k ≤ 9000

abbrev ke (P : Params) (k : Str) (t : Tok) (v : Value) : DictEntry := ⟨PyData.keyHash P k, .str k t, v⟩

/-- a letter as the ledger bears it -/
structure Lt where
  (a d : Addr)
  (k1 k2 k3 k4 k5 : Tok)
  (n : Nat)
  (u : Int) (tu : Tok)
  (oc : Array UInt8) (to : Tok)
  (fl : Addr)
  (ins : Int) (ti : Tok)
  (ms : Int) (tm : Tok)
abbrev Lt.es (l : Lt) (P : Params) : List DictEntry := [ke P (Str.ofString "uid") l.k1 (.int l.u l.tu), ke P (Str.ofString "octets") l.k2 (.bytes l.oc l.to), ke P (Str.ofString "flags") l.k3 (.ref l.fl), ke P (Str.ofString "instant") l.k4 (.int l.ins l.ti), ke P (Str.ofString "modseq") l.k5 (.int l.ms l.tm)]
def Lt.In (P : Params) (led : List (Addr × Obj)) (l : Lt) : Prop := (l.a, instObj 113 l.d) ∈ led ∧ (l.d, dictOf (l.es P) l.n) ∈ led
theorem Lt.In.mono {P : Params} {led led' : List (Addr × Obj)} {l : Lt} (h : l.In P led) (hs : ∀ p ∈ led, p ∈ led') : l.In P led' := ⟨hs _ h.1, hs _ h.2⟩
abbrev refs (ls : List Lt) : List Value := ls.map fun l => .ref l.a

/-- the box's dict -/
structure Bx where
  (k1 k2 k3 k4 k5 k6 k7 : Tok)
  (t1 t2 t3 t4 t5 : Tok)
  (nx top : Int)
  (ll gl : Addr)
abbrev Bx.es (b : Bx) (P : Params) : List DictEntry := [ke P (Str.ofString "name") b.k1 (.str (Str.ofString "box") b.t1), ke P (Str.ofString "validity") b.k2 (.int 3 b.t2), ke P (Str.ofString "next_uid") b.k3 (.int b.nx b.t3), ke P (Str.ofString "top") b.k4 (.int b.top b.t4), ke P (Str.ofString "floor") b.k5 (.int 0 b.t5), ke P (Str.ofString "letters") b.k6 (.ref b.ll), ke P (Str.ofString "gone") b.k7 (.ref b.gl)]

theorem refs_at {ls : List Lt} {i : Nat} {v : Value} (h : (refs ls).toArray[i]? = some v) : ∃ l ∈ ls, v = .ref l.a ∧ ls.take (i + 1) = ls.take i ++ [l] := by
  simp only [refs, List.getElem?_toArray, List.getElem?_map, Option.map_eq_some_iff] at h
  obtain ⟨l, h1, rfl⟩ := h
  exact ⟨l, List.mem_of_getElem? h1, rfl, by rw [List.take_add_one, h1]; rfl⟩
theorem ints_snoc {ys : List Value} {us : List Int} {u : Int} {t : Tok} (h : IntsAre ys us) : IntsAre (ys ++ [.int u t]) (us ++ [u]) := IntsAre.append h (.cons u t .nil)
theorem ints_map_snoc {α} {f : α → Int} {ys : List Value} {pre pre' : List α} {a : α} {t : Tok} (h : IntsAre ys (pre.map f)) (e : pre' = pre ++ [a]) : IntsAre (ys ++ [.int (f a) t]) (pre'.map f) := by
  rw [e, List.map_append]; exact ints_snoc h

section
variable {prog : Program} {w : World} {A : Around} {h₀ : Heap} {L : Addr} {m : Str → Option Value} {env : Env} {elt : Expr} {x : Str} {scope : Scope} {cl : List (Str × Addr)} {s : Shared} {S : List (Addr × Obj) → Prop} {P : Nat → Value → Prop} {Fin : List Value → List (Addr × Obj) → Prop} {news : List (Addr × Obj)}

section
variable {s : Shared} {E : Value → Shared → Prop}
theorem len_refs {a : Addr} {ls : List Lt} {n : Nat} {Q : Value → Shared → Prop} (N : News h₀ L s.heap news) (hm : (a, listOf (refs ls).toArray n) ∈ news) (hlen : ls.length ≤ 9)
    (h : Q (.int (ls.length : Int) (s.toks + 1)) { s with toks := s.toks + 1 + 1 }) : wpAny (model prog w) A (call (.builtin "len") [.ref a]) Q E s := by
  have e : ((refs ls).toArray.size : Int) = (ls.length : Int) := by rw [List.size_toArray, List.length_map]
  refine len_list (News.isList N hm) ?_ ?_
  · rw [e]; omega
  · rw [e]; exact h
theorem item_refs {value slice : Expr} {a : Addr} {ls : List Lt} {n : Nat} {k : Int} {u : Tok} {P : Params} {Q : Value → Shared → Prop} (N : News h₀ L s.heap news) (hm : (a, listOf (refs ls).toArray n) ∈ news) (hls : ∀ l ∈ ls, l.In P news) (hlen : ls.length ≤ 9)
    (h0 : 0 ≤ k) (h1 : k < (ls.length : Int)) (h : ∀ l, ls[k.toNat]? = some l → (l.a, instObj 113 l.d) ∈ news → (l.d, dictOf (l.es P) l.n) ∈ news → Q (.ref l.a) s)
    (hs : subscripted slice false (.ref a) (.int k u) = operate [.ref a, .int k u] (getItem (.ref a) (.int k u)) := by with_unfolding_all rfl) :
    wpAny (model prog w) A (subscriptTail value slice (.ref a) (.int k u)) Q E s := by
  have hlt : k.toNat < ls.length := by omega
  obtain ⟨e1, e2⟩ := hls _ (List.getElem_mem hlt)
  refine item_litK (News.isList N hm) h0 (by omega) ?_ (h _ (List.getElem?_eq_getElem hlt) e1 e2) hs
  simp only [refs, List.getElem?_map, List.getElem?_eq_getElem hlt, Option.map_some]
end

theorem take_snoc {α} {ns : List α} {i : Nat} {k : α} (hk : ns[i]? = some k) : ns.take (i + 1) = ns.take i ++ [k] := by rw [List.take_add_one, hk]; rfl
theorem ints_filter_snoc {ys : List Value} {ns : List Int} {p : Int → Bool} {i : Nat} {k : Int} {t : Tok} (h : IntsAre ys ((ns.take i).filter p)) (hk : ns[i]? = some k) (hp : p k = true) : IntsAre (ys ++ [.int k t]) ((ns.take (i + 1)).filter p) := by
  rw [take_snoc hk, List.filter_append, List.filter_cons_of_pos hp, List.filter_nil]; exact ints_snoc h
theorem ints_filter_skip {ys : List Value} {ns : List Int} {p : Int → Bool} {i : Nat} {k : Int} (h : IntsAre ys ((ns.take i).filter p)) (hk : ns[i]? = some k) (hp : p k = false) : IntsAre ys ((ns.take (i + 1)).filter p) := by
  rw [take_snoc hk, List.filter_append, List.filter_cons_of_neg (by rw [hp]; exact Bool.false_ne_true), List.filter_nil, List.append_nil]; exact h
theorem refs_snoc (ls : List Lt) (l : Lt) : refs (ls ++ [l]) = refs ls ++ [.ref l.a] := by simp only [refs, List.map_append, List.map_cons, List.map_nil]
theorem refs_at' {ls : List Lt} {i : Nat} {v : Value} (h : (refs ls).toArray[i]? = some v) : ∃ l ∈ ls, v = .ref l.a ∧ ls[i]? = some l := by
  simp only [refs, List.getElem?_toArray, List.getElem?_map, Option.map_eq_some_iff] at h
  obtain ⟨l, h1, rfl⟩ := h
  exact ⟨l, List.mem_of_getElem? h1, rfl, h1⟩
theorem refs_filter_snoc {ys : List Value} {ls : List Lt} {p : Lt → Bool} {i : Nat} {l : Lt} (h : ys = refs ((ls.take i).filter p)) (hk : ls[i]? = some l) (hp : p l = true) : ys ++ [.ref l.a] = refs ((ls.take (i + 1)).filter p) := by
  rw [take_snoc hk, List.filter_append, List.filter_cons_of_pos hp, List.filter_nil, refs, List.map_append, h]; rfl
theorem refs_filter_skip {ys : List Value} {ls : List Lt} {p : Lt → Bool} {i : Nat} {l : Lt} (h : ys = refs ((ls.take i).filter p)) (hk : ls[i]? = some l) (hp : p l = false) : ys = refs ((ls.take (i + 1)).filter p) := by
  rw [take_snoc hk, List.filter_append, List.filter_cons_of_neg (by rw [hp]; exact Bool.false_ne_true), List.filter_nil, List.append_nil]; exact h
theorem not_skip {b : Bool} {P : Prop} [Decidable P] (h : b = decide P) (hb : b = true) : (!decide P) = false := by rw [← h, hb]; rfl
theorem not_snoc {b : Bool} {P : Prop} [Decidable P] (h : b = decide P) (hb : b = false) : (!decide P) = true := by rw [← h, hb]; rfl
/-- a pair's tuple as the ledger bears it -/
def TupIn (led : List (Addr × Obj)) (v : Value) (p : Int × Int) : Prop := ∃ (a : Addr) (t1 t2 : Tok), v = .ref a ∧ (a, ({ cls := .type "tuple", data := .seq #[.int p.1 t1, .int p.2 t2] } : Obj)) ∈ led
/-- the values are the pairs' tuples -/
inductive Tups (led : List (Addr × Obj)) : List Value → List (Int × Int) → Prop
  | nil : Tups led [] []
  | cons {v p vs ps} : TupIn led v p → Tups led vs ps → Tups led (v :: vs) (p :: ps)
theorem Tups.mono {led led' : List (Addr × Obj)} {vs ps} (h : Tups led vs ps) (hs : ∀ p ∈ led, p ∈ led') : Tups led' vs ps := by
  induction h with
  | nil => exact .nil
  | cons h _ ih => obtain ⟨a, t1, t2, e, hm⟩ := h; exact .cons ⟨a, t1, t2, e, hs _ hm⟩ ih
theorem Tups.append {led : List (Addr × Obj)} {vs ps us qs} (h : Tups led vs ps) (h' : Tups led us qs) : Tups led (vs ++ us) (ps ++ qs) := by
  induction h with
  | nil => exact h'
  | cons h _ ih => exact .cons h ih
theorem Tups.length {led : List (Addr × Obj)} {vs ps} (h : Tups led vs ps) : vs.length = ps.length := by
  induction h with
  | nil => rfl
  | cons _ _ ih => simp [ih]
theorem tups_grow {own : List (Addr × Obj)} {ys : List Value} {ns : List Int} {i : Nat} {k v : Int} {a : Addr} {t1 t2 : Tok} (h : Tups own ys ((ns.take i).map fun u => (u, v))) (hk : ns[i]? = some k) :
    Tups ([(a, ({ cls := .type "tuple", data := .seq #[.int k t1, .int v t2] } : Obj))] ++ own) (ys ++ [.ref a]) ((ns.take (i + 1)).map fun u => (u, v)) := by
  rw [take_snoc hk, List.map_append]
  exact (h.mono fun p hp => List.mem_append_right _ hp).append (.cons ⟨a, t1, t2, rfl, List.mem_append_left _ (List.Mem.head _)⟩ .nil)
theorem compEnd_new {h₀ : Heap} {L I C D a : Addr} {m : Str → Option Value} {s₁ : Shared} {oI oC oD o : Obj} {S : List (Addr × Obj) → Prop} {rest : Value → List (Addr × Obj) → Prop} {y : Value} {h' : Heap} {tk : Nat} {nw : List (Addr × Obj)}
    (F : Fr h₀ L h' m) (N : News h₀ L h' ((a, o) :: (I, oI) :: (C, oC) :: (D, oD) :: nw)) (lt : ∀ q ∈ (I, oI) :: (C, oC) :: (D, oD) :: nw, @LT.lt Nat _ q.1 a) (off : LCg.Off3 I C D nw) (hS : S ((a, o) :: nw)) (r : rest y ((a, o) :: nw)) :
    LCg.CompEnd h₀ L m s₁ I oI C oC D oD S rest y { s₁ with heap := h', toks := tk } := by
  refine LCg.CompEnd.intro F N ((a, o) :: nw) (fun p hp => ?_) ⟨⟨Nat.ne_of_gt (lt _ (List.Mem.head _)), Nat.ne_of_gt (lt (C, oC) (List.Mem.tail _ (List.Mem.head _))), Nat.ne_of_gt (lt (D, oD) (List.Mem.tail _ (List.Mem.tail _ (List.Mem.head _))))⟩, off⟩ hS r
  simp only [List.mem_cons] at hp ⊢
  rcases hp with h | h | h | h | h <;> simp [h]
theorem news_lt {h₀ h : Heap} {L : Addr} {l : List (Addr × Obj)} (N : News h₀ L h l) : ∀ q ∈ l, @LT.lt Nat _ q.1 h.objs.size := fun q hq => Heap.lt_size (N q hq).1
theorem off1_mem {D : Addr} : ∀ {l : List (Addr × Obj)}, LCg.Off1 D l → ∀ p ∈ l, @Ne Nat p.1 D
  | [], _, _, h => nomatch h
  | _ :: _, x, p, h => by
    rcases List.mem_cons.mp h with rfl | h
    · exact x.1
    · exact off1_mem x.2 p h
def AllNe (d : Addr) : List (Addr × Obj) → Prop
  | [] => True
  | p :: r => @Ne Nat p.1 d ∧ AllNe d r
theorem allNe_of {d : Addr} : ∀ {l : List (Addr × Obj)}, (∀ p ∈ l, @Ne Nat p.1 d) → AllNe d l
  | [], _ => trivial
  | p :: _, h => ⟨h p (.head _), allNe_of fun q hq => h q (.tail _ hq)⟩
theorem allNe_mem {d : Addr} : ∀ {l : List (Addr × Obj)}, AllNe d l → ∀ p ∈ l, @Ne Nat p.1 d
  | [], _, _, h => nomatch h
  | _ :: _, x, p, h => by
    rcases List.mem_cons.mp h with rfl | h
    · exact x.1
    · exact allNe_mem x.2 p h
theorem off_lt {l : List (Addr × Obj)} {z d : Nat} (h : ∀ p ∈ l, @LT.lt Nat _ p.1 z) (hz : z ≤ d) : ∀ p ∈ l, p.1 ≠ d := fun p hp => Nat.ne_of_lt (Nat.lt_of_lt_of_le (h p hp) hz)
theorem allLt_mem {d : Addr} : ∀ {l : List (Addr × Obj)}, AllLt d l → ∀ p ∈ l, @LT.lt Nat _ p.1 d
  | [], _, _, h => nomatch h
  | _ :: _, x, p, h => by
    rcases List.mem_cons.mp h with rfl | h
    · exact x.1
    · exact allLt_mem x.2 p h

/-- a place where the walk stands still -/
structure Stop (p : Prop) : Prop where
  go : p
theorem stop_of {p : Prop} (h : Stop p) : p := h.go

/-- a comprehension without a test, any length: an invariant of the turn's number, what is built, the ledger -/
theorem rest_inv {n : Nat} (J : Nat → List Value → List (Addr × Obj) → Prop) (h0 : J 0 [] news)
    (turn : ∀ i v ys nw I oI C oC D m₂ h tk (E' : Value → Shared → Prop), i < n → P i v → J i ys nw → LCg.NsObj oC m₂ → m₂ x = some v → Fr h₀ L h m → News h₀ L h ((I, oI) :: (C, oC) :: (D, LCg.lst ys) :: nw) → LCg.Off3 I C D nw → ((@Ne Nat I C) ∧ (@Ne Nat I D) ∧ (@Ne Nat C D)) →
      wpAny (model prog w) A (eval elt (compEnvC scope cl C env)) (LCg.CompEnd h₀ L m { s with heap := h, toks := tk } I oI C oC D (LCg.lst ys) S (fun y nw' => J (i + 1) (ys ++ [y]) nw')) E' { s with heap := h, toks := tk })
    (fin : ∀ ys nw, J n ys nw → Fin ys nw) : LCg.CompRest prog w A h₀ L m env elt x scope cl s S P Fin n 0 [] news := by
  have key : ∀ (j i : Nat) (ys : List Value) (nw : List (Addr × Obj)), i + j = n → J i ys nw → LCg.CompRest prog w A h₀ L m env elt x scope cl s S P Fin j i ys nw := by
    intro j
    induction j with
    | zero =>
      intro i ys nw hi hy
      have e : i = n := by omega
      subst e
      exact LCg.CompRest.zero (fin ys nw hy)
    | succ j ih =>
      intro i ys nw hi hy
      refine LCg.CompRest.succ ?_
      intro v I oI C oC D m₂ h tk E' hv hC hx F N off ne
      refine wpAny_mono (turn i v ys nw I oI C oC D m₂ h tk E' (by omega) hv hy hC hx F N off ne) (fun y s₂ hq => ?_) fun _ _ e => e
      obtain ⟨h', tk', nw', e, F', N', off', hS, hj⟩ := hq
      exact ⟨h', tk', nw', e, F', N', off', hS, ih (i + 1) _ _ (by omega) hj⟩
  exact key n 0 [] news (by omega) h0

/-- the same with a test -/
theorem restT_inv {ct : Expr} {n : Nat} (J : Nat → List Value → List (Addr × Obj) → Prop) (h0 : J 0 [] news)
    (turn : ∀ i v ys nw I oI C oC D m₂ h tk (E' : Value → Shared → Prop), i < n → P i v → J i ys nw → LCg.NsObj oC m₂ → m₂ x = some v → Fr h₀ L h m → News h₀ L h ((I, oI) :: (C, oC) :: (D, LCg.lst ys) :: nw) → LCg.Off3 I C D nw → ((@Ne Nat I C) ∧ (@Ne Nat I D) ∧ (@Ne Nat C D)) →
      wpAny (model prog w) A (isTrue ct (compEnvC scope cl C env) (eval ct (compEnvC scope cl C env))) (fun ok s' => if ok = true then
        wpAny (model prog w) A (eval elt (compEnvC scope cl C env)) (LCg.CompEnd h₀ L m { s with heap := h, toks := tk } I oI C oC D (LCg.lst ys) S (fun y nw' => J (i + 1) (ys ++ [y]) nw')) E' s'
        else LCg.CompEnd h₀ L m { s with heap := h, toks := tk } I oI C oC D (LCg.lst ys) S (fun _ nw' => J (i + 1) ys nw') Value.none s') E' { s with heap := h, toks := tk })
    (fin : ∀ ys nw, J n ys nw → Fin ys nw) : LCt.CompRestT prog w A h₀ L m env ct elt x scope cl s S P Fin n 0 [] news := by
  have key : ∀ (j i : Nat) (ys : List Value) (nw : List (Addr × Obj)), i + j = n → J i ys nw → LCt.CompRestT prog w A h₀ L m env ct elt x scope cl s S P Fin j i ys nw := by
    intro j
    induction j with
    | zero =>
      intro i ys nw hi hy
      have e : i = n := by omega
      subst e
      exact LCt.CompRestT.zero (fin ys nw hy)
    | succ j ih =>
      intro i ys nw hi hy
      refine LCt.CompRestT.succ ?_
      intro v I oI C oC D m₂ h tk E' hv hC hx F N off ne
      refine wpAny_mono (turn i v ys nw I oI C oC D m₂ h tk E' (by omega) hv hy hC hx F N off ne) (fun ok s₂ hq => ?_) fun _ _ e => e
      cases ok with
      | true =>
        simp only [if_true] at hq ⊢
        refine wpAny_mono hq (fun y s₃ h₃ => ?_) fun _ _ e => e
        obtain ⟨h', tk', nw', e, F', N', off', hS, hj⟩ := h₃
        exact ⟨h', tk', nw', e, F', N', off', hS, ih (i + 1) _ _ (by omega) hj⟩
      | false =>
        simp only [Bool.false_eq_true, if_false] at hq ⊢
        obtain ⟨h', tk', nw', e, F', N', off', hS, hj⟩ := hq
        exact ⟨h', tk', nw', e, F', N', off', hS, ih (i + 1) _ _ (by omega) hj⟩
  exact key n 0 [] news (by omega) h0

theorem rest_same {n : Nat} (J : Nat → List Value → Prop) (h0 : J 0 [])
    (turn : ∀ i v ys I oI C oC D m₂ h tk (E' : Value → Shared → Prop), i < n → P i v → J i ys → LCg.NsObj oC m₂ → m₂ x = some v → Fr h₀ L h m → News h₀ L h ((I, oI) :: (C, oC) :: (D, LCg.lst ys) :: news) → LCg.Off3 I C D news → ((@Ne Nat I C) ∧ (@Ne Nat I D) ∧ (@Ne Nat C D)) →
      wpAny (model prog w) A (eval elt (compEnvC scope cl C env)) (LCg.CompEnd h₀ L m { s with heap := h, toks := tk } I oI C oC D (LCg.lst ys) S (fun y nw' => nw' = news ∧ J (i + 1) (ys ++ [y]))) E' { s with heap := h, toks := tk })
    (fin : ∀ ys, J n ys → Fin ys news) : LCg.CompRest prog w A h₀ L m env elt x scope cl s S P Fin n 0 [] news :=
  rest_inv (fun i ys nw => nw = news ∧ J i ys) ⟨rfl, h0⟩ (fun i v ys nw I oI C oC D m₂ h tk E' hi hv ⟨e, hj⟩ hC hx F N off ne => by subst e; exact turn i v ys I oI C oC D m₂ h tk E' hi hv hj hC hx F N off ne)
    (fun ys nw ⟨e, hj⟩ => by subst e; exact fin ys hj)
theorem restT_same {ct : Expr} {n : Nat} (J : Nat → List Value → Prop) (h0 : J 0 [])
    (turn : ∀ i v ys I oI C oC D m₂ h tk (E' : Value → Shared → Prop), i < n → P i v → J i ys → LCg.NsObj oC m₂ → m₂ x = some v → Fr h₀ L h m → News h₀ L h ((I, oI) :: (C, oC) :: (D, LCg.lst ys) :: news) → LCg.Off3 I C D news → ((@Ne Nat I C) ∧ (@Ne Nat I D) ∧ (@Ne Nat C D)) →
      wpAny (model prog w) A (isTrue ct (compEnvC scope cl C env) (eval ct (compEnvC scope cl C env))) (fun ok s' => if ok = true then
        wpAny (model prog w) A (eval elt (compEnvC scope cl C env)) (LCg.CompEnd h₀ L m { s with heap := h, toks := tk } I oI C oC D (LCg.lst ys) S (fun y nw' => nw' = news ∧ J (i + 1) (ys ++ [y]))) E' s'
        else LCg.CompEnd h₀ L m { s with heap := h, toks := tk } I oI C oC D (LCg.lst ys) S (fun _ nw' => nw' = news ∧ J (i + 1) ys) Value.none s') E' { s with heap := h, toks := tk })
    (fin : ∀ ys, J n ys → Fin ys news) : LCt.CompRestT prog w A h₀ L m env ct elt x scope cl s S P Fin n 0 [] news :=
  restT_inv (fun i ys nw => nw = news ∧ J i ys) ⟨rfl, h0⟩ (fun i v ys nw I oI C oC D m₂ h tk E' hi hv ⟨e, hj⟩ hC hx F N off ne => by subst e; exact turn i v ys I oI C oC D m₂ h tk E' hi hv hj hC hx F N off ne)
    (fun ys nw ⟨e, hj⟩ => by subst e; exact fin ys hj)

theorem rest_grow {n : Nat} (J : Nat → List Value → List (Addr × Obj) → Prop) (h0 : J 0 [] [])
    (turn : ∀ i v ys own nw I oI C oC D m₂ h tk (E' : Value → Shared → Prop), i < n → P i v → J i ys own → nw = own ++ news → (∀ p ∈ news, p ∈ nw) → LCg.NsObj oC m₂ → m₂ x = some v → Fr h₀ L h m → News h₀ L h ((I, oI) :: (C, oC) :: (D, LCg.lst ys) :: nw) → LCg.Off3 I C D nw → ((@Ne Nat I C) ∧ (@Ne Nat I D) ∧ (@Ne Nat C D)) →
      wpAny (model prog w) A (eval elt (compEnvC scope cl C env)) (LCg.CompEnd h₀ L m { s with heap := h, toks := tk } I oI C oC D (LCg.lst ys) S (fun y nw' => ∃ own', nw' = own' ++ nw ∧ (∀ p ∈ own', ∀ q ∈ news, @LT.lt Nat _ q.1 p.1) ∧ J (i + 1) (ys ++ [y]) (own' ++ own))) E' { s with heap := h, toks := tk })
    (fin : ∀ ys own nw, nw = own ++ news → (∀ p ∈ own, ∀ q ∈ news, @LT.lt Nat _ q.1 p.1) → J n ys own → Fin ys nw) : LCg.CompRest prog w A h₀ L m env elt x scope cl s S P Fin n 0 [] news := by
  refine rest_inv (fun i ys nw => ∃ own, nw = own ++ news ∧ (∀ p ∈ own, ∀ q ∈ news, @LT.lt Nat _ q.1 p.1) ∧ J i ys own) ⟨[], rfl, (fun p hp => nomatch hp), h0⟩ ?_ ?_
  · rintro i v ys nw I oI C oC D m₂ h tk E' hi hv ⟨own, e, ho, hj⟩ hC hx F N off ne
    refine wpAny_mono (turn i v ys own nw I oI C oC D m₂ h tk E' hi hv hj e (fun p hp => by rw [e]; exact List.mem_append_right _ hp) hC hx F N off ne) (fun y s₂ hq => ?_) fun _ _ e => e
    obtain ⟨h', tk', nw', e1, F', N', off', hS, own', e2, ho', hj'⟩ := hq
    refine ⟨h', tk', nw', e1, F', N', off', hS, own' ++ own, by rw [e2, e, List.append_assoc], fun p hp => ?_, hj'⟩
    rcases List.mem_append.mp hp with hp | hp
    · exact ho' p hp
    · exact ho p hp
  · rintro ys nw ⟨own, e, ho, hj⟩
    exact fin ys own nw e ho hj
end
end Mine
namespace Mine
local macro_rules | `(tactic| k_room) => `(tactic| ((try simp only [depth_under_make, depth_under_kw, depth_in1, depth_deeper, depth_caller]); (try dsimp only); (show _ < 1000); omega))
local macro_rules | `(tactic| k_units) => `(tactic| ((try simp only [units_deeper, units_in1, units_under_make, units_caller]); (try dsimp only); (show _ < 9900); omega))
local macro_rules | `(tactic| k_mem) => `(tactic| first | exact List.Mem.head _ | with_reducible assumption | (refine List.mem_cons_of_mem _ ?_; k_mem))
local macro_rules | `(tactic| k_enter) => `(tactic| (refine' code_def ?k1 ?k2 ?k3 ?k4 ?k5 ?kA ?kF ?kK ?k6 ?k7 ?k8 ?k9 ?kB ?_ ?c2 ?c3 ?c4 ?c5; (case kA => exact rfl); (case kF => first | exact rfl | assumption); (case kK => first | exact rfl | assumption); (case k1 => k_asm); (case k2 => k_asm); (case k3 => k_asm); (case k4 => k_asm); (case k5 => k_asm); (case k6 => k_is); (case k7 => k_is); (case k8 => k_room); (case k9 => first | exact BindsTo.of_eq rfl | exact binds_K (by k_in) rfl (by k_is) rfl rfl rfl | fail "k_enter: no rule for these arguments"); (case c5 => decide); (case kB => exact locs rfl); (case c2 => exact rfl); (case c3 => exact rfl); (case c4 => exact rfl); k_whole; intro g' L' h' FG' F' N' B' X' T'; (try dsimp only); (try k_lift B'); (try k_fold)))
local macro_rules | `(tactic| k_all) => `(tactic| first | assumption | exact off_lt (by assumption) (by omega))
section
local macro_rules | `(tactic| walk_at "eval ListComp") => `(tactic| (k_here; (with_reducible show wpAny _ _ (eval (Expr.ListComp _ [⟨_, _, [], _⟩] _ _) _) _ _ _); with_reducible refine LCg.ListComp_U (F₀ := by with_unfolding_all assumption) (by with_unfolding_all rfl) (by decide) (by with_unfolding_all rfl) (by decide) (by with_unfolding_all rfl) ?_ (by intro _; with_unfolding_all rfl)))

set_option maxRecDepth 100000 in
set_option maxHeartbeats 8000000 in
theorem uids_ok {w : World} {s0 : Shared} {A₀ A : Around} {base h₀ : Heap} {outer : List Env} {env : Env} {L : Addr} {m mg mb : Str → Option Value} {news : List (Addr × Obj)} {E : Value → Shared → Prop} {Q : Value → Shared → Prop} {s : Shared} {bx bd : Addr} {b : Bx} {n : Nat} {ls : List Lt} :
    Cx 2 w s0 A₀ A base h₀ outer env L s.heap m mg mb news → (bx, instObj 151 bd) ∈ news → (bd, dictOf (b.es w.params) 7) ∈ news → (b.ll, listOf (refs ls).toArray n) ∈ news → (∀ l ∈ ls, l.In w.params news) → ls.length ≤ 9 →
    (∀ D ys h' tk', Fr h₀ L h' m → News h₀ L h' ((D, LCg.lst ys) :: news) → IntsAre ys (ls.map Lt.u) → LCg.Off1 D news → Q (.ref D) { s with heap := h', toks := tk' }) →
    wpAny (model prg w) A (call (.ref 143) [.ref bx]) Q E s := by
  w_top off
  have _ : (PySem.Challenge.rw_nz0284_01 = PySem.Challenge.rw_nz0284_01) ∧ (hd.heap_39 = hd.heap_39) := by k_fill; exact ⟨rfl, rfl⟩
  rintro ⟨B, F, X, N, T, hA, hf, hke, hh, hd, hu⟩ h1 h2 h3 hls hlen hQ
  obtain ⟨hdl, dep, frs, gds, un⟩ := A
  dsimp only at hA hh hd hu
  subst hA hh
  refine wpAny_mono (?_ : wpAny _ _ _ (fun v s' => Stop (Q v s')) E _) (fun _ _ h => h.go) (fun _ _ e => e)
  refine wpAny_call ?_
  w_strict k_enter
  w_strict k_steps
  refine LCg.CompSrc.ledger rfl (by assumption) (by assumption) h3 (by rw [List.size_toArray, List.length_map]; exact Nat.le_trans hlen (by decide)) ?_
  intro g'
  refine rest_inv (fun i ys nw => nw = news ∧ IntsAre ys ((ls.take i).map Lt.u)) ⟨rfl, .nil⟩ ?_ ?_
  · rintro i v ys nw I oI C oC D m₂ h tk E' hi hv ⟨rfl, hy⟩ hC hx F' N' off ne
    obtain ⟨l, hl, rfl, hs⟩ := refs_at hv
    obtain ⟨e1, e2⟩ := hls l hl
    clear hi hv
    w_strict k_steps
    exact LCg.CompEnd.intro (by assumption) (by assumption) nw (fun p hp => hp) off (.inr ⟨_, h3, rfl, _, rfl⟩) ⟨rfl, ints_map_snoc hy hs⟩
  · rintro ys nw ⟨rfl, hy⟩
    rw [List.size_toArray, List.length_map, List.take_length] at hy
    w_strict k_steps
    exact ⟨hQ _ _ _ _ (by assumption) (by assumption) hy (by assumption)⟩
end
section
local macro_rules | `(tactic| walk_at "eval Name") => `(tactic| (k_here; k_dflt (refine' ld ?k1 ?k2 ?_; (case k1 => k_asm); (case k2 => assumption); k_whole)))

local macro_rules | `(tactic| walk_at "call builtin:len") => `(tactic| (k_here; k_dflt (refine' len_refs ?k1 ?k2 ?k3 ?_; (case k1 => k_asm); (case k2 => k_mem); (case k3 => assumption); k_whole)))
local macro_rules | `(tactic| walk_at "subscriptTail") => `(tactic| (k_here; (with_reducible show wpAny _ _ (subscriptTail _ _ (Value.ref _) (Value.int _ _)) _ _ _); k_dflt (refine' item_refs ?k1 ?k2 ?k3 ?k4 ?k5 ?k6 ?_ ?k8; (case k8 => with_unfolding_all rfl); (case k1 => k_asm); (case k2 => k_mem); (case k3 => assumption); (case k4 => assumption); (case k5 => omega); (case k6 => omega); k_whole); intro l hl e1 e2))

def Pl (ls : List Lt) (uid r : Int) : Prop := (∃ (i : Nat) (l : Lt), ls[i]? = some l ∧ l.u = uid ∧ r = (i : Int)) ∨ ((∀ l ∈ ls, l.u ≠ uid) ∧ r = -1)

local macro_rules | `(tactic| walk_at "exec While Compare cons nil") => `(tactic| refine Stop.go ?_)
local macro_rules | `(tactic| walk_at "exec While") => `(tactic| refine Stop.go ?_)

def PInv (ls : List Lt) (uid lo hi : Int) : Prop := 0 ≤ lo ∧ lo ≤ hi ∧ hi ≤ (ls.length : Int) ∧ ∀ (i : Nat) (l : Lt), ls[i]? = some l → ((i : Int) < lo → l.u < uid) ∧ (hi ≤ (i : Int) → uid ≤ l.u)
theorem PInv.start {ls : List Lt} {uid : Int} : PInv ls uid 0 (ls.length : Int) := by
  refine ⟨Int.le_refl _, by omega, Int.le_refl _, fun i l h => ⟨by omega, fun h' => ?_⟩⟩
  have := (List.getElem?_eq_some_iff.mp h).1
  omega

theorem sorted_at {ls : List Lt} (hs : (ls.map Lt.u).Pairwise (· < ·)) {i j : Nat} {x y : Lt} (hi : ls[i]? = some x) (hj : ls[j]? = some y) (h : i < j) : x.u < y.u := by
  obtain ⟨h1, rfl⟩ := List.getElem?_eq_some_iff.mp hi
  obtain ⟨h2, rfl⟩ := List.getElem?_eq_some_iff.mp hj
  have := List.pairwise_iff_getElem.mp hs i j (by simpa using h1) (by simpa using h2) h
  simpa using this
theorem PInv.left {ls : List Lt} {uid lo hi k : Int} {l : Lt} (h : PInv ls uid lo hi) (hs : (ls.map Lt.u).Pairwise (· < ·)) (h1 : lo ≤ k) (h2 : k < hi) (hl : ls[k.toNat]? = some l) (hu : l.u < uid) : PInv ls uid (k + 1) hi := by
  obtain ⟨b1, b2, b3, b4⟩ := h
  refine ⟨by omega, by omega, b3, fun i x hx => ⟨fun hi => ?_, (b4 i x hx).2⟩⟩
  by_cases e : i = k.toNat
  · subst e; rw [hl] at hx; cases hx; exact hu
  · have : i < k.toNat := by omega
    exact Int.lt_trans (sorted_at hs hx hl this) hu
theorem PInv.right {ls : List Lt} {uid lo hi k : Int} {l : Lt} (h : PInv ls uid lo hi) (hs : (ls.map Lt.u).Pairwise (· < ·)) (h1 : lo ≤ k) (h2 : k < hi) (hl : ls[k.toNat]? = some l) (hu : ¬ l.u < uid) : PInv ls uid lo k := by
  obtain ⟨b1, b2, b3, b4⟩ := h
  refine ⟨b1, h1, by omega, fun i x hx => ⟨(b4 i x hx).1, fun hi => ?_⟩⟩
  by_cases e : i = k.toNat
  · subst e; rw [hl] at hx; cases hx; omega
  · have : k.toNat < i := by omega
    have := sorted_at hs hl hx this
    omega
theorem Pl.hit {ls : List Lt} {uid lo : Int} {l : Lt} (h0 : 0 ≤ lo) (hl : ls[lo.toNat]? = some l) (hu : l.u = uid) : Pl ls uid lo := .inl ⟨lo.toNat, l, hl, hu, by omega⟩
theorem Pl.miss {ls : List Lt} {uid lo hi : Int} {l : Lt} (h : PInv ls uid lo hi) (he : ¬ lo < hi) (hs : (ls.map Lt.u).Pairwise (· < ·)) (hl : ls[lo.toNat]? = some l) (hu : l.u ≠ uid) : Pl ls uid (-1) := by
  obtain ⟨b1, b2, b3, b4⟩ := h
  refine .inr ⟨fun x hx => ?_, rfl⟩
  obtain ⟨i, hi⟩ := List.getElem?_of_mem hx
  have h0 := (b4 _ _ hl).2 (by omega)
  by_cases e : i = lo.toNat
  · subst e; rw [hl] at hi; cases hi; exact hu
  · by_cases e2 : i < lo.toNat
    · have := (b4 _ _ hi).1 (by omega); omega
    · have := sorted_at hs hl hi (by omega); omega
theorem Pl.out {ls : List Lt} {uid lo hi : Int} (h : PInv ls uid lo hi) (he : ¬ lo < hi) (hn : ¬ lo < (ls.length : Int)) : Pl ls uid (-1) := by
  obtain ⟨b1, b2, b3, b4⟩ := h
  refine .inr ⟨fun x hx => ?_, rfl⟩
  obtain ⟨i, hi⟩ := List.getElem?_of_mem hx
  have := (List.getElem?_eq_some_iff.mp hi).1
  have := (b4 _ _ hi).1 (by omega)
  omega

set_option maxRecDepth 100000 in
set_option maxHeartbeats 8000000 in
theorem place_ok {w : World} {s0 : Shared} {A₀ A : Around} {base h₀ : Heap} {outer : List Env} {env : Env} {L : Addr} {m mg mb : Str → Option Value} {news : List (Addr × Obj)} {E : Value → Shared → Prop} {Q : Value → Shared → Prop} {s : Shared} {a : Addr} {n : Nat} {ls : List Lt} {uid : Int} {tu : Tok} :
    Cx 2 w s0 A₀ A base h₀ outer env L s.heap m mg mb news → (a, listOf (refs ls).toArray n) ∈ news → (∀ l ∈ ls, l.In w.params news) → ls.length ≤ 9 →
    (ls.map Lt.u).Pairwise (· < ·) →
    (∀ r t h' tk', Pl ls uid r → Fr h₀ L h' m → News h₀ L h' news → Q (.int r t) { s with heap := h', toks := tk' }) →
    wpAny (model prg w) A (call (.ref 162) [.ref a, .int uid tu]) Q E s := by
  w_top off
  have _ : (PySem.Challenge.rw_nz0284_01 = PySem.Challenge.rw_nz0284_01) ∧ (hd.heap_39 = hd.heap_39) := by k_fill; exact ⟨rfl, rfl⟩
  rintro ⟨B, F, X, N, T, hA, hf, hke, hh, hd, hu⟩ h3 hls hlen hsort hQ
  obtain ⟨hdl, dep, frs, gds, un⟩ := A
  dsimp only at hA hh hd hu
  subst hA hh
  refine wpAny_mono (?_ : wpAny _ _ _ (fun v s' => Stop (Q v s')) E _) (fun _ _ h => h.go) (fun _ _ e => e)
  refine wpAny_call ?_
  w_strict k_enter
  w_strict k_steps
  refine Stop.mk ?_
  rename News _ _ _ _ => N'
  refine While_inv (fun n m₁ nw => nw = news ∧ ∃ (lo hi : Int) (tl th : Tok), n = (hi - lo).toNat ∧ m₁ (Str.ofString "low") = some (.int lo tl) ∧ m₁ (Str.ofString "high") = some (.int hi th) ∧ m₁ (Str.ofString "letters") = some (.ref a) ∧ m₁ (Str.ofString "uid") = some (.int uid tu) ∧ PInv ls uid lo hi) (by assumption) (fun p hp => N' p (List.mem_cons_of_mem _ hp)) ⟨rfl, 0, (ls.length : Int), _, _, rfl, by rfl, by rfl, by rfl, by rfl, PInv.start⟩ ?_
  clear N'
  rintro n₁ m₁ nw h₁ tk₁ F₁ N₁ ⟨rfl, lo, hi, tl, th, rfl, hlo, hhi, hle, hui, hinv⟩
  obtain ⟨b1, b2, b3, _⟩ := id hinv
  have hmid : Int.fdiv (lo + hi) 2 = (lo + hi) / 2 := Int.fdiv_eq_ediv_of_nonneg _ (by decide)
  have m1 : lo ≤ Int.fdiv (lo + hi) 2 := by omega
  have m2 : lo < hi → Int.fdiv (lo + hi) 2 < hi := by omega
  clear hmid
  w_strict k_steps
  · exact WhileStep.intro (by assumption) (by assumption) (by omega) ⟨rfl, _, hi, _, th, rfl, by rfl, by exact hhi, by exact hle, by exact hui, PInv.left hinv hsort m1 (m2 (by assumption)) (by assumption) (by assumption)⟩
  · exact WhileStep.intro (by assumption) (by assumption) (by omega) ⟨rfl, lo, _, tl, _, rfl, by exact hlo, by rfl, by exact hle, by exact hui, PInv.right hinv hsort m1 (m2 (by assumption)) (by assumption) (by omega)⟩
  · exact ⟨hQ _ _ _ _ (Pl.hit b1 (by assumption) (by assumption)) (by assumption) (by assumption)⟩
  · exact ⟨hQ _ _ _ _ (Pl.miss hinv (by omega) hsort (by assumption) (by assumption)) (by assumption) (by assumption)⟩
  · exact ⟨hQ _ _ _ _ (Pl.out hinv (by omega) (by omega)) (by assumption) (by assumption)⟩
end
section

theorem Pl.found {ls : List Lt} {uid r : Int} (hex : ∃ l ∈ ls, l.u = uid) (h : Pl ls uid r) : 0 ≤ r ∧ r < (ls.length : Int) ∧ ∀ l, ls[r.toNat]? = some l → l.u = uid := by
  rcases h with ⟨i, l, h1, h2, rfl⟩ | ⟨h1, _⟩
  · have := (List.getElem?_eq_some_iff.mp h1).1
    refine ⟨by omega, by omega, fun x hx => ?_⟩
    rw [Int.toNat_natCast, h1] at hx
    cases hx; exact h2
  · obtain ⟨l, hl, e⟩ := hex
    exact absurd e (h1 l hl)

local macro_rules | `(tactic| walk_at "call ref") => `(tactic| (k_here; (with_reducible show wpAny _ _ (call (Value.ref 162) _ _) _ _ _); k_dflt (refine' place_ok ⟨?c1, ?c2, ?c3, ?c4, ?c5, ?c6, ?c7, ?c8, ?c9, ?c10, ?c11⟩ ?d1 ?d2 ?d3 ?d4 ?_; (case c1 => k_asm); (case c2 => k_asm); (case c3 => k_asm); (case c4 => k_asm); (case c5 => k_asm); (case c6 => rfl); (case c7 => rfl); (case c8 => rfl); (case c9 => rfl); (case c10 => (simp only [Around.deeper, Around.in1, Around.under]; omega)); (case c11 => (simp only [Around.deeper, Around.in1, Around.under]; omega)); (case d1 => k_mem); (case d2 => assumption); (case d3 => assumption); (case d4 => assumption)); intro r t h' tk' hpl F' N'))

set_option maxRecDepth 100000 in
set_option maxHeartbeats 8000000 in
theorem number_ok {w : World} {s0 : Shared} {A₀ A : Around} {base h₀ : Heap} {outer : List Env} {env : Env} {L : Addr} {m mg mb : Str → Option Value} {news : List (Addr × Obj)} {E : Value → Shared → Prop} {Q : Value → Shared → Prop} {s : Shared} {bx bd : Addr} {b : Bx} {n : Nat} {ls : List Lt} {uid : Int} {tu : Tok} :
    Cx 4 w s0 A₀ A base h₀ outer env L s.heap m mg mb news → (bx, instObj 151 bd) ∈ news → (bd, dictOf (b.es w.params) 7) ∈ news → (b.ll, listOf (refs ls).toArray n) ∈ news → (∀ l ∈ ls, l.In w.params news) → ls.length ≤ 9 →
    (ls.map Lt.u).Pairwise (· < ·) →
    (∀ r t h' tk', Pl ls uid r → Fr h₀ L h' m → News h₀ L h' news → Q (.int (r + 1) t) { s with heap := h', toks := tk' }) →
    wpAny (model prg w) A (call (.ref 169) [.ref bx, .int uid tu]) Q E s := by
  w_top off
  have _ : (PySem.Challenge.rw_nz0284_01 = PySem.Challenge.rw_nz0284_01) ∧ (hd.heap_39 = hd.heap_39) := by k_fill; exact ⟨rfl, rfl⟩
  rintro ⟨B, F, X, N, T, hA, hf, hke, hh, hd, hu⟩ h1 h2 h3 hls hlen hsort hQ
  obtain ⟨hdl, dep, frs, gds, un⟩ := A
  dsimp only at hA hh hd hu
  subst hA hh
  refine wpAny_mono (?_ : wpAny _ _ _ (fun v s' => Stop (Q v s')) E _) (fun _ _ h => h.go) (fun _ _ e => e)
  refine wpAny_call ?_
  w_strict k_enter
  w_strict k_steps
  exact ⟨hQ _ _ _ _ (by assumption) (by assumption) (by assumption)⟩

local macro_rules | `(tactic| walk_at "call ref") => `(tactic| (k_here; (with_reducible show wpAny _ _ (call (Value.ref 162) _ _) _ _ _); k_dflt (refine' place_ok ⟨?c1, ?c2, ?c3, ?c4, ?c5, ?c6, ?c7, ?c8, ?c9, ?c10, ?c11⟩ ?d1 ?d2 ?d3 ?d4 ?_; (case c1 => k_asm); (case c2 => k_asm); (case c3 => k_asm); (case c4 => k_asm); (case c5 => k_asm); (case c6 => rfl); (case c7 => rfl); (case c8 => rfl); (case c9 => rfl); (case c10 => (simp only [Around.deeper, Around.in1, Around.under]; omega)); (case c11 => (simp only [Around.deeper, Around.in1, Around.under]; omega)); (case d1 => k_mem); (case d2 => assumption); (case d3 => assumption); (case d4 => assumption)); intro r t h' tk' hpl F' N'; (have hfd := Pl.found (by assumption) hpl); (obtain ⟨p0, p1, p2⟩ := hfd)))
local macro_rules | `(tactic| walk_at "subscriptTail") => `(tactic| (k_here; (with_reducible show wpAny _ _ (subscriptTail _ _ (Value.ref _) (Value.int _ _)) _ _ _); k_dflt (refine' item_refs ?k1 ?k2 ?k3 ?k4 ?k5 ?k6 ?_ ?k8; (case k8 => with_unfolding_all rfl); (case k1 => k_asm); (case k2 => k_mem); (case k3 => assumption); (case k4 => assumption); (case k5 => omega); (case k6 => omega); k_whole); intro l hl e1 e2))

set_option maxRecDepth 100000 in
set_option maxHeartbeats 8000000 in
theorem letter_ok {w : World} {s0 : Shared} {A₀ A : Around} {base h₀ : Heap} {outer : List Env} {env : Env} {L : Addr} {m mg mb : Str → Option Value} {news : List (Addr × Obj)} {E : Value → Shared → Prop} {Q : Value → Shared → Prop} {s : Shared} {bx bd : Addr} {b : Bx} {n : Nat} {ls : List Lt} {uid : Int} {tu : Tok} :
    Cx 4 w s0 A₀ A base h₀ outer env L s.heap m mg mb news → (bx, instObj 151 bd) ∈ news → (bd, dictOf (b.es w.params) 7) ∈ news → (b.ll, listOf (refs ls).toArray n) ∈ news → (∀ l ∈ ls, l.In w.params news) → ls.length ≤ 9 →
    (ls.map Lt.u).Pairwise (· < ·) → (∃ l ∈ ls, l.u = uid) →
    (∀ l h' tk', l ∈ ls → l.u = uid → Fr h₀ L h' m → News h₀ L h' news → Q (.ref l.a) { s with heap := h', toks := tk' }) →
    wpAny (model prg w) A (call (.ref 138) [.ref bx, .int uid tu]) Q E s := by
  have _ : (PySem.Challenge.rw_nz0284_01 = PySem.Challenge.rw_nz0284_01) ∧ (hd.heap_39 = hd.heap_39) := by k_fill; exact ⟨rfl, rfl⟩
  rintro ⟨B, F, X, N, T, hA, hf, hke, hh, hd, hu⟩ h1 h2 h3 hls hlen hsort hex hQ
  obtain ⟨hdl, dep, frs, gds, un⟩ := A
  dsimp only at hA hh hd hu
  subst hA hh
  refine wpAny_mono (?_ : wpAny _ _ _ (fun v s' => Stop (Q v s')) E _) (fun _ _ h => h.go) (fun _ _ e => e)
  refine wpAny_call ?_
  w_strict k_enter
  w_strict k_steps
  have hp2 : ∀ (r : Nat) (l : Lt), (∀ l : Lt, ls[r]? = some l → l.u = uid) → ls[r]? = some l → l.u = uid := fun _ _ h e => h _ e
  exact ⟨hQ _ _ _ (List.mem_of_getElem? (by assumption)) (hp2 _ _ (by assumption) (by assumption)) (by assumption) (by assumption)⟩
end
section

local macro_rules | `(tactic| walk_at "eval ListComp") => `(tactic| (k_here; (with_reducible show wpAny _ _ (eval (Expr.ListComp _ [⟨_, _, [], _⟩] _ _) _) _ _ _); with_reducible refine LCg.ListComp_U (F₀ := by with_unfolding_all assumption) (by with_unfolding_all rfl) (by decide) (by with_unfolding_all rfl) (by decide) (by with_unfolding_all rfl) ?_ (by intro _; with_unfolding_all rfl)))
local macro_rules | `(tactic| walk_at "eval ListComp") => `(tactic| (k_here; (with_reducible show wpAny _ _ (eval (Expr.ListComp _ [⟨_, _, [_], _⟩] _ _) _) _ _ _); with_reducible refine LCt.ListComp_T (F₀ := by with_unfolding_all assumption) (by with_unfolding_all rfl) (by decide) (by with_unfolding_all rfl) (by decide) (by with_unfolding_all rfl) ?_ (by intro _; with_unfolding_all rfl)))
local macro_rules | `(tactic| walk_at "exec Assign cons ListComp") => `(tactic| (k_here; (with_reducible show wpAny _ _ (exec (Stmt.Assign [Expr.Name _ _] (Expr.ListComp _ [⟨_, _, [], _⟩] _ _) _) _) _ _ _); with_reducible refine LCg.Assign_ListComp_U (F₀ := by with_unfolding_all assumption) (by with_unfolding_all rfl) (by with_unfolding_all rfl) (by with_unfolding_all rfl) (by decide) (by with_unfolding_all rfl) (by decide) (by with_unfolding_all rfl) (by with_unfolding_all rfl) (by with_unfolding_all rfl) ?_ (by intro _; with_unfolding_all rfl)))
local macro_rules | `(tactic| walk_at "exec Assign cons ListComp") => `(tactic| (k_here; (with_reducible show wpAny _ _ (exec (Stmt.Assign [Expr.Name _ _] (Expr.ListComp _ [⟨_, _, [_], _⟩] _ _) _) _) _ _ _); with_reducible refine LCt.Assign_ListComp_T (F₀ := by with_unfolding_all assumption) (by with_unfolding_all rfl) (by with_unfolding_all rfl) (by with_unfolding_all rfl) (by decide) (by with_unfolding_all rfl) (by decide) (by with_unfolding_all rfl) (by with_unfolding_all rfl) (by with_unfolding_all rfl) ?_ (by intro _; with_unfolding_all rfl)))
local macro_rules | `(tactic| walk_at "exec Assign cons ListComp") => `(tactic| (k_here; (with_reducible show wpAny _ _ (exec (Stmt.Assign [Expr.Attribute _ _ _] _ _) _) _ _ _); with_reducible refine plainObj_wpAny_Assign_Attribute ?_ ?_; rotate_left; with_unfolding_all rfl))
local macro_rules | `(tactic| walk_at "CompSrc") => `(tactic| refine Stop.go ?_)
local macro_rules | `(tactic| walk_at "CompSrcT") => `(tactic| refine Stop.go ?_)
local macro_rules | `(tactic| walk_at "call ref") => `(tactic| (k_here; (with_reducible show wpAny _ _ (call (Value.ref 143) _ _) _ _ _); k_dflt (refine' uids_ok ⟨?c1, ?c2, ?c3, ?c4, ?c5, ?c6, ?c7, ?c8, ?c9, ?c10, ?c11⟩ ?d1 ?d2 ?d3 ?d4 ?d5 ?_; (case c1 => k_asm); (case c2 => k_asm); (case c3 => k_asm); (case c4 => k_asm); (case c5 => k_asm); (case c6 => rfl); (case c7 => rfl); (case c8 => rfl); (case c9 => rfl); (case c10 => (simp only [depth_under_make, depth_in1, depth_deeper]; omega)); (case c11 => (simp only [units_under_make, units_in1, units_deeper]; omega)); (case d1 => k_mem); (case d2 => k_mem); (case d3 => k_mem); (case d4 => (intro l hl; exact Lt.In.mono ((by assumption : ∀ l ∈ _, Lt.In _ _ l) l hl) (by intro p hp; k_mem))); (case d5 => assumption)); intro D ys h' tk' F' N' hys o1; (try simp only [LCg.Off1, and_true] at o1)))
local macro_rules | `(tactic| walk_at "compareOp NotIn int ref") => `(tactic| (k_here; (with_reducible show wpAny _ _ (compareOp CmpOp.NotIn (Value.int _ _) (Value.ref _)) _ _ _); k_dflt (refine notin_intTab (TabAt.ofNews (by with_reducible assumption) (by k_mem) (by with_reducible assumption) (by with_reducible assumption) (by with_reducible assumption)) ?_)))
local macro_rules | `(tactic| walk_at "compareOp In int ref") => `(tactic| (k_here; (with_reducible show wpAny _ _ (compareOp CmpOp.In (Value.int _ _) (Value.ref _)) _ _ _); k_dflt (refine in_intTab (TabAt.ofNews (by with_reducible assumption) (by k_mem) (by with_reducible assumption) (by with_reducible assumption) (by with_reducible assumption)) ?_)))
local macro_rules | `(tactic| walk_at "exec For Name Name cons nil") => `(tactic| refine Stop.go ?_)
local macro_rules | `(tactic| walk_at "eval Name") => `(tactic| (k_here; k_dflt (refine' nameX_L ?F ?v ?_ ?a ?b; (case a => rfl); (case b => rfl); (case F => k_asm); (case v => ((repeat refine Eq.trans (if_neg (by decide)) ?_); with_reducible assumption)); k_whole)))

set_option maxRecDepth 100000 in
set_option maxHeartbeats 4000000 in
theorem expunge_ok {w : World} {s0 : Shared} {A₀ A : Around} {base h₀ : Heap} {outer : List Env} {env : Env} {L : Addr} {m mg mb : Str → Option Value} {rest : List (Addr × Obj)} {E : Value → Shared → Prop} {Q : Value → Shared → Prop} {s : Shared} {bx bd ua : Addr} {b : Bx} {n nu ng : Nat} {ls : List Lt} {us gs : List Value} {sm : List Int} :
    Cx 6 w s0 A₀ A base h₀ outer env L s.heap m mg mb ((bd, dictOf (b.es w.params) 7) :: rest) → (∀ p ∈ rest, p.1 ≠ bd) → (bx, instObj 151 bd) ∈ rest → (b.ll, listOf (refs ls).toArray n) ∈ rest → (b.gl, listOf gs.toArray ng) ∈ rest → (∀ l ∈ ls, l.In w.params rest) → ls.length ≤ 9 →
    (ua, listOf us.toArray nu) ∈ rest → IntsAre us sm → sm.length ≤ 20 → gs.length ≤ 100 →
    (((ls.map Lt.u).filter fun k => decide (k ∈ sm)) = [] → ∀ l' h' tk', Fr h₀ L h' m → News h₀ L h' ((l', listOf #[] 0) :: (bd, dictOf (b.es w.params) 7) :: rest) → (∀ q ∈ (bd, dictOf (b.es w.params) 7) :: rest, @Ne Nat l' q.1) → Q (.ref l') { s with heap := h', toks := tk' }) →
    (((ls.map Lt.u).filter fun k => decide (k ∈ sm)) ≠ [] → ∀ (b' : Bx) (DT : Addr) (nT nL nG : Nat) (ys ts : List Value) (own : List (Addr × Obj)) (h' : Heap) (tk' : Nat), IntsAre ys ((ls.map Lt.u).filter fun k => decide (k ∈ sm)) → Tups own ts (((ls.map Lt.u).filter fun k => decide (k ∈ sm)).map fun u => (u, b.top + 1)) →
      b'.top = b.top + 1 → b'.nx = b.nx → Fr h₀ L h' m →
      News h₀ L h' ((bd, dictOf (b'.es w.params) 7) :: (DT, listOf ys.toArray nT) :: (b'.ll, listOf (refs (ls.filter fun l => !decide (l.u ∈ sm))).toArray nL) :: (b'.gl, listOf (gs ++ ts).toArray nG) :: (own ++ rest)) →
      (∀ p ∈ (DT, listOf ys.toArray nT) :: (b'.ll, listOf (refs (ls.filter fun l => !decide (l.u ∈ sm))).toArray nL) :: (b'.gl, listOf (gs ++ ts).toArray nG) :: own, ∀ q ∈ (bd, dictOf (b.es w.params) 7) :: rest, @Ne Nat p.1 q.1) →
      Q (.ref DT) { s with heap := h', toks := tk' }) →
    wpAny (model prg w) A (call (.ref 188) [.ref bx, .ref ua]) Q E s := by
  w_top off
  have _ : (PySem.Challenge.rw_nz0284_01 = PySem.Challenge.rw_nz0284_01) ∧ (hd.heap_39 = hd.heap_39) := by k_fill; exact ⟨rfl, rfl⟩
  rintro ⟨B, F, X, N, T, hA, hf, hke, hh, hd, hu⟩ hoff h2 h3 h4 hls hlen9 h5 hus hsm hgs hQ1 hQ2
  obtain ⟨hdl, dep, frs, gds, un⟩ := A
  dsimp only at hA hh hd hu
  subst hA hh
  refine wpAny_mono (?_ : wpAny _ _ _ (fun v s' => Stop (Q v s')) E _) (fun _ _ h => h.go) (fun _ _ e => e)
  refine wpAny_call ?_
  w_strict (refine' code_defC ?k1 ?k2 ?k3 ?k4 ?k5 ?kA ?kF ?kK ?k6 ?k7 ?k8 ?k9 ?kB ?kD ?_ ?c2 ?c3 ?c4; (case kA => exact rfl); (case kF => assumption); (case kK => assumption); (case k1 => k_asm); (case k2 => k_asm); (case k3 => k_asm); (case k4 => k_asm); (case k5 => k_asm); (case k6 => k_is); (case k7 => k_is); (case k8 => k_room); (case k9 => first | exact BindsTo.of_eq rfl | exact binds_K (by k_in) rfl (by k_is) rfl rfl rfl | fail "k_enter: no rule for these arguments"); (case kB => exact rfl); (case kD => decide +kernel); (case c2 => exact rfl); (case c3 => exact rfl); (case c4 => exact rfl); k_whole; intro g' L' h' tk' cells' FG' F' N' Y' B' X' T' l1; k_cells Y'; (try simp only [List.cons_append, List.nil_append] at N'); (try dsimp only); (try k_lift B'); (try k_fold))
  rename_i o1' o2' d1' d2'
  have hlo : ∀ p ∈ rest, @LT.lt Nat _ p.1 L' := fun p hp => l1 p (List.mem_cons_of_mem _ hp)
  have hbl : @LT.lt Nat _ bd L' := l1 _ (List.mem_cons_self ..)
  clear l1
  w_strict k_steps
  refine Stop.mk ?_
  rename_i dW _ oW lo' hs' fs' hi' fi' l1 hH oC F' N' dC
  refine For_invVF F' rfl rfl ?_
  w_strict walk1
  refine iter_invNL (fun i m₁ nx => m₁ (Str.ofString "box") = some (.ref bx) ∧ m₁ (Str.ofString "uids") = some (.ref ua) ∧ ∃ o kvs D, nx = (dW, o) :: (L' + 1 + 1, o1') :: (L' + 1, oC) :: (bd, dictOf (b.es w.params) 7) :: rest ∧ o.IsDictOf (intKind prg w) kvs ∧ PyProof.V.FlatPairs PyData.int kvs D ∧ D.length ≤ i ∧ ∀ k, (Spec.lookup (.int k) D).isSome = decide (k ∈ sm.take i))
    rfl (by k_mem) hus F' N' ⟨by rfl, by rfl, oW, [], [], rfl, hi', fi', Nat.le_refl _, fun k => by simp [Spec.lookup]⟩ ?_ ?_
  · rintro i k t m₁ nx h tk own hk - hown - ⟨hb, hu', o, kvs, DD, rfl, hdo, hfl, hlen, hlk⟩ F₁ N₁
    have hoD : ∀ p ∈ rest ++ own, p.1 ≠ dW := fun p hp => (List.mem_append.mp hp).elim (fun h => Nat.ne_of_lt (allLt_mem l1.2.2.2 p h)) (fun h => hown p h dW (List.mem_cons_self ..))
    have hi20 : i < sm.length := (List.getElem?_eq_some_iff.mp hk).1
    simp only [List.cons_append] at N₁
    w_strict k_steps
    refine setItem_K PyProof.V.same_int (intKind_is _ _ _ _) (PyProof.V.Flat.bool true) F₁ N₁ (by k_updF) hdo hfl ?_ (by rw [sizeLine_eq]; omega)
    intro h2 o2 F₂ N₂ hd2 hf2
    w_strict k_steps
    refine InvEndN.intro F₂ N₂ ⟨by k_mem, by exact hb, by exact hu', o2, _, _, rfl, hd2, hf2, Nat.le_trans (PyProof.V.putD_length_le _ _ _) (by omega), fun k' => ?_⟩ rfl (fun p hp => List.mem_append_left own hp) (fun p hp => by exact List.mem_append_right (_ :: _ :: _ :: _ :: rest) hp)
    rw [isSome_lookup_putD_int, hlk, List.take_add_one, hk]
    by_cases e : k' = k <;> simp [e]
  · rintro m₁ nx h tk - ⟨hb, hu', o, kvs, DD, rfl, hdo, hfl, hlen, hlk⟩ F₁ N₁
    rw [List.take_length] at hlk
    have lo1 := lo'
    clear N' F' fi' hi' fs' hs'
    w_strict k_steps
    refine Stop.mk ?_
    rename_i D1 ys1 hH1 tk1 F1 N1 hys1 o1
    refine LCt.CompSrcT.ledger rfl F1 N1 (by k_mem) (by rw [List.size_toArray, hys1.length, List.length_map]; exact Nat.le_trans hlen9 (by decide)) ?_
    intro g9
    refine restT_inv (fun i ys nw => nw = (D1, LCg.lst ys1) :: (dW, o) :: (L' + 1 + 1, o1') :: (L' + 1, oC) :: (bd, dictOf (b.es w.params) 7) :: rest ∧ IntsAre ys (((ls.map Lt.u).take i).filter fun k => decide (k ∈ sm))) ⟨rfl, .nil⟩ ?_ ?_
    · rintro i v ys nw I oI C oC2 D m₂ h tk E' hi hv ⟨rfl, hy⟩ hC hx F' N' off ne
      obtain ⟨k, t, rfl, hk⟩ := IntsAre.at hys1 i v (by simpa using hv)
      clear hi hv
      w_strict k_steps
      · exact LCg.CompEnd.intro (by assumption) (by assumption) _ (fun p hp => hp) off (.inr ⟨_, by k_mem, rfl, _, rfl⟩) ⟨rfl, ints_filter_snoc hy hk ((hlk k).symm.trans (by assumption))⟩
      · exact LCg.CompEnd.intro (by assumption) (by assumption) _ (fun p hp => hp) off (.inr ⟨_, by k_mem, rfl, _, rfl⟩) ⟨rfl, ints_filter_skip hy hk ((hlk k).symm.trans (by first | assumption | exact Bool.eq_false_iff.mpr (by assumption)))⟩
    · rintro ys nw ⟨rfl, hy4⟩
      rw [List.size_toArray, hys1.length, List.take_length] at hy4
      intro DT hT tkT FT NT oT
      (try simp only [LCg.Off1, and_true] at oT)
      w_strict k_steps
      · rename (@LT.lt Nat _ _ _ ∧ _) => l9
        exact ⟨hQ1 (of_decide_eq_true (by assumption)) _ _ _ (by assumption) (kst_newsOf (by assumption) (by kst_allIn)) (List.forall_mem_cons.mpr ⟨by dsimp only; omega, fun q hq => Nat.ne_of_gt (allLt_mem l9.2.2.2.2.2.2.2 q hq)⟩)⟩
      · w_strict k_steps
        refine Stop.mk ?_
        rename News _ _ _ _ => N2
        refine LCt.CompSrcT.ledger rfl (by assumption) N2 (by k_mem) (by rw [List.size_toArray, List.length_map]; exact Nat.le_trans hlen9 (by decide)) ?_
        intro g8
        refine restT_same (fun i ys => ys = refs ((ls.take i).filter fun l => !decide (l.u ∈ sm))) rfl ?_ ?_
        · rintro i v ys I oI C oC2 D m₂ h tk E' hi hv hy hC hx F' N' off ne
          obtain ⟨l, hl, rfl, hk⟩ := refs_at' hv
          obtain ⟨e1, e2⟩ := hls l hl
          clear hi hv N2
          w_strict k_steps
          · exact LCg.CompEnd.intro (by assumption) (by assumption) _ (fun p hp => hp) off (.inr ⟨_, by k_mem, rfl, _, rfl⟩) ⟨rfl, refs_filter_skip hy hk (not_skip (hlk _) (by assumption))⟩
          · exact LCg.CompEnd.intro (by assumption) (by assumption) _ (fun p hp => hp) off (.inr ⟨_, by k_mem, rfl, _, rfl⟩) ⟨rfl, refs_filter_snoc hy hk (not_snoc (hlk _) (by first | assumption | exact Bool.eq_false_iff.mpr (by assumption)))⟩
        · rintro ys hy
          rw [List.size_toArray, List.length_map, List.take_length] at hy
          subst hy
          clear N2
          intro DL hL tkL FL NL oL
          (try simp only [LCg.Off1, and_true] at oL)
          w_strict k_steps
          refine Stop.mk ?_
          rename News _ _ _ _ => N3
          refine LCg.CompSrc.ledger rfl (by assumption) N3 (by k_mem) (by rw [List.size_toArray, hy4.length]; exact Nat.le_trans (List.length_filter_le _ _) (by rw [List.length_map]; exact Nat.le_trans hlen9 (by decide))) ?_
          intro g7
          refine rest_grow (fun i ys own => Tups own ys ((((ls.map Lt.u).filter fun k => decide (k ∈ sm)).take i).map fun u => (u, b.top + 1))) .nil ?_ ?_
          · rintro i v ys own nw I oI C oC2 D m₂ h tk E' hi hv hy e hsub hC hx F' N' off ne
            obtain ⟨k, t, rfl, hk⟩ := IntsAre.at hy4 i v (by simpa using hv)
            have hcell := hsub _ (List.Mem.tail _ (List.Mem.tail _ (List.Mem.tail _ (List.Mem.tail _ (List.Mem.tail _ (List.Mem.head _))))))
            have hsrc := hsub _ (List.Mem.tail _ (List.Mem.tail _ (List.Mem.head _)))
            clear hi hv N3
            rename News _ _ _ _ => N5
            have lt5 := news_lt N5
            w_strict k_steps
            exact compEnd_new (by assumption) (by assumption) lt5 off (.inr ⟨_, List.mem_cons_of_mem _ hsrc, rfl, _, rfl⟩) ⟨[_], rfl, (fun p hp q hq => by rw [List.mem_singleton.mp hp]; exact lt5 q (List.Mem.tail _ (List.Mem.tail _ (List.Mem.tail _ (hsub q hq))))), tups_grow hy hk⟩
          · rintro ys own nw e ho hy
            rw [List.size_toArray, hy4.length, List.take_length] at hy
            intro DG hG tkG FG NG oG
            have hsub := fun p hp => (by rw [e]; exact List.mem_append_right own hp : p ∈ nw)
            have hob : ∀ p ∈ own ++ rest, p.1 ≠ bd := fun p hp => (List.mem_append.mp hp).elim (fun h => Nat.ne_of_gt (ho p h (bd, _) (by k_mem))) (hoff p)
            refine (fun N9 => ?_) (kst_newsOf (l' := (bd, dictOf ?E 7) :: (DG, LCg.lst ys) :: (DL, ?o2) :: (DT, ?o3) :: (own ++ rest)) NG ?hs)
            case hs =>
              refine List.forall_mem_cons.mpr ⟨List.Mem.tail _ (hsub _ (by k_memK)), List.forall_mem_cons.mpr ⟨List.Mem.head _, List.forall_mem_cons.mpr ⟨List.Mem.tail _ (hsub _ (by k_memK)), List.forall_mem_cons.mpr ⟨List.Mem.tail _ (hsub _ (by k_memK)), fun p hp => List.Mem.tail _ ?_⟩⟩⟩⟩
              rcases List.mem_append.mp hp with h | h
              · rw [e]; exact List.mem_append_left _ h
              · exact hsub _ (by k_mem)
            clear N3 NG
            refine add_lists FG N9 (vs := gs) (ws := ys) (News.isList N9 (n := ng) (by k_mem)) (News.isList N9 (by k_mem)) ?_ (by rw [hy.length, List.length_map, sizeLine_eq]; have := List.length_filter_le (fun k => decide (k ∈ sm)) (ls.map Lt.u); rw [List.length_map] at this; omega)
            have lt9 := news_lt N9
            intro hA FA NA
            generalize hgA : hG.objs.size = dA at *
            have hbA : @LT.lt Nat _ bd dA := lt9 _ (List.Mem.head _)
            have hbG : @Ne Nat bd DG := off1_mem oG (bd, _) (hsub _ (by k_memK))
            w_strict k_steps
            rename News h₀ L _ _ => N10
            refine ⟨hQ2 (of_decide_eq_false (by assumption)) ⟨b.k1, b.k2, b.k3, b.k4, b.k5, b.k6, b.k7, b.t1, b.t2, b.t3, ?t4, b.t5, b.nx, b.top + 1, DL, dA⟩ DT ?n1 ?n2 ?n3 _ ys own _ _ hy4 hy rfl rfl (by assumption) (kst_newsOf N10 ?hs) ?ho⟩
            case hs =>
              refine List.forall_mem_cons.mpr ⟨by k_memK, List.forall_mem_cons.mpr ⟨by k_memK, List.forall_mem_cons.mpr ⟨by k_memK, List.forall_mem_cons.mpr ⟨by k_memK, fun p hp => ?_⟩⟩⟩⟩
              exact List.Mem.tail _ (List.Mem.tail _ (List.Mem.tail _ (List.Mem.tail _ (List.Mem.tail _ hp))))
            case ho =>
              have hT := off1_mem oT.2.2.2.2.2
              have hL := off1_mem oL.2.2.2.2.2.2.2
              have hO : ∀ p ∈ own, @LT.lt Nat _ bd p.1 := fun p hp => ho p hp (bd, _) (by k_memK)
              have hO' : ∀ p ∈ own, ∀ q ∈ rest, @LT.lt Nat _ q.1 p.1 := fun p hp q hq => ho p hp q (by k_mem)
              have hA' : ∀ q ∈ rest, @LT.lt Nat _ q.1 dA := fun q hq => lt9 q (List.Mem.tail _ (List.Mem.tail _ (List.Mem.tail _ (List.Mem.tail _ (List.mem_append_right _ hq)))))
              exact List.forall_mem_cons.mpr ⟨List.forall_mem_cons.mpr ⟨Ne.symm oT.2.2.2.2.1, fun q hq => Ne.symm (hT q hq)⟩, List.forall_mem_cons.mpr ⟨List.forall_mem_cons.mpr ⟨Ne.symm oL.2.2.2.2.2.2.1, fun q hq => Ne.symm (hL q hq)⟩, List.forall_mem_cons.mpr ⟨List.forall_mem_cons.mpr ⟨Nat.ne_of_gt hbA, fun q hq => Nat.ne_of_gt (hA' q hq)⟩, fun p hp => List.forall_mem_cons.mpr ⟨Nat.ne_of_gt (hO p hp), fun q hq => Nat.ne_of_gt (hO' p hp q hq)⟩⟩⟩⟩
end
section

local macro_rules | `(tactic| walk_at "call builtin:list.append") => `(tactic| (k_here; (try ktx_write); (try dsimp only [List.cons_append, List.nil_append]); (with_reducible show wpAny _ _ (call (Value.builtin _) [Value.ref _, _]) _ _ _); k_dflt (refine' append_K ?k1 ?k2 ?k3 ?_ ?z; (case k1 => k_asm); (case k2 => k_asm); (case k3 => k_upd); (case z => size_fits); k_whole); intro h' F' N'; (try k_sweep)))
theorem sorted_one {M : World} {A : Around} {E : Value → Shared → Prop} {s : Shared} {h₀ : Heap} {L : Addr} {m : Str → Option Value} {news : List (Addr × Obj)} {l : Addr} {x : Str} {t : Tok} {k : Nat} {Q : Value → Shared → Prop}
    (F : Fr h₀ L s.heap m) (N : News h₀ L s.heap news) (hm : (l, listOf [Value.str x t].toArray k) ∈ news) (hw : PyData.layable0 (.list [.str x]) = true)
    (h : ∀ h' x' t' e D, Fr h₀ L h' m → News h₀ L h' ((D, listOf [Value.str x' t'].toArray e) :: news) → (∀ q ∈ news, q.1 < D) → Q (.ref D) { s with heap := h' }) :
    wpAny (model prg M) A (call (.builtin "sorted") [.ref l]) Q E s := by
  refine sorted_N2_str F N (News.isList N hm) (PyProof.Rows.StrsAre.cons x t .nil) hw (by show 1 < 64; decide) ?_
  intro h' vs' ss' e F' N' _ hS _ _ hlen _ _
  have hlt := news_lt N
  cases hS with
  | nil => cases hlen
  | cons x' t' hr =>
    cases hr with
    | nil => exact h h' x' t' e _ F' N' (fun q hq => Nat.lt_succ_of_lt (hlt q hq))
    | cons _ _ _ => simp at hlen
local macro_rules | `(tactic| walk_at "call builtin:sorted") => `(tactic| (k_here; (with_reducible show wpAny _ _ (call (Value.builtin _) [Value.ref _]) _ _ _); k_dflt (refine' sorted_one ?F ?N ?m ?w ?_; (case F => k_asm); (case N => k_asm); (case m => k_mem); (case w => decide +kernel)); intro h' x' t' e' D' F' N' l1; (try k_lt l1)))

set_option maxRecDepth 100000 in
set_option maxHeartbeats 4000000 in
theorem flag1_ok {w : World} {s0 : Shared} {A₀ A : Around} {base h₀ : Heap} {outer : List Env} {env : Env} {L : Addr} {m mg mb : Str → Option Value} {news : List (Addr × Obj)} {E : Value → Shared → Prop} {Q : Value → Shared → Prop} {s : Shared} {fa : Addr} {nf : Nat} {tf : Tok} :
    Cx 8 w s0 A₀ A base h₀ outer env L s.heap m mg mb news → (fa, listOf [Value.str (Str.ofString "\\Seen") tf].toArray nf) ∈ news →
    (∀ ft its h' tk', Fr h₀ L h' m → News h₀ L h' ((ft, ({ cls := .type "tuple", data := .seq its 0 } : Obj)) :: news) → (∀ q ∈ news, @Ne Nat q.1 ft) → Q (.ref ft) { s with heap := h', toks := tk' }) →
    wpAny (model prg w) A (call (.ref 82) [.ref fa]) Q E s := by
  w_top off
  have _ : (PySem.Challenge.rw_nz0284_01 = PySem.Challenge.rw_nz0284_01) ∧ (hd.heap_39 = hd.heap_39) := by k_fill; exact ⟨rfl, rfl⟩
  rintro ⟨B, F, X, N, T, hA, hf, hke, hh, hd, hu⟩ hfa hQ
  obtain ⟨hdl, dep, frs, gds, un⟩ := A
  dsimp only at hA hh hd hu
  subst hA hh
  refine wpAny_mono (?_ : wpAny _ _ _ (fun v s' => Stop (Q v s')) E _) (fun _ _ h => h.go) (fun _ _ e => e)
  have N0 : ∀ h', (∀ b o, s.heap.get? b = some o → h'.get? b = some o) → News h₀ L h' news := fun h' k => News.grown N k
  have N00 : ∀ q ∈ news, s.heap.get? q.1 = some q.2 := fun q hq => (N q hq).1
  replace N : News h₀ L s.heap [(fa, listOf [Value.str (Str.ofString "\\Seen") tf].toArray nf)] := kst_newsOf N (List.forall_mem_cons.mpr ⟨hfa, fun _ hp => nomatch hp⟩)
  refine wpAny_call ?_
  refine' code_defG B F X N T rfl hf hke ?k6 ?k7 ?k8 ?k9 ?kB ?_ ?c2 ?c3 ?c4 ?c5
  case k6 => k_is
  case k7 => k_is
  case k8 => k_room
  case k9 => exact BindsTo.of_eq rfl
  case kB => exact locs rfl
  case c2 => exact rfl
  case c3 => exact rfl
  case c4 => exact rfl
  case c5 => decide
  intro g L' h1 FG F1 N1 B1 X1 T1 hG
  w_strict (try dsimp only)
  w_strict (try k_fold)
  have hE : ∀ h' m' l', Fr g L' h' m' → News g L' h' l' → (fa, listOf [Value.str (Str.ofString "\\Seen") tf].toArray nf) ∈ l' → ∀ b o, s.heap.get? b = some o → h'.get? b = some o :=
    fun h' m' l' F' N' hm => elt_after (InElt.start _) hG N F' N' (List.forall_mem_cons.mpr ⟨hm, fun _ hp => nomatch hp⟩)
  have hne : ∀ h' D o l', News g L' h' ((D, o) :: l') → (fa, listOf [Value.str (Str.ofString "\\Seen") tf].toArray nf) ∈ l' → o.cls = Value.type "tuple" → ∀ q ∈ news, @Ne Nat q.1 D := fun h' D o l' N' hm hc q hq e => by
    have hd : D ≠ fa := fun hd => by
      subst hd
      have h1 := (N' _ (List.Mem.head _)).1
      rw [(N' _ (List.Mem.tail _ hm)).1] at h1
      have h3 := (congrArg Obj.cls (Option.some.inj h1)).trans hc
      exact absurd (Value.type.inj h3) (by decide)
    have h1 := N00 q hq
    rw [show q.1 = D from e] at h1
    have h2 := hG D _ h1 (by simp [hd])
    rw [(N' (D, o) (List.Mem.head _)).2.2] at h2
    cases h2
  w_strict k_steps
  rename News g _ _ _ => NE
  rename Fr g _ _ _ => FE
  rename News h₀ _ _ _ => NQ
  refine ⟨hQ _ _ _ _ (by assumption) (List.forall_mem_cons.mpr ⟨NQ _ (List.Mem.head _), N0 _ (hE _ _ _ FE NE (by k_mem))⟩) (hne _ _ _ _ NE (by k_mem) rfl)⟩

set_option maxRecDepth 100000 in
set_option maxHeartbeats 4000000 in
theorem flag0_ok {w : World} {s0 : Shared} {A₀ A : Around} {base h₀ : Heap} {outer : List Env} {env : Env} {L : Addr} {m mg mb : Str → Option Value} {news : List (Addr × Obj)} {E : Value → Shared → Prop} {Q : Value → Shared → Prop} {s : Shared} {fa : Addr} {nf : Nat} :
    Cx 8 w s0 A₀ A base h₀ outer env L s.heap m mg mb news → (fa, listOf ([] : List Value).toArray nf) ∈ news →
    (∀ ft its h' tk', Fr h₀ L h' m → News h₀ L h' ((ft, ({ cls := .type "tuple", data := .seq its 0 } : Obj)) :: news) → (∀ q ∈ news, @Ne Nat q.1 ft) → Q (.ref ft) { s with heap := h', toks := tk' }) →
    wpAny (model prg w) A (call (.ref 82) [.ref fa]) Q E s := by
  have _ : (PySem.Challenge.rw_nz0284_01 = PySem.Challenge.rw_nz0284_01) ∧ (hd.heap_39 = hd.heap_39) := by k_fill; exact ⟨rfl, rfl⟩
  rintro ⟨B, F, X, N, T, hA, hf, hke, hh, hd, hu⟩ hfa hQ
  obtain ⟨hdl, dep, frs, gds, un⟩ := A
  dsimp only at hA hh hd hu
  subst hA hh
  refine wpAny_mono (?_ : wpAny _ _ _ (fun v s' => Stop (Q v s')) E _) (fun _ _ h => h.go) (fun _ _ e => e)
  have N0 : ∀ h', (∀ b o, s.heap.get? b = some o → h'.get? b = some o) → News h₀ L h' news := fun h' k => News.grown N k
  have N00 : ∀ q ∈ news, s.heap.get? q.1 = some q.2 := fun q hq => (N q hq).1
  replace N : News h₀ L s.heap [(fa, listOf ([] : List Value).toArray nf)] := kst_newsOf N (List.forall_mem_cons.mpr ⟨hfa, fun _ hp => nomatch hp⟩)
  refine wpAny_call ?_
  refine' code_defG B F X N T rfl hf hke ?k6 ?k7 ?k8 ?k9 ?kB ?_ ?c2 ?c3 ?c4 ?c5
  case k6 => k_is
  case k7 => k_is
  case k8 => k_room
  case k9 => exact BindsTo.of_eq rfl
  case kB => exact locs rfl
  case c2 => exact rfl
  case c3 => exact rfl
  case c4 => exact rfl
  case c5 => decide
  intro g L' h1 FG F1 N1 B1 X1 T1 hG
  w_strict (try dsimp only)
  w_strict (try k_fold)
  have hE : ∀ h' m' l', Fr g L' h' m' → News g L' h' l' → (fa, listOf ([] : List Value).toArray nf) ∈ l' → ∀ b o, s.heap.get? b = some o → h'.get? b = some o :=
    fun h' m' l' F' N' hm => elt_after (InElt.start _) hG N F' N' (List.forall_mem_cons.mpr ⟨hm, fun _ hp => nomatch hp⟩)
  have hne : ∀ h' D o l', News g L' h' ((D, o) :: l') → (fa, listOf ([] : List Value).toArray nf) ∈ l' → o.cls = Value.type "tuple" → ∀ q ∈ news, @Ne Nat q.1 D := fun h' D o l' N' hm hc q hq e => by
    have hd : D ≠ fa := fun hd => by
      subst hd
      have h1 := (N' _ (List.Mem.head _)).1
      rw [(N' _ (List.Mem.tail _ hm)).1] at h1
      have h3 := (congrArg Obj.cls (Option.some.inj h1)).trans hc
      exact absurd (Value.type.inj h3) (by decide)
    have h1 := N00 q hq
    rw [show q.1 = D from e] at h1
    have h2 := hG D _ h1 (by simp [hd])
    rw [(N' (D, o) (List.Mem.head _)).2.2] at h2
    cases h2
  w_strict k_steps
  rename News g _ _ _ => NE
  rename Fr g _ _ _ => FE
  rename News h₀ _ _ _ => NQ
  refine ⟨hQ _ _ _ _ (by assumption) (List.forall_mem_cons.mpr ⟨NQ _ (List.Mem.head _), N0 _ (hE _ _ _ FE NE (by k_mem))⟩) (hne _ _ _ _ NE (by k_mem) rfl)⟩

theorem flag_ok {w : World} {s0 : Shared} {A₀ A : Around} {base h₀ : Heap} {outer : List Env} {env : Env} {L : Addr} {m mg mb : Str → Option Value} {news : List (Addr × Obj)} {E : Value → Shared → Prop} {Q : Value → Shared → Prop} {s : Shared} {fa : Addr} {nf : Nat} {fs : List Value}
    (C : Cx 8 w s0 A₀ A base h₀ outer env L s.heap m mg mb news) (hm : (fa, listOf fs.toArray nf) ∈ news) (hfs : fs = [] ∨ ∃ tf, fs = [Value.str (Str.ofString "\\Seen") tf])
    (hQ : ∀ ft its h' tk', Fr h₀ L h' m → News h₀ L h' ((ft, ({ cls := .type "tuple", data := .seq its 0 } : Obj)) :: news) → (∀ q ∈ news, @Ne Nat q.1 ft) → Q (.ref ft) { s with heap := h', toks := tk' }) :
    wpAny (model prg w) A (call (.ref 82) [.ref fa]) Q E s := by
  rcases hfs with rfl | ⟨tf, rfl⟩
  · exact flag0_ok C hm hQ
  · exact flag1_ok C hm hQ
end
section

local macro_rules | `(tactic| walk_at "call ref") => `(tactic| (k_here; (with_reducible show wpAny _ _ (call (Value.ref 82) _ _) _ _ _); k_dflt (refine' flag_ok ⟨?c1, ?c2, ?c3, ?c4, ?c5, ?c6, ?c7, ?c8, ?c9, ?c10, ?c11⟩ ?d1 ?d2 ?_; (case c1 => k_asm); (case c2 => k_asm); (case c3 => k_asm); (case c4 => k_asm); (case c5 => k_asm); (case c6 => rfl); (case c7 => rfl); (case c8 => rfl); (case c9 => rfl); (case c10 => (simp only [Around.deeper, Around.in1, Around.under]; omega)); (case c11 => (simp only [Around.deeper, Around.in1, Around.under]; omega)); (case d1 => k_mem); (case d2 => assumption)); intro ft its h' tk' F' N' o1; (replace o1 := allNe_of o1); (simp only [AllNe, and_true] at o1)))

set_option maxRecDepth 100000 in
set_option maxHeartbeats 4000000 in
theorem add_ok {w : World} {s0 : Shared} {A₀ A : Around} {base h₀ : Heap} {outer : List Env} {env : Env} {L : Addr} {m mg mb : Str → Option Value} {rest : List (Addr × Obj)} {E : Value → Shared → Prop} {Q : Value → Shared → Prop} {s : Shared} {bx bd fa : Addr} {b : Bx} {n nf : Nat} {ls : List Lt} {oc : Array UInt8} {to ti : Tok} {ins : Int} {fs : List Value} :
    Cx 12 w s0 A₀ A base h₀ outer env L s.heap m mg mb ((bd, dictOf (b.es w.params) 7) :: (b.ll, listOf (refs ls).toArray n) :: rest) → (∀ p ∈ rest, p.1 ≠ bd) → (∀ p ∈ rest, p.1 ≠ b.ll) → @Ne Nat bd b.ll →
    (bx, instObj 151 bd) ∈ rest → (fa, listOf fs.toArray nf) ∈ rest → (fs = [] ∨ ∃ tf, fs = [Value.str (Str.ofString "\\Seen") tf]) → ls.length ≤ 8 →
    (∀ (l : Lt) (b' : Bx) (n' : Nat) (own : List (Addr × Obj)) (h' : Heap) (tk' : Nat), l.u = b.nx → l.ms = b.top + 1 → b'.nx = b.nx + 1 → b'.top = b.top + 1 → b'.ll = b.ll → b'.gl = b.gl → Fr h₀ L h' m →
      News h₀ L h' ((bd, dictOf (b'.es w.params) 7) :: (b.ll, listOf (refs (ls ++ [l])).toArray n') :: (own ++ rest)) → l.In w.params own → (∀ p ∈ own, ∀ q ∈ (bd, dictOf (b.es w.params) 7) :: (b.ll, listOf (refs ls).toArray n) :: rest, @Ne Nat p.1 q.1) → Q (.ref l.a) { s with heap := h', toks := tk' }) →
    wpAny (model prg w) A (call (.ref 183) [.ref bx, .bytes oc to, .ref fa, .int ins ti]) Q E s := by
  w_top off
  have _ : (PySem.Challenge.rw_nz0284_01 = PySem.Challenge.rw_nz0284_01) ∧ (hd.heap_39 = hd.heap_39) := by k_fill; exact ⟨rfl, rfl⟩
  rintro ⟨B, F, X, N, T, hA, hf, hke, hh, hd, hu⟩ hoff hoff2 hne hbx hfa hfs hlen hQ
  obtain ⟨hdl, dep, frs, gds, un⟩ := A
  dsimp only at hA hh hd hu
  subst hA hh
  refine wpAny_mono (?_ : wpAny _ _ _ (fun v s' => Stop (Q v s')) E _) (fun _ _ h => h.go) (fun _ _ e => e)
  refine wpAny_call ?_
  w_strict k_enter
  w_strict k_steps
  rename News h₀ _ _ _ => NQ
  simp only [List.push_toArray] at NQ
  rename @LT.lt Nat _ _ _ ∧ _ => l1
  rename @Ne Nat _ _ ∧ _ => o1
  rename @LT.lt Nat _ _ _ => l2
  refine' ⟨hQ ⟨?a, ?d, ?k1, ?k2, ?k3, ?k4, ?k5, 5, b.nx, b.t3, oc, to, ?fl, ins, ti, b.top + 1, ?tm⟩ ⟨b.k1, b.k2, b.k3, b.k4, b.k5, b.k6, b.k7, b.t1, b.t2, ?t3, ?t4, b.t5, b.nx + 1, b.top + 1, b.ll, b.gl⟩ ?n' [(?a, instObj 113 ?d), (?d, dictOf (Lt.es ⟨?a, ?d, ?k1, ?k2, ?k3, ?k4, ?k5, 5, b.nx, b.t3, oc, to, ?fl, ins, ti, b.top + 1, ?tm⟩ w.params) 5), (?fl, ?ot)] _ _ rfl rfl rfl rfl rfl rfl (by assumption) (kst_newsOf NQ ?hs) ?hin ?ho⟩
  case hs =>
    refine List.forall_mem_cons.mpr ⟨by k_memK, List.forall_mem_cons.mpr ⟨?hl, List.forall_mem_cons.mpr ⟨?h1, List.forall_mem_cons.mpr ⟨?h2, List.forall_mem_cons.mpr ⟨?h3, fun p hp => ?h4⟩⟩⟩⟩⟩
    case h1 => k_memK
    case h2 => k_memK
    case h3 => k_memK
    case hl => rw [refs_snoc]; k_memK
    case h4 => exact List.Mem.tail _ (List.Mem.tail _ (List.Mem.tail _ (List.Mem.tail _ (List.Mem.tail _ hp))))
  case hin => exact ⟨List.Mem.head _, List.Mem.tail _ (List.Mem.head _)⟩
  case ho =>
    have h1 := allLt_mem l1.2.2.2
    have h2 := allNe_mem o1.2.2
    refine List.forall_mem_cons.mpr ⟨List.forall_mem_cons.mpr ⟨Nat.ne_of_gt (Nat.lt_trans l1.2.1 l2), List.forall_mem_cons.mpr ⟨Nat.ne_of_gt (Nat.lt_trans l1.2.2.1 l2), fun q hq => Nat.ne_of_gt (Nat.lt_trans (h1 q hq) l2)⟩⟩,
      List.forall_mem_cons.mpr ⟨List.forall_mem_cons.mpr ⟨Nat.ne_of_gt l1.2.1, List.forall_mem_cons.mpr ⟨Nat.ne_of_gt l1.2.2.1, fun q hq => Nat.ne_of_gt (h1 q hq)⟩⟩,
      List.forall_mem_cons.mpr ⟨List.forall_mem_cons.mpr ⟨Ne.symm o1.1, List.forall_mem_cons.mpr ⟨Ne.symm o1.2.1, fun q hq => Ne.symm (h2 q hq)⟩⟩, fun _ hp => nomatch hp⟩⟩⟩
end
section
section
variable {prog : Program} {w : World} {A : Around} {E : Value → Shared → Prop} {s : Shared} {h₀ : Heap} {L : Addr} {env : Env} {Q : Flow → Shared → Prop}

/-- the end of a turn: all is told of the next one -/
def TurnEnd (h₀ : Heap) (L : Addr) (I : Addr) (oI : Obj) (S : List (Addr × Obj) → Prop) (J : (Str → Option Value) → List (Addr × Obj) → Prop) (s₁ : Shared) (Q : Flow → Shared → Prop) (f : Flow) (s₃ : Shared) : Prop :=
  match f with
  | .brk => Q .next s₃
  | .ret v => Q (.ret v) s₃
  | _ => ∃ h' tk' m' news', s₃ = { s₁ with heap := h', toks := tk' } ∧ Fr h₀ L h' m' ∧ News h₀ L h' ((I, oI) :: news') ∧ (∀ p ∈ news', p.1 ≠ I) ∧ S news' ∧ J m' news'

theorem forWalk {target : Expr} {body : List Stmt} {I : Addr} {fp : List Addr} {n : Nat} {P : Nat → Value → Prop} {St : Nat → Heap → Prop} {S : List (Addr × Obj) → Prop} {news : List (Addr × Obj)} {m₀ : Str → Option Value} {s₂ : Shared}
    (J : Nat → (Str → Option Value) → List (Addr × Obj) → Prop)
    (W : Walks prog w A I fp [I] n P St) (hIo : ∀ i h, St i h → ∃ o, h.get? I = some o)
    (hSt : ∀ i h h' o nw, St i h → h.get? I = some o → h'.get? I = some o → (∀ b o, h₀.get? b = some o → h'.get? b = some o) → News h₀ L h' nw → S nw → St i h')
    (hst : St 0 s₂.heap) (F : Fr h₀ L s₂.heap m₀) (N : News h₀ L s₂.heap news) (hIL : L ≠ I) (hI₀ : h₀.get? I = none) (off : ∀ p ∈ news, p.1 ≠ I) (hS : S news) (hj : J 0 m₀ news)
    (turn : ∀ i v m₁ news₁ oI h tk, i < n → P i v → J i m₁ news₁ → S news₁ → (∀ p ∈ news₁, p.1 ≠ I) → Fr h₀ L h m₁ → News h₀ L h ((I, oI) :: news₁) →
      wpAny (model prog w) A (assign target env v) (fun _ s₃ => wpAny (model prog w) A (execs body env) (TurnEnd h₀ L I oI S (J (i + 1)) { s₂ with heap := h, toks := tk } Q) E s₃) E { s₂ with heap := h, toks := tk })
    (done : ∀ m₁ news₁ h tk, J n m₁ news₁ → Fr h₀ L h m₁ → News h₀ L h news₁ → Q .next { s₂ with heap := h, toks := tk })
    (hE : PassesOwn (model prog w) A env E)
    (ht : ∀ v, letOwnedTupleGo target (.ref I) v = pure ()) :
    codeAny (model prog w) A (.forLoop target (.ref I) body [] env) (fun r s' => match r with | .ok f => Q f s' | .error e => cameBackBy (model prog w) A env E e s') s₂ := by
  refine codeAny_forLoop (fun k s' => ∃ h tk i m₁ news₁, s' = { s₂ with heap := h, toks := tk } ∧ i ≤ n ∧ k = n + 1 - i ∧ St i h ∧ Fr h₀ L h m₁ ∧ News h₀ L h news₁ ∧ (∀ p ∈ news₁, p.1 ≠ I) ∧ S news₁ ∧ J i m₁ news₁) ?_ (n + 1)
    ⟨s₂.heap, s₂.toks, 0, m₀, news, rfl, Nat.zero_le _, rfl, hst, F, N, off, hS, hj⟩ ht
  rintro k s' ⟨h, tk, i, m₁, news₁, rfl, hi, rfl, hst', F', N', off', hS', hj'⟩
  by_cases hlt : i < n
  · refine wpAny_passesOwn hE (W.item i _ _ _ hlt hst' fun v h₁ tk₁ hP hst₁ hk₁ => ?_)
    obtain ⟨oI, heI⟩ := hIo _ _ hst₁
    have F₁ : Fr h₀ L h₁ m₁ := LCg.fr_but F' hk₁ hIL hI₀
    have N₁ : News h₀ L h₁ ((I, oI) :: news₁) := List.forall_mem_cons.mpr ⟨⟨heI, Ne.symm hIL, hI₀⟩, LCg.news_but N' hk₁ off'⟩
    refine wpAny_mono (turn i v m₁ news₁ oI h₁ tk₁ hlt hP hj' hS' off' F₁ N₁) (fun _ s₃ h₃ => ?_) hE
    refine wpAny_mono h₃ (fun f s₄ h₄ => ?_) hE
    have fin : (∃ h' tk' m' news', s₄ = { s₂ with heap := h', toks := tk' } ∧ Fr h₀ L h' m' ∧ News h₀ L h' ((I, oI) :: news') ∧ (∀ p ∈ news', p.1 ≠ I) ∧ S news' ∧ J (i + 1) m' news') →
        ∃ m, m < n + 1 - i ∧ ∃ h tk j m₁ news₁, s₄ = { s₂ with heap := h, toks := tk } ∧ j ≤ n ∧ m = n + 1 - j ∧ St j h ∧ Fr h₀ L h m₁ ∧ News h₀ L h news₁ ∧ (∀ p ∈ news₁, p.1 ≠ I) ∧ S news₁ ∧ J j m₁ news₁ := by
      rintro ⟨h', tk', m', news', e, F₂, N₂, off₂, hS₂, hj₂⟩
      have N₃ : News h₀ L h' news' := fun p hp => N₂ p (List.mem_cons_of_mem _ hp)
      exact ⟨n + 1 - (i + 1), by omega, h', tk', i + 1, m', news', e, hlt, rfl, hSt _ _ _ _ _ hst₁ heI (N₂ _ (List.Mem.head _)).1 F₂.keep N₃ hS₂, F₂, N₃, off₂, hS₂, hj₂⟩
    cases f with
    | next => exact fin h₄
    | cont => exact fin h₄
    | brk => exact h₄
    | ret v => exact h₄
  · have e : i = n := by omega
    subst e
    refine wpAny_passesOwn hE (W.done _ _ _ hst' fun h₁ tk₁ hk₁ => wpAny_execs_nil ?_)
    exact done m₁ news₁ h₁ tk₁ hj' (LCg.fr_but F' hk₁ hIL hI₀) (LCg.news_but N' hk₁ off')

/-- for over a list of the ledger, any target -/
theorem forList {target : Expr} {body : List Stmt} {l : Addr} {its : Array Value} {nl : Nat} {news : List (Addr × Obj)} {m₀ : Str → Option Value}
    (J : Nat → (Str → Option Value) → List (Addr × Obj) → Prop) (hh : A.handled = none) (F : Fr h₀ L s.heap m₀) (N : News h₀ L s.heap news) (hl : (l, listOf its nl) ∈ news) (hj : J 0 m₀ news)
    (turn : ∀ i v m₁ news₁ I oI h tk, its[i]? = some v → J i m₁ news₁ → LCg.SrcAt h₀ l its news₁ → (∀ p ∈ news₁, p.1 ≠ I) → Fr h₀ L h m₁ → News h₀ L h ((I, oI) :: news₁) →
      wpAny (model prog w) A (assign target env v) (fun _ s₃ => wpAny (model prog w) A (execs body env) (TurnEnd h₀ L I oI (LCg.SrcAt h₀ l its) (J (i + 1)) { s with heap := h, toks := tk } Q) E s₃) E { s with heap := h, toks := tk })
    (done : ∀ m₁ news₁ h tk, J its.size m₁ news₁ → Fr h₀ L h m₁ → News h₀ L h news₁ → Q .next { s with heap := h, toks := tk })
    (hE : PassesOwn (model prog w) A env E) (ht : ∀ I v, letOwnedTupleGo target (.ref I) v = pure ()) :
    wpAny (model prog w) A (pyIter (.ref l)) (fun it s₂ => codeAny (model prog w) A (.forLoop target it body [] env) (fun r s' => match r with | .ok f => Q f s' | .error e => cameBackBy (model prog w) A env E e s') s₂) E s := by
  have hol : s.heap.get? l = some (listOf its nl) := (N _ hl).1
  have hls : s.heap.IsList l its := ⟨_, hol, rfl, nl, rfl⟩
  have hlt : l < s.heap.objs.size := Heap.lt_size hol
  refine wpAny_pyIter_list hls ?_
  have up : ∀ b o, s.heap.get? b = some o → (s.heap.push { cls := .type "list_iterator", data := .fields #[.ref l, .int 0 0] }).get? b = some o := fun b o e => Heap.get?_push_of_some _ e
  exact forWalk J (Walks.list hh s.heap.objs.size l (Nat.ne_of_lt hlt) its) (fun i h st => by obtain ⟨o, e, _⟩ := st.1; exact ⟨o, e⟩) LCg.list_st ⟨⟨_, Heap.get?_push_size _ rfl, rfl, rfl⟩, hls.push _⟩
    (F.keeps up) (News.grown N up) (Nat.ne_of_lt F.ns.lt) (next_is_new F) (fun p hp => Nat.ne_of_lt (Heap.lt_size (N p hp).1)) (.inr ⟨_, hl, rfl, _, rfl⟩) hj
    (fun i v m₁ news₁ oI h tk _ hP hj hS off F' N' => turn i v m₁ news₁ _ oI h tk hP hj hS off F' N') done hE (ht _)

/-- for over a range by ones, any target -/
theorem forRange {target : Expr} {body : List Stmt} {r : Addr} {a b : Int} {t u v : Tok} {n : Nat} {news : List (Addr × Obj)} {m₀ : Str → Option Value}
    (J : Nat → (Str → Option Value) → List (Addr × Obj) → Prop) (hh : A.handled = none) (F : Fr h₀ L s.heap m₀) (N : News h₀ L s.heap news) (hr : IsRange s.heap r a b 1 t u v) (hsm : Builtin.Range.small a b 1 = true) (hn : Builtin.Range.rangeSize a b 1 = ((n : Nat) : Int)) (hj : J 0 m₀ news)
    (turn : ∀ i t m₁ news₁ I oI h tk, i < n → J i m₁ news₁ → (∀ p ∈ news₁, p.1 ≠ I) → Fr h₀ L h m₁ → News h₀ L h ((I, oI) :: news₁) →
      wpAny (model prog w) A (assign target env (.int (a + (i : Int)) t)) (fun _ s₃ => wpAny (model prog w) A (execs body env) (TurnEnd h₀ L I oI (fun _ => True) (J (i + 1)) { s with heap := h, toks := tk } Q) E s₃) E { s with heap := h, toks := tk })
    (done : ∀ m₁ news₁ h tk, J n m₁ news₁ → Fr h₀ L h m₁ → News h₀ L h news₁ → Q .next { s with heap := h, toks := tk })
    (hE : PassesOwn (model prog w) A env E) (ht : ∀ I v, letOwnedTupleGo target (.ref I) v = pure ()) :
    wpAny (model prog w) A (pyIter (.ref r)) (fun it s₂ => codeAny (model prog w) A (.forLoop target it body [] env) (fun r s' => match r with | .ok f => Q f s' | .error e => cameBackBy (model prog w) A env E e s') s₂) E s := by
  refine wpAny_pyIter_range hr hsm ?_
  exact forWalk J (LCg.range_walks hh a n) (fun i h st => ⟨_, st⟩) LCg.range_st (by show IsRangeIter _ _ _ _ _; rw [hn]; simpa using Heap.get?_push_size _ rfl)
    (F.keeps fun _ _ e => Heap.get?_push_of_some _ e) (News.grown N fun _ _ e => Heap.get?_push_of_some _ e) (Nat.ne_of_lt F.ns.lt) (next_is_new F) (fun p hp => Nat.ne_of_lt (Heap.lt_size (N p hp).1)) trivial hj
    (fun i v m₁ news₁ oI h tk hi hP hj _ off F' N' => by obtain ⟨t, rfl⟩ := hP; exact turn i t m₁ news₁ _ oI h tk hi hj off F' N') done hE (ht _)

/-- where a tuple lies -/
def TupAt (ax : Addr) (its : Array Value) (nw : List (Addr × Obj)) : Prop := ∃ o, (ax, o) ∈ nw ∧ o.cls = .type "tuple" ∧ ∃ n, o.data = .seq its n
def SrcTup (prog : Program) (w : World) (A : Around) (h₀ : Heap) (L : Addr) (m : Str → Option Value) (env : Env) (ct elt : Expr) (x : Str) (scope : Scope) (cl : List (Str × Addr)) (Q : Value → Shared → Prop) (xv : Value) (s₁ : Shared) : Prop :=
  ∃ ax its news, xv = .ref ax ∧ Fr h₀ L s₁.heap m ∧ News h₀ L s₁.heap news ∧ TupAt ax its news ∧ its.size ≤ sizeLine ∧
    ∀ g, LCt.CompRestT prog w A h₀ L m env ct elt x scope cl { s₁ with heap := g } (TupAt ax its) (fun i v => its[i]? = some v) (LCg.FinE h₀ L m { s₁ with heap := g } Q) its.size 0 [] news
theorem compTup {m : Str → Option Value} {ct elt iter : Expr} {x : Str} {px : Pos} {scope : Scope} {cl : List (Str × Addr)} {pos : Pos} {Q : Value → Shared → Prop} (F₀ : Fr h₀ L s.heap m) (hh : A.handled = none)
    (hclos : closureFor scope env = pure cl) (hcell : ∀ y ∈ scope.names, y.2 ≠ .cell) (hkind : scope.kind = .function)
    (hnames : ∀ y ∈ scope.names, y.2 = .local → scope.names.lookup y.1 = some .local) (hx : scope.names.lookup x = some .local)
    (h : wpAny (model prog w) A (eval iter env) (SrcTup prog w A h₀ L m env ct elt x scope cl Q) E s)
    (hs : ∀ x, foldedSetIterable iter env x = pure x := by intro _; rfl) :
    wpAny (model prog w) A (eval (.ListComp elt [⟨.Name x px, iter, [ct], 0⟩] scope pos) env) Q E s := by
  rw [eval_ListComp]
  refine wpAny_comprehension_free (use := none) rfl hs hclos hkind hnames (wpAny_mono h (fun xv s₁ h₁ => ?_) fun _ _ e => e)
  obtain ⟨ax, its, news, rfl, F, N, ⟨o, hm, hc, k, hd⟩, hsz, R⟩ := h₁
  have hl : s₁.heap.IsTuple ax its := ⟨o, (N _ hm).1, hc, k, hd⟩
  have hlt : ax < s₁.heap.objs.size := Heap.lt_size (N _ hm).1
  refine wpAny_pyIter_tuple hl ?_
  have up : ∀ b o, s₁.heap.get? b = some o → (s₁.heap.push { cls := .type "tuple_iterator", data := .fields #[.ref ax, .int 0 0] }).get? b = some o := fun b o e => Heap.get?_push_of_some _ e
  refine LCt.block_T (S := TupAt ax its) (Walks.tuple hh s₁.heap.objs.size ax (Nat.ne_of_lt hlt) its) hsz (fun i h st => by obtain ⟨o, e, _⟩ := st.1; exact ⟨o, e⟩)
    (fun i h h' o nw st e e' k' N' S' => ⟨by obtain ⟨o', q, r⟩ := st.1; rw [e] at q; cases q; exact ⟨o, e', r⟩, by obtain ⟨o2, hm2, hc2, r2⟩ := S'; exact ⟨o2, (N' _ hm2).1, hc2, r2⟩⟩)
    hcell hkind hx ⟨⟨_, Heap.get?_push_size _ rfl, rfl, rfl⟩, hl.at fun o e => up _ _ e⟩ (fun b hb => ?_)
    (F.keeps up) (News.grown N up) (Nat.ne_of_lt F.ns.lt) (next_is_new F) (fun p hp => Nat.ne_of_lt (Heap.lt_size (N p hp).1)) ⟨o, hm, hc, k, hd⟩ (R _) ?_
  · show b < (s₁.heap.push _).objs.size
    rw [Heap.size_push]
    rcases List.mem_cons.mp hb with rfl | hb
    · exact Nat.lt_succ_self _
    · rw [List.mem_singleton.mp hb]; exact Nat.lt_succ_of_lt hlt
  · intro D C h tk m' ys news' F' N' o1 hn hC₀ hD₀ hCL hDL hCD offC fin
    refine ⟨m', hn, fun h'' hs'' => fin D h'' tk (F'.change hs'' hCL hC₀) (fun p hp => ?_) o1⟩
    refine ⟨hs''.extBut _ _ ?_ (N' p hp).1, (N' p hp).2⟩
    rcases List.mem_cons.mp hp with rfl | hp
    · exact Ne.symm hCD
    · exact offC p hp
end
end
section
def lawDef : Stmt := prg.main.body.getLast?.getD (.Pass default)
def lawBody : List Stmt := match lawDef with | .FunctionDef _ _ b _ _ _ _ _ _ _ => b | _ => []
def lawScope : Scope := match lawDef with | .FunctionDef _ _ _ _ _ _ sc _ _ _ => sc | _ => default
def forBody : Stmt → List Stmt
  | .For _ _ b _ _ => b
  | _ => []
def turnBody : List Stmt := forBody (lawBody.getD 6 (.Pass default))
abbrev lawEnv (L fa : Addr) (cd : Value) : Env := envOfC (Str.ofString "law") lawScope L fa cd
theorem ex_body : ∃ b, b = turnBody := ⟨_, rfl⟩
end
section
theorem any_mem (sm : List Int) (k : Int) : (sm.any (· == k)) = decide (k ∈ sm) := by
  rw [Bool.eq_iff_iff]; simp [List.any_eq_true]
theorem in_mem {prog : Program} {w : World} {A : Around} {E : Value → Shared → Prop} {l : Addr} {vs : List Value} {ns : List Int} {k : Int} {t : Tok} {Q : Value → Shared → Prop} {s : Shared} (hl : s.heap.IsList l vs.toArray) (hi : IntsAre vs ns)
    (h : Q (.bool (decide (k ∈ ns))) s) : wpAny (model prog w) A (compareOp .In (.int k t) (.ref l)) Q E s := in_list_ints hl hi (by rw [any_mem]; exact h)
theorem notin_mem {prog : Program} {w : World} {A : Around} {E : Value → Shared → Prop} {l : Addr} {vs : List Value} {ns : List Int} {k : Int} {t : Tok} {Q : Value → Shared → Prop} {s : Shared} (hl : s.heap.IsList l vs.toArray) (hi : IntsAre vs ns)
    (h : Q (.bool (!decide (k ∈ ns))) s) : wpAny (model prog w) A (compareOp .NotIn (.int k t) (.ref l)) Q E s := notin_list_ints hl hi (by rw [any_mem]; exact h)

theorem dat_tups {led : List (Addr × Obj)} {vs : List Value} {ps : List (Int × Int)} (h : Tups led vs ps) : DatAll led vs (ps.map fun p => Dat.tuple [.int p.1, .int p.2]) := by
  induction h with
  | nil => exact .nil
  | cons h _ ih =>
    obtain ⟨a, t1, t2, rfl, hm⟩ := h
    exact .cons (.tuple (vs := [.int _ t1, .int _ t2]) hm (.cons (.int _ _) (.cons (.int _ _) .nil))) ih
theorem tups_ok (ps : List (Int × Int)) : ∀ d ∈ ps.map (fun p => Dat.tuple [.int p.1, .int p.2]), kqdOk 8 d = true := by
  intro d hd
  obtain ⟨p, _, rfl⟩ := List.mem_map.mp hd
  rfl
section
variable {prog : Program} {w : World} {A : Around} {E : Value → Shared → Prop} {s : Shared} {h₀ : Heap} {L : Addr} {news : List (Addr × Obj)} {a b : Addr} {vs us : List Value} {ka kb : Nat} {Q : Value → Shared → Prop}
theorem ne_tups {ps : List (Int × Int)} (N : News h₀ L s.heap news) (ma : (a, listOf vs.toArray ka) ∈ news) (mb : (b, listOf us.toArray kb) ∈ news) (ha : Tups news vs ps) (hb : Tups news us ps) (hu : A.units + 64 < cLine) (h : Q (.bool false) s) :
    wpAny (model prog w) A (compareOp .NotEq (.ref a) (.ref b)) Q E s :=
  kqd_ne N ma rfl rfl (dat_tups ha) (fun _ h => h) mb rfl rfl (dat_tups hb) (fun _ h => h) (tups_ok ps) (tups_ok ps) hu (by simpa using h)
theorem ne_ints {ns : List Int} (N : News h₀ L s.heap news) (ma : (a, listOf vs.toArray ka) ∈ news) (mb : (b, listOf us.toArray kb) ∈ news) (ha : IntsAre vs ns) (hb : IntsAre us ns) (hu : A.units + 64 < cLine) (h : Q (.bool false) s) :
    wpAny (model prog w) A (compareOp .NotEq (.ref a) (.ref b)) Q E s :=
  ne_intsK (News.isList N ma) ha (News.isList N mb) hb hu (by simpa using h)
end
theorem ne_int_same {prog : Program} {w : World} {A : Around} {E : Value → Shared → Prop} {s : Shared} {x : Int} {t u : Tok} {Q : Value → Shared → Prop} (h : Q (.bool false) s) :
    wpAny (model prog w) A (compareOp .NotEq (.int x t) (.int x u)) Q E s := ne_int (by rw [bne_self_eq_false]; exact h)
theorem lt3_of {I C D d : Addr} {oI oC oD : Obj} {nw : List (Addr × Obj)} (h : @LT.lt Nat _ I d ∧ @LT.lt Nat _ C d ∧ @LT.lt Nat _ D d ∧ AllLt d nw) : ∀ q ∈ (I, oI) :: (C, oC) :: (D, oD) :: nw, @LT.lt Nat _ q.1 d :=
  List.forall_mem_cons.mpr ⟨h.1, List.forall_mem_cons.mpr ⟨h.2.1, List.forall_mem_cons.mpr ⟨h.2.2.1, allLt_mem h.2.2.2⟩⟩⟩
end
section
section
variable {prog : Program} {w : World} {A : Around} {E : Value → Shared → Prop} {s : Shared} {h₀ : Heap} {L : Addr} {env : Env} {m : Str → Option Value}

/-- a turn of a dict comprehension with int keys -/
def DTurn (prog : Program) (w : World) (A : Around) (h₀ : Heap) (L : Addr) (m : Str → Option Value) (env : Env) (kx vx : Expr) (x : Str) (scope : Scope) (cl : List (Str × Addr)) (s₂ : Shared) (S : List (Addr × Obj) → Prop) (P : Nat → Value → Prop) (n : Nat)
    (J : Nat → List (Int × Value) → List (Addr × Obj) → Prop) : Prop :=
  ∀ i v kvs nw I oI C oC D oD m₂ h tk (E' : Value → Shared → Prop), i < n → P i v → J i kvs nw → Obj.IsDictOf (intKind prog w) oD kvs → LCg.NsObj oC m₂ → m₂ x = some v → Fr h₀ L h m → News h₀ L h ((I, oI) :: (C, oC) :: (D, oD) :: nw) → LCg.Off3 I C D nw → ((@Ne Nat I C) ∧ (@Ne Nat I D) ∧ (@Ne Nat C D)) →
    wpAny (model prog w) A (eval kx (compEnvC scope cl C env)) (fun kv s₄ => wpAny (model prog w) A (eval vx (compEnvC scope cl C env)) (fun vv s₅ => ∃ k t, kv = .int k t ∧
      LCg.CompEnd h₀ L m { s₂ with heap := h, toks := tk } I oI C oC D oD S (fun y nw' => J (i + 1) (stored kvs k y) nw') vv s₅) E' s₄) E' { s₂ with heap := h, toks := tk }

theorem dictBlock {kx vx iter : Expr} {x : Str} {px : Pos} {scope : Scope} {cl : List (Str × Addr)} {pos : Pos} {s₂ : Shared} {I : Addr} {fp : List Addr} {n : Nat} {P : Nat → Value → Prop} {St : Nat → Heap → Prop} {S : List (Addr × Obj) → Prop} {news : List (Addr × Obj)}
    {RR : Value → Addr → Result → Shared → Prop} (J : Nat → List (Int × Value) → List (Addr × Obj) → Prop)
    (W : Walks prog w A I fp [I] n P St) (hsz : n ≤ sizeLine) (hIo : ∀ i h, St i h → ∃ o, h.get? I = some o)
    (hSt : ∀ i h h' o nw, St i h → h.get? I = some o → h'.get? I = some o → (∀ b o, h₀.get? b = some o → h'.get? b = some o) → News h₀ L h' nw → S nw → St i h')
    (hcell : ∀ y ∈ scope.names, y.2 ≠ .cell) (hkind : scope.kind = .function) (hx : scope.names.lookup x = some .local) (hst : St 0 s₂.heap) (hfp : ∀ b ∈ fp, b < s₂.heap.objs.size)
    (F : Fr h₀ L s₂.heap m) (N : News h₀ L s₂.heap news) (hIL : L ≠ I) (hI₀ : h₀.get? I = none) (off : ∀ p ∈ news, p.1 ≠ I) (hS : S news) (hJ0 : J 0 [] news) (hJl : ∀ i kvs nw, J i kvs nw → kvs.length ≤ i)
    (turn : DTurn prog w A h₀ L m env kx vx x scope cl s₂ S P n J)
    (hRR : ∀ D C h tk m' oD kvs news', Fr h₀ L h m → News h₀ L h ((D, oD) :: news') → LCg.Off1 D news' → h.Ns C m' → h₀.get? C = none → h₀.get? D = none → C ≠ L → D ≠ L → C ≠ D → (∀ p ∈ news', p.1 ≠ C) → J n kvs news' → Obj.IsDictOf (intKind prog w) oD kvs → RR (.ref D) C (.ok .next) { s₂ with heap := h, toks := tk }) :
    wpAny (model prog w) A newDict (fun acc s₃ => wpAny (model prog w) A (newFunctionEnv scope env.globals cl [] env.qual none .none (some env)) (fun cenv s₄ =>
      codeAny (model prog w) A (.compStart (.DictComp kx vx [⟨.Name x px, iter, [], 0⟩] scope pos) 0 (.ref I) acc { cenv with scope := relabel scope env }) (RR acc cenv.locals) s₄) E s₃) E s₂ := by
  refine wpAny_newObj_type (wpAny_newFunctionEnv hcell (by intro y hy; simp at hy) (fun h₁ hns₁ hsb₁ => ?_) hkind)
  dsimp only at hns₁ hsb₁ ⊢
  have hnew : (s₂.heap.push { cls := .type "dict", dict := none, data := .dict #[] }).DictOf (intKind prog w) s₂.heap.objs.size [] := Heap.DictOf.new s₂.heap
  generalize hH2 : s₂.heap.push { cls := .type "dict", dict := none, data := .dict #[] } = H2 at hns₁ hsb₁ hnew ⊢
  have hC : H2.objs.size = s₂.heap.objs.size + 1 := by rw [← hH2, Heap.size_push]
  have hDC : s₂.heap.objs.size ≠ H2.objs.size := by rw [hC]; exact Nat.ne_of_lt (Nat.lt_succ_self _)
  have below : ∀ b, b < s₂.heap.objs.size → b ≠ H2.objs.size ∧ b ≠ s₂.heap.objs.size := fun b hb => ⟨by rw [hC]; exact Nat.ne_of_lt (Nat.lt_succ_of_lt hb), Nat.ne_of_lt hb⟩
  have hDf : s₂.heap.objs.size ∉ fp := fun hm => Nat.lt_irrefl _ (hfp _ hm)
  have hCf : H2.objs.size ∉ fp := fun hm => by have := hfp _ hm; rw [hC] at this; exact Nat.lt_irrefl _ (Nat.lt_of_succ_lt this)
  have hIf : I ∈ fp := W.sub I (List.mem_singleton.mpr rfl)
  have hIlt : I < s₂.heap.objs.size := hfp I hIf
  have old : ∀ b o, s₂.heap.get? b = some o → h₁.get? b = some o := fun b o e => hsb₁.extBut b o (below b (Heap.lt_size e)).1 (Heap.get?_push_of_some _ (hH2 ▸ Heap.get?_push_of_some _ e))
  obtain ⟨oD₀, heD₀, hD₀d⟩ := Heap.dictOf_iff.mp (hnew.at fun o e => hsb₁.extBut _ _ hDC (Heap.get?_push_of_some _ e) : h₁.DictOf (intKind prog w) s₂.heap.objs.size [])
  have hst₁ : St 0 h₁ := W.frame _ _ _ hst fun b _ o e => old b o e
  have fresh : ∀ a, s₂.heap.objs.size ≤ a → s₂.heap.get? a = none := fun a ha => by
    cases e : s₂.heap.get? a with
    | none => rfl
    | some o' => exact absurd (Heap.lt_size e) (Nat.not_lt.mpr ha)
  have fresh₀ : ∀ a, s₂.heap.objs.size ≤ a → h₀.get? a = none := fun a ha => by
    cases e : h₀.get? a with
    | none => rfl
    | some o' => have := F.keep a o' e; rw [fresh a ha] at this; cases this
  have hD₀ : h₀.get? s₂.heap.objs.size = none := fresh₀ _ (Nat.le_refl _)
  have hC₀ : h₀.get? H2.objs.size = none := fresh₀ _ (by rw [hC]; exact Nat.le_succ _)
  have hLlt : L < s₂.heap.objs.size := F.ns.lt
  have hDL : s₂.heap.objs.size ≠ L := Ne.symm (below L hLlt).2
  have hCL : H2.objs.size ≠ L := Ne.symm (below L hLlt).1
  have hCI : I ≠ H2.objs.size := (below I hIlt).1
  have hDI : I ≠ s₂.heap.objs.size := (below I hIlt).2
  have off₀ : LCg.Off3 I H2.objs.size s₂.heap.objs.size news := LCg.Off3.of fun p hp => ⟨off p hp, (below _ (Heap.lt_size (N p hp).1)).1, (below _ (Heap.lt_size (N p hp).1)).2⟩
  have loop : ∀ s₃ : Shared, s₃ = { s₂ with heap := h₁, toks := s₂.toks + ([] : List (Str × Value)).length } →
      codeAny (model prog w) A (.compLoop (.DictComp kx vx [⟨.Name x px, iter, [], 0⟩] scope pos) 0 (.ref I) (.ref s₂.heap.objs.size) (compEnvC scope cl H2.objs.size env))
        (RR (.ref s₂.heap.objs.size) H2.objs.size) s₃ := by
    rintro s₃ rfl
    refine codeAny_compLoop_testsD
      (fun k s' => ∃ h' tk i kvs m' oD news', s' = { s₂ with heap := h', toks := tk } ∧ i ≤ n ∧ k = n + 1 - i ∧ St i h' ∧ Fr h₀ L h' m ∧ h'.Ns H2.objs.size m' ∧ News h₀ L h' ((s₂.heap.objs.size, oD) :: news') ∧ Obj.IsDictOf (intKind prog w) oD kvs ∧
        LCg.Off3 I H2.objs.size s₂.heap.objs.size news' ∧ S news' ∧ J i kvs news') ?_ (n + 1)
      ⟨h₁, _, 0, [], _, oD₀, news, rfl, Nat.zero_le _, rfl, hst₁, F.keeps old, hns₁, List.forall_mem_cons.mpr ⟨⟨heD₀, hDL, hD₀⟩, fun p hp => ⟨old _ _ (N p hp).1, (N p hp).2⟩⟩, hD₀d, off₀, hS, hJ0⟩
    rintro k s' ⟨h', tk, i, kvs, m', oD, news', rfl, hi, rfl, hst', F', hn', N', hdo, off', hS', hJ'⟩
    by_cases hlt : i < n
    · refine W.item i _ _ _ hlt hst' fun v h₂ tk₂ hPv hst₂ hk₂ => ?_
      refine wpAny_assign_Name (wpAny_storeName_local (lookup_relabel_local hx) (hn'.at' fun o e => hk₂ _ o (by simpa using Ne.symm hCI) e) (fun h₃ hn₃ hs₃ => ?_) (by simp [compEnvC, relabel, hkind]))
      refine wpAny_tests_nil ?_
      simp only [if_true]
      have hst₃ : St (i + 1) h₃ := W.frame _ _ _ hst₂ fun b hb o e => hs₃.extBut b o (fun q => hCf (by have q' : b = H2.objs.size := q; rw [← q']; exact hb)) e
      obtain ⟨oI, heI⟩ := hIo _ _ hst₃
      obtain ⟨oC, heC, hoC⟩ := LCg.ns_obj hn₃
      have F₃ : Fr h₀ L h₃ m := (LCg.fr_but F' hk₂ hIL hI₀).change hs₃ hCL hC₀
      have off3 := off'.mem
      have N₂ : News h₀ L h₂ ((s₂.heap.objs.size, oD) :: news') := LCg.news_but N' hk₂ (List.forall_mem_cons.mpr ⟨Ne.symm hDI, fun p hp => (off3 p hp).1⟩)
      have N₃ : News h₀ L h₃ ((I, oI) :: (H2.objs.size, oC) :: (s₂.heap.objs.size, oD) :: news') := by
        refine List.forall_mem_cons.mpr ⟨⟨heI, Ne.symm hIL, hI₀⟩, List.forall_mem_cons.mpr ⟨⟨heC, hCL, hC₀⟩, List.forall_mem_cons.mpr ⟨?_, fun p hp => ?_⟩⟩⟩
        · have z := N₂ _ (List.Mem.head _)
          exact ⟨hs₃.extBut _ _ hDC z.1, z.2⟩
        · have z := N₂ p (List.Mem.tail _ hp)
          exact ⟨hs₃.extBut _ _ (off3 p hp).2.1 z.1, z.2⟩
      refine wpAny_mono (turn i v kvs news' I oI H2.objs.size oC s₂.heap.objs.size oD _ h₃ _ _ hlt hPv hJ' hdo hoC (by simp) F₃ N₃ off' ⟨hCI, hDI, Ne.symm hDC⟩) (fun kv s₄ h₄ => ?_) fun _ _ e => e
      refine wpAny_mono h₄ (fun vv s₅ h₅ => ?_) fun _ _ e => e
      obtain ⟨k, t, rfl, h₆, tk₆, news₆, rfl, F₆, N₆, off₆, hS₆, hJ₆⟩ := h₅
      have zI := (N₆ (I, oI) List.mem_cons_self).1
      have zC := (N₆ (H2.objs.size, oC) (List.mem_cons_of_mem _ List.mem_cons_self)).1
      have zD := (N₆ (s₂.heap.objs.size, oD) (List.mem_cons_of_mem _ (List.mem_cons_of_mem _ List.mem_cons_self))).1
      have N₆' : News h₀ L h₆ news₆ := fun p hp => N₆ p (List.mem_cons_of_mem _ (List.mem_cons_of_mem _ (List.mem_cons_of_mem _ hp)))
      have hst₆ : St (i + 1) h₆ := hSt _ _ _ _ _ hst₃ heI zI F₆.keep N₆' hS₆
      refine wpAny_dictSet_pairs (hsz := Nat.le_trans (hJl _ _ _ hJ') (Nat.le_trans hi hsz)) (intKind_is prog w k t) (Heap.dictOf_iff.mpr ⟨oD, zD, hdo⟩) fun h₇ hd₇ hs₇ => ?_
      obtain ⟨oD', heD', hdo'⟩ := Heap.dictOf_iff.mp hd₇
      have off4 := off₆.mem
      refine ⟨n + 1 - (i + 1), by omega, h₇, _, i + 1, stored kvs k vv, _, oD', news₆, rfl, hlt, rfl, W.frame _ _ _ hst₆ fun b hb o e => hs₇.extBut b o (fun q => hDf (q ▸ hb)) e, F₆.change hs₇ hDL hD₀, (hoC.ns zC).sameBut hs₇ (Ne.symm hDC),
        List.forall_mem_cons.mpr ⟨⟨heD', hDL, hD₀⟩, fun p hp => ⟨hs₇.extBut _ _ (off4 p hp).2.2 (N₆' p hp).1, (N₆' p hp).2⟩⟩, hdo', off₆, hS₆, hJ₆⟩
    · obtain rfl : i = n := Nat.le_antisymm hi (Nat.not_lt.mp hlt)
      refine W.done _ _ _ hst' fun h₂ tk₂ hk₂ => ?_
      have off3 := off'.mem
      exact hRR _ _ h₂ tk₂ _ oD kvs news' (LCg.fr_but F' hk₂ hIL hI₀) (LCg.news_but N' hk₂ (List.forall_mem_cons.mpr ⟨Ne.symm hDI, fun p hp => (off3 p hp).1⟩)) off'.one (hn'.at' fun o e => hk₂ _ o (by simpa using Ne.symm hCI) e) hC₀ hD₀ hCL hDL (Ne.symm hDC) (fun p hp => (off3 p hp).2.1) hJ' hdo
  exact codeAny_compStart_dict (loop _ rfl) (W.self 0 _ _ _ hst₁ (loop _ rfl))

def SrcD (prog : Program) (w : World) (A : Around) (h₀ : Heap) (L : Addr) (m : Str → Option Value) (env : Env) (kx vx : Expr) (x : Str) (scope : Scope) (cl : List (Str × Addr)) (Q : Value → Shared → Prop) (xv : Value) (s₁ : Shared) : Prop :=
  ∃ ax its nl news J, xv = .ref ax ∧ Fr h₀ L s₁.heap m ∧ News h₀ L s₁.heap news ∧ (ax, listOf its nl) ∈ news ∧ its.size ≤ sizeLine ∧ J 0 [] news ∧ (∀ i kvs nw, J i kvs nw → kvs.length ≤ i) ∧
    ∀ g, DTurn prog w A h₀ L m env kx vx x scope cl { s₁ with heap := g } (LCg.SrcAt h₀ ax its) (fun i v => its[i]? = some v) its.size J ∧
      ∀ D oD kvs nw h tk, J its.size kvs nw → Obj.IsDictOf (intKind prog w) oD kvs → Fr h₀ L h m → News h₀ L h ((D, oD) :: nw) → LCg.Off1 D nw → Q (.ref D) { s₁ with heap := h, toks := tk }
theorem dictComp {kx vx iter : Expr} {x : Str} {px : Pos} {scope : Scope} {cl : List (Str × Addr)} {pos : Pos} {Q : Value → Shared → Prop} (F₀ : Fr h₀ L s.heap m) (hh : A.handled = none)
    (hclos : closureFor scope env = pure cl) (hcell : ∀ y ∈ scope.names, y.2 ≠ .cell) (hkind : scope.kind = .function)
    (hnames : ∀ y ∈ scope.names, y.2 = .local → scope.names.lookup y.1 = some .local) (hx : scope.names.lookup x = some .local)
    (h : wpAny (model prog w) A (eval iter env) (SrcD prog w A h₀ L m env kx vx x scope cl Q) E s)
    (hs : ∀ x, foldedSetIterable iter env x = pure x := by intro _; rfl) :
    wpAny (model prog w) A (eval (.DictComp kx vx [⟨.Name x px, iter, [], 0⟩] scope pos) env) Q E s := by
  rw [arm_eval_DictComp]
  refine wpAny_comprehension_free (use := none) rfl hs hclos hkind hnames (wpAny_mono h (fun xv s₁ h₁ => ?_) fun _ _ e => e)
  obtain ⟨ax, its, nl, news, J, rfl, F, N, hm, hsz, hj0, hjl, R⟩ := h₁
  have hl : s₁.heap.IsList ax its := ⟨_, (N _ hm).1, rfl, nl, rfl⟩
  have hlt : ax < s₁.heap.objs.size := Heap.lt_size (N _ hm).1
  refine wpAny_pyIter_list hl ?_
  have up : ∀ b o, s₁.heap.get? b = some o → (s₁.heap.push { cls := .type "list_iterator", data := .fields #[.ref ax, .int 0 0] }).get? b = some o := fun b o e => Heap.get?_push_of_some _ e
  obtain ⟨turn, fin⟩ := R (s₁.heap.push { cls := .type "list_iterator", data := .fields #[.ref ax, .int 0 0] })
  refine dictBlock J (Walks.list hh s₁.heap.objs.size ax (Nat.ne_of_lt hlt) its) hsz (fun i h st => by obtain ⟨o, e, _⟩ := st.1; exact ⟨o, e⟩) LCg.list_st hcell hkind hx ⟨⟨_, Heap.get?_push_size _ rfl, rfl, rfl⟩, hl.push _⟩ (fun b hb => ?_)
    (F.keeps up) (News.grown N up) (Nat.ne_of_lt F.ns.lt) (next_is_new F) (fun p hp => Nat.ne_of_lt (Heap.lt_size (N p hp).1)) (.inr ⟨_, hm, rfl, _, rfl⟩) hj0 hjl turn ?_
  · show b < (s₁.heap.push _).objs.size
    rw [Heap.size_push]
    rcases List.mem_cons.mp hb with rfl | hb
    · exact Nat.lt_succ_self _
    · rw [List.mem_singleton.mp hb]; exact Nat.lt_succ_of_lt hlt
  · intro D C h' tk m' oD kvs news' F' N' o1 hn hC₀ hD₀ hCL hDL hCD offC hj hdo
    refine ⟨m', hn, fun h'' hs'' => fin D oD kvs news' h'' tk hj hdo (F'.change hs'' hCL hC₀) (fun p hp => ?_) o1⟩
    refine ⟨hs''.extBut _ _ ?_ (N' p hp).1, (N' p hp).2⟩
    rcases List.mem_cons.mp hp with rfl | hp
    · exact Ne.symm hCD
    · exact offC p hp
end
end
section

abbrev Lt.tup (l : Lt) : List Value := [.int l.u l.tu, .bytes l.oc l.to, .ref l.fl, .int l.ins l.ti, .int l.ms l.tm]
abbrev tupObj (l : Lt) : Obj := { cls := .type "tuple", data := .seq l.tup.toArray }
def ToldIn (led : List (Addr × Obj)) (v : Value) (l : Lt) : Prop := ∃ a, v = .ref a ∧ (a, tupObj l) ∈ led
inductive Tolds (led : List (Addr × Obj)) : List Value → List Lt → Prop
  | nil : Tolds led [] []
  | cons {v l vs ls} : ToldIn led v l → Tolds led vs ls → Tolds led (v :: vs) (l :: ls)
theorem ToldIn.mono {led led' : List (Addr × Obj)} {v l} (h : ToldIn led v l) (hs : ∀ p ∈ led, p ∈ led') : ToldIn led' v l := by
  obtain ⟨a, e, hm⟩ := h; exact ⟨a, e, hs _ hm⟩
theorem Tolds.mono {led led' : List (Addr × Obj)} {vs ls} (h : Tolds led vs ls) (hs : ∀ p ∈ led, p ∈ led') : Tolds led' vs ls := by
  induction h with
  | nil => exact .nil
  | cons h _ ih => exact .cons (h.mono hs) ih
theorem Tolds.snoc {led : List (Addr × Obj)} {vs ls v l} (h : Tolds led vs ls) (h' : ToldIn led v l) : Tolds led (vs ++ [v]) (ls ++ [l]) := by
  induction h with
  | nil => exact .cons h' .nil
  | cons h _ ih => exact .cons h ih
theorem Tolds.length {led : List (Addr × Obj)} {vs ls} (h : Tolds led vs ls) : vs.length = ls.length := by
  induction h with
  | nil => rfl
  | cons _ _ ih => simp [ih]
theorem Tolds.at {led : List (Addr × Obj)} {vs ls} (h : Tolds led vs ls) : ∀ {j : Nat} {v : Value}, vs[j]? = some v → ∃ l, ls[j]? = some l ∧ ToldIn led v l := by
  induction h with
  | nil => intro j v hj; simp at hj
  | cons h _ ih =>
    intro j v hj
    cases j with
    | zero => simp at hj; subst hj; exact ⟨_, by simp, h⟩
    | succ j => simpa using ih (by simpa using hj)

section
variable {prog : Program} {w : World} {A : Around} {E : Value → Shared → Prop} {s : Shared} {h₀ : Heap} {L : Addr} {news : List (Addr × Obj)} {a b : Addr} {vs us : List Value} {ka kb : Nat} {Q : Value → Shared → Prop}
theorem told_eqAt {l : Lt} {v u : Value} (N : News h₀ L s.heap news) (hv : ToldIn news v l) (hu : ToldIn news u l) (hr : A.units < cLine) : SeqAt.EqAt A s v u true := by
  obtain ⟨a, rfl, ha⟩ := hv
  obtain ⟨b, rfl, hb⟩ := hu
  by_cases e : a = b
  · subst e; exact .same _
  · have ta : s.heap.IsTuple a l.tup.toArray := ⟨_, (N _ ha).1, rfl, _, rfl⟩
    have tb : s.heap.IsTuple b l.tup.toArray := ⟨_, (N _ hb).1, rfl, _, rfl⟩
    have := SeqAt.RcAt.tuples (A := A) (e := fun _ => true) ta tb hr (fun j h1 h2 => SeqAt.EqAt.same _)
    refine SeqAt.EqAt.of_refs e ?_
    have e5 : ((List.range (min l.tup.toArray.size l.tup.toArray.size)).all (fun _ => true) && l.tup.toArray.size == l.tup.toArray.size) = true := by rw [List.all_eq_true.mpr (fun _ _ => rfl), beq_self_eq_true]; rfl
    rw [e5] at this
    exact this
theorem ne_tolds {ls : List Lt} (N : News h₀ L s.heap news) (ma : (a, listOf vs.toArray ka) ∈ news) (mb : (b, listOf us.toArray kb) ∈ news) (ha : Tolds news vs ls) (hb : Tolds news us ls) (hu : A.units + 64 < cLine) (h : Q (.bool false) s) :
    wpAny (model prog w) A (compareOp .NotEq (.ref a) (.ref b)) Q E s := by
  have hsz : vs.toArray.size = us.toArray.size := by rw [List.size_toArray, List.size_toArray, ha.length, hb.length]
  refine SeqAt.RcNeAt.lists (e := fun _ => true) (News.isList N ma) (News.isList N mb) hsz (by omega) (fun j h1 h2 => ?_) prog w E Q ?_
  · obtain ⟨l, hl, hv⟩ := ha.at (j := j) (v := vs.toArray[j]) (by simpa using List.getElem?_eq_getElem (l := vs) (by simpa using h1))
    obtain ⟨l', hl', hu'⟩ := hb.at (j := j) (v := us.toArray[j]) (by simpa using List.getElem?_eq_getElem (l := us) (by simpa using h2))
    rw [hl] at hl'
    cases hl'
    exact told_eqAt N hv hu' (by show A.units + 1 < cLine; omega)
  · have e5 : (List.range vs.toArray.size).all (fun _ => true) = true := List.all_eq_true.mpr (fun _ _ => rfl)
    rw [e5]; exact h
end


set_option maxRecDepth 100000 in
set_option maxHeartbeats 800000 in
theorem told_ok {w : World} {s0 : Shared} {A₀ A : Around} {base h₀ : Heap} {outer : List Env} {env : Env} {L : Addr} {m mg mb : Str → Option Value} {news : List (Addr × Obj)} {E : Value → Shared → Prop} {Q : Value → Shared → Prop} {s : Shared} {l : Lt} :
    Cx 2 w s0 A₀ A base h₀ outer env L s.heap m mg mb news → l.In w.params news →
    (∀ a h' tk', Fr h₀ L h' m → News h₀ L h' ((a, tupObj l) :: news) → (∀ q ∈ news, @LT.lt Nat _ q.1 a) → Q (.ref a) { s with heap := h', toks := tk' }) →
    wpAny (model prg w) A (call (.ref 110) [.ref l.a]) Q E s := by
  w_top off
  have _ : (PySem.Challenge.rw_nz0284_01 = PySem.Challenge.rw_nz0284_01) ∧ (hd.heap_39 = hd.heap_39) := by k_fill; exact ⟨rfl, rfl⟩
  rintro ⟨B, F, X, N, T, hA, hf, hke, hh, hd, hu⟩ ⟨h1, h2⟩ hQ
  obtain ⟨hdl, dep, frs, gds, un⟩ := A
  dsimp only at hA hh hd hu
  subst hA hh
  refine wpAny_mono (?_ : wpAny _ _ _ (fun v s' => Stop (Q v s')) E _) (fun _ _ h => h.go) (fun _ _ e => e)
  have hlt := news_lt N
  refine wpAny_call ?_
  w_strict k_enter
  w_strict k_steps
  refine Stop.mk ?_
  exact (hQ _ _ _ (by assumption) (by assumption) (by assumption))
end
section
local macro_rules | `(tactic| walk_at "exec Assign cons ListComp") => `(tactic| (k_here; (with_reducible show wpAny _ _ (exec (Stmt.Assign [Expr.Name _ _] (Expr.ListComp _ _ _ _) _) _) _ _ _); k_dflt (refine wpAny_Assign_Name ?_ ?hs; (case hs => with_unfolding_all rfl))))
local macro_rules | `(tactic| walk_at "eval ListComp") => `(tactic| refine Stop.go ?_)

/-- ints between 1 and 12 -/
def Smalls : List Value → Prop
  | [] => True
  | v :: r => (∃ k t, v = .int k t ∧ 1 ≤ k ∧ k ≤ 12) ∧ Smalls r
theorem smalls_mem : ∀ {l : List Value}, Smalls l → ∀ v ∈ l, ∃ k t, v = .int k t ∧ 1 ≤ k ∧ k ≤ 12
  | [], _, _, h => nomatch h
  | _ :: _, x, v, h => by
    rcases List.mem_cons.mp h with rfl | h
    · exact x.1
    · exact smalls_mem x.2 v h
theorem smalls_at {l : List Value} {i : Nat} {v : Value} (x : Smalls l) (h : l.toArray[i]? = some v) : ∃ k t, v = .int k t ∧ 1 ≤ k ∧ k ≤ 12 := smalls_mem x v (List.mem_of_getElem? (by simpa using h))

set_option maxRecDepth 100000 in
set_option maxHeartbeats 800000 in
theorem s1_ok {w : World} {s0 : Shared} {A₀ A : Around} {base h₀ : Heap} {outer : List Env} {L fa : Addr} {cd : Value} {m mg mb : Str → Option Value} {news : List (Addr × Obj)} {E : Value → Shared → Prop} {Q : Flow → Shared → Prop} {s : Shared} {oSome oCell : Obj} {cell : Int} {t : Tok} {v0 : Option Value} :
    Cx 30 w s0 A₀ A base h₀ outer (lawEnv L fa cd) L s.heap m mg mb ((L + 1 + 1 + 1 + 1 + 1 + 1, oSome) :: (L + 1 + 1 + 1 + 1 + 1, oCell) :: news) → oCell.data = .cell (some (.int cell t)) → oSome.data = .cell v0 → (∀ p ∈ news, p.1 ≠ L + 1 + 1 + 1 + 1 + 1 + 1) →
    (∀ D ys sm o' h' tk', o'.data = .cell (some (.ref D)) → IntsAre ys sm → sm.length ≤ 11 → Fr h₀ L h' m → News h₀ L h' ((L + 1 + 1 + 1 + 1 + 1 + 1, o') :: (L + 1 + 1 + 1 + 1 + 1, oCell) :: (D, LCg.lst ys) :: news) →
      (∀ q ∈ (L + 1 + 1 + 1 + 1 + 1 + 1, oSome) :: (L + 1 + 1 + 1 + 1 + 1, oCell) :: news, @Ne Nat q.1 D) → Q .next { s with heap := h', toks := tk' }) →
    wpAny (model prg w) A (exec (turnBody.getD 0 (.Pass default)) (lawEnv L fa cd)) Q E s := by
  w_top off
  have _ : (PySem.Challenge.rw_nz0284_01 = PySem.Challenge.rw_nz0284_01) ∧ (hd.heap_39 = hd.heap_39) := by k_fill; exact ⟨rfl, rfl⟩
  unfold lawEnv
  conv in turnBody.getD _ _ => whnf
  conv in lawScope => whnf
  rintro ⟨B, F, X, N, T, hA, hf, hke, hh, hd, hu⟩ hcell hsome hoff hQ
  obtain ⟨hdl, dep, frs, gds, un⟩ := A
  dsimp only at hA hh hd hu
  subst hA hh
  with_reducible refine wpAny_mono (?_ : wpAny _ _ _ (fun v s' => Stop (Q v s')) E _) (fun _ _ h => h.go) (fun _ _ e => e)
  w_strict k_steps
  refine Stop.mk ?_
  with_reducible refine compTup (F₀ := by with_unfolding_all assumption) (by with_unfolding_all rfl) (by with_unfolding_all rfl) (by decide) (by with_unfolding_all rfl) (by decide) (by with_unfolding_all rfl) ?_ (by intro _; with_unfolding_all rfl)
  w_strict k_steps
  rename News _ _ _ _ => N1
  refine ⟨_, _, _, rfl, (by assumption), N1, ⟨_, List.Mem.head _, rfl, _, rfl⟩, (by show 11 ≤ sizeLine; decide), fun g => ?_⟩
  refine restT_same (fun i ys => ∃ sm, IntsAre ys sm ∧ sm.length ≤ i) ⟨[], .nil, Nat.le_refl _⟩ ?_ ?_
  · rintro i v ys I oI C oC2 D m₂ h tk E' hi hv ⟨sm, hy, hl⟩ hC hx F' N' off ne
    obtain ⟨k, t', rfl, hk1, hk2⟩ := smalls_at (by repeat' (first | exact trivial | refine ⟨⟨_, _, rfl, by decide, by decide⟩, ?_⟩)) hv
    clear hi hv
    w_strict k_steps
    · exact LCg.CompEnd.intro (by assumption) (by assumption) _ (fun p hp => hp) off ⟨_, List.Mem.head _, rfl, _, rfl⟩ ⟨rfl, sm ++ [k], ints_snoc hy, by rw [List.length_append]; exact Nat.succ_le_succ hl⟩
    · exact LCg.CompEnd.intro (by assumption) (by assumption) _ (fun p hp => hp) off ⟨_, List.Mem.head _, rfl, _, rfl⟩ ⟨rfl, sm, hy, Nat.le_succ_of_le hl⟩
  · rintro ys ⟨sm, hy, hl⟩
    intro D hD tkD FD ND oD
    (try simp only [LCg.Off1, and_true] at oD)
    w_strict k_steps
    rename News _ _ _ _ => N2
    refine ⟨hQ D ys sm _ _ _ (by assumption) hy hl (by assumption) (kst_newsOf N2 (by kst_allIn)) (List.forall_mem_cons.mpr ⟨oD.2.1, List.forall_mem_cons.mpr ⟨oD.2.2.1, off1_mem oD.2.2.2⟩⟩)⟩
end
section
local macro_rules | `(tactic| walk_at "exec Assign cons ListComp") => `(tactic| (k_here; (with_reducible show wpAny _ _ (exec (Stmt.Assign [Expr.Name _ _] (Expr.ListComp _ _ _ _) _) _) _ _ _); with_reducible refine wpAny_Assign_Name ?_ ?hs; (case hs => with_unfolding_all rfl)))
local macro_rules | `(tactic| walk_at "eval ListComp") => `(tactic| (k_here; (with_reducible show wpAny _ _ (eval (Expr.ListComp _ [⟨_, _, [_], _⟩] _ _) _) _ _ _); with_reducible refine LCt.ListComp_T (F₀ := by with_unfolding_all assumption) (by with_unfolding_all rfl) (by decide) (by with_unfolding_all rfl) (by decide) (by with_unfolding_all rfl) ?_ (by intro _; with_unfolding_all rfl)))
local macro_rules | `(tactic| walk_at "exec Assign cons ListComp") => `(tactic| (k_here; (with_reducible show wpAny _ _ (exec (Stmt.Assign [Expr.Name _ _] (Expr.ListComp _ [⟨_, _, [_], _⟩] _ _) _) _) _ _ _); with_reducible refine LCt.Assign_ListComp_T (F₀ := by with_unfolding_all assumption) (by with_unfolding_all rfl) (by with_unfolding_all rfl) (by with_unfolding_all rfl) (by decide) (by with_unfolding_all rfl) (by decide) (by with_unfolding_all rfl) (by with_unfolding_all rfl) (by with_unfolding_all rfl) ?_ (by intro _; with_unfolding_all rfl)))
local macro_rules | `(tactic| walk_at "CompSrc") => `(tactic| refine Stop.go ?_)
local macro_rules | `(tactic| walk_at "CompSrcT") => `(tactic| refine Stop.go ?_)
local macro_rules | `(tactic| walk_at "compareOp NotIn int ref") => `(tactic| (k_here; (with_reducible show wpAny _ _ (compareOp CmpOp.NotIn (Value.int _ _) (Value.ref _)) _ _ _); k_dflt (refine notin_mem (News.isList (by with_reducible assumption) (by k_mem)) (by with_reducible assumption) ?_)))
local macro_rules | `(tactic| walk_at "compareOp In int ref") => `(tactic| (k_here; (with_reducible show wpAny _ _ (compareOp CmpOp.In (Value.int _ _) (Value.ref _)) _ _ _); k_dflt (refine in_mem (News.isList (by with_reducible assumption) (by k_mem)) (by with_reducible assumption) ?_)))

set_option maxRecDepth 100000 in
set_option maxHeartbeats 2000000 in
theorem s2_ok {w : World} {s0 : Shared} {A₀ A : Around} {base h₀ : Heap} {outer : List Env} {L fa : Addr} {cd : Value} {m mg mb : Str → Option Value} {news : List (Addr × Obj)} {E : Value → Shared → Prop} {Q : Flow → Shared → Prop} {s : Shared} {oSome oThere : Obj} {SM T : Addr} {sms tvs : List Value} {sn tn : Nat} {sm ns : List Int} :
    Cx 30 w s0 A₀ A base h₀ outer (lawEnv L fa cd) L s.heap m mg mb ((L + 1 + 1 + 1 + 1 + 1 + 1, oSome) :: (L + 1 + 1, oThere) :: news) → oSome.data = .cell (some (.ref SM)) → oThere.data = .cell (some (.ref T)) → (SM, listOf sms.toArray sn) ∈ news → (T, listOf tvs.toArray tn) ∈ news → IntsAre sms sm → IntsAre tvs ns → ns.length ≤ 9 →
    (∀ D ys h' tk', IntsAre ys (ns.filter fun k => decide (k ∈ sm)) → Fr h₀ L h' (fun z => if z = Str.ofString "due" then some (.ref D) else m z) → News h₀ L h' ((D, LCg.lst ys) :: (L + 1 + 1 + 1 + 1 + 1 + 1, oSome) :: (L + 1 + 1, oThere) :: news) →
      (∀ q ∈ (L + 1 + 1 + 1 + 1 + 1 + 1, oSome) :: (L + 1 + 1, oThere) :: news, @Ne Nat q.1 D) → Q .next { s with heap := h', toks := tk' }) →
    wpAny (model prg w) A (exec (turnBody.getD 1 (.Pass default)) (lawEnv L fa cd)) Q E s := by
  w_top off
  have _ : (PySem.Challenge.rw_nz0284_01 = PySem.Challenge.rw_nz0284_01) ∧ (hd.heap_39 = hd.heap_39) := by k_fill; exact ⟨rfl, rfl⟩
  unfold lawEnv
  conv in turnBody.getD _ _ => whnf
  conv in lawScope => whnf
  rintro ⟨B, F, X, N, T, hA, hf, hke, hh, hd, hu⟩ hsome hthere hsm hT hism hin hlen hQ
  obtain ⟨hdl, dep, frs, gds, un⟩ := A
  dsimp only at hA hh hd hu
  subst hA hh
  with_reducible refine wpAny_mono (?_ : wpAny _ _ _ (fun v s' => Stop (Q v s')) E _) (fun _ _ h => h.go) (fun _ _ e => e)
  w_strict k_steps
  refine Stop.mk ?_
  refine LCt.CompSrcT.ledger (by rfl) F N (by k_mem) (by rw [List.size_toArray, hin.length]; exact Nat.le_trans hlen (by decide)) ?_
  intro g
  refine restT_same (fun i ys => IntsAre ys ((ns.take i).filter fun k => decide (k ∈ sm))) .nil ?_ ?_
  · rintro i v ys I oI C oC2 D m₂ h tk E' hi hv hy hC hx F' N' off ne
    obtain ⟨k, t, rfl, hk⟩ := IntsAre.at hin i v (by simpa using hv)
    clear hi hv
    w_strict k_steps
    · exact LCg.CompEnd.intro (by assumption) (by assumption) _ (fun p hp => hp) off (.inr ⟨_, by k_mem, rfl, _, rfl⟩) ⟨rfl, ints_filter_snoc hy hk (decide_eq_true (by assumption))⟩
    · exact LCg.CompEnd.intro (by assumption) (by assumption) _ (fun p hp => hp) off (.inr ⟨_, by k_mem, rfl, _, rfl⟩) ⟨rfl, ints_filter_skip hy hk (decide_eq_false (by assumption))⟩
  · rintro ys hy
    rw [List.size_toArray, hin.length, List.take_length] at hy
    intro D hD tkD FD ND oD
    exact ⟨hQ D ys _ _ hy FD ND (off1_mem oD)⟩
end
section
local macro_rules | `(tactic| walk_at "exec Assign cons ListComp") => `(tactic| (k_here; (with_reducible show wpAny _ _ (exec (Stmt.Assign [Expr.Name _ _] (Expr.ListComp _ _ _ _) _) _) _ _ _); with_reducible refine wpAny_Assign_Name ?_ ?hs; (case hs => with_unfolding_all rfl)))
local macro_rules | `(tactic| walk_at "eval ListComp") => `(tactic| (k_here; (with_reducible show wpAny _ _ (eval (Expr.ListComp _ [⟨_, _, [_], _⟩] _ _) _) _ _ _); with_reducible refine LCt.ListComp_T (F₀ := by with_unfolding_all assumption) (by with_unfolding_all rfl) (by decide) (by with_unfolding_all rfl) (by decide) (by with_unfolding_all rfl) ?_ (by intro _; with_unfolding_all rfl)))
local macro_rules | `(tactic| walk_at "eval ListComp") => `(tactic| (k_here; (with_reducible show wpAny _ _ (eval (Expr.ListComp _ [⟨_, _, [], _⟩] _ _) _) _ _ _); with_reducible refine LCg.ListComp_U (F₀ := by with_unfolding_all assumption) (by with_unfolding_all rfl) (by decide) (by with_unfolding_all rfl) (by decide) (by with_unfolding_all rfl) ?_ (by intro _; with_unfolding_all rfl)))
local macro_rules | `(tactic| walk_at "CompSrc") => `(tactic| refine Stop.go ?_)
local macro_rules | `(tactic| walk_at "CompSrcT") => `(tactic| refine Stop.go ?_)
local macro_rules | `(tactic| walk_at "compareOp NotIn int ref") => `(tactic| (k_here; (with_reducible show wpAny _ _ (compareOp CmpOp.NotIn (Value.int _ _) (Value.ref _)) _ _ _); k_dflt (refine notin_mem (News.isList (by with_reducible assumption) (by k_mem)) (by with_reducible assumption) ?_)))
local macro_rules | `(tactic| walk_at "compareOp In int ref") => `(tactic| (k_here; (with_reducible show wpAny _ _ (compareOp CmpOp.In (Value.int _ _) (Value.ref _)) _ _ _); k_dflt (refine in_mem (News.isList (by with_reducible assumption) (by k_mem)) (by with_reducible assumption) ?_)))
local macro_rules | `(tactic| walk_at "eval Name") => `(tactic| (k_here; k_dflt (refine' nameX_L ?F ?v ?_ ?a ?b; (case a => rfl); (case b => rfl); (case F => k_asm); (case v => ((repeat refine Eq.trans (if_neg (by decide)) ?_); with_reducible assumption)); k_whole)))
local macro_rules | `(tactic| walk_at "compareOp NotEq ref ref") => `(tactic| (k_here; (with_reducible show wpAny _ _ (compareOp CmpOp.NotEq (Value.ref _) (Value.ref _)) _ _ _); k_dflt (refine ne_intsK (News.isList (by with_reducible assumption) (by k_mem)) (by first | with_reducible assumption | exact IntsAre.nil) (News.isList (by with_reducible assumption) (by k_mem)) (by first | with_reducible assumption | exact IntsAre.nil) (by (try simp only [units_deeper, units_in1, units_under_make, units_caller]); (try dsimp only); (show _ < 9900); omega) ?_)))
local macro_rules | `(tactic| walk_at "compareOp Eq ref ref") => `(tactic| (k_here; (with_reducible show wpAny _ _ (compareOp CmpOp.Eq (Value.ref _) (Value.ref _)) _ _ _); k_dflt (refine eq_intsK (News.isList (by with_reducible assumption) (by k_mem)) (by first | with_reducible assumption | exact IntsAre.nil) (News.isList (by with_reducible assumption) (by k_mem)) (by first | with_reducible assumption | exact IntsAre.nil) (by (try simp only [units_deeper, units_in1, units_under_make, units_caller]); (try dsimp only); (show _ < 9900); omega) ?_)))

set_option maxRecDepth 100000 in
set_option maxHeartbeats 2000000 in
theorem s3_ok {w : World} {s0 : Shared} {A₀ A : Around} {base h₀ : Heap} {outer : List Env} {L fa : Addr} {cd : Value} {m mg mb : Str → Option Value} {news : List (Addr × Obj)} {E : Value → Shared → Prop} {Q : Flow → Shared → Prop} {s : Shared} {oSome oThere oTop : Obj} {SM T D G : Addr} {sms tvs dvs gvs : List Value} {sn tn dn gn : Nat} {sm ns : List Int} {top : Int} {tt : Tok} :
    Cx 30 w s0 A₀ A base h₀ outer (lawEnv L fa cd) L s.heap m mg mb ((L + 1 + 1 + 1 + 1 + 1 + 1, oSome) :: (L + 1 + 1 + 1, oTop) :: (L + 1 + 1, oThere) :: news) → oSome.data = .cell (some (.ref SM)) → oThere.data = .cell (some (.ref T)) → oTop.data = .cell (some (.int top tt)) → (SM, listOf sms.toArray sn) ∈ news → (T, listOf tvs.toArray tn) ∈ news → (D, listOf dvs.toArray dn) ∈ news → (G, listOf gvs.toArray gn) ∈ news →
    IntsAre sms sm → IntsAre tvs ns → IntsAre dvs (ns.filter fun k => decide (k ∈ sm)) → ns.length ≤ 9 → gvs.length ≤ 100 → m (Str.ofString "due") = some (.ref D) → m (Str.ofString "gone") = some (.ref G) →
    (∀ p ∈ news, p.1 ≠ L + 1 + 1 + 1) → (∀ p ∈ news, p.1 ≠ L + 1 + 1) →
    ((ns.filter fun k => decide (k ∈ sm)) = [] → ∀ h' tk', Fr h₀ L h' m → News h₀ L h' ((L + 1 + 1 + 1 + 1 + 1 + 1, oSome) :: (L + 1 + 1 + 1, oTop) :: (L + 1 + 1, oThere) :: news) → Q .next { s with heap := h', toks := tk' }) →
    ((ns.filter fun k => decide (k ∈ sm)) ≠ [] → ∀ (T' G' : Addr) (tys ts : List Value) (own : List (Addr × Obj)) (oTop' oThere' : Obj) (t' : Tok) h' tk', oTop'.data = .cell (some (.int (top + 1) t')) → oThere'.data = .cell (some (.ref T')) →
      IntsAre tys (ns.filter fun k => !decide (k ∈ sm)) → Tups own ts ((ns.filter fun k => decide (k ∈ sm)).map fun u => (u, top + 1)) → Fr h₀ L h' (fun z => if z = Str.ofString "gone" then some (.ref G') else m z) →
      News h₀ L h' ((L + 1 + 1 + 1 + 1 + 1 + 1, oSome) :: (L + 1 + 1 + 1, oTop') :: (L + 1 + 1, oThere') :: (T', LCg.lst tys) :: (G', listOf (gvs ++ ts).toArray 0) :: (own ++ news)) →
      (∀ p ∈ (T', LCg.lst tys) :: (G', listOf (gvs ++ ts).toArray 0) :: own, ∀ q ∈ (L + 1 + 1 + 1 + 1 + 1 + 1, oSome) :: (L + 1 + 1 + 1, oTop) :: (L + 1 + 1, oThere) :: news, @Ne Nat p.1 q.1) → Q .next { s with heap := h', toks := tk' }) →
    wpAny (model prg w) A (exec (turnBody.getD 2 (.Pass default)) (lawEnv L fa cd)) Q E s := by
  w_top off
  have _ : (PySem.Challenge.rw_nz0284_01 = PySem.Challenge.rw_nz0284_01) ∧ (hd.heap_39 = hd.heap_39) := by k_fill; exact ⟨rfl, rfl⟩
  unfold lawEnv
  conv in turnBody.getD _ _ => whnf
  conv in lawScope => whnf
  rintro ⟨B, F, X, N, T, hA, hf, hke, hh, hd, hu⟩ hsome hthere htop hsm hT hD hG hism hin hid hlen hgl hmd hmg hoff3 hoff2 hQ1 hQ2
  obtain ⟨hdl, dep, frs, gds, un⟩ := A
  dsimp only at hA hh hd hu
  subst hA hh
  with_reducible refine wpAny_mono (?_ : wpAny _ _ _ (fun v s' => Stop (Q v s')) E _) (fun _ _ h => h.go) (fun _ _ e => e)
  w_strict k_steps
  · exact ⟨hQ1 (of_decide_eq_true (by assumption)) _ _ (by assumption) (kst_newsOf (by assumption) (by kst_allIn))⟩
  · refine Stop.mk ?_
    rename decide _ = false => hdue
    have hne := of_decide_eq_false hdue
    rename News _ _ _ _ => N2
    refine LCt.CompSrcT.ledger (by rfl) (by assumption) N2 (by k_mem) (by rw [List.size_toArray, hin.length]; exact Nat.le_trans hlen (by decide)) ?_
    intro g
    refine restT_same (fun i ys => IntsAre ys ((ns.take i).filter fun k => !decide (k ∈ sm))) .nil ?_ ?_
    · rintro i v ys I oI C oC2 D2 m₂ h tk E' hi hv hy hC hx F' N' off ne
      obtain ⟨k, t, rfl, hk⟩ := IntsAre.at hin i v (by simpa using hv)
      clear hi hv N2
      w_strict k_steps
      · exact LCg.CompEnd.intro (by assumption) (by assumption) _ (fun p hp => hp) off (.inr ⟨_, by k_mem, rfl, _, rfl⟩) ⟨rfl, ints_filter_skip hy hk (not_skip rfl (decide_eq_true (by assumption)))⟩
      · exact LCg.CompEnd.intro (by assumption) (by assumption) _ (fun p hp => hp) off (.inr ⟨_, by k_mem, rfl, _, rfl⟩) ⟨rfl, ints_filter_snoc hy hk (not_snoc rfl (decide_eq_false (by assumption)))⟩
    · rintro tys htys
      rw [List.size_toArray, hin.length, List.take_length] at htys
      clear N2
      intro TN hN tkN FN NN oN
      have oN' := off1_mem oN
      (try simp only [LCg.Off1, and_true] at oN)
      w_strict k_steps
      refine Stop.mk ?_
      rename News _ _ _ _ => N3
      refine LCg.CompSrc.ledger (by rfl) (by assumption) N3 (by k_mem) (by rw [List.size_toArray, hid.length]; exact Nat.le_trans (List.length_filter_le _ _) (Nat.le_trans hlen (by decide))) ?_
      intro g7
      refine rest_grow (fun i ys own => Tups own ys (((ns.filter fun k => decide (k ∈ sm)).take i).map fun u => (u, top + 1))) .nil ?_ ?_
      · rintro i v ys own nw I oI C oC2 D2 m₂ h tk E' hi hv hy e hsub hC hx F' N' off ne
        obtain ⟨k, t, rfl, hk⟩ := IntsAre.at hid i v (by simpa using hv)
        have hcell := hsub (L + 1 + 1 + 1, _) (by k_memK)
        have hsrc := hsub (D, _) (by k_mem)
        clear hi hv N3
        w_strict k_steps
        rename @LT.lt Nat _ _ _ ∧ _ => l9
        have lt5 := lt3_of (oI := oI) (oC := oC2) (oD := LCg.lst ys) l9
        exact compEnd_new (by assumption) (by assumption) lt5 off (.inr ⟨_, List.mem_cons_of_mem _ hsrc, rfl, _, rfl⟩) ⟨[_], rfl, (fun p hp q hq => by rw [List.mem_singleton.mp hp]; exact lt5 q (List.Mem.tail _ (List.Mem.tail _ (List.Mem.tail _ (hsub q hq))))), tups_grow hy hk⟩
      · rintro ts own nw e ho hts
        rw [List.size_toArray, hid.length, List.take_length] at hts
        intro DG hGh tkG FG NG oG
        have hsub := fun p hp => (by rw [e]; exact List.mem_append_right own hp : p ∈ nw)
        have lt8 := news_lt NG
        refine (fun N9 => ?_) (kst_newsOf (l' := (L + 1 + 1 + 1 + 1 + 1 + 1, oSome) :: (L + 1 + 1 + 1, ?oTop) :: (L + 1 + 1, ?oTh) :: (TN, LCg.lst tys) :: (DG, LCg.lst ts) :: (own ++ news)) NG ?hs)
        case hs =>
          refine List.forall_mem_cons.mpr ⟨List.Mem.tail _ (hsub _ (by k_memK)), List.forall_mem_cons.mpr ⟨List.Mem.tail _ (hsub _ (by k_memK)), List.forall_mem_cons.mpr ⟨List.Mem.tail _ (hsub _ (by k_memK)), List.forall_mem_cons.mpr ⟨List.Mem.tail _ (hsub _ (by k_memK)), List.forall_mem_cons.mpr ⟨List.Mem.head _, fun p hp => List.Mem.tail _ ?_⟩⟩⟩⟩⟩
          rcases List.mem_append.mp hp with h | h
          · rw [e]; exact List.mem_append_left _ h
          · exact hsub _ (by k_mem)
        have hG' : (G, listOf gvs.toArray gn) ∈ own ++ news := List.mem_append_right _ hG
        clear N3 NG
        with_reducible refine add_lists FG N9 (vs := gvs) (ws := ts) (by with_unfolding_all exact News.isList N9 (n := gn) (by k_mem)) (by with_unfolding_all exact News.isList N9 (by k_mem)) ?_ (by rw [hts.length, List.length_map, sizeLine_eq]; have := List.length_filter_le (fun k => decide (k ∈ sm)) ns; omega)
        have lt9 := news_lt N9
        intro hA FA NA
        w_strict k_steps
        rename News _ _ _ _ => NZ
        rename Fr _ _ _ _ => FZ
        refine ⟨hQ2 hne TN _ tys ts own _ _ _ _ _ (by assumption) (by assumption) htys hts FZ (kst_newsOf NZ (List.forall_mem_cons.mpr ⟨by k_memK, List.forall_mem_cons.mpr ⟨by k_memK, List.forall_mem_cons.mpr ⟨by k_memK, List.forall_mem_cons.mpr ⟨by k_memK, List.forall_mem_cons.mpr ⟨by k_memK, fun p hp => List.Mem.tail _ (List.Mem.tail _ (List.Mem.tail _ (List.Mem.tail _ (List.Mem.tail _ (List.Mem.tail _ hp)))))⟩⟩⟩⟩⟩)) ?ho⟩
        case ho =>
          have t6 : @Ne Nat (L + 1 + 1 + 1 + 1 + 1 + 1) TN := oN' (L + 1 + 1 + 1 + 1 + 1 + 1, _) (by k_memK)
          have t3 : @Ne Nat (L + 1 + 1 + 1) TN := oN' (L + 1 + 1 + 1, _) (by k_memK)
          have t2 : @Ne Nat (L + 1 + 1) TN := oN' (L + 1 + 1, _) (by k_memK)
          have tn : ∀ q ∈ news, @Ne Nat q.1 TN := fun q hq => oN' q (by k_mem)
          have g6 : @LT.lt Nat _ (L + 1 + 1 + 1 + 1 + 1 + 1) _ := lt9 (L + 1 + 1 + 1 + 1 + 1 + 1, _) (by k_memK)
          have g3 : @LT.lt Nat _ (L + 1 + 1 + 1) _ := lt9 (L + 1 + 1 + 1, _) (by k_memK)
          have g2 : @LT.lt Nat _ (L + 1 + 1) _ := lt9 (L + 1 + 1, _) (by k_memK)
          have gn : ∀ q ∈ news, @LT.lt Nat _ q.1 _ := fun q hq => lt9 q (List.Mem.tail _ (List.Mem.tail _ (List.Mem.tail _ (List.Mem.tail _ (List.Mem.tail _ (List.mem_append_right own hq))))))
          have o6 : ∀ p ∈ own, @LT.lt Nat _ (L + 1 + 1 + 1 + 1 + 1 + 1) p.1 := fun p hp => ho p hp (L + 1 + 1 + 1 + 1 + 1 + 1, _) (by k_memK)
          have o3 : ∀ p ∈ own, @LT.lt Nat _ (L + 1 + 1 + 1) p.1 := fun p hp => ho p hp (L + 1 + 1 + 1, _) (by k_memK)
          have o2 : ∀ p ∈ own, @LT.lt Nat _ (L + 1 + 1) p.1 := fun p hp => ho p hp (L + 1 + 1, _) (by k_memK)
          have on : ∀ p ∈ own, ∀ q ∈ news, @LT.lt Nat _ q.1 p.1 := fun p hp q hq => ho p hp q (by k_mem)
          exact List.forall_mem_cons.mpr ⟨List.forall_mem_cons.mpr ⟨Ne.symm t6, List.forall_mem_cons.mpr ⟨Ne.symm t3, List.forall_mem_cons.mpr ⟨Ne.symm t2, fun q hq => Ne.symm (tn q hq)⟩⟩⟩,
            List.forall_mem_cons.mpr ⟨List.forall_mem_cons.mpr ⟨Nat.ne_of_gt g6, List.forall_mem_cons.mpr ⟨Nat.ne_of_gt g3, List.forall_mem_cons.mpr ⟨Nat.ne_of_gt g2, fun q hq => Nat.ne_of_gt (gn q hq)⟩⟩⟩,
            fun p hp => List.forall_mem_cons.mpr ⟨Nat.ne_of_gt (o6 p hp), List.forall_mem_cons.mpr ⟨Nat.ne_of_gt (o3 p hp), List.forall_mem_cons.mpr ⟨Nat.ne_of_gt (o2 p hp), fun q hq => Nat.ne_of_gt (on p hp q hq)⟩⟩⟩⟩⟩
end
section
local macro_rules | `(tactic| k_mem) => `(tactic| first | exact List.Mem.head _ | with_reducible assumption | (refine List.mem_cons_of_mem _ ?_; k_mem) | exact List.mem_append_left _ (by with_reducible assumption) | (refine List.mem_append_right _ ?_; k_mem))
local macro_rules | `(tactic| walk_at "eval Name") => `(tactic| (k_here; k_dflt (refine' nameX_L ?F ?v ?_ ?a ?b; (case a => rfl); (case b => rfl); (case F => k_asm); (case v => ((repeat refine Eq.trans (if_neg (by decide)) ?_); with_reducible assumption)); k_whole)))
local macro_rules | `(tactic| walk_at "call ref") => `(tactic| (k_here; (with_reducible show wpAny _ _ (call (Value.ref 188) _ _) _ _ _); refine Stop.go ?_))
local macro_rules | `(tactic| walk_at "call ref") => `(tactic| (k_here; (with_reducible show wpAny _ _ (call (Value.ref 143) _ _) _ _ _); k_dflt (refine' uids_ok ⟨?c1, ?c2, ?c3, ?c4, ?c5, ?c6, ?c7, ?c8, ?c9, ?c10, ?c11⟩ ?d1 ?d2 ?d3 ?d4 ?d5 ?_; (case c1 => k_asm); (case c2 => k_asm); (case c3 => k_asm); (case c4 => k_asm); (case c5 => k_asm); (case c6 => rfl); (case c7 => rfl); (case c8 => rfl); (case c9 => rfl); (case c10 => (simp only [depth_under_make, depth_in1, depth_deeper]; omega)); (case c11 => (simp only [units_under_make, units_in1, units_deeper]; omega)); (case d1 => k_mem); (case d2 => k_mem); (case d3 => k_mem); (case d4 => (intro l hl; exact Lt.In.mono ((by assumption : ∀ l ∈ _, Lt.In _ _ l) l hl) (by intro p hp; k_mem))); (case d5 => assumption)); intro D ys h' tk' F' N' hys o1; (try simp only [LCg.Off1, and_true] at o1)))
local macro_rules | `(tactic| walk_at "compareOp NotEq ref ref") => `(tactic| (k_here; (with_reducible show wpAny _ _ (compareOp CmpOp.NotEq (Value.ref _) (Value.ref _)) _ _ _); k_dflt (first
  | refine ne_ints (by with_reducible assumption) (by k_mem) (by k_mem) (by first | with_reducible assumption | exact IntsAre.nil) (by with_reducible assumption) (by (try simp only [units_deeper, units_in1, units_under_make, units_caller]); (try dsimp only); (show _ < 9900); omega) ?_
  | refine ne_tups (by with_reducible assumption) (by k_mem) (by k_mem) (by with_reducible assumption) (by with_reducible assumption) (by (try simp only [units_deeper, units_in1, units_under_make, units_caller]); (try dsimp only); (show _ < 9900); omega) ?_)))
local macro_rules | `(tactic| walk_at "compareOp NotEq int int") => `(tactic| (k_here; (with_reducible refine ne_int_same ?_)))

set_option maxRecDepth 100000 in
set_option maxHeartbeats 2000000 in
theorem s4a_ok {w : World} {s0 : Shared} {A₀ A : Around} {base h₀ : Heap} {outer : List Env} {L fa : Addr} {cd : Value} {m mg mb : Str → Option Value} {news : List (Addr × Obj)} {E : Value → Shared → Prop} {Q : Flow → Shared → Prop} {s : Shared} {oSome oThere oTop oBox : Obj} {SM T D G bx bd : Addr} {sms tvs dvs gvs gs : List Value} {sn tn dn gn n ng : Nat} {sm : List Int} {ls : List Lt} {gone : List (Int × Int)} {b : Bx} {tt : Tok} :
    Cx 30 w s0 A₀ A base h₀ outer (lawEnv L fa cd) L s.heap m mg mb ((bd, dictOf (b.es w.params) 7) :: (L + 1 + 1 + 1 + 1 + 1 + 1, oSome) :: (L + 1 + 1 + 1, oTop) :: (L + 1 + 1, oThere) :: (L + 1, oBox) :: news) → oSome.data = .cell (some (.ref SM)) → oThere.data = .cell (some (.ref T)) → oTop.data = .cell (some (.int b.top tt)) → oBox.data = .cell (some (.ref bx)) → (SM, listOf sms.toArray sn) ∈ news → (T, listOf tvs.toArray tn) ∈ news → (D, listOf dvs.toArray dn) ∈ news → (G, listOf gvs.toArray gn) ∈ news →
    IntsAre sms sm → sm.length ≤ 20 → IntsAre tvs (ls.map Lt.u) → IntsAre dvs [] → ((ls.map Lt.u).filter fun k => decide (k ∈ sm)) = [] → Tups news gvs gone → Tups news gs gone → gs.length ≤ 100 → m (Str.ofString "due") = some (.ref D) → m (Str.ofString "gone") = some (.ref G) →
    (∀ p ∈ (L + 1 + 1 + 1 + 1 + 1 + 1, oSome) :: (L + 1 + 1 + 1, oTop) :: (L + 1 + 1, oThere) :: (L + 1, oBox) :: news, p.1 ≠ bd) → (bx, instObj 151 bd) ∈ news → (b.ll, listOf (refs ls).toArray n) ∈ news → (b.gl, listOf gs.toArray ng) ∈ news → (∀ l ∈ ls, l.In w.params news) → ls.length ≤ 9 →
    (∀ h' tk', Fr h₀ L h' m → News h₀ L h' ((bd, dictOf (b.es w.params) 7) :: (L + 1 + 1 + 1 + 1 + 1 + 1, oSome) :: (L + 1 + 1 + 1, oTop) :: (L + 1 + 1, oThere) :: (L + 1, oBox) :: news) → Q .next { s with heap := h', toks := tk' }) →
    wpAny (model prg w) A (exec (turnBody.getD 3 (.Pass default)) (lawEnv L fa cd)) Q E s := by
  w_top off
  have _ : (PySem.Challenge.rw_nz0284_01 = PySem.Challenge.rw_nz0284_01) ∧ (hd.heap_39 = hd.heap_39) := by k_fill; exact ⟨rfl, rfl⟩
  unfold lawEnv
  conv in turnBody.getD _ _ => whnf
  conv in lawScope => whnf
  rintro ⟨B, F, X, N, T, hA, hf, hke, hh, hd, hu⟩ hsome hthere htop hbox hsm hT hD hG hism hsl hin hid hdue hgv hgs hgl hmd hmg hoff hbx hll hbgl hls hlen9 hQ
  obtain ⟨hdl, dep, frs, gds, un⟩ := A
  dsimp only at hA hh hd hu
  subst hA hh
  with_reducible refine wpAny_mono (?_ : wpAny _ _ _ (fun v s' => Stop (Q v s')) E _) (fun _ _ h => h.go) (fun _ _ e => e)
  w_strict k_steps
  refine Stop.mk ?_
  refine' expunge_ok ⟨?c1, ?c2, ?c3, ?c4, ?c5, ?c6, ?c7, ?c8, ?c9, ?c10, ?c11⟩ hoff ?d2 ?d3 ?d4 ?d5 hlen9 ?d7 hism hsl hgl ?q1 (fun h => absurd hdue h); (case c1 => k_asm); (case c2 => k_asm); (case c3 => k_asm); (case c4 => k_asm); (case c5 => k_asm); (case c6 => rfl); (case c7 => rfl); (case c8 => rfl); (case c9 => rfl); (case c10 => (simp only [depth_under_make, depth_in1, depth_deeper]; omega)); (case c11 => (simp only [units_under_make, units_in1, units_deeper]; omega))
  case d2 => k_mem
  case d3 => k_mem
  case d4 => k_mem
  case d5 => exact fun l hl => (hls l hl).mono (by intro p hp; k_mem)
  case d7 => k_mem
  intro _ l' h' tk' F' N' o1
  have hgv' : Tups ((l', listOf #[] 0) :: (bd, dictOf (b.es w.params) 7) :: (L + 1 + 1 + 1 + 1 + 1 + 1, oSome) :: (L + 1 + 1 + 1, oTop) :: (L + 1 + 1, oThere) :: (L + 1, oBox) :: news) gvs gone := hgv.mono (by intro p hp; k_mem)
  have hgs' : Tups ((l', listOf #[] 0) :: (bd, dictOf (b.es w.params) 7) :: (L + 1 + 1 + 1 + 1 + 1 + 1, oSome) :: (L + 1 + 1 + 1, oTop) :: (L + 1 + 1, oThere) :: (L + 1, oBox) :: news) gs gone := hgs.mono (by intro p hp; k_mem)
  w_strict k_steps
  exact ⟨hQ _ _ (by assumption) (kst_newsOf (by assumption) (by kst_allIn))⟩
end
section
local macro_rules | `(tactic| walk_at "no such place") => `(tactic| fail)
local macro_rules | `(tactic| k_mem) => `(tactic| first | exact List.Mem.head _ | with_reducible assumption | (refine List.mem_cons_of_mem _ ?_; k_mem) | exact List.mem_append_left _ (by with_reducible assumption) | (refine List.mem_append_right _ ?_; k_mem))
local macro_rules | `(tactic| walk_at "eval Name") => `(tactic| (k_here; k_dflt (refine' nameX_L ?F ?v ?_ ?a ?b; (case a => rfl); (case b => rfl); (case F => k_asm); (case v => ((repeat refine Eq.trans (if_neg (by decide)) ?_); with_reducible assumption)); k_whole)))
local macro_rules | `(tactic| walk_at "call ref") => `(tactic| (k_here; (with_reducible show wpAny _ _ (call (Value.ref 188) _ _) _ _ _); refine Stop.go ?_))
local macro_rules | `(tactic| walk_at "call ref") => `(tactic| (k_here; (with_reducible show wpAny _ _ (call (Value.ref 143) _ _) _ _ _); k_dflt (refine' uids_ok ⟨?c1, ?c2, ?c3, ?c4, ?c5, ?c6, ?c7, ?c8, ?c9, ?c10, ?c11⟩ ?d1 ?d2 ?d3 ?d4 ?d5 ?_; (case c1 => k_asm); (case c2 => k_asm); (case c3 => k_asm); (case c4 => k_asm); (case c5 => k_asm); (case c6 => rfl); (case c7 => rfl); (case c8 => rfl); (case c9 => rfl); (case c10 => (simp only [depth_under_make, depth_in1, depth_deeper]; omega)); (case c11 => (simp only [units_under_make, units_in1, units_deeper]; omega)); (case d1 => k_mem); (case d2 => k_mem); (case d3 => k_mem); (case d4 => (intro l hl; exact Lt.In.mono ((by assumption : ∀ l ∈ _, Lt.In _ _ l) l hl) (by intro p hp; k_mem))); (case d5 => assumption)); intro D ys h' tk' F' N' hys o1; (try simp only [LCg.Off1, and_true] at o1)))
local macro_rules | `(tactic| walk_at "compareOp NotEq ref ref") => `(tactic| (k_here; (with_reducible show wpAny _ _ (compareOp CmpOp.NotEq (Value.ref _) (Value.ref _)) _ _ _); k_dflt (first
  | refine ne_ints (by with_reducible assumption) (by k_mem) (by k_mem) (by first | with_reducible assumption | exact IntsAre.nil) (by with_reducible assumption) (by (try simp only [units_deeper, units_in1, units_under_make, units_caller]); (try dsimp only); (show _ < 9900); omega) ?_
  | refine ne_tups (by with_reducible assumption) (by k_mem) (by k_mem) (by with_reducible assumption) (by with_reducible assumption) (by (try simp only [units_deeper, units_in1, units_under_make, units_caller]); (try dsimp only); (show _ < 9900); omega) ?_)))
local macro_rules | `(tactic| walk_at "compareOp NotEq int int") => `(tactic| (k_here; (with_reducible refine ne_int_same ?_)))

set_option maxRecDepth 100000 in
set_option maxHeartbeats 2000000 in
theorem s4b_ok {w : World} {s0 : Shared} {A₀ A : Around} {base h₀ : Heap} {outer : List Env} {L fa : Addr} {cd : Value} {m mg mb : Str → Option Value} {news : List (Addr × Obj)} {E : Value → Shared → Prop} {Q : Flow → Shared → Prop} {s : Shared} {oSome oThere oTop oBox : Obj} {SM T D G bx bd : Addr} {sms tvs dvs gvs gs : List Value} {sn tn dn gn n ng : Nat} {sm : List Int} {ls : List Lt} {gone : List (Int × Int)} {b : Bx} {tt : Tok} {r0 : List (Addr × Obj)} :
    Cx 30 w s0 A₀ A base h₀ outer (lawEnv L fa cd) L s.heap m mg mb ((bd, dictOf (b.es w.params) 7) :: (L + 1 + 1 + 1 + 1 + 1 + 1, oSome) :: (L + 1 + 1 + 1, oTop) :: (L + 1 + 1, oThere) :: (L + 1, oBox) :: news) → oSome.data = .cell (some (.ref SM)) → oThere.data = .cell (some (.ref T)) → oTop.data = .cell (some (.int (b.top + 1) tt)) → oBox.data = .cell (some (.ref bx)) → (SM, listOf sms.toArray sn) ∈ news → (T, listOf tvs.toArray tn) ∈ news → (D, listOf dvs.toArray dn) ∈ news → (G, listOf gvs.toArray gn) ∈ news →
    IntsAre sms sm → sm.length ≤ 20 → IntsAre tvs ((ls.filter fun l => !decide (l.u ∈ sm)).map Lt.u) → IntsAre dvs ((ls.map Lt.u).filter fun k => decide (k ∈ sm)) → ((ls.map Lt.u).filter fun k => decide (k ∈ sm)) ≠ [] → Tups news gvs (gone ++ ((ls.map Lt.u).filter fun k => decide (k ∈ sm)).map fun u => (u, b.top + 1)) → Tups r0 gs gone → (∀ p ∈ r0, p ∈ news) → gs.length ≤ 100 → m (Str.ofString "due") = some (.ref D) → m (Str.ofString "gone") = some (.ref G) →
    (∀ p ∈ (L + 1 + 1 + 1 + 1 + 1 + 1, oSome) :: (L + 1 + 1 + 1, oTop) :: (L + 1 + 1, oThere) :: (L + 1, oBox) :: news, p.1 ≠ bd) → (bx, instObj 151 bd) ∈ news → (b.ll, listOf (refs ls).toArray n) ∈ news → (b.gl, listOf gs.toArray ng) ∈ news → (∀ l ∈ ls, l.In w.params news) → ls.length ≤ 9 →
    (∀ (b' : Bx) (gs' : List Value) (n' ng' : Nat) (own : List (Addr × Obj)) h' tk', b'.top = b.top + 1 → b'.nx = b.nx → Tups (own ++ r0) gs' (gone ++ ((ls.map Lt.u).filter fun k => decide (k ∈ sm)).map fun u => (u, b.top + 1)) → Fr h₀ L h' m →
      News h₀ L h' ((bd, dictOf (b'.es w.params) 7) :: (L + 1 + 1 + 1 + 1 + 1 + 1, oSome) :: (L + 1 + 1 + 1, oTop) :: (L + 1 + 1, oThere) :: (L + 1, oBox) :: (b'.ll, listOf (refs (ls.filter fun l => !decide (l.u ∈ sm))).toArray n') :: (b'.gl, listOf gs'.toArray ng') :: (own ++ news)) →
      (∀ p ∈ (b'.ll, listOf (refs (ls.filter fun l => !decide (l.u ∈ sm))).toArray n') :: (b'.gl, listOf gs'.toArray ng') :: own, ∀ q ∈ (bd, dictOf (b.es w.params) 7) :: (L + 1 + 1 + 1 + 1 + 1 + 1, oSome) :: (L + 1 + 1 + 1, oTop) :: (L + 1 + 1, oThere) :: (L + 1, oBox) :: news, @Ne Nat p.1 q.1) → Q .next { s with heap := h', toks := tk' }) →
    wpAny (model prg w) A (exec (turnBody.getD 3 (.Pass default)) (lawEnv L fa cd)) Q E s := by
  w_top off
  have _ : (PySem.Challenge.rw_nz0284_01 = PySem.Challenge.rw_nz0284_01) ∧ (hd.heap_39 = hd.heap_39) := by k_fill; exact ⟨rfl, rfl⟩
  unfold lawEnv
  conv in turnBody.getD _ _ => whnf
  conv in lawScope => whnf
  rintro ⟨B, F, X, N, T, hA, hf, hke, hh, hd, hu⟩ hsome hthere htop hbox hsm hT hD hG hism hsl hin hid hdue hgv hgs hr0 hgl hmd hmg hoff hbx hll hbgl hls hlen9 hQ
  obtain ⟨hdl, dep, frs, gds, un⟩ := A
  dsimp only at hA hh hd hu
  subst hA hh
  with_reducible refine wpAny_mono (?_ : wpAny _ _ _ (fun v s' => Stop (Q v s')) E _) (fun _ _ h => h.go) (fun _ _ e => e)
  w_strict k_steps
  refine Stop.mk ?_
  refine' expunge_ok ⟨?c1, ?c2, ?c3, ?c4, ?c5, ?c6, ?c7, ?c8, ?c9, ?c10, ?c11⟩ hoff ?d2 ?d3 ?d4 ?d5 hlen9 ?d7 hism hsl hgl (fun h => absurd h hdue) ?q2; (case c1 => k_asm); (case c2 => k_asm); (case c3 => k_asm); (case c4 => k_asm); (case c5 => k_asm); (case c6 => rfl); (case c7 => rfl); (case c8 => rfl); (case c9 => rfl); (case c10 => (simp only [depth_under_make, depth_in1, depth_deeper]; omega)); (case c11 => (simp only [units_under_make, units_in1, units_deeper]; omega))
  case d2 => k_mem
  case d3 => k_mem
  case d4 => k_mem
  case d5 => exact fun l hl => (hls l hl).mono (by intro p hp; k_mem)
  case d7 => k_mem
  intro _ b' DT nT nL nG ys ts own h' tk' hys hts htop' hnx F' N' ho
  have hlenF : (ls.filter fun l => !decide (l.u ∈ sm)).length ≤ 9 := Nat.le_trans (List.length_filter_le _ _) hlen9
  have hlsF : ∀ l ∈ (ls.filter fun l => !decide (l.u ∈ sm)), l.In w.params news := fun l hl => hls l (List.mem_filter.mp hl).1
  have N1 : News h₀ L h' ((bd, dictOf (b'.es w.params) 7) :: (L + 1 + 1 + 1 + 1 + 1 + 1, oSome) :: (L + 1 + 1 + 1, oTop) :: (L + 1 + 1, oThere) :: (L + 1, oBox) :: (DT, listOf ys.toArray nT) :: (b'.ll, listOf (refs (ls.filter fun l => !decide (l.u ∈ sm))).toArray nL) :: (b'.gl, listOf (gs ++ ts).toArray nG) :: (own ++ news)) := kst_newsOf N' (by
    refine List.forall_mem_cons.mpr ⟨by k_mem, List.forall_mem_cons.mpr ⟨by k_mem, List.forall_mem_cons.mpr ⟨by k_mem, List.forall_mem_cons.mpr ⟨by k_mem, List.forall_mem_cons.mpr ⟨by k_mem, List.forall_mem_cons.mpr ⟨by k_mem, List.forall_mem_cons.mpr ⟨by k_mem, List.forall_mem_cons.mpr ⟨by k_mem, fun p hp => ?_⟩⟩⟩⟩⟩⟩⟩⟩
    rcases List.mem_append.mp hp with h | h <;> k_mem)
  clear N'
  have hgsR : Tups (own ++ r0) (gs ++ ts) (gone ++ ((ls.map Lt.u).filter fun k => decide (k ∈ sm)).map fun u => (u, b.top + 1)) := (hgs.mono fun p hp => List.mem_append_right _ hp).append (hts.mono fun p hp => List.mem_append_left _ hp)
  have hgsT : Tups (own ++ news) (gs ++ ts) (gone ++ ((ls.map Lt.u).filter fun k => decide (k ∈ sm)).map fun u => (u, b.top + 1)) := (hgs.mono fun p hp => List.mem_append_right _ (hr0 p hp)).append (hts.mono fun p hp => List.mem_append_left _ hp)
  generalize hled : (bd, dictOf (b'.es w.params) 7) :: (L + 1 + 1 + 1 + 1 + 1 + 1, oSome) :: (L + 1 + 1 + 1, oTop) :: (L + 1 + 1, oThere) :: (L + 1, oBox) :: (DT, listOf ys.toArray nT) :: (b'.ll, listOf (refs (ls.filter fun l => !decide (l.u ∈ sm))).toArray nL) :: (b'.gl, listOf (gs ++ ts).toArray nG) :: (own ++ news) = led at N1
  have hgv' : Tups led gvs (gone ++ ((ls.map Lt.u).filter fun k => decide (k ∈ sm)).map fun u => (u, b.top + 1)) := hgv.mono (by rw [← hled]; intro p hp; k_mem)
  have hgs' : Tups led (gs ++ ts) (gone ++ ((ls.map Lt.u).filter fun k => decide (k ∈ sm)).map fun u => (u, b.top + 1)) := hgsT.mono (by rw [← hled]; intro p hp; k_mem)
  subst hled
  have htb : b'.top = b.top + 1 := htop'
  obtain ⟨k1, k2, k3, k4, k5, k6, k7, t1, t2, t3, t4, t5, nx, top, ll, gl⟩ := b'
  dsimp only at htb hnx
  subst htb hnx
  w_strict k_steps
  rename News _ _ _ _ => NZ
  refine ⟨hQ ⟨k1, k2, k3, k4, k5, k6, k7, t1, t2, t3, t4, t5, b.nx, b.top + 1, ll, gl⟩ (gs ++ ts) nL nG ((DT, listOf ys.toArray nT) :: own) _ _ rfl rfl (hgsR.mono fun p hp => List.Mem.tail _ hp) (by assumption) (kst_newsOf NZ ?hs) (fun p hp => ho p (by simp only [List.mem_cons] at hp ⊢; rcases hp with h | h | h | h <;> simp [h]))⟩
  case hs =>
    refine List.forall_mem_cons.mpr ⟨by k_mem, List.forall_mem_cons.mpr ⟨by k_mem, List.forall_mem_cons.mpr ⟨by k_mem, List.forall_mem_cons.mpr ⟨by k_mem, List.forall_mem_cons.mpr ⟨by k_mem, List.forall_mem_cons.mpr ⟨by k_mem, List.forall_mem_cons.mpr ⟨by k_mem, List.forall_mem_cons.mpr ⟨by k_mem, fun p hp => ?_⟩⟩⟩⟩⟩⟩⟩⟩
    have hp' : p ∈ own ++ news := hp
    k_mem
end
section
local macro_rules | `(tactic| k_mem) => `(tactic| first | exact List.Mem.head _ | with_reducible assumption | (refine List.mem_cons_of_mem _ ?_; k_mem) | exact List.mem_append_left _ (by with_reducible assumption) | (refine List.mem_append_right _ ?_; k_mem))
local macro_rules | `(tactic| walk_at "eval ListComp") => `(tactic| (k_here; (with_reducible show wpAny _ _ (eval (Expr.ListComp _ [⟨_, _, [], _⟩] _ _) _) _ _ _); with_reducible refine LCg.ListComp_U (F₀ := by with_unfolding_all assumption) (by with_unfolding_all rfl) (by decide) (by with_unfolding_all rfl) (by decide) (by with_unfolding_all rfl) ?_ (by intro _; with_unfolding_all rfl)))
local macro_rules | `(tactic| walk_at "CompSrc") => `(tactic| refine Stop.go ?_)
local macro_rules | `(tactic| walk_at "CompSrcT") => `(tactic| refine Stop.go ?_)
local macro_rules | `(tactic| walk_at "eval Name") => `(tactic| (k_here; k_dflt (refine' nameX_L ?F ?v ?_ ?a ?b; (case a => rfl); (case b => rfl); (case F => k_asm); (case v => ((repeat refine Eq.trans (if_neg (by decide)) ?_); with_reducible assumption)); k_whole)))
local macro_rules | `(tactic| walk_at "call ref") => `(tactic| (k_here; (with_reducible show wpAny _ _ (call (Value.ref 110) _ _) _ _ _); k_dflt (refine' told_ok ⟨?c1, ?c2, ?c3, ?c4, ?c5, ?c6, ?c7, ?c8, ?c9, ?c10, ?c11⟩ ⟨?d1, ?d2⟩ ?_; (case c1 => k_asm); (case c2 => k_asm); (case c3 => k_asm); (case c4 => k_asm); (case c5 => k_asm); (case c6 => rfl); (case c7 => rfl); (case c8 => rfl); (case c9 => rfl); (case c10 => (simp only [depth_under_make, depth_in1, depth_deeper]; omega)); (case c11 => (simp only [units_under_make, units_in1, units_deeper]; omega)); (case d1 => k_mem); (case d2 => k_mem)); intro ta h' tk' F' N' l1))
local macro_rules | `(tactic| walk_at "subscriptTail") => `(tactic| (k_here; (with_reducible show wpAny _ _ (subscriptTail _ _ (Value.ref _) (Value.int _ _)) _ _ _); refine kda_item (knd := PySem.intKind _ _) (by with_reducible assumption) (by k_mem) (by with_reducible assumption) (intKind_is _ _ _ _) (by with_reducible assumption) ?_))
local macro_rules | `(tactic| walk_at "compareOp NotEq ref ref") => `(tactic| (k_here; (with_reducible show wpAny _ _ (compareOp CmpOp.NotEq (Value.ref _) (Value.ref _)) _ _ _); k_dflt (
  refine ne_tolds (by with_reducible assumption) (by k_mem) (by k_mem) (by with_reducible assumption) (by with_reducible assumption) (by (try simp only [units_deeper, units_in1, units_under_make, units_caller]); (try dsimp only); (show _ < 9900); omega) ?_)))

theorem told_at {ls : List Lt} {i : Nat} {k : Int} (h : (ls.map Lt.u)[i]? = some k) : ∃ l ∈ ls, ls[i]? = some l ∧ l.u = k := by
  rw [List.getElem?_map, Option.map_eq_some_iff] at h
  obtain ⟨l, h1, h2⟩ := h
  exact ⟨l, List.mem_of_getElem? h1, h1, h2⟩
theorem tolds_take {led : List (Addr × Obj)} {ys : List Value} {v : Value} {ls : List Lt} {l : Lt} {i : Nat} (h : Tolds led ys (ls.take i)) (hk : ls[i]? = some l) (hv : ToldIn led v l) : Tolds led (ys ++ [v]) (ls.take (i + 1)) := by
  rw [take_snoc hk]; exact h.snoc hv

set_option maxRecDepth 100000 in
set_option maxHeartbeats 2000000 in
theorem s5_ok {w : World} {s0 : Shared} {A₀ A : Around} {base h₀ : Heap} {outer : List Env} {L fa : Addr} {cd : Value} {m mg mb : Str → Option Value} {news : List (Addr × Obj)} {E : Value → Shared → Prop} {Q : Flow → Shared → Prop} {s : Shared} {oBox oThere oTold oT : Obj} {TH bx bd td : Addr} {kvs : List (Int × Value)} {tvs : List Value} {tn n : Nat} {ls : List Lt} {b : Bx} :
    Cx 30 w s0 A₀ A base h₀ outer (lawEnv L fa cd) L s.heap m mg mb ((L + 1 + 1 + 1 + 1, oTold) :: (L + 1 + 1, oThere) :: (L + 1, oBox) :: news) → oBox.data = .cell (some (.ref bx)) → oThere.data = .cell (some (.ref TH)) → oTold.data = .cell (some (.ref td)) → (bd, dictOf (b.es w.params) 7) ∈ news → (bx, instObj 151 bd) ∈ news → (b.ll, listOf (refs ls).toArray n) ∈ news → (TH, listOf tvs.toArray tn) ∈ news → (td, oT) ∈ news →
    oT.IsDictOf (PySem.intKind prg w) kvs → IntsAre tvs (ls.map Lt.u) → ls.length ≤ 9 → (∀ l ∈ ls, l.In w.params news) → (∀ l ∈ ls, ∃ v, PySem.valueAt kvs l.u = some v ∧ ToldIn news v l) →
    (∀ h' tk', Fr h₀ L h' m → News h₀ L h' ((L + 1 + 1 + 1 + 1, oTold) :: (L + 1 + 1, oThere) :: (L + 1, oBox) :: news) → Q .next { s with heap := h', toks := tk' }) →
    wpAny (model prg w) A (exec (turnBody.getD 4 (.Pass default)) (lawEnv L fa cd)) Q E s := by
  w_top off
  have _ : (PySem.Challenge.rw_nz0284_01 = PySem.Challenge.rw_nz0284_01) ∧ (hd.heap_39 = hd.heap_39) := by k_fill; exact ⟨rfl, rfl⟩
  unfold lawEnv
  conv in turnBody.getD _ _ => whnf
  conv in lawScope => whnf
  rintro ⟨B, F, X, N, T, hA, hf, hke, hh, hd, hu⟩ hbox hthere htold hbd hbx hll hT htd hdo hin hlen9 hls hkv hQ
  obtain ⟨hdl, dep, frs, gds, un⟩ := A
  dsimp only at hA hh hd hu
  subst hA hh
  with_reducible refine wpAny_mono (?_ : wpAny _ _ _ (fun v s' => Stop (Q v s')) E _) (fun _ _ h => h.go) (fun _ _ e => e)
  w_strict k_steps
  refine Stop.mk ?_
  refine LCg.CompSrc.ledger (by rfl) F N (by k_mem) (by rw [List.size_toArray, List.length_map]; exact Nat.le_trans hlen9 (by decide)) ?_
  intro g
  refine rest_grow (fun i ys own => Tolds own ys (ls.take i)) .nil ?_ ?_
  · rintro i v ys own nw I oI C oC2 D2 m₂ h tk E' hi hv hy e hsub hC hx F' N' off ne
    obtain ⟨l, hl, rfl, hk⟩ := refs_at' hv
    obtain ⟨e1, e2⟩ := hls l hl
    have f1 : (l.a, instObj 113 l.d) ∈ nw := hsub _ (by k_mem)
    have f2 : (l.d, dictOf (l.es w.params) l.n) ∈ nw := hsub _ (by k_mem)
    have hsrc := hsub (b.ll, _) (by k_mem)
    clear hi hv N
    w_strict k_steps
    rename ∀ q ∈ _, @LT.lt Nat _ _ _ => lt5
    exact compEnd_new (by assumption) (by assumption) lt5 off (.inr ⟨_, List.mem_cons_of_mem _ hsrc, rfl, _, rfl⟩) ⟨[_], rfl, (fun p hp q hq => by rw [List.mem_singleton.mp hp]; exact lt5 q (List.Mem.tail _ (List.Mem.tail _ (List.Mem.tail _ (hsub q hq))))), tolds_take (hy.mono fun p hp => List.mem_append_right _ hp) hk ⟨_, rfl, List.Mem.head _⟩⟩
  · rintro ys own nw e ho hts
    rw [List.size_toArray, List.length_map, List.take_length] at hts
    have hsub := fun p hp => (by rw [e]; exact List.mem_append_right own hp : p ∈ nw)
    have g2 := hsub (L + 1 + 1, oThere) (by k_mem)
    have g4 := hsub (L + 1 + 1 + 1 + 1, oTold) (by k_mem)
    have hts' : Tolds nw ys ls := hts.mono (by rw [e]; exact fun p hp => List.mem_append_left _ hp)
    have gT := hsub (TH, _) (by k_mem)
    have gtd := hsub (td, _) (by k_mem)
    intro D1 h1 tk1 F1 N1 o1
    clear N
    w_strict k_steps
    refine Stop.mk ?_
    rename News _ _ _ _ => N2
    refine LCg.CompSrc.ledger (by rfl) (by assumption) N2 (by k_mem) (by rw [List.size_toArray, hin.length, List.length_map]; exact Nat.le_trans hlen9 (by decide)) ?_
    intro g3
    refine rest_same (fun i ys => Tolds nw ys (ls.take i)) .nil ?_ ?_
    · rintro i v ys I oI C oC2 D2 m₂ h tk E' hi hv hy hC hx F' N' off ne
      obtain ⟨k, t, rfl, hk⟩ := IntsAre.at hin i v (by simpa using hv)
      obtain ⟨l, hl, hi', rfl⟩ := told_at hk
      obtain ⟨v, hv1, hv2⟩ := hkv l hl
      clear hi hv hk N2
      w_strict k_steps
      exact LCg.CompEnd.intro (by assumption) (by assumption) _ (fun p hp => hp) off (.inr ⟨_, List.mem_cons_of_mem _ gT, rfl, _, rfl⟩) ⟨rfl, tolds_take hy hi' (hv2.mono fun p hp => hsub p (by k_mem))⟩
    · rintro zs hzs
      rw [List.size_toArray, hin.length, List.length_map, List.take_length] at hzs
      intro D2 h2 tk2 F2 N3 o2
      have hu1 : Tolds ((D2, LCg.lst zs) :: (D1, LCg.lst ys) :: nw) ys ls := hts'.mono (fun p hp => by k_mem)
      have hu2 : Tolds ((D2, LCg.lst zs) :: (D1, LCg.lst ys) :: nw) zs ls := hzs.mono (fun p hp => by k_mem)
      clear N2
      w_strict k_steps
      exact ⟨hQ _ _ (by assumption) (kst_newsOf (by assumption) (fun p hp => List.Mem.tail _ (List.Mem.tail _ (hsub p hp))))⟩
end
section
local macro_rules | `(tactic| walk_at "no such place") => `(tactic| fail)
local macro_rules | `(tactic| k_mem) => `(tactic| first | exact List.Mem.head _ | with_reducible assumption | (refine List.mem_cons_of_mem _ ?_; k_mem) | exact List.mem_append_left _ (by with_reducible assumption) | (refine List.mem_append_right _ ?_; k_mem))
local macro_rules | `(tactic| walk_at "exec Assign cons ListComp") => `(tactic| (k_here; (with_reducible show wpAny _ _ (exec (Stmt.Assign [Expr.Name _ _] (Expr.ListComp _ [⟨_, _, [], _⟩] _ _) _) _) _ _ _); with_reducible refine LCg.Assign_ListComp_U (F₀ := by with_unfolding_all assumption) (by with_unfolding_all rfl) (by with_unfolding_all rfl) (by with_unfolding_all rfl) (by decide) (by with_unfolding_all rfl) (by decide) (by with_unfolding_all rfl) (by with_unfolding_all rfl) (by with_unfolding_all rfl) ?_ (by intro _; with_unfolding_all rfl)))
local macro_rules | `(tactic| walk_at "CompSrc") => `(tactic| refine Stop.go ?_)
local macro_rules | `(tactic| walk_at "CompSrcT") => `(tactic| refine Stop.go ?_)
local macro_rules | `(tactic| walk_at "compareOp NotIn int ref") => `(tactic| (k_here; (with_reducible show wpAny _ _ (compareOp CmpOp.NotIn (Value.int _ _) (Value.ref _)) _ _ _); k_dflt (refine notin_mem (News.isList (by with_reducible assumption) (by k_mem)) (by with_reducible assumption) ?_)))
local macro_rules | `(tactic| walk_at "compareOp In int ref") => `(tactic| (k_here; (with_reducible show wpAny _ _ (compareOp CmpOp.In (Value.int _ _) (Value.ref _)) _ _ _); k_dflt (refine in_mem (News.isList (by with_reducible assumption) (by k_mem)) (by with_reducible assumption) ?_)))
local macro_rules | `(tactic| walk_at "eval Name") => `(tactic| (k_here; k_dflt (refine' nameX_L ?F ?v ?_ ?a ?b; (case a => rfl); (case b => rfl); (case F => k_asm); (case v => ((repeat refine Eq.trans (if_neg (by decide)) ?_); with_reducible assumption)); k_whole)))
local macro_rules | `(tactic| walk_at "call builtin:list.index") => `(tactic| (k_here; (with_reducible show wpAny _ _ (call (Value.builtin _) [Value.ref _, Value.int _ _]) _ _ _); refine index_list_ints (News.isList (by with_reducible assumption) (by k_mem)) (by with_reducible assumption) (by with_reducible assumption) (by with_reducible assumption) ?_))

/-- the number of a uid among the uids that are there -/
def numOf (ns : List Int) (k : Int) : Int := if k ∈ ns then ((ns.idxOf k : Nat) : Int) + 1 else 0
theorem lay_smalls {ns : List Int} (h : ∀ k ∈ ns, 1 ≤ k ∧ k ≤ 15) (hl : ns.length ≤ 100) : PyData.layable0 (.list (ns.map .int)) = true := by
  have h1 : ∀ ns : List Int, PyData.canLayAll0 (ns.map .int) = true := fun ns => by
    induction ns with
    | nil => rfl
    | cons k r ih => simp only [List.map_cons, PyData.canLayAll0, PyData.canLay0, ih, Bool.and_self]
  have h2 : ∀ ns : List Int, PyData.depthAll (ns.map .int) = 0 := fun ns => by
    induction ns with
    | nil => rfl
    | cons k r ih => simp only [List.map_cons, PyData.depthAll, PyData.depth, ih, Nat.max_self]
  have h3 : ∀ ns : List Int, (∀ k ∈ ns, 1 ≤ k ∧ k ≤ 15) → PyData.weightAll (ns.map .int) ≤ 17 * ns.length := fun ns => by
    induction ns with
    | nil => intro _; exact Nat.le_refl _
    | cons k r ih =>
      intro h
      have hk := h k (List.mem_cons_self ..)
      have hr := ih fun x hx => h x (List.mem_cons_of_mem _ hx)
      have hw : PyData.weight (.int k) ≤ 16 := by
        have hl : k.natAbs.log2 ≤ k.natAbs := Nat.log2_le_self _
        simp only [PyData.weight]
        split
        · omega
        · omega
      simp only [List.map_cons, PyData.weightAll, List.length_cons]
      omega
  have e1 : PyData.canLay0 (.list (ns.map .int)) = true := by simp only [PyData.canLay0]; exact h1 ns
  have e2 : PyData.depth (.list (ns.map .int)) ≤ 64 := by simp only [PyData.depth, h2]; decide
  have e3 : PyData.weight (.list (ns.map .int)) ≤ 2 ^ 20 := by simp only [PyData.weight]; have := h3 ns h; omega
  unfold PyData.layable0
  rw [e1, decide_eq_true e2, decide_eq_true e3]; rfl
theorem ints_range_snoc {ys : List Value} {f : Nat → Int} {i : Nat} {k : Int} {t : Tok} (h : IntsAre ys ((List.range i).map f)) (e : k = f i) : IntsAre (ys ++ [.int k t]) ((List.range (i + 1)).map f) := by
  rw [List.range_succ, List.map_append, e]; exact ints_snoc h
theorem numOf_in {ns : List Int} {k : Int} (h : k ∈ ns) : ((ns.idxOf k : Nat) : Int) + 1 = numOf ns k := by rw [numOf, if_pos h]
theorem numOf_out {ns : List Int} {k : Int} (h : k ∉ ns) : 0 = numOf ns k := by rw [numOf, if_neg h]

set_option maxRecDepth 100000 in
set_option maxHeartbeats 2000000 in
theorem s6_ok {w : World} {s0 : Shared} {A₀ A : Around} {base h₀ : Heap} {outer : List Env} {L fa : Addr} {cd : Value} {m mg mb : Str → Option Value} {news : List (Addr × Obj)} {E : Value → Shared → Prop} {Q : Flow → Shared → Prop} {s : Shared} {oThere : Obj} {TH : Addr} {tvs : List Value} {tn cn : Nat} {ns : List Int} {tc : Tok} :
    Cx 30 w s0 A₀ A base h₀ outer (lawEnv L fa cd) L s.heap m mg mb ((L + 1 + 1, oThere) :: news) → oThere.data = .cell (some (.ref TH)) → (TH, listOf tvs.toArray tn) ∈ news → IntsAre tvs ns → PyData.layable0 (.list (ns.map .int)) = true → m (Str.ofString "count") = some (.int (cn : Int) tc) → cn ≤ 8 →
    (∀ D ys h' tk', IntsAre ys ((List.range (cn + 3)).map fun (i : Nat) => numOf ns (i : Int)) → Fr h₀ L h' (fun z => if z = Str.ofString "numbers_due" then some (.ref D) else m z) → News h₀ L h' ((D, LCg.lst ys) :: (L + 1 + 1, oThere) :: news) →
      (∀ q ∈ (L + 1 + 1, oThere) :: news, @Ne Nat q.1 D) → Q .next { s with heap := h', toks := tk' }) →
    wpAny (model prg w) A (exec (turnBody.getD 5 (.Pass default)) (lawEnv L fa cd)) Q E s := by
  w_top off
  have _ : (PySem.Challenge.rw_nz0284_01 = PySem.Challenge.rw_nz0284_01) ∧ (hd.heap_39 = hd.heap_39) := by k_fill; exact ⟨rfl, rfl⟩
  unfold lawEnv
  conv in turnBody.getD _ _ => whnf
  conv in lawScope => whnf
  rintro ⟨B, F, X, N, T, hA, hf, hke, hh, hd, hu⟩ hthere hT hin hlay hmc hcn hQ
  obtain ⟨hdl, dep, frs, gds, un⟩ := A
  dsimp only at hA hh hd hu
  subst hA hh
  with_reducible refine wpAny_mono (?_ : wpAny _ _ _ (fun v s' => Stop (Q v s')) E _) (fun _ _ h => h.go) (fun _ _ e => e)
  w_strict k_steps
  refine Stop.mk ?_
  refine LCg.CompSrc.range (n := cn + 3) (by rfl) (by assumption) (by assumption) (by assumption) (small_one (by decide) (by decide) (by omega) (by omega)) (by rw [rangeSize_nat]; omega) (by rw [sizeLine_eq]; omega) ?_
  intro g
  refine rest_same (fun i ys => IntsAre ys ((List.range i).map fun (i : Nat) => numOf ns (i : Int))) .nil ?_ ?_
  · rintro i v ys I oI C oC2 D2 m₂ h tk E' hi ⟨t, rfl⟩ hy hC hx F' N' off ne
    rw [Int.zero_add] at hx
    w_strict k_steps
    · exact LCg.CompEnd.intro (by assumption) (by assumption) _ (fun p hp => hp) off trivial ⟨rfl, ints_range_snoc hy (numOf_in (by assumption))⟩
    · exact LCg.CompEnd.intro (by assumption) (by assumption) _ (fun p hp => hp) off trivial ⟨rfl, ints_range_snoc hy (numOf_out (by assumption))⟩
  · rintro ys hy
    intro D hD tkD FD ND oD
    exact ⟨hQ D ys _ _ hy FD ND (off1_mem oD)⟩
end
section
local macro_rules | `(tactic| k_mem) => `(tactic| first | exact List.Mem.head _ | with_reducible assumption | (refine List.mem_cons_of_mem _ ?_; k_mem) | exact List.mem_append_left _ (by with_reducible assumption) | (refine List.mem_append_right _ ?_; k_mem))
local macro_rules | `(tactic| walk_at "eval ListComp") => `(tactic| (k_here; (with_reducible show wpAny _ _ (eval (Expr.ListComp _ [⟨_, _, [], _⟩] _ _) _) _ _ _); with_reducible refine LCg.ListComp_U (F₀ := by with_unfolding_all assumption) (by with_unfolding_all rfl) (by decide) (by with_unfolding_all rfl) (by decide) (by with_unfolding_all rfl) ?_ (by intro _; with_unfolding_all rfl)))
local macro_rules | `(tactic| walk_at "CompSrc") => `(tactic| refine Stop.go ?_)
local macro_rules | `(tactic| walk_at "CompSrcT") => `(tactic| refine Stop.go ?_)
local macro_rules | `(tactic| walk_at "eval Name") => `(tactic| (k_here; k_dflt (refine' nameX_L ?F ?v ?_ ?a ?b; (case a => rfl); (case b => rfl); (case F => k_asm); (case v => ((repeat refine Eq.trans (if_neg (by decide)) ?_); with_reducible assumption)); k_whole)))
local macro_rules | `(tactic| walk_at "call ref") => `(tactic| (k_here; (with_reducible show wpAny _ _ (call (Value.ref 169) _ _) _ _ _); k_dflt (refine' number_ok ⟨?c1, ?c2, ?c3, ?c4, ?c5, ?c6, ?c7, ?c8, ?c9, ?c10, ?c11⟩ ?d1 ?d2 ?d3 ?d4 ?d5 ?d6 ?_; (case c1 => k_asm); (case c2 => k_asm); (case c3 => k_asm); (case c4 => k_asm); (case c5 => k_asm); (case c6 => rfl); (case c7 => rfl); (case c8 => rfl); (case c9 => rfl); (case c10 => (simp only [depth_under_make, depth_in1, depth_deeper]; omega)); (case c11 => (simp only [units_under_make, units_in1, units_deeper]; omega)); (case d1 => k_mem); (case d2 => k_mem); (case d3 => k_mem); (case d4 => (intro l hl; exact Lt.In.mono ((by assumption : ∀ l ∈ _, Lt.In _ _ l) l hl) (by intro p hp; k_mem))); (case d5 => assumption); (case d6 => assumption)); intro r t h' tk' hpl F' N'))
local macro_rules | `(tactic| walk_at "compareOp NotEq ref ref") => `(tactic| (k_here; (with_reducible show wpAny _ _ (compareOp CmpOp.NotEq (Value.ref _) (Value.ref _)) _ _ _); k_dflt (first
  | refine ne_ints (by with_reducible assumption) (by k_mem) (by k_mem) (by first | with_reducible assumption | exact IntsAre.nil) (by with_reducible assumption) (by (try simp only [units_deeper, units_in1, units_under_make, units_caller]); (try dsimp only); (show _ < 9900); omega) ?_
  | refine ne_tups (by with_reducible assumption) (by k_mem) (by k_mem) (by with_reducible assumption) (by with_reducible assumption) (by (try simp only [units_deeper, units_in1, units_under_make, units_caller]); (try dsimp only); (show _ < 9900); omega) ?_)))
local macro_rules | `(tactic| walk_at "compareOp NotEq int int") => `(tactic| (k_here; (with_reducible refine ne_int_same ?_)))

theorem idxOf_at {ns : List Int} (hs : ns.Pairwise (· < ·)) {i : Nat} {k : Int} (h : ns[i]? = some k) : ns.idxOf k = i := by
  obtain ⟨h1, rfl⟩ := List.getElem?_eq_some_iff.mp h
  have hj : ns.idxOf ns[i] < ns.length := List.idxOf_lt_length_iff.mpr (List.getElem_mem h1)
  have e : ns[ns.idxOf ns[i]] = ns[i] := List.getElem_idxOf hj
  rcases Nat.lt_trichotomy (ns.idxOf ns[i]) i with h | h | h
  · have := List.pairwise_iff_getElem.mp hs _ _ hj h1 h; omega
  · exact h
  · have := List.pairwise_iff_getElem.mp hs _ _ h1 hj h; omega
theorem Pl.num {ls : List Lt} {k r : Int} (hs : (ls.map Lt.u).Pairwise (· < ·)) (h : Pl ls k r) : r + 1 = numOf (ls.map Lt.u) k := by
  rcases h with ⟨i, l, h1, h2, rfl⟩ | ⟨h1, rfl⟩
  · have hm : (ls.map Lt.u)[i]? = some k := by rw [List.getElem?_map, h1, Option.map_some, h2]
    rw [numOf, if_pos (List.mem_of_getElem? hm), idxOf_at hs hm]
  · rw [numOf, if_neg]
    · omega
    · intro hk
      obtain ⟨l, hl, e⟩ := List.mem_map.mp hk
      exact h1 l hl e

set_option maxRecDepth 100000 in
set_option maxHeartbeats 2000000 in
theorem s7_ok {w : World} {s0 : Shared} {A₀ A : Around} {base h₀ : Heap} {outer : List Env} {L fa : Addr} {cd : Value} {m mg mb : Str → Option Value} {news : List (Addr × Obj)} {E : Value → Shared → Prop} {Q : Flow → Shared → Prop} {s : Shared} {oBox : Obj} {bx bd ND : Addr} {nds : List Value} {n nn cn : Nat} {ls : List Lt} {b : Bx} {tc : Tok} :
    Cx 30 w s0 A₀ A base h₀ outer (lawEnv L fa cd) L s.heap m mg mb ((L + 1, oBox) :: news) → oBox.data = .cell (some (.ref bx)) → (bd, dictOf (b.es w.params) 7) ∈ news → (bx, instObj 151 bd) ∈ news → (b.ll, listOf (refs ls).toArray n) ∈ news → (∀ l ∈ ls, l.In w.params news) → ls.length ≤ 9 → (ls.map Lt.u).Pairwise (· < ·) →
    (ND, listOf nds.toArray nn) ∈ news → IntsAre nds ((List.range (cn + 3)).map fun (i : Nat) => numOf (ls.map Lt.u) (i : Int)) → m (Str.ofString "numbers_due") = some (.ref ND) → m (Str.ofString "count") = some (.int (cn : Int) tc) → cn ≤ 8 → b.nx = (cn : Int) + 1 →
    (∀ h' tk', Fr h₀ L h' m → News h₀ L h' ((L + 1, oBox) :: news) → Q .next { s with heap := h', toks := tk' }) →
    wpAny (model prg w) A (exec (turnBody.getD 6 (.Pass default)) (lawEnv L fa cd)) Q E s := by
  w_top off
  have _ : (PySem.Challenge.rw_nz0284_01 = PySem.Challenge.rw_nz0284_01) ∧ (hd.heap_39 = hd.heap_39) := by k_fill; exact ⟨rfl, rfl⟩
  unfold lawEnv
  conv in turnBody.getD _ _ => whnf
  conv in lawScope => whnf
  rintro ⟨B, F, X, N, T, hA, hf, hke, hh, hd, hu⟩ hbox hbd hbx hll hls hlen9 hsort hND hnd hmn hmc hcn hnx hQ
  obtain ⟨hdl, dep, frs, gds, un⟩ := A
  dsimp only at hA hh hd hu
  subst hA hh
  with_reducible refine wpAny_mono (?_ : wpAny _ _ _ (fun v s' => Stop (Q v s')) E _) (fun _ _ h => h.go) (fun _ _ e => e)
  obtain ⟨k1, k2, k3, k4, k5, k6, k7, t1, t2, t3, t4, t5, nx, top, ll, gl⟩ := b
  dsimp only at hnx hll
  subst hnx
  w_strict k_steps
  refine Stop.mk ?_
  refine LCg.CompSrc.range (n := cn + 3) (by rfl) (by assumption) (by assumption) (by assumption) (small_one (by decide) (by decide) (by omega) (by omega)) (by rw [rangeSize_nat]; omega) (by rw [sizeLine_eq]; omega) ?_
  intro g
  refine rest_same (fun i ys => IntsAre ys ((List.range i).map fun (i : Nat) => numOf (ls.map Lt.u) (i : Int))) .nil ?_ ?_
  · rintro i v ys I oI C oC2 D2 m₂ h tk E' hi ⟨t, rfl⟩ hy hC hx F' N' off ne
    rw [Int.zero_add] at hx
    w_strict k_steps
    exact LCg.CompEnd.intro (by assumption) (by assumption) _ (fun p hp => hp) off trivial ⟨rfl, ints_range_snoc hy (Pl.num hsort (by assumption))⟩
  · rintro ys hy
    intro D hD tkD FD ND oD
    w_strict k_steps
    exact ⟨hQ _ _ (by assumption) (kst_newsOf (by assumption) (by kst_allIn))⟩
end
section
/-- what the law's loop keeps: data -/
structure Dt where
  (b : Bx) (ls : List Lt) (bx bd td T G : Addr) (tvs gvs gs : List Value) (tn gn n ng : Nat) (gone : List (Int × Int)) (kvs : List (Int × Value)) (oSome oCell oTold oTop oThere oBox oT : Obj) (tt tc : Tok) (rest : List (Addr × Obj))
abbrev Dt.led (d : Dt) (P : Params) (L : Addr) : List (Addr × Obj) :=
  (d.bd, dictOf (d.b.es P) 7) :: (L + 1 + 1 + 1 + 1 + 1 + 1, d.oSome) :: (L + 1 + 1 + 1 + 1 + 1, d.oCell) :: (L + 1 + 1 + 1 + 1, d.oTold) :: (L + 1 + 1 + 1, d.oTop) :: (L + 1 + 1, d.oThere) :: (L + 1, d.oBox) :: d.rest
/-- off the box's dict and the cells -/
structure Clr (bd L a : Addr) : Prop where
  hb : @Ne Nat a bd
  c6 : @Ne Nat a (L + 1 + 1 + 1 + 1 + 1 + 1)
  c5 : @Ne Nat a (L + 1 + 1 + 1 + 1 + 1)
  c4 : @Ne Nat a (L + 1 + 1 + 1 + 1)
  c3 : @Ne Nat a (L + 1 + 1 + 1)
  c2 : @Ne Nat a (L + 1 + 1)
  c1 : @Ne Nat a (L + 1)
structure Ok (w : World) (cn : Nat) (sa : Addr) (its : Array Value) (sn : Nat) (L : Addr) (m : Str → Option Value) (d : Dt) : Prop where
  cTold : d.oTold.data = .cell (some (.ref d.td))
  cTop : d.oTop.data = .cell (some (.int d.b.top d.tt))
  cThere : d.oThere.data = .cell (some (.ref d.T))
  cBox : d.oBox.data = .cell (some (.ref d.bx))
  cSome : ∃ v, d.oSome.data = .cell v
  cCell : ∃ v, d.oCell.data = .cell v
  src : (sa, listOf its sn) ∈ d.rest
  box : (d.bx, instObj 151 d.bd) ∈ d.rest
  ll : (d.b.ll, listOf (refs d.ls).toArray d.n) ∈ d.rest
  gl : (d.b.gl, listOf d.gs.toArray d.ng) ∈ d.rest
  hT : (d.T, listOf d.tvs.toArray d.tn) ∈ d.rest
  hG : (d.G, listOf d.gvs.toArray d.gn) ∈ d.rest
  htd : (d.td, d.oT) ∈ d.rest
  lts : ∀ l ∈ d.ls, l.In w.params d.rest
  told : ∀ l ∈ d.ls, ∃ v, PySem.valueAt d.kvs l.u = some v ∧ ToldIn d.rest v l
  hdo : d.oT.IsDictOf (PySem.intKind prg w) d.kvs
  tv : IntsAre d.tvs (d.ls.map Lt.u)
  gv : Tups d.rest d.gvs d.gone
  gs : Tups d.rest d.gs d.gone
  len : d.ls.length + d.gone.length ≤ cn
  cn8 : cn ≤ 8
  sorted : (d.ls.map Lt.u).Pairwise (· < ·)
  rng : ∀ l ∈ d.ls, 1 ≤ l.u ∧ l.u ≤ (cn : Int)
  nx : d.b.nx = (cn : Int) + 1
  mcount : m (Str.ofString "count") = some (.int (cn : Int) d.tc)
  mgone : m (Str.ofString "gone") = some (.ref d.G)
  clr : ∀ p ∈ d.rest, Clr d.bd L p.1
  bdoff : (@Ne Nat d.bd (L + 1 + 1 + 1 + 1 + 1 + 1)) ∧ (@Ne Nat d.bd (L + 1 + 1 + 1 + 1 + 1)) ∧ (@Ne Nat d.bd (L + 1 + 1 + 1 + 1)) ∧ (@Ne Nat d.bd (L + 1 + 1 + 1)) ∧ (@Ne Nat d.bd (L + 1 + 1)) ∧ (@Ne Nat d.bd (L + 1))

theorem Cx.next {k k' : Nat} {w : World} {s0 : Shared} {A₀ A : Around} {base h₀ : Heap} {outer : List Env} {env : Env} {L : Addr} {h h' : Heap} {m m' mg mb : Str → Option Value} {news news' : List (Addr × Obj)}
    (C : Cx k w s0 A₀ A base h₀ outer env L h m mg mb news) (F : Fr h₀ L h' m') (N : News h₀ L h' news') (hk : k' ≤ k := by decide) : Cx k' w s0 A₀ A base h₀ outer env L h' m' mg mb news' :=
  ⟨C.B, F, C.X, N, C.T, C.hA, C.hf, C.hke, C.hh, Nat.le_trans (Nat.add_le_add_left hk _) C.hd, Nat.le_trans (Nat.add_le_add_left (Nat.mul_le_mul_left _ hk) _) C.hu⟩
theorem Ok.len9 {w : World} {cn : Nat} {sa : Addr} {its : Array Value} {sn : Nat} {L : Addr} {m : Str → Option Value} {d : Dt} (K : Ok w cn sa its sn L m d) : d.ls.length ≤ 9 := by
  have := K.len; have := K.cn8; omega
theorem turn_is : turnBody = [turnBody.getD 0 (.Pass default), turnBody.getD 1 (.Pass default), turnBody.getD 2 (.Pass default), turnBody.getD 3 (.Pass default), turnBody.getD 4 (.Pass default), turnBody.getD 5 (.Pass default), turnBody.getD 6 (.Pass default)] := by with_unfolding_all rfl
end
section
local macro_rules | `(tactic| kst_allIn) => `(tactic| (first | exact List.forall_mem_nil _ | (refine List.forall_mem_cons.mpr ⟨by k_mem, ?_⟩; kst_allIn) | (intro p hp; k_mem)))
theorem Clr.of {bd L a : Addr} (h : Clr bd L a) : @Ne Nat a bd := h.hb
set_option maxRecDepth 100000 in
set_option maxHeartbeats 800000 in
theorem tail_ok {w : World} {s0 : Shared} {A₀ A : Around} {base h₀ : Heap} {outer : List Env} {L fa : Addr} {cd : Value} {m mg mb : Str → Option Value} {E : Value → Shared → Prop} {Q : Flow → Shared → Prop} {s : Shared} {cn : Nat} {sa : Addr} {its : Array Value} {sn : Nat} {d : Dt} {x : Addr × Obj}
    (C : Cx 30 w s0 A₀ A base h₀ outer (lawEnv L fa cd) L s.heap m mg mb (x :: d.led w.params L)) (K : Ok w cn sa its sn L m d)
    (hQ : ∀ m' h' tk', Ok w cn sa its sn L m' d → Fr h₀ L h' m' → News h₀ L h' (x :: d.led w.params L) → Q .next { s with heap := h', toks := tk' }) :
    wpAny (model prg w) A (execs [turnBody.getD 4 (.Pass default), turnBody.getD 5 (.Pass default), turnBody.getD 6 (.Pass default)] (lawEnv L fa cd)) Q E s := by
  obtain ⟨cTold, cTop, cThere, cBox, cSome, cCell, src, box, ll, gl, hT, hG, htd, lts, told, hdo, tv, gv, gs, len, cn8, sorted, rng, nx, mcount, mgone, clr, bdoff⟩ := id K
  obtain ⟨b, ls, bx, bd, td, T, G, tvs, gvs, gvs2, tn, gn, n, ng, gone, kvs, oSome, oCell, oTold, oTop, oThere, oBox, oT, tt, tc, rest⟩ := d
  dsimp only [Dt.led] at *
  have h9 : ls.length ≤ 9 := by omega
  refine wpAny_execs_cons (s5_ok (news := x :: (bd, dictOf (b.es w.params) 7) :: (L + 1 + 1 + 1 + 1 + 1 + 1, oSome) :: (L + 1 + 1 + 1 + 1 + 1, oCell) :: (L + 1 + 1 + 1, oTop) :: rest)
    (C.next C.F (kst_newsOf C.N (by kst_allIn))) cBox cThere cTold (by k_mem) (by k_mem) (by k_mem) (by k_mem) (by k_mem) hdo tv h9 (fun l hl => (lts l hl).mono (by kst_allIn)) (fun l hl => (told l hl).imp fun v h => ⟨h.1, h.2.mono (by kst_allIn)⟩) fun h1 tk1 F1 N1 => ?_)
  show wpAny _ _ (execs _ _) Q E _
  refine wpAny_execs_cons (s6_ok (cn := cn) (news := x :: (bd, dictOf (b.es w.params) 7) :: (L + 1 + 1 + 1 + 1 + 1 + 1, oSome) :: (L + 1 + 1 + 1 + 1 + 1, oCell) :: (L + 1 + 1 + 1 + 1, oTold) :: (L + 1 + 1 + 1, oTop) :: (L + 1, oBox) :: rest)
    (C.next F1 (kst_newsOf N1 (by kst_allIn))) cThere (by k_mem) tv (lay_smalls (fun k hk => ?_) (by rw [List.length_map]; omega)) mcount cn8 fun D ys h2 tk2 hys F2 N2 o2 => ?_)
  · obtain ⟨l, hl, rfl⟩ := List.mem_map.mp hk
    have := rng l hl
    omega
  show wpAny _ _ (execs _ _) Q E _
  have mc2 : (if Str.ofString "count" = Str.ofString "numbers_due" then some (Value.ref D) else m (Str.ofString "count")) = some (.int (cn : Int) tc) := (if_neg (by decide)).trans mcount
  have mg2 : (if Str.ofString "gone" = Str.ofString "numbers_due" then some (Value.ref D) else m (Str.ofString "gone")) = some (.ref G) := (if_neg (by decide)).trans mgone
  refine wpAny_execs_cons (s7_ok (cn := cn) (ls := ls) (ND := D) (news := (D, LCg.lst ys) :: x :: (bd, dictOf (b.es w.params) 7) :: (L + 1 + 1 + 1 + 1 + 1 + 1, oSome) :: (L + 1 + 1 + 1 + 1 + 1, oCell) :: (L + 1 + 1 + 1 + 1, oTold) :: (L + 1 + 1 + 1, oTop) :: (L + 1 + 1, oThere) :: rest)
    (C.next F2 (kst_newsOf N2 (by kst_allIn))) cBox (by k_mem) (by k_mem) (by k_mem) (fun l hl => (lts l hl).mono (by kst_allIn)) h9 sorted (by k_mem) hys (if_pos rfl) mc2 cn8 nx fun h3 tk3 F3 N3 => ?_)
  show wpAny _ _ (execs _ _) Q E _
  refine wpAny_execs_nil (hQ (fun z => if z = Str.ofString "numbers_due" then some (Value.ref D) else m z) _ _ { K with mcount := mc2, mgone := mg2 } F3 (kst_newsOf N3 (by kst_allIn)))
end
section
local macro_rules | `(tactic| k_mem) => `(tactic| first | exact List.mem_cons_self | with_reducible assumption | (refine List.mem_cons_of_mem _ ?_; k_mem) | exact List.mem_append_left _ (by with_reducible assumption) | (refine List.mem_append_right _ ?_; k_mem))
local macro_rules | `(tactic| kst_allIn) => `(tactic| (first | exact List.forall_mem_nil _ | (refine List.forall_mem_cons.mpr ⟨by k_mem, ?_⟩; kst_allIn) | (intro p hp; k_mem)))
theorem filter_u (ls : List Lt) (sm : List Int) : ((ls.map Lt.u).filter fun k => !decide (k ∈ sm)) = (ls.filter fun l => !decide (l.u ∈ sm)).map Lt.u := by rw [List.filter_map]; rfl
theorem filter_len {α} (p : α → Bool) (l : List α) : (l.filter p).length + (l.filter fun x => !p x).length = l.length := by
  induction l with
  | nil => rfl
  | cons a l ih =>
    cases h : p a
    · rw [List.filter_cons_of_neg (by simp [h]), List.filter_cons_of_pos (by simp [h]), List.length_cons, List.length_cons]; omega
    · rw [List.filter_cons_of_pos (by simp [h]), List.filter_cons_of_neg (by simp [h]), List.length_cons, List.length_cons]; omega
theorem filter_len2 (ls : List Lt) (sm : List Int) : ((ls.map Lt.u).filter fun k => decide (k ∈ sm)).length + (ls.filter fun l => !decide (l.u ∈ sm)).length = ls.length := by
  have := filter_len (fun k => decide (k ∈ sm)) (ls.map Lt.u)
  rw [filter_u, List.length_map, List.length_map] at this
  exact this
theorem up_ne {L : Addr} {i j : Nat} (h : i ≠ j) : @Ne Nat (L + i) (L + j) := by show ¬ (_ : Nat) = _; omega
theorem cells_ne (L : Addr) : (@Ne Nat (L + 1 + 1 + 1 + 1 + 1) (L + 1 + 1 + 1 + 1 + 1 + 1)) ∧ (@Ne Nat (L + 1 + 1 + 1 + 1) (L + 1 + 1 + 1 + 1 + 1 + 1)) ∧ (@Ne Nat (L + 1 + 1 + 1) (L + 1 + 1 + 1 + 1 + 1 + 1)) ∧ (@Ne Nat (L + 1 + 1) (L + 1 + 1 + 1 + 1 + 1 + 1)) ∧ (@Ne Nat (L + 1) (L + 1 + 1 + 1 + 1 + 1 + 1))
    ∧ (@Ne Nat (L + 1 + 1 + 1 + 1 + 1) (L + 1 + 1 + 1)) ∧ (@Ne Nat (L + 1 + 1 + 1 + 1) (L + 1 + 1 + 1)) ∧ (@Ne Nat (L + 1) (L + 1 + 1 + 1)) ∧ (@Ne Nat (L + 1 + 1 + 1 + 1 + 1) (L + 1 + 1)) ∧ (@Ne Nat (L + 1 + 1 + 1 + 1) (L + 1 + 1)) ∧ (@Ne Nat (L + 1) (L + 1 + 1)) := by
  refine ⟨?_, ?_, ?_, ?_, ?_, ?_, ?_, ?_, ?_, ?_, ?_⟩ <;> (show ¬ (_ : Nat) = _; omega)

set_option maxRecDepth 100000 in
set_option maxHeartbeats 2000000 in
theorem head_ok {w : World} {s0 : Shared} {A₀ A : Around} {base h₀ : Heap} {outer : List Env} {L fa : Addr} {cd : Value} {m mg mb : Str → Option Value} {E : Value → Shared → Prop} {Q : Flow → Shared → Prop} {s : Shared} {cn : Nat} {sa : Addr} {its : Array Value} {sn : Nat} {d : Dt} {x : Addr × Obj} {cell : Int} {ct : Tok} {stl : List Stmt}
    (C : Cx 30 w s0 A₀ A base h₀ outer (lawEnv L fa cd) L s.heap m mg mb (x :: d.led w.params L)) (K : Ok w cn sa its sn L m d) (hcell : d.oCell.data = .cell (some (.int cell ct))) (hx : Clr d.bd L x.1) (hx2 : ∀ p ∈ d.rest, @Ne Nat p.1 x.1)
    (hQ : ∀ d' m' h' tk', Ok w cn sa its sn L m' d' → d'.bd = d.bd → (∀ p ∈ d'.rest, @Ne Nat p.1 x.1) → Fr h₀ L h' m' → News h₀ L h' (x :: d'.led w.params L) → wpAny (model prg w) A (execs stl (lawEnv L fa cd)) Q E { s with heap := h', toks := tk' }) :
    ∀ st0 st1 st2 st3, st0 = turnBody.getD 0 (.Pass default) → st1 = turnBody.getD 1 (.Pass default) → st2 = turnBody.getD 2 (.Pass default) → st3 = turnBody.getD 3 (.Pass default) → wpAny (model prg w) A (execs (st0 :: st1 :: st2 :: st3 :: stl) (lawEnv L fa cd)) Q E s := by
  intro st0 st1 st2 st3 e0 e1 e2 e3
  obtain ⟨cTold, cTop, cThere, cBox, ⟨v0, cSome⟩, cCell, src, box, ll, gl, hT, hG, htd, lts, told, hdo, tv, gv, gs, len, cn8, sorted, rng, nx, mcount, mgone, clr, bdoff⟩ := id K
  obtain ⟨b, ls, bx, bd, td, T, G, tvs, gvs, gvs2, tn, gn, n, ng, gone, kvs, oSome, oCell, oTold, oTop, oThere, oBox, oT, tt, tc, rest⟩ := d
  dsimp only [Dt.led] at *
  have h9 : ls.length ≤ 9 := by omega
  have hgl : gvs.length ≤ 100 := by rw [gv.length]; omega
  have hgl2 : gvs2.length ≤ 100 := by rw [gs.length]; omega
  obtain ⟨n56, n46, n36, n26, n16, n53, n43, n13, n52, n42, n12⟩ := cells_ne L
  with_reducible refine wpAny_execs_cons ?_
  rw [e0]
  with_reducible refine (s1_ok (news := x :: (bd, dictOf (b.es w.params) 7) :: (L + 1 + 1 + 1 + 1, oTold) :: (L + 1 + 1 + 1, oTop) :: (L + 1 + 1, oThere) :: (L + 1, oBox) :: rest)
    (C.next C.F (kst_newsOf C.N (by kst_allIn))) hcell cSome
    (List.forall_mem_cons.mpr ⟨hx.c6, List.forall_mem_cons.mpr ⟨bdoff.1, List.forall_mem_cons.mpr ⟨n46, List.forall_mem_cons.mpr ⟨n36, List.forall_mem_cons.mpr ⟨n26, List.forall_mem_cons.mpr ⟨n16, fun p hp => (clr p hp).c6⟩⟩⟩⟩⟩⟩)
    fun D ys sm o' h1 tk1 ho' hys hsl F1 N1 o1 => ?_)
  with_reducible show wpAny _ _ (execs _ _) Q E _
  have o1x : @Ne Nat x.1 D := o1 x (by k_mem)
  have o1b : @Ne Nat bd D := o1 (bd, _) (by k_mem)
  have o13 : @Ne Nat (L + 1 + 1 + 1) D := o1 (L + 1 + 1 + 1, _) (by k_mem)
  have o12 : @Ne Nat (L + 1 + 1) D := o1 (L + 1 + 1, _) (by k_mem)
  clear o1
  with_reducible refine wpAny_execs_cons ?_
  rw [e1]
  with_reducible refine (s2_ok (SM := D) (T := T) (sm := sm) (ns := ls.map Lt.u) (news := (D, LCg.lst ys) :: x :: (bd, dictOf (b.es w.params) 7) :: (L + 1 + 1 + 1 + 1 + 1, oCell) :: (L + 1 + 1 + 1 + 1, oTold) :: (L + 1 + 1 + 1, oTop) :: (L + 1, oBox) :: rest)
    (C.next F1 (kst_newsOf N1 (by kst_allIn))) ho' cThere (by k_mem) (by k_mem) hys tv (by rw [List.length_map]; exact h9)
    fun DU dys h2 tk2 hdys F2 N2 o2 => ?_)
  with_reducible show wpAny _ _ (execs _ _) Q E _
  have o2x : @Ne Nat x.1 DU := o2 x (by k_mem)
  have o2b : @Ne Nat bd DU := o2 (bd, _) (by k_mem)
  have o23 : @Ne Nat (L + 1 + 1 + 1) DU := o2 (L + 1 + 1 + 1, _) (by k_mem)
  have o22 : @Ne Nat (L + 1 + 1) DU := o2 (L + 1 + 1, _) (by k_mem)
  clear o2
  have mc2 : (if Str.ofString "count" = Str.ofString "due" then some (Value.ref DU) else m (Str.ofString "count")) = some (.int (cn : Int) tc) := (if_neg (by decide)).trans mcount
  have mg2 : (if Str.ofString "gone" = Str.ofString "due" then some (Value.ref DU) else m (Str.ofString "gone")) = some (.ref G) := (if_neg (by decide)).trans mgone
  have md2 : (if Str.ofString "due" = Str.ofString "due" then some (Value.ref DU) else m (Str.ofString "due")) = some (.ref DU) := if_pos rfl
  with_reducible refine wpAny_execs_cons ?_
  rw [e2]
  with_reducible refine (s3_ok (SM := D) (T := T) (D := DU) (G := G) (gvs := gvs) (sm := sm) (ns := ls.map Lt.u) (top := b.top) (tt := tt) (news := (DU, LCg.lst dys) :: (D, LCg.lst ys) :: x :: (bd, dictOf (b.es w.params) 7) :: (L + 1 + 1 + 1 + 1 + 1, oCell) :: (L + 1 + 1 + 1 + 1, oTold) :: (L + 1, oBox) :: rest)
    (C.next F2 (kst_newsOf N2 (by kst_allIn))) ho' cThere cTop (by k_mem) (by k_mem) (by k_mem) (by k_mem) hys tv hdys (by rw [List.length_map]; exact h9) hgl md2 mg2
    (List.forall_mem_cons.mpr ⟨Ne.symm o23, List.forall_mem_cons.mpr ⟨Ne.symm o13, List.forall_mem_cons.mpr ⟨hx.c3, List.forall_mem_cons.mpr ⟨bdoff.2.2.2.1, List.forall_mem_cons.mpr ⟨n53, List.forall_mem_cons.mpr ⟨n43, List.forall_mem_cons.mpr ⟨n13, fun p hp => (clr p hp).c3⟩⟩⟩⟩⟩⟩⟩)
    (List.forall_mem_cons.mpr ⟨Ne.symm o22, List.forall_mem_cons.mpr ⟨Ne.symm o12, List.forall_mem_cons.mpr ⟨hx.c2, List.forall_mem_cons.mpr ⟨bdoff.2.2.2.2.1, List.forall_mem_cons.mpr ⟨n52, List.forall_mem_cons.mpr ⟨n42, List.forall_mem_cons.mpr ⟨n12, fun p hp => (clr p hp).c2⟩⟩⟩⟩⟩⟩⟩)
    (fun hdue h3 tk3 F3 N3 => ?_) (fun hne T' G' tys ts own oTop' oThere' t' h3 tk3 hTop' hThere' htys hts F3 N3 o3 => ?_))
  · with_reducible show wpAny _ _ (execs _ _) Q E _
    with_reducible refine wpAny_execs_cons ?_
    rw [e3]
    with_reducible refine (s4a_ok (SM := D) (T := T) (D := DU) (G := G) (gvs := gvs) (gs := gvs2) (sm := sm) (ls := ls) (gone := gone) (tt := tt) (bx := bx) (bd := bd) (b := b) (news := (DU, LCg.lst dys) :: (D, LCg.lst ys) :: x :: (L + 1 + 1 + 1 + 1 + 1, oCell) :: (L + 1 + 1 + 1 + 1, oTold) :: rest)
      (C.next F3 (kst_newsOf N3 (by kst_allIn))) ho' cThere cTop cBox (by k_mem) (by k_mem) (by k_mem) (by k_mem) hys (by omega) tv (hdue ▸ hdys) hdue (gv.mono (by kst_allIn)) (gs.mono (by kst_allIn)) hgl2 md2 mg2
      (List.forall_mem_cons.mpr ⟨Ne.symm bdoff.1, List.forall_mem_cons.mpr ⟨Ne.symm bdoff.2.2.2.1, List.forall_mem_cons.mpr ⟨Ne.symm bdoff.2.2.2.2.1, List.forall_mem_cons.mpr ⟨Ne.symm bdoff.2.2.2.2.2, List.forall_mem_cons.mpr ⟨Ne.symm o2b, List.forall_mem_cons.mpr ⟨Ne.symm o1b, List.forall_mem_cons.mpr ⟨hx.hb, List.forall_mem_cons.mpr ⟨Ne.symm bdoff.2.1, List.forall_mem_cons.mpr ⟨Ne.symm bdoff.2.2.1, fun p hp => (clr p hp).hb⟩⟩⟩⟩⟩⟩⟩⟩⟩)
      (by k_mem) (by k_mem) (by k_mem) (fun l hl => (lts l hl).mono (by kst_allIn)) h9 fun h4 tk4 F4 N4 => ?_)
    with_reducible show wpAny _ _ (execs _ _) Q E _
    with_reducible exact (hQ ⟨b, ls, bx, bd, td, T, G, tvs, gvs, gvs2, tn, gn, n, ng, gone, kvs, o', oCell, oTold, oTop, oThere, oBox, oT, tt, tc, rest⟩ (fun z => if z = Str.ofString "due" then some (Value.ref DU) else m z) _ _
      ⟨cTold, cTop, cThere, cBox, ⟨_, ho'⟩, cCell, src, box, ll, gl, hT, hG, htd, lts, told, hdo, tv, gv, gs, len, cn8, sorted, rng, nx, mc2, mg2, clr, bdoff⟩ rfl hx2 F4 (kst_newsOf N4 (by kst_allIn)))
  · with_reducible show wpAny _ _ (execs _ _) Q E _
    have mc3 : (if Str.ofString "count" = Str.ofString "gone" then some (Value.ref G') else if Str.ofString "count" = Str.ofString "due" then some (Value.ref DU) else m (Str.ofString "count")) = some (.int (cn : Int) tc) := (if_neg (by decide)).trans mc2
    have md3 : (if Str.ofString "due" = Str.ofString "gone" then some (Value.ref G') else if Str.ofString "due" = Str.ofString "due" then some (Value.ref DU) else m (Str.ofString "due")) = some (.ref DU) := (if_neg (by decide)).trans md2
    have mg3 : (if Str.ofString "gone" = Str.ofString "gone" then some (Value.ref G') else if Str.ofString "gone" = Str.ofString "due" then some (Value.ref DU) else m (Str.ofString "gone")) = some (.ref G') := if_pos rfl
    have o3x := fun p hp => o3 p hp x (by k_mem)
    have clr3 : ∀ p ∈ (T', LCg.lst tys) :: (G', W.listOf (gvs ++ ts).toArray 0) :: own, Clr bd L p.1 := fun p hp =>
      ⟨o3 p hp (bd, _) (by k_mem), o3 p hp (L + 1 + 1 + 1 + 1 + 1 + 1, _) (by k_mem), o3 p hp (L + 1 + 1 + 1 + 1 + 1, _) (by k_mem), o3 p hp (L + 1 + 1 + 1 + 1, _) (by k_mem), o3 p hp (L + 1 + 1 + 1, _) (by k_mem), o3 p hp (L + 1 + 1, _) (by k_mem), o3 p hp (L + 1, _) (by k_mem)⟩
    clear o3
    have N3' : News h₀ L h3 ((bd, dictOf (b.es w.params) 7) :: (L + 1 + 1 + 1 + 1 + 1 + 1, o') :: (L + 1 + 1 + 1, oTop') :: (L + 1 + 1, oThere') :: (L + 1, oBox) :: (T', LCg.lst tys) :: (G', W.listOf (gvs ++ ts).toArray 0) :: (DU, LCg.lst dys) :: (D, LCg.lst ys) :: x :: (L + 1 + 1 + 1 + 1 + 1, oCell) :: (L + 1 + 1 + 1 + 1, oTold) :: (own ++ rest)) :=
      kst_newsOf N3 (by
        refine List.forall_mem_cons.mpr ⟨by k_mem, List.forall_mem_cons.mpr ⟨by k_mem, List.forall_mem_cons.mpr ⟨by k_mem, List.forall_mem_cons.mpr ⟨by k_mem, List.forall_mem_cons.mpr ⟨by k_mem, List.forall_mem_cons.mpr ⟨by k_mem, List.forall_mem_cons.mpr ⟨by k_mem, List.forall_mem_cons.mpr ⟨by k_mem, List.forall_mem_cons.mpr ⟨by k_mem, List.forall_mem_cons.mpr ⟨by k_mem, List.forall_mem_cons.mpr ⟨by k_mem, List.forall_mem_cons.mpr ⟨by k_mem, fun p hp => ?_⟩⟩⟩⟩⟩⟩⟩⟩⟩⟩⟩⟩
        rcases List.mem_append.mp hp with h | h <;> k_mem)
    with_reducible refine wpAny_execs_cons ?_
    rw [e3]
    with_reducible refine (s4b_ok (SM := D) (T := T') (D := DU) (G := G') (gvs := gvs ++ ts) (gs := gvs2) (sm := sm) (ls := ls) (gone := gone) (tt := t') (bx := bx) (bd := bd) (b := b) (r0 := rest) (news := (T', LCg.lst tys) :: (G', W.listOf (gvs ++ ts).toArray 0) :: (DU, LCg.lst dys) :: (D, LCg.lst ys) :: x :: (L + 1 + 1 + 1 + 1 + 1, oCell) :: (L + 1 + 1 + 1 + 1, oTold) :: (own ++ rest))
      (C.next F3 N3') ho' hThere' hTop' cBox (by k_mem) (by k_mem) (by k_mem) (by k_mem) hys (by omega) (by rw [← filter_u]; exact htys) hdys hne
      ((gv.mono (by kst_allIn)).append (hts.mono (by kst_allIn))) gs (by kst_allIn) hgl2 md3 mg3
      (List.forall_mem_cons.mpr ⟨Ne.symm bdoff.1, List.forall_mem_cons.mpr ⟨Ne.symm bdoff.2.2.2.1, List.forall_mem_cons.mpr ⟨Ne.symm bdoff.2.2.2.2.1, List.forall_mem_cons.mpr ⟨Ne.symm bdoff.2.2.2.2.2, List.forall_mem_cons.mpr ⟨(clr3 (T', _) (by k_mem)).hb, List.forall_mem_cons.mpr ⟨(clr3 (G', _) (by k_mem)).hb, List.forall_mem_cons.mpr ⟨Ne.symm o2b, List.forall_mem_cons.mpr ⟨Ne.symm o1b, List.forall_mem_cons.mpr ⟨hx.hb, List.forall_mem_cons.mpr ⟨Ne.symm bdoff.2.1, List.forall_mem_cons.mpr ⟨Ne.symm bdoff.2.2.1,
        fun p hp => (List.mem_append.mp hp).elim (fun h => (clr3 p (by k_mem)).hb) (fun h => (clr p h).hb)⟩⟩⟩⟩⟩⟩⟩⟩⟩⟩⟩)
      (by k_mem) (by k_mem) (by k_mem) (fun l hl => (lts l hl).mono (by kst_allIn)) h9 fun b' gs' n' ng' own' h4 tk4 htop4 hnx4 hgs4 F4 N4 o4 => ?_)
    with_reducible show wpAny _ _ (execs _ _) Q E _
    have o4x := fun p hp => o4 p hp x (by k_mem)
    have clr4 : ∀ p ∈ (b'.ll, W.listOf (refs (ls.filter fun l => !decide (l.u ∈ sm))).toArray n') :: (b'.gl, W.listOf gs'.toArray ng') :: own', Clr bd L p.1 := fun p hp =>
      ⟨o4 p hp (bd, _) (by k_mem), o4 p hp (L + 1 + 1 + 1 + 1 + 1 + 1, _) (by k_mem), o4 p hp (L + 1 + 1 + 1 + 1 + 1, _) (by k_mem), o4 p hp (L + 1 + 1 + 1 + 1, _) (by k_mem), o4 p hp (L + 1 + 1 + 1, _) (by k_mem), o4 p hp (L + 1 + 1, _) (by k_mem), o4 p hp (L + 1, _) (by k_mem)⟩
    clear o4
    have sub : ∀ p ∈ rest, p ∈ (b'.ll, W.listOf (refs (ls.filter fun l => !decide (l.u ∈ sm))).toArray n') :: (b'.gl, W.listOf gs'.toArray ng') :: (T', LCg.lst tys) :: (G', W.listOf (gvs ++ ts).toArray 0) :: (own' ++ (own ++ rest)) := by kst_allIn
    have len4 := filter_len2 ls sm
    have sub2 : ∀ l ∈ ls.filter (fun l => !decide (l.u ∈ sm)), l ∈ ls := fun l hl => (List.mem_filter.mp hl).1
    with_reducible refine (hQ ⟨b', ls.filter fun l => !decide (l.u ∈ sm), bx, bd, td, T', G', tys, gvs ++ ts, gs', tys.length, 0, n', ng', gone ++ ((ls.map Lt.u).filter fun k => decide (k ∈ sm)).map fun u => (u, b.top + 1), kvs, o', oCell, oTold, oTop', oThere', oBox, oT, t', tc,
        (b'.ll, W.listOf (refs (ls.filter fun l => !decide (l.u ∈ sm))).toArray n') :: (b'.gl, W.listOf gs'.toArray ng') :: (T', LCg.lst tys) :: (G', W.listOf (gvs ++ ts).toArray 0) :: (own' ++ (own ++ rest))⟩
      (fun z => if z = Str.ofString "gone" then some (Value.ref G') else if z = Str.ofString "due" then some (Value.ref DU) else m z) _ _
      ⟨cTold, by rw [htop4]; exact hTop', hThere', cBox, ⟨_, ho'⟩, cCell, sub _ src, sub _ box, by k_mem, by k_mem, by k_mem, by k_mem, sub _ htd, fun l hl => (lts l (sub2 l hl)).mono sub, fun l hl => (told l (sub2 l hl)).imp fun v h => ⟨h.1, h.2.mono sub⟩, hdo, by rw [← filter_u]; exact htys,
        (gv.mono sub).append (hts.mono (by kst_allIn)), hgs4.mono ?g1, ?g2, cn8, ?g3, fun l hl => rng l (sub2 l hl), hnx4.trans nx, mc3, mg3, ?g4, bdoff⟩ rfl ?g5 F4 (kst_newsOf N4 ?g6))
    case g1 => intro p hp; rcases List.mem_append.mp hp with h | h <;> k_mem
    case g2 =>
      dsimp only
      rw [List.length_append, List.length_map]; omega
    case g3 => rw [← filter_u]; exact sorted.filter _
    case g4 =>
      refine List.forall_mem_cons.mpr ⟨clr4 (b'.ll, _) (by k_mem), List.forall_mem_cons.mpr ⟨clr4 (b'.gl, _) (by k_mem), List.forall_mem_cons.mpr ⟨clr3 (T', _) (by k_mem), List.forall_mem_cons.mpr ⟨clr3 (G', _) (by k_mem), fun p hp => ?_⟩⟩⟩⟩
      rcases List.mem_append.mp hp with h | h
      · exact clr4 p (by k_mem)
      · rcases List.mem_append.mp h with h | h
        · exact clr3 p (by k_mem)
        · exact clr p h
    case g5 =>
      refine List.forall_mem_cons.mpr ⟨o4x (b'.ll, _) (by k_mem), List.forall_mem_cons.mpr ⟨o4x (b'.gl, _) (by k_mem), List.forall_mem_cons.mpr ⟨o3x (T', _) (by k_mem), List.forall_mem_cons.mpr ⟨o3x (G', _) (by k_mem), fun p hp => ?_⟩⟩⟩⟩
      rcases List.mem_append.mp hp with h | h
      · exact o4x p (by k_mem)
      · rcases List.mem_append.mp h with h | h
        · exact o3x p (by k_mem)
        · exact hx2 p h
    case g6 =>
      refine List.forall_mem_cons.mpr ⟨by k_mem, List.forall_mem_cons.mpr ⟨by k_mem, List.forall_mem_cons.mpr ⟨by k_mem, List.forall_mem_cons.mpr ⟨by k_mem, List.forall_mem_cons.mpr ⟨by k_mem, List.forall_mem_cons.mpr ⟨by k_mem, List.forall_mem_cons.mpr ⟨by k_mem, List.forall_mem_cons.mpr ⟨by k_mem, List.forall_mem_cons.mpr ⟨by k_mem, List.forall_mem_cons.mpr ⟨by k_mem, List.forall_mem_cons.mpr ⟨by k_mem, List.forall_mem_cons.mpr ⟨by k_mem, fun p hp => ?_⟩⟩⟩⟩⟩⟩⟩⟩⟩⟩⟩⟩
      rcases List.mem_append.mp hp with h | h
      · k_mem
      · k_mem
end
section
set_option maxRecDepth 100000 in
set_option maxHeartbeats 800000 in
/-- a turn of the law's loop, behind the store of its name -/
theorem turn_ok {w : World} {s0 : Shared} {A₀ A : Around} {base h₀ : Heap} {outer : List Env} {L fa : Addr} {cd : Value} {m mg mb : Str → Option Value} {E : Value → Shared → Prop} {Q : Flow → Shared → Prop} {s : Shared} {cn : Nat} {sa : Addr} {its : Array Value} {sn : Nat} {d : Dt} {x : Addr × Obj} {cell : Int} {ct : Tok}
    (C : Cx 30 w s0 A₀ A base h₀ outer (lawEnv L fa cd) L s.heap m mg mb (x :: d.led w.params L)) (K : Ok w cn sa its sn L m d) (hcell : d.oCell.data = .cell (some (.int cell ct))) (hx : Clr d.bd L x.1) (hx2 : ∀ p ∈ d.rest, @Ne Nat p.1 x.1)
    (hQ : ∀ d' m' h' tk', Ok w cn sa its sn L m' d' → d'.bd = d.bd → (∀ p ∈ d'.rest, @Ne Nat p.1 x.1) → Fr h₀ L h' m' → News h₀ L h' (x :: d'.led w.params L) → Q .next { s with heap := h', toks := tk' }) :
    wpAny (model prg w) A (execs turnBody (lawEnv L fa cd)) Q E s := by
  rw [turn_is]
  with_reducible exact head_ok C K hcell hx hx2 (fun d' m' h' tk' K' hb hx' F' N' => tail_ok (C.next F' N') K' fun m'' h'' tk'' K'' F'' N'' => hQ d' m'' h'' tk'' K'' hb hx' F'' N'') _ _ _ _ rfl rfl rfl rfl
end
section
local macro_rules | `(tactic| k_mem) => `(tactic| first | exact List.Mem.head _ | with_reducible assumption | (refine List.mem_cons_of_mem _ ?_; k_mem) | exact List.mem_append_left _ (by with_reducible assumption) | (refine List.mem_append_right _ ?_; k_mem))
local macro_rules | `(tactic| walk_at "eval Name") => `(tactic| (k_here; k_dflt (refine' nameX_L ?F ?v ?_ ?a ?b; (case a => rfl); (case b => rfl); (case F => k_asm); (case v => ((repeat refine Eq.trans (if_neg (by decide)) ?_); with_reducible assumption)); k_whole)))

def lawIter : Expr := match lawBody.getD 6 (.Pass default) with | .For _ it _ _ _ => it | _ => default
theorem law6_is : ∃ p pos, lawBody.getD 6 (.Pass default) = .For (.Name (Str.ofString "cell") p) lawIter turnBody [] pos := ⟨_, _, by with_unfolding_all rfl⟩

set_option maxRecDepth 100000 in
set_option maxHeartbeats 2000000 in
theorem l6a_ok {w : World} {s0 : Shared} {A₀ A : Around} {base h₀ : Heap} {outer : List Env} {L fa : Addr} {cd : Value} {m mg mb : Str → Option Value} {news : List (Addr × Obj)} {E : Value → Shared → Prop} {Q : Value → Shared → Prop} {s : Shared} {C : Addr} {cvs : List Value} {cs : List Int} {cn : Nat} :
    Cx 40 w s0 A₀ A base h₀ outer (lawEnv L fa cd) L s.heap m mg mb (news) → m (Str.ofString "cells") = some (.ref C) → (C, listOf cvs.toArray cn) ∈ news → IntsAre cvs cs → cs.length ≤ 7 →
    (∀ (sa : Addr) (its : List Value) (sn : Nat) h' tk', IntsAre its (cs.drop 1) → Fr h₀ L h' m → News h₀ L h' ((sa, listOf its.toArray sn) :: news) → (∀ q ∈ news, @LT.lt Nat _ q.1 sa) → Q (.ref sa) { s with heap := h', toks := tk' }) →
    wpAny (model prg w) A (eval lawIter (lawEnv L fa cd)) Q E s := by
  w_top off
  have _ : (PySem.Challenge.rw_nz0284_01 = PySem.Challenge.rw_nz0284_01) ∧ (hd.heap_39 = hd.heap_39) := by k_fill; exact ⟨rfl, rfl⟩
  unfold lawEnv
  conv in lawIter => whnf
  conv in lawScope => whnf
  rintro ⟨B, F, X, N, T, hA, hf, hke, hh, hd, hu⟩ hmc hC hin hlen hQ
  obtain ⟨hdl, dep, frs, gds, un⟩ := A
  dsimp only at hA hh hd hu
  subst hA hh
  with_reducible refine wpAny_mono (?_ : wpAny _ _ _ (fun v s' => Stop (Q v s')) E _) (fun _ _ h => h.go) (fun _ _ e => e)
  w_strict k_steps
  refine Stop.mk ?_
  exact hQ _ _ _ _ _ (by assumption) (by assumption) (by assumption) (by assumption)
end
section
local macro_rules | `(tactic| k_mem) => `(tactic| first | exact List.mem_cons_self | with_reducible assumption | (refine List.mem_cons_of_mem _ ?_; k_mem) | exact List.mem_append_left _ (by with_reducible assumption) | (refine List.mem_append_right _ ?_; k_mem))
local macro_rules | `(tactic| kst_allIn) => `(tactic| (first | exact List.forall_mem_nil _ | (refine List.forall_mem_cons.mpr ⟨by k_mem, ?_⟩; kst_allIn) | (intro p hp; k_mem)))
theorem cell_ok {prog : Program} {w : World} {A : Around} {h₀ : Heap} {L fa : Addr} {cd : Value} {m : Str → Option Value} {E : Value → Shared → Prop} {Q : Unit → Shared → Prop} {s : Shared} {oCell : Obj} {v0 : Option Value} {rest : List (Addr × Obj)} {v : Value}
    (F : Fr h₀ L s.heap m) (N : News h₀ L s.heap ((L + 1 + 1 + 1 + 1 + 1, oCell) :: rest)) (hd : oCell.data = .cell v0) (hoff : ∀ p ∈ rest, p.1 ≠ L + 1 + 1 + 1 + 1 + 1)
    (h : ∀ h' o', Fr h₀ L h' m → News h₀ L h' ((L + 1 + 1 + 1 + 1 + 1, o') :: rest) → o'.data = .cell (some v) → Q () { s with heap := h' }) :
    wpAny (model prog w) A (storeName (lawEnv L fa cd) (Str.ofString "cell") v) Q E s :=
  storeX_C F N (by with_unfolding_all rfl) (UpdF.head hoff) hd h (by with_unfolding_all rfl) (by with_unfolding_all rfl)
theorem Ok.push {w : World} {cn : Nat} {sa sa' : Addr} {its its' : Array Value} {sn sn' : Nat} {L : Addr} {m : Str → Option Value} {d : Dt} (K : Ok w cn sa its sn L m d) (hc : Clr d.bd L sa') :
    Ok w cn sa' its' sn' L m { d with rest := (sa', listOf its' sn') :: d.rest } :=
  have sub : ∀ p ∈ d.rest, p ∈ (sa', listOf its' sn') :: d.rest := fun p hp => List.mem_cons_of_mem _ hp
  ⟨K.cTold, K.cTop, K.cThere, K.cBox, K.cSome, K.cCell, List.mem_cons_self, sub _ K.box, sub _ K.ll, sub _ K.gl, sub _ K.hT, sub _ K.hG, sub _ K.htd, fun l hl => (K.lts l hl).mono sub, fun l hl => (K.told l hl).imp fun v h => ⟨h.1, h.2.mono sub⟩, K.hdo, K.tv, K.gv.mono sub, K.gs.mono sub, K.len, K.cn8, K.sorted, K.rng, K.nx, K.mcount, K.mgone, List.forall_mem_cons.mpr ⟨hc, K.clr⟩, K.bdoff⟩
set_option maxRecDepth 100000 in
set_option maxHeartbeats 2000000 in
theorem l6_ok {w : World} {s0 : Shared} {A₀ A : Around} {base h₀ : Heap} {outer : List Env} {L fa : Addr} {cd : Value} {m mg mb : Str → Option Value} {E : Value → Shared → Prop} {Q : Flow → Shared → Prop} {s : Shared} {cn : Nat} {C : Addr} {cvs : List Value} {sn : Nat} {cs : List Int} {d : Dt}
    (X : Cx 40 w s0 A₀ A base h₀ outer (lawEnv L fa cd) L s.heap m mg mb (d.led w.params L)) (K : Ok w cn C cvs.toArray sn L m d) (hmc : m (Str.ofString "cells") = some (.ref C)) (hin : IntsAre cvs cs) (hlen : cs.length ≤ 7) (hE : PassesOwn (model prg w) A (lawEnv L fa cd) E)
    (hQ : ∀ d' m' sa its sn' h' tk', Ok w cn sa its sn' L m' d' → Fr h₀ L h' m' → News h₀ L h' (d'.led w.params L) → Q .next { s with heap := h', toks := tk' }) :
    wpAny (model prg w) A (exec (lawBody.getD 6 (.Pass default)) (lawEnv L fa cd)) Q E s := by
  obtain ⟨p, pos, e6⟩ := law6_is
  rw [e6]
  with_reducible refine wpAny_For ?_ ?hs
  case hs => intro _; with_unfolding_all rfl
  have hC : (C, listOf cvs.toArray sn) ∈ d.led w.params L := List.mem_cons_of_mem _ (List.mem_cons_of_mem _ (List.mem_cons_of_mem _ (List.mem_cons_of_mem _ (List.mem_cons_of_mem _ (List.mem_cons_of_mem _ (List.mem_cons_of_mem _ K.src))))))
  with_reducible refine l6a_ok X hmc hC hin hlen ?_
  intro sa its tn h1 tk1 hits F1 N1 lt1
  have hcl : Clr d.bd L sa := ⟨Nat.ne_of_gt (lt1 (d.bd, _) (by k_mem)), Nat.ne_of_gt (lt1 (L + 1 + 1 + 1 + 1 + 1 + 1, _) (by k_mem)), Nat.ne_of_gt (lt1 (L + 1 + 1 + 1 + 1 + 1, _) (by k_mem)), Nat.ne_of_gt (lt1 (L + 1 + 1 + 1 + 1, _) (by k_mem)), Nat.ne_of_gt (lt1 (L + 1 + 1 + 1, _) (by k_mem)), Nat.ne_of_gt (lt1 (L + 1 + 1, _) (by k_mem)), Nat.ne_of_gt (lt1 (L + 1, _) (by k_mem))⟩
  have N1' : News h₀ L h1 ({ d with rest := (sa, listOf its.toArray tn) :: d.rest }.led w.params L) := kst_newsOf N1 (by kst_allIn)
  refine forList (l := sa) (its := its.toArray) (nl := tn) (fun i m₁ nw => ∃ d' : Dt, nw = d'.led w.params L ∧ Ok w cn sa its.toArray tn L m₁ d') X.hh F1 N1' ?g1 ⟨_, rfl, K.push hcl⟩ ?_ ?_ hE ?ht
  case g1 => k_mem
  case ht => intro I v; rfl
  · rintro i v m₁ nw I oI h tk hv ⟨d', rfl, K'⟩ hS hoI F' N'
    obtain ⟨k, t, rfl, hk⟩ := IntsAre.at hits i v (by simpa using hv)
    clear hv hk
    obtain ⟨v0, hc0⟩ := K'.cCell
    have hx : Clr d'.bd L I := ⟨Ne.symm (hoI (d'.bd, _) List.mem_cons_self), Ne.symm (hoI (L + 1 + 1 + 1 + 1 + 1 + 1, d'.oSome) (by k_mem)), Ne.symm (hoI (L + 1 + 1 + 1 + 1 + 1, d'.oCell) (by k_mem)), Ne.symm (hoI (L + 1 + 1 + 1 + 1, d'.oTold) (by k_mem)), Ne.symm (hoI (L + 1 + 1 + 1, d'.oTop) (by k_mem)), Ne.symm (hoI (L + 1 + 1, d'.oThere) (by k_mem)), Ne.symm (hoI (L + 1, d'.oBox) (by k_mem))⟩
    have hx2 : ∀ p ∈ d'.rest, @Ne Nat p.1 I := fun p hp => hoI p (by k_mem)
    with_reducible refine wpAny_assign_Name ?_
    refine cell_ok (oCell := d'.oCell) (rest := (I, oI) :: (d'.bd, dictOf (d'.b.es w.params) 7) :: (L + 1 + 1 + 1 + 1 + 1 + 1, d'.oSome) :: (L + 1 + 1 + 1 + 1, d'.oTold) :: (L + 1 + 1 + 1, d'.oTop) :: (L + 1 + 1, d'.oThere) :: (L + 1, d'.oBox) :: d'.rest)
      F' (kst_newsOf N' (by kst_allIn)) hc0 ?off ?_
    case off =>
      have b := K'.bdoff.2.1
      exact List.forall_mem_cons.mpr ⟨hx.c5, List.forall_mem_cons.mpr ⟨b, List.forall_mem_cons.mpr ⟨by show @Ne Nat (L + 1 + 1 + 1 + 1 + 1 + 1) (L + 1 + 1 + 1 + 1 + 1); omega, List.forall_mem_cons.mpr ⟨by show @Ne Nat (L + 1 + 1 + 1 + 1) (L + 1 + 1 + 1 + 1 + 1); omega, List.forall_mem_cons.mpr ⟨by show @Ne Nat (L + 1 + 1 + 1) (L + 1 + 1 + 1 + 1 + 1); omega, List.forall_mem_cons.mpr ⟨by show @Ne Nat (L + 1 + 1) (L + 1 + 1 + 1 + 1 + 1); omega, List.forall_mem_cons.mpr ⟨by show @Ne Nat (L + 1) (L + 1 + 1 + 1 + 1 + 1); omega, fun p hp => (K'.clr p hp).c5⟩⟩⟩⟩⟩⟩⟩
    intro h2 o2 F2 N2 ho2
    have K2 : Ok w cn sa its.toArray tn L m₁ { d' with oCell := o2 } :=
      ⟨K'.cTold, K'.cTop, K'.cThere, K'.cBox, K'.cSome, ⟨_, ho2⟩, K'.src, K'.box, K'.ll, K'.gl, K'.hT, K'.hG, K'.htd, K'.lts, K'.told, K'.hdo, K'.tv, K'.gv, K'.gs, K'.len, K'.cn8, K'.sorted, K'.rng, K'.nx, K'.mcount, K'.mgone, K'.clr, K'.bdoff⟩
    with_reducible refine turn_ok (d := { d' with oCell := o2 }) (x := (I, oI)) (X.next F2 (kst_newsOf N2 ?n2)) K2 ho2 hx hx2 ?_
    case n2 => kst_allIn
    intro d3 m3 h3 tk3 K3 hb3 hx3 F3 N3
    have hxa : Clr d3.bd L I := by rw [hb3]; exact hx
    refine ⟨_, _, m3, d3.led w.params L, rfl, F3, N3, ?_, .inr ⟨listOf its.toArray tn, ?_, rfl, _, rfl⟩, d3, rfl, K3⟩
    · exact List.forall_mem_cons.mpr ⟨Ne.symm hxa.hb, List.forall_mem_cons.mpr ⟨Ne.symm hxa.c6, List.forall_mem_cons.mpr ⟨Ne.symm hxa.c5, List.forall_mem_cons.mpr ⟨Ne.symm hxa.c4, List.forall_mem_cons.mpr ⟨Ne.symm hxa.c3, List.forall_mem_cons.mpr ⟨Ne.symm hxa.c2, List.forall_mem_cons.mpr ⟨Ne.symm hxa.c1, hx3⟩⟩⟩⟩⟩⟩⟩
    · exact List.mem_cons_of_mem _ (List.mem_cons_of_mem _ (List.mem_cons_of_mem _ (List.mem_cons_of_mem _ (List.mem_cons_of_mem _ (List.mem_cons_of_mem _ (List.mem_cons_of_mem _ K3.src))))))
  · rintro m₁ nw h tk ⟨d', rfl, K'⟩ F' N'
    exact hQ d' m₁ sa its.toArray tn h tk K' F' N'
end
section
local macro_rules | `(tactic| walk_at "no such place") => `(tactic| fail)
local macro_rules | `(tactic| k_mem) => `(tactic| first | exact List.Mem.head _ | with_reducible assumption | (refine List.mem_cons_of_mem _ ?_; k_mem) | exact List.mem_append_left _ (by with_reducible assumption) | (refine List.mem_append_right _ ?_; k_mem))
local macro_rules | `(tactic| walk_at "eval Name") => `(tactic| (k_here; k_dflt (refine' nameX_L ?F ?v ?_ ?a ?b; (case a => rfl); (case b => rfl); (case F => k_asm); (case v => ((repeat refine Eq.trans (if_neg (by decide)) ?_); with_reducible assumption)); k_whole)))

set_option maxRecDepth 100000 in
set_option maxHeartbeats 2000000 in
theorem l0_ok {w : World} {s0 : Shared} {A₀ A : Around} {base h₀ : Heap} {outer : List Env} {L fa : Addr} {cd : Value} {m mg mb : Str → Option Value} {news : List (Addr × Obj)} {E : Value → Shared → Prop} {Q : Flow → Shared → Prop} {s : Shared} {oSome oCell oTold oTop oThere oBox : Obj} {sc : Addr} {vs : List Value} {ns : List Int} :
    Cx 40 w s0 A₀ A base h₀ outer (lawEnv L fa cd) L s.heap m mg mb ((L + 1 + 1 + 1 + 1 + 1 + 1, oSome) :: (L + 1 + 1 + 1 + 1 + 1, oCell) :: (L + 1 + 1 + 1 + 1, oTold) :: (L + 1 + 1 + 1, oTop) :: (L + 1 + 1, oThere) :: (L + 1, oBox) :: news) → m (Str.ofString "script") = some (.ref sc) → h₀.IsList sc vs.toArray → IntsAre vs ns → ns.length ≤ 63 →
    (∀ C cvs h' tk', IntsAre cvs (ns.take 7) → Fr h₀ L h' (fun z => if z = Str.ofString "cells" then some (.ref C) else m z) → News h₀ L h' ((C, listOf cvs.toArray 0) :: (L + 1 + 1 + 1 + 1 + 1 + 1, oSome) :: (L + 1 + 1 + 1 + 1 + 1, oCell) :: (L + 1 + 1 + 1 + 1, oTold) :: (L + 1 + 1 + 1, oTop) :: (L + 1 + 1, oThere) :: (L + 1, oBox) :: news) → Q .next { s with heap := h', toks := tk' }) →
    wpAny (model prg w) A (exec (lawBody.getD 0 (.Pass default)) (lawEnv L fa cd)) Q E s := by
  w_top off
  have _ : (PySem.Challenge.rw_nz0284_01 = PySem.Challenge.rw_nz0284_01) ∧ (hd.heap_39 = hd.heap_39) := by k_fill; exact ⟨rfl, rfl⟩
  unfold lawEnv
  conv in lawBody.getD _ _ => whnf
  conv in lawScope => whnf
  rintro ⟨B, F, X, N, T, hA, hf, hke, hh, hd, hu⟩ hsc hl hin hlen hQ
  obtain ⟨hdl, dep, frs, gds, un⟩ := A
  dsimp only at hA hh hd hu
  subst hA hh
  with_reducible refine wpAny_mono (?_ : wpAny _ _ _ (fun v s' => Stop (Q v s')) E _) (fun _ _ h => h.go) (fun _ _ e => e)
  w_strict k_steps
  exact ⟨hQ _ _ _ _ (by assumption) (by assumption) (by assumption)⟩
end
section
local macro_rules | `(tactic| k_mem) => `(tactic| first | exact List.Mem.head _ | with_reducible assumption | (refine List.mem_cons_of_mem _ ?_; k_mem) | exact List.mem_append_left _ (by with_reducible assumption) | (refine List.mem_append_right _ ?_; k_mem))
local macro_rules | `(tactic| walk_at "eval Name") => `(tactic| (k_here; k_dflt (refine' nameX_L ?F ?v ?_ ?a ?b; (case a => rfl); (case b => rfl); (case F => k_asm); (case v => ((repeat refine Eq.trans (if_neg (by decide)) ?_); with_reducible assumption)); k_whole)))
local macro_rules | `(tactic| walk_at "compareOp NotEq ref ref") => `(tactic| (k_here; (with_reducible show wpAny _ _ (compareOp CmpOp.NotEq (Value.ref _) (Value.ref _)) _ _ _); k_dflt (refine ne_intsK (News.isList (by with_reducible assumption) (by k_mem)) (by first | with_reducible assumption | exact IntsAre.nil) (News.isList (by with_reducible assumption) (by k_mem)) (by first | with_reducible assumption | exact IntsAre.nil) (by (try simp only [units_deeper, units_in1, units_under_make, units_caller]); (try dsimp only); (show _ < 9900); omega) ?_)))
local macro_rules | `(tactic| walk_at "compareOp Eq ref ref") => `(tactic| (k_here; (with_reducible show wpAny _ _ (compareOp CmpOp.Eq (Value.ref _) (Value.ref _)) _ _ _); k_dflt (refine eq_intsK (News.isList (by with_reducible assumption) (by k_mem)) (by first | with_reducible assumption | exact IntsAre.nil) (News.isList (by with_reducible assumption) (by k_mem)) (by first | with_reducible assumption | exact IntsAre.nil) (by (try simp only [units_deeper, units_in1, units_under_make, units_caller]); (try dsimp only); (show _ < 9900); omega) ?_)))
theorem item0_ints {prog : Program} {w : World} {A : Around} {E : Value → Shared → Prop} {s : Shared} {h₀ : Heap} {L : Addr} {news : List (Addr × Obj)} {value slice : Expr} {a : Addr} {vs : List Value} {ns : List Int} {n : Nat} {u : Tok} {Q : Value → Shared → Prop} (N : News h₀ L s.heap news) (hm : (a, listOf vs.toArray n) ∈ news) (hi : IntsAre vs ns) (hne : ns ≠ [])
    (h : ∀ k t, Q (.int k t) s)
    (hs : subscripted slice false (.ref a) (.int 0 u) = operate [.ref a, .int 0 u] (getItem (.ref a) (.int 0 u)) := by with_unfolding_all rfl) :
    wpAny (model prog w) A (subscriptTail value slice (.ref a) (.int 0 u)) Q E s := by
  cases hi with
  | nil => exact absurd rfl hne
  | cons k t _ => exact item_litK (News.isList N hm) (by decide) (by decide) rfl (h _ _) hs
local macro_rules | `(tactic| walk_at "subscriptTail") => `(tactic| (k_here; (with_reducible show wpAny _ _ (subscriptTail _ _ (Value.ref _) (Value.int 0 _)) _ _ _); k_dflt (refine' item0_ints (by assumption) (by k_mem) (by assumption) (of_decide_eq_false (by assumption)) ?_ ?k8; (case k8 => with_unfolding_all rfl)); intro k0 t0))

set_option maxRecDepth 100000 in
set_option maxHeartbeats 2000000 in
theorem l1_ok {w : World} {s0 : Shared} {A₀ A : Around} {base h₀ : Heap} {outer : List Env} {L fa : Addr} {cd : Value} {m mg mb : Str → Option Value} {news : List (Addr × Obj)} {E : Value → Shared → Prop} {Q : Flow → Shared → Prop} {s : Shared} {C : Addr} {cvs : List Value} {cs : List Int} :
    Cx 40 w s0 A₀ A base h₀ outer (lawEnv L fa cd) L s.heap m mg mb ((C, listOf cvs.toArray 0) :: news) → m (Str.ofString "cells") = some (.ref C) → IntsAre cvs cs → cs.length ≤ 7 →
    (∀ (cn : Nat) t h' tk', 1 ≤ cn → cn ≤ 8 → Fr h₀ L h' (fun z => if z = Str.ofString "count" then some (.int (cn : Int) t) else m z) → News h₀ L h' ((C, listOf cvs.toArray 0) :: news) → Q .next { s with heap := h', toks := tk' }) →
    wpAny (model prg w) A (exec (lawBody.getD 1 (.Pass default)) (lawEnv L fa cd)) Q E s := by
  w_top off
  have _ : (PySem.Challenge.rw_nz0284_01 = PySem.Challenge.rw_nz0284_01) ∧ (hd.heap_39 = hd.heap_39) := by k_fill; exact ⟨rfl, rfl⟩
  unfold lawEnv
  conv in lawBody.getD _ _ => whnf
  conv in lawScope => whnf
  rintro ⟨B, F, X, N, T, hA, hf, hke, hh, hd, hu⟩ hmc hin hlen hQ
  obtain ⟨hdl, dep, frs, gds, un⟩ := A
  dsimp only at hA hh hd hu
  subst hA hh
  with_reducible refine wpAny_mono (?_ : wpAny _ _ _ (fun v s' => Stop (Q v s')) E _) (fun _ _ h => h.go) (fun _ _ e => e)
  have hnat : ∀ x : Int, ∃ cn : Nat, 1 ≤ cn ∧ cn ≤ 8 ∧ (cn : Int) = 1 + Int.fmod x 8 := fun x => by
    have h1 : Int.fmod x 8 = x % 8 := Int.fmod_eq_emod_of_nonneg _ (by decide)
    exact ⟨(1 + Int.fmod x 8).toNat, by omega, by omega, by omega⟩
  w_strict k_steps
  · obtain ⟨cn, h1, h2, e⟩ := hnat 5
    rename Fr _ _ _ _ => FZ
    rw [← e] at FZ
    exact ⟨hQ cn _ _ _ h1 h2 FZ (kst_newsOf (by assumption) (by kst_allIn))⟩
  · rename Fr _ _ _ _ => FZ
    rename Int => k0
    obtain ⟨cn, h1, h2, e⟩ := hnat k0
    rw [← e] at FZ
    exact ⟨hQ cn _ _ _ h1 h2 FZ (kst_newsOf (by assumption) (by kst_allIn))⟩
end
section
local macro_rules | `(tactic| k_mem) => `(tactic| first | exact List.Mem.head _ | with_reducible assumption | (refine List.mem_cons_of_mem _ ?_; k_mem) | exact List.mem_append_left _ (by with_reducible assumption) | (refine List.mem_append_right _ ?_; k_mem))
local macro_rules | `(tactic| walk_at "eval Name") => `(tactic| (k_here; k_dflt (refine' nameX_L ?F ?v ?_ ?a ?b; (case a => rfl); (case b => rfl); (case F => k_asm); (case v => ((repeat refine Eq.trans (if_neg (by decide)) ?_); with_reducible assumption)); k_whole)))

set_option maxRecDepth 100000 in
set_option maxHeartbeats 2000000 in
theorem l2_ok {w : World} {s0 : Shared} {A₀ A : Around} {base h₀ : Heap} {outer : List Env} {L fa : Addr} {cd : Value} {m mg mb : Str → Option Value} {news : List (Addr × Obj)} {E : Value → Shared → Prop} {Q : Flow → Shared → Prop} {s : Shared} {oSome oCell oTold oTop oThere oBox : Obj} {v0 : Option Value} :
    Cx 40 w s0 A₀ A base h₀ outer (lawEnv L fa cd) L s.heap m mg mb ((L + 1, oBox) :: news) → oBox.data = .cell v0 → (∀ p ∈ news, p.1 ≠ L + 1) →
    (∀ (b : Bx) (bx bd : Addr) oBox' h' tk', oBox'.data = .cell (some (.ref bx)) → b.nx = 1 → b.top = 1 → (∀ q ∈ (L + 1, oBox) :: news, @LT.lt Nat _ q.1 b.ll) → @LT.lt Nat _ b.ll b.gl → Fr h₀ L h' m → News h₀ L h' ((bd, dictOf (b.es w.params) 7) :: (b.ll, listOf (refs []).toArray 0) :: (b.gl, listOf #[] 0) :: (bx, instObj 151 bd) :: (L + 1, oBox') :: news) → Q .next { s with heap := h', toks := tk' }) →
    wpAny (model prg w) A (exec (lawBody.getD 2 (.Pass default)) (lawEnv L fa cd)) Q E s := by
  w_top off
  have _ : (PySem.Challenge.rw_nz0284_01 = PySem.Challenge.rw_nz0284_01) ∧ (hd.heap_39 = hd.heap_39) := by k_fill; exact ⟨rfl, rfl⟩
  unfold lawEnv
  conv in lawBody.getD _ _ => whnf
  conv in lawScope => whnf
  rintro ⟨B, F, X, N, T, hA, hf, hke, hh, hd, hu⟩ hbox hoff hQ
  obtain ⟨hdl, dep, frs, gds, un⟩ := A
  dsimp only at hA hh hd hu
  subst hA hh
  with_reducible refine wpAny_mono (?_ : wpAny _ _ _ (fun v s' => Stop (Q v s')) E _) (fun _ _ h => h.go) (fun _ _ e => e)
  w_strict k_steps
  rename News _ _ _ _ => NZ
  rename Obj => oZ
  rename Fr _ _ _ _ => FZ
  rename @LT.lt Nat _ _ _ ∧ @LT.lt Nat _ _ _ ∧ @LT.lt Nat _ _ _ ∧ @LT.lt Nat _ _ _ ∧ _ => l2
  rename @LT.lt Nat _ _ _ ∧ @LT.lt Nat _ _ _ ∧ @LT.lt Nat _ _ _ ∧ AllLt _ _ => l1
  refine' ⟨hQ ⟨?k1, ?k2, ?k3, ?k4, ?k5, ?k6, ?k7, ?t1, ?t2, ?t3, ?t4, ?t5, 1, 1, ?ll, ?gl⟩ ?bx ?bd oZ _ _ (by assumption) rfl rfl (List.forall_mem_cons.mpr ⟨l1.2.2.1, allLt_mem l1.2.2.2⟩) l2.1 FZ (kst_newsOf NZ ?hs)⟩
  case hs =>
    refine List.forall_mem_cons.mpr ⟨?h1, List.forall_mem_cons.mpr ⟨?h2, List.forall_mem_cons.mpr ⟨?h3, List.forall_mem_cons.mpr ⟨?h4, List.forall_mem_cons.mpr ⟨?h5, fun p hp => ?h6⟩⟩⟩⟩⟩
    case h1 => k_memK
    case h2 => k_memK
    case h3 => k_memK
    case h4 => k_memK
    case h5 => k_memK
    case h6 => exact List.Mem.tail _ (List.Mem.tail _ (List.Mem.tail _ (List.Mem.tail _ (List.Mem.tail _ hp))))
end
section
local macro_rules | `(tactic| k_mem) => `(tactic| first | exact List.Mem.head _ | with_reducible assumption | (refine List.mem_cons_of_mem _ ?_; k_mem) | exact List.mem_append_left _ (by with_reducible assumption) | (refine List.mem_append_right _ ?_; k_mem))
local macro_rules | `(tactic| walk_at "eval Name") => `(tactic| (k_here; k_dflt (refine' nameX_L ?F ?v ?_ ?a ?b; (case a => rfl); (case b => rfl); (case F => k_asm); (case v => ((repeat refine Eq.trans (if_neg (by decide)) ?_); with_reducible assumption)); k_whole)))
local macro_rules | `(tactic| walk_at "exec For Name Call cons nil") => `(tactic| (k_here; with_reducible refine wpAny_For ?_ ?hs; (case hs => intro _; with_unfolding_all rfl)))
local macro_rules | `(tactic| walk_at "pyIter ref") => `(tactic| refine Stop.go ?_)
local macro_rules | `(tactic| walk_at "call ref") => `(tactic| (k_here; (with_reducible show wpAny _ _ (call (Value.ref 183) _ _) _ _ _); refine Stop.go ?_))

theorem news_turn {h₀ h : Heap} {L : Addr} {x0 x1 x2 x3 x4 x5 : Addr × Obj} {l : List (Addr × Obj)} (N : News h₀ L h (x0 :: x1 :: x2 :: x3 :: x4 :: x5 :: l)) : News h₀ L h (x4 :: x5 :: x0 :: x1 :: x2 :: x3 :: l) :=
  kst_newsOf N (List.forall_mem_cons.mpr ⟨by k_mem, List.forall_mem_cons.mpr ⟨by k_mem, List.forall_mem_cons.mpr ⟨by k_mem, List.forall_mem_cons.mpr ⟨by k_mem, List.forall_mem_cons.mpr ⟨by k_mem, List.forall_mem_cons.mpr ⟨by k_mem, fun p hp => List.Mem.tail _ (List.Mem.tail _ (List.Mem.tail _ (List.Mem.tail _ (List.Mem.tail _ (List.Mem.tail _ hp)))))⟩⟩⟩⟩⟩⟩)
theorem news_pick {h₀ h : Heap} {L fa : Addr} {v : Value} {i : Nat} {l : List (Addr × Obj)} (N : News h₀ L h ((fa, ({ cls := .type "list", data := .seq (slicePick #[v] none (some (Int.fmod (i : Int) 2)) none) } : Obj)) :: l)) :
    ∃ fs : List Value, News h₀ L h ((fa, listOf fs.toArray 0) :: l) ∧ (fs = [] ∨ fs = [v]) := by
  have h2 : Int.fmod (i : Int) 2 = 0 ∨ Int.fmod (i : Int) 2 = 1 := by
    have : Int.fmod (i : Int) 2 = (i : Int) % 2 := Int.fmod_eq_emod_of_nonneg _ (by decide)
    omega
  rcases h2 with e | e
  · rw [e] at N; exact ⟨[], N, .inl rfl⟩
  · rw [e] at N; exact ⟨[v], N, .inr rfl⟩

set_option maxRecDepth 100000 in
set_option maxHeartbeats 2000000 in
theorem l3_ok {w : World} {s0 : Shared} {A₀ A : Around} {base h₀ : Heap} {outer : List Env} {L fa : Addr} {cd : Value} {m mg mb : Str → Option Value} {news : List (Addr × Obj)} {E : Value → Shared → Prop} {Q : Flow → Shared → Prop} {s : Shared} {rest : List (Addr × Obj)} {oBox : Obj} {bx bd : Addr} {b : Bx} {n cn : Nat} {tc : Tok} :
    Cx 40 w s0 A₀ A base h₀ outer (lawEnv L fa cd) L s.heap m mg mb ((bd, dictOf (b.es w.params) 7) :: (b.ll, listOf (refs []).toArray n) :: rest) → (∀ p ∈ rest, p.1 ≠ bd) → (∀ p ∈ rest, p.1 ≠ b.ll) → @Ne Nat bd b.ll → (L + 1, oBox) ∈ rest → oBox.data = .cell (some (.ref bx)) → (bx, instObj 151 bd) ∈ rest → m (Str.ofString "count") = some (.int (cn : Int) tc) → Stop (cn ≤ 8) → b.nx = 1 → b.top = 1 → PassesOwn (model prg w) A (lawEnv L fa cd) E →
    (∀ (b' : Bx) (ls : List Lt) (n' : Nat) (own : List (Addr × Obj)) m' h' tk', b'.nx = (cn : Int) + 1 → b'.top = (cn : Int) + 1 → b'.ll = b.ll → b'.gl = b.gl → ls.map Lt.u = (List.range cn).map (fun (i : Nat) => (i : Int) + 1) → (∀ l ∈ ls, l.In w.params own) →
      (∀ p ∈ own, ∀ q ∈ (bd, dictOf (b.es w.params) 7) :: (b.ll, listOf (refs []).toArray n) :: rest, @Ne Nat p.1 q.1) → (∀ z, z ≠ Str.ofString "at" → m' z = m z) → Fr h₀ L h' m' → News h₀ L h' ((bd, dictOf (b'.es w.params) 7) :: (b.ll, listOf (refs ls).toArray n') :: (own ++ rest)) → Q .next { s with heap := h', toks := tk' }) →
    wpAny (model prg w) A (exec (lawBody.getD 3 (.Pass default)) (lawEnv L fa cd)) Q E s := by
  w_top off
  have _ : (PySem.Challenge.rw_nz0284_01 = PySem.Challenge.rw_nz0284_01) ∧ (hd.heap_39 = hd.heap_39) := by k_fill; exact ⟨rfl, rfl⟩
  unfold lawEnv
  conv in lawBody.getD _ _ => whnf
  conv in lawScope => whnf
  rintro ⟨B, F, X, N, T, hA, hf, hke, hh, hd, hu⟩ hoff1 hoff2 hne hbox hcell hbx hmc hcn hnx htop hE hQ
  obtain ⟨hdl, dep, frs, gds, un⟩ := A
  dsimp only at hA hh hd hu
  subst hA hh
  with_reducible refine wpAny_mono (?_ : wpAny _ _ _ (fun v s' => Stop (Q v s')) E _) (fun _ _ h => h.go) (fun _ _ e => e)
  w_strict k_steps
  refine Stop.mk ?_
  rename IsRange _ _ _ _ _ _ _ _ => hr
  rename News _ _ _ _ => N1
  rename Fr _ _ _ _ => F1
  have hcn8 := hcn.go
  refine' forRange (n := cn) (fun i m₁ nw => ∃ (b' : Bx) (ls : List Lt) (n' : Nat) (own : List (Addr × Obj)), nw = (bd, dictOf (b'.es w.params) 7) :: (b'.ll, listOf (refs ls).toArray n') :: (own ++ rest) ∧ b'.nx = (i : Int) + 1 ∧ b'.top = (i : Int) + 1 ∧ b'.ll = b.ll ∧ b'.gl = b.gl ∧ ls.map Lt.u = (List.range i).map (fun (j : Nat) => (j : Int) + 1) ∧ (∀ l ∈ ls, l.In w.params own) ∧ (∀ p ∈ own, ∀ q ∈ (bd, dictOf (b.es w.params) 7) :: (b.ll, listOf (refs []).toArray n) :: rest, @Ne Nat p.1 q.1) ∧ (∀ z, z ≠ Str.ofString "at" → m₁ z = m z))
    rfl ?f1 ?f2 ?f3 ?s1 ?s2 ⟨b, [], n, [], rfl, by rw [hnx]; rfl, by rw [htop]; rfl, rfl, rfl, rfl, (fun _ h => nomatch h), (fun _ h => nomatch h), fun _ _ => rfl⟩ ?_ ?_ hE ?s3
  case f1 => exact F1
  case f2 => exact N1
  case f3 => exact hr
  case s1 => exact (small_one (by decide) (by decide) (by omega) (by omega))
  case s2 => exact rangeSize_nat _ _
  case s3 => exact fun _ _ => rfl
  · rintro i t m₁ nw I oI h tk hi ⟨b', ls, n', own, rfl, hnx', htop', hll', hgl', hus, hlts, hown, hm⟩ hoI F' N'
    clear N1 F1 hr
    rw [Int.zero_add]
    have hi8 : i < 8 := by omega
    clear hcn8 hi
    w_strict k_steps
    refine Stop.mk ?_
    rename News _ _ _ _ => NZ
    rename Fr _ _ _ _ => FZ
    (try dsimp only at NZ)
    (try dsimp only at FZ)
    revert NZ
    rename News _ _ _ _ => NY
    have lt1 := news_lt NY
    clear NY
    intro NZ
    obtain ⟨fs, N2, hfs⟩ := news_pick NZ
    clear NZ
    have hoff1' : ∀ p ∈ rest, p.1 ≠ bd := hoff1
    have hoff2' : ∀ p ∈ rest, p.1 ≠ b'.ll := by rw [hll']; exact hoff2
    have hne' : @Ne Nat bd b'.ll := by rw [hll']; exact hne
    have hlen : ls.length = i := by have := congrArg List.length hus; simpa using this
    have hu1 : ∀ p ∈ own, @Ne Nat p.1 bd := fun p hp => hown p hp (bd, _) (by k_mem)
    have hu2 : ∀ p ∈ own, @Ne Nat p.1 b'.ll := fun p hp => by rw [hll']; exact hown p hp (b.ll, _) (by k_mem)
    rename @LT.lt Nat _ _ _ ∧ _ => l1
    rename @LT.lt Nat _ I _ ∧ _ => l0
    refine' add_ok (n := n') (ls := ls) (b := b') (bx := bx) (bd := bd) (nf := 0) (fs := fs) ⟨?c1, ?c2, ?c3, ?c4, ?c5, ?c6, ?c7, ?c8, ?c9, ?c10, ?c11⟩ ?d1 ?d2 hne' ?d3 ?d4 (hfs.imp id fun e => ⟨_, e⟩) ?d5 ?q; (case c1 => k_asm); (case c2 => k_asm); (case c3 => k_asm); (case c5 => k_asm); (case c6 => rfl); (case c7 => rfl); (case c8 => rfl); (case c9 => rfl); (case c10 => (simp only [depth_under_make, depth_in1, depth_deeper]; omega)); (case c11 => (simp only [units_under_make, units_in1, units_deeper]; omega))
    case c4 => exact news_turn N2
    case d1 =>
      refine List.forall_mem_cons.mpr ⟨Nat.ne_of_gt (Nat.lt_succ_of_lt (lt1 (bd, _) (by k_mem))), List.forall_mem_cons.mpr ⟨Nat.ne_of_gt l1.2.2.1, List.forall_mem_cons.mpr ⟨Nat.ne_of_gt l0.2.1, List.forall_mem_cons.mpr ⟨Ne.symm (hoI (bd, _) (by k_mem)), fun p hp => ?_⟩⟩⟩⟩
      exact (List.mem_append.mp hp).elim (hu1 p) (hoff1' p)
    case d2 =>
      refine List.forall_mem_cons.mpr ⟨Nat.ne_of_gt (Nat.lt_succ_of_lt (lt1 (b'.ll, _) (by k_mem))), List.forall_mem_cons.mpr ⟨Nat.ne_of_gt l1.2.2.2.1, List.forall_mem_cons.mpr ⟨Nat.ne_of_gt l0.2.2.1, List.forall_mem_cons.mpr ⟨Ne.symm (hoI (b'.ll, _) (by k_mem)), fun p hp => ?_⟩⟩⟩⟩
      exact (List.mem_append.mp hp).elim (hu2 p) (hoff2' p)
    case d3 => k_mem
    case d4 => exact List.mem_cons_self
    case d5 => omega
    case q =>
      intro l b2 n2 own2 h2 tk2 e1 e2 e3 e4 e5 e6 F3 N3 hin ho3
      show wpAny _ _ (execs [] _) _ _ _
      with_reducible refine wpAny_execs_nil ?_
      refine ⟨_, _, _, (bd, dictOf (b2.es w.params) 7) :: (b2.ll, listOf (refs (ls ++ [l])).toArray n2) :: ((own2 ++ own) ++ rest), rfl, F3, ?N, ?off, trivial, b2, ls ++ [l], n2, own2 ++ own, rfl, ?j1, ?j2, e5.trans hll', e6.trans hgl', ?j3, ?j4, ?j5, ?j6⟩
      case N =>
        rw [e5]
        refine kst_newsOf N3 (List.forall_mem_cons.mpr ⟨?_, List.forall_mem_cons.mpr ⟨by k_mem, List.forall_mem_cons.mpr ⟨by k_mem, fun p hp => ?_⟩⟩⟩)
        · refine List.mem_cons_of_mem _ (List.mem_cons_of_mem _ (List.mem_append_right _ (List.mem_cons_of_mem _ (List.mem_cons_of_mem _ (List.mem_cons_of_mem _ (List.mem_cons_self))))))
        · rcases List.mem_append.mp hp with h | h
          · rcases List.mem_append.mp h with h | h
            · exact List.mem_cons_of_mem _ (List.mem_cons_of_mem _ (List.mem_append_left _ h))
            · exact List.mem_cons_of_mem _ (List.mem_cons_of_mem _ (List.mem_append_right _ (List.mem_cons_of_mem _ (List.mem_cons_of_mem _ (List.mem_cons_of_mem _ (List.mem_cons_of_mem _ (List.mem_append_left _ h)))))))
          · exact List.mem_cons_of_mem _ (List.mem_cons_of_mem _ (List.mem_append_right _ (List.mem_cons_of_mem _ (List.mem_cons_of_mem _ (List.mem_cons_of_mem _ (List.mem_cons_of_mem _ (List.mem_append_right _ h)))))))
      case off =>
        refine List.forall_mem_cons.mpr ⟨hoI (bd, dictOf (b'.es w.params) 7) List.mem_cons_self, List.forall_mem_cons.mpr ⟨by rw [e5]; exact hoI (b'.ll, listOf (refs ls).toArray n') (List.mem_cons_of_mem _ List.mem_cons_self), fun p hp => ?_⟩⟩
        rcases List.mem_append.mp hp with h | h
        · rcases List.mem_append.mp h with h | h
          · exact ho3 p h (I, oI) (by k_mem)
          · exact hoI p (by k_mem)
        · exact hoI p (by k_mem)
      case j1 => rw [e3, hnx']; rfl
      case j2 => rw [e4, htop']; rfl
      case j3 => rw [List.map_append, List.map_cons, List.map_nil, e1, hnx', hus, List.range_succ, List.map_append]; rfl
      case j4 =>
        intro x hx
        rcases List.mem_append.mp hx with h | h
        · exact (hlts x h).mono fun p hp => List.mem_append_right _ hp
        · rw [List.mem_singleton.mp h]; exact hin.mono fun p hp => List.mem_append_left _ hp
      case j5 =>
        intro p hp
        rcases List.mem_append.mp hp with h | h
        · exact List.forall_mem_cons.mpr ⟨ho3 p h (bd, dictOf (b'.es w.params) 7) List.mem_cons_self, List.forall_mem_cons.mpr ⟨by rw [← hll']; exact ho3 p h (b'.ll, listOf (refs ls).toArray n') (List.mem_cons_of_mem _ List.mem_cons_self), fun q hq => ho3 p h q (List.mem_cons_of_mem _ (List.mem_cons_of_mem _ (List.mem_cons_of_mem _ (List.mem_cons_of_mem _ (List.mem_cons_of_mem _ (List.mem_cons_of_mem _ (List.mem_append_right _ hq)))))))⟩⟩
        · exact hown p h
      case j6 => exact fun z hz => (if_neg hz).trans (hm z hz)
  · rintro m₁ nw h tk ⟨b', ls, n', own, rfl, hnx', htop', hll', hgl', hus, hlts, hown, hm⟩ F' N'
    rw [hll'] at N'
    exact ⟨hQ b' ls n' own m₁ _ _ hnx' htop' hll' hgl' hus hlts hown hm F' N'⟩
end
section
local macro_rules | `(tactic| k_mem) => `(tactic| first | exact List.Mem.head _ | with_reducible assumption | (refine List.mem_cons_of_mem _ ?_; k_mem) | exact List.mem_append_left _ (by with_reducible assumption) | (refine List.mem_append_right _ ?_; k_mem))
local macro_rules | `(tactic| walk_at "eval Name") => `(tactic| (k_here; k_dflt (refine' nameX_L ?F ?v ?_ ?a ?b; (case a => rfl); (case b => rfl); (case F => k_asm); (case v => ((repeat refine Eq.trans (if_neg (by decide)) ?_); with_reducible assumption)); k_whole)))
local macro_rules | `(tactic| walk_at "call type:list") => `(tactic| refine Stop.go ?_)
theorem rangeKs_one (n : Nat) : rangeKs 1 n = (List.range n).map fun (i : Nat) => (i : Int) + 1 := by
  unfold rangeKs
  exact List.map_congr_left fun i _ => Int.add_comm _ _

set_option maxRecDepth 100000 in
set_option maxHeartbeats 2000000 in
theorem l4_ok {w : World} {s0 : Shared} {A₀ A : Around} {base h₀ : Heap} {outer : List Env} {L fa : Addr} {cd : Value} {m mg mb : Str → Option Value} {news : List (Addr × Obj)} {E : Value → Shared → Prop} {Q : Flow → Shared → Prop} {s : Shared} {oTop oThere : Obj} {v1 v2 : Option Value} {cn : Nat} {tc : Tok} :
    Cx 40 w s0 A₀ A base h₀ outer (lawEnv L fa cd) L s.heap m mg mb ((L + 1 + 1 + 1, oTop) :: (L + 1 + 1, oThere) :: news) → oTop.data = .cell v1 → oThere.data = .cell v2 → (∀ p ∈ news, p.1 ≠ L + 1 + 1 + 1) → (∀ p ∈ news, p.1 ≠ L + 1 + 1) → m (Str.ofString "count") = some (.int (cn : Int) tc) → Stop (cn ≤ 8) →
    (∀ (T G : Addr) tvs tn oTop' oThere' t' h' tk', oTop'.data = .cell (some (.int ((cn : Int) + 1) t')) → oThere'.data = .cell (some (.ref T)) → IntsAre tvs ((List.range cn).map fun (i : Nat) => (i : Int) + 1) →
      Fr h₀ L h' (fun z => if z = Str.ofString "gone" then some (.ref G) else m z) → News h₀ L h' ((L + 1 + 1 + 1, oTop') :: (L + 1 + 1, oThere') :: (T, listOf tvs.toArray tn) :: (G, listOf #[] 0) :: news) → Q .next { s with heap := h', toks := tk' }) →
    wpAny (model prg w) A (exec (lawBody.getD 4 (.Pass default)) (lawEnv L fa cd)) Q E s := by
  w_top off
  have _ : (PySem.Challenge.rw_nz0284_01 = PySem.Challenge.rw_nz0284_01) ∧ (hd.heap_39 = hd.heap_39) := by k_fill; exact ⟨rfl, rfl⟩
  unfold lawEnv
  conv in lawBody.getD _ _ => whnf
  conv in lawScope => whnf
  rintro ⟨B, F, X, N, T, hA, hf, hke, hh, hd, hu⟩ htop hthere hoff3 hoff2 hmc hcn hQ
  obtain ⟨hdl, dep, frs, gds, un⟩ := A
  dsimp only at hA hh hd hu
  subst hA hh
  with_reducible refine wpAny_mono (?_ : wpAny _ _ _ (fun v s' => Stop (Q v s')) E _) (fun _ _ h => h.go) (fun _ _ e => e)
  w_strict k_steps
  refine Stop.mk ?_
  rename News _ _ _ _ => N1
  rename Fr _ _ _ _ => F1
  rename IsRange _ _ _ _ _ _ _ _ => hr
  have hcn8 := hcn.go
  with_reducible refine kll_range (n := cn) ?f0 F1 N1 hr ?f1 ?f2 ?f3 ?_
  case f0 => with_unfolding_all rfl
  case f1 => exact small_one (by decide) (by decide) (by omega) (by omega)
  case f2 => rw [rangeSize_nat]; omega
  case f3 => omega
  clear N1 F1 hr hcn8
  intro D us c h' tk F' N' l1 hI
  k_lt l1
  rw [rangeKs_one] at hI
  w_strict k_steps
  all_goals (try refine Stop.mk ?_)
  rename News _ _ _ _ => NZ
  (try dsimp only at NZ)
  rename Fr _ _ _ _ => FZ
  exact hQ D _ us c _ _ _ _ _ (by assumption) (by assumption) hI FZ (kst_newsOf NZ (List.forall_mem_cons.mpr ⟨by k_memK, List.forall_mem_cons.mpr ⟨by k_memK, List.forall_mem_cons.mpr ⟨by k_memK, List.forall_mem_cons.mpr ⟨by k_memK, fun p hp => List.Mem.tail _ (List.Mem.tail _ (List.Mem.tail _ (List.Mem.tail _ (List.Mem.tail _ hp))))⟩⟩⟩⟩))
end
section
local macro_rules | `(tactic| k_mem) => `(tactic| first | exact List.Mem.head _ | with_reducible assumption | (refine List.mem_cons_of_mem _ ?_; k_mem) | exact List.mem_append_left _ (by with_reducible assumption) | (refine List.mem_append_right _ ?_; k_mem))
local macro_rules | `(tactic| walk_at "eval Name") => `(tactic| (k_here; k_dflt (refine' nameX_L ?F ?v ?_ ?a ?b; (case a => rfl); (case b => rfl); (case F => k_asm); (case v => ((repeat refine Eq.trans (if_neg (by decide)) ?_); with_reducible assumption)); k_whole)))
local macro_rules | `(tactic| walk_at "call ref") => `(tactic| (k_here; (with_reducible show wpAny _ _ (call (Value.ref 110) _ _) _ _ _); k_dflt (refine' told_ok ⟨?c1, ?c2, ?c3, ?c4, ?c5, ?c6, ?c7, ?c8, ?c9, ?c10, ?c11⟩ ⟨?d1, ?d2⟩ ?_; (case c1 => k_asm); (case c2 => k_asm); (case c3 => k_asm); (case c4 => k_asm); (case c5 => k_asm); (case c6 => rfl); (case c7 => rfl); (case c8 => rfl); (case c9 => rfl); (case c10 => (simp only [depth_under_make, depth_in1, depth_deeper]; omega)); (case c11 => (simp only [units_under_make, units_in1, units_deeper]; omega)); (case d1 => k_mem); (case d2 => k_mem)); intro ta h' tk' F' N' l1))
local macro_rules | `(tactic| walk_at "exec Assign cons DictComp") => `(tactic| (k_here; (with_reducible show wpAny _ _ (exec (Stmt.Assign [Expr.Name _ _] (Expr.DictComp _ _ [⟨_, _, [], _⟩] _ _) _) _) _ _ _); with_reducible refine wpAny_Assign_Name ?_ ?hs; (case hs => with_unfolding_all rfl); with_reducible refine dictComp (F₀ := by with_unfolding_all assumption) (by with_unfolding_all rfl) (by with_unfolding_all rfl) (by decide) (by with_unfolding_all rfl) (by decide) (by with_unfolding_all rfl) ?_ (by intro _; with_unfolding_all rfl)))
local macro_rules | `(tactic| walk_at "SrcD") => `(tactic| refine Stop.go ?_)

theorem valueAt_stored (kvs : List (Int × Value)) (k k' : Int) (v : Value) : PySem.valueAt (stored kvs k v) k' = if k' = k then some v else PySem.valueAt kvs k' := by
  unfold stored
  split
  · rename_i h
    unfold PySem.valueAt
    rw [List.find?_map]
    have e : ((fun kv : Int × Value => decide (kv.1 = k')) ∘ fun kv : Int × Value => if kv.1 = k then (kv.1, v) else kv) = fun kv => decide (kv.1 = k') := by
      funext kv
      simp only [Function.comp]
      split <;> rfl
    rw [e, Option.map_map]
    split
    · rename_i hk
      subst hk
      obtain ⟨kv, h1, h2⟩ := List.any_eq_true.mp h
      have h2 : kv.1 = k' := of_decide_eq_true h2
      cases hf : kvs.find? (fun kv => decide (kv.1 = k')) with
      | none => exact absurd (decide_eq_true h2) (List.find?_eq_none.mp hf kv h1)
      | some x =>
        have : x.1 = k' := by have h3 := List.find?_some hf; simpa using h3
        simp [this]
    · rename_i hk
      cases hf : kvs.find? (fun kv => decide (kv.1 = k')) with
      | none => rfl
      | some x =>
        have : x.1 = k' := by have h3 := List.find?_some hf; simpa using h3
        simp [this, hk]
  · rename_i h
    unfold PySem.valueAt
    rw [List.find?_append]
    by_cases hk : k' = k
    · subst hk
      have : kvs.find? (fun kv => decide (kv.1 = k')) = none := List.find?_eq_none.mpr fun x hx hx' => h (List.any_eq_true.mpr ⟨x, hx, hx'⟩)
      rw [this, if_pos rfl]
      simp
    · rw [if_neg hk]
      have : List.find? (fun kv : Int × Value => decide (kv.1 = k')) [(k, v)] = none := List.find?_eq_none.mpr fun x hx hx' => by
        rw [List.mem_singleton.mp hx] at hx'
        exact hk (of_decide_eq_true hx').symm
      rw [this, Option.or_none]

set_option maxRecDepth 100000 in
set_option maxHeartbeats 2000000 in
theorem l5_ok {w : World} {s0 : Shared} {A₀ A : Around} {base h₀ : Heap} {outer : List Env} {L fa : Addr} {cd : Value} {m mg mb : Str → Option Value} {news : List (Addr × Obj)} {E : Value → Shared → Prop} {Q : Flow → Shared → Prop} {s : Shared} {oTold oBox : Obj} {v1 : Option Value} {bx bd : Addr} {b : Bx} {ls : List Lt} {n : Nat} :
    Cx 40 w s0 A₀ A base h₀ outer (lawEnv L fa cd) L s.heap m mg mb ((L + 1 + 1 + 1 + 1, oTold) :: (L + 1, oBox) :: news) → oTold.data = .cell v1 → oBox.data = .cell (some (.ref bx)) → (∀ p ∈ news, p.1 ≠ L + 1 + 1 + 1 + 1) → (bd, dictOf (b.es w.params) 7) ∈ news → (bx, instObj 151 bd) ∈ news → (b.ll, listOf (refs ls).toArray n) ∈ news → (∀ l ∈ ls, l.In w.params news) → ls.length ≤ 9 → (ls.map Lt.u).Pairwise (· < ·) →
    (∀ (td : Addr) oT kvs own oTold' h' tk', oTold'.data = .cell (some (.ref td)) → oT.IsDictOf (PySem.intKind prg w) kvs → (∀ l ∈ ls, ∃ v, PySem.valueAt kvs l.u = some v ∧ ToldIn own v l) → (∀ p ∈ (td, oT) :: own, ∀ q ∈ (L + 1 + 1 + 1 + 1, oTold) :: (L + 1, oBox) :: news, @Ne Nat q.1 p.1) →
      Fr h₀ L h' m → News h₀ L h' ((L + 1 + 1 + 1 + 1, oTold') :: (L + 1, oBox) :: (td, oT) :: (own ++ news)) → Q .next { s with heap := h', toks := tk' }) →
    wpAny (model prg w) A (exec (lawBody.getD 5 (.Pass default)) (lawEnv L fa cd)) Q E s := by
  w_top off
  have _ : (PySem.Challenge.rw_nz0284_01 = PySem.Challenge.rw_nz0284_01) ∧ (hd.heap_39 = hd.heap_39) := by k_fill; exact ⟨rfl, rfl⟩
  unfold lawEnv
  conv in lawBody.getD _ _ => whnf
  conv in lawScope => whnf
  rintro ⟨B, F, X, N, T, hA, hf, hke, hh, hd, hu⟩ htold hbox hoff hbd hbx hll hls hlen9 hsort hQ
  obtain ⟨hdl, dep, frs, gds, un⟩ := A
  dsimp only at hA hh hd hu
  subst hA hh
  with_reducible refine wpAny_mono (?_ : wpAny _ _ _ (fun v s' => Stop (Q v s')) E _) (fun _ _ h => h.go) (fun _ _ e => e)
  w_strict k_steps
  refine Stop.mk ?_
  refine ⟨b.ll, _, n, (L + 1 + 1 + 1 + 1, oTold) :: (L + 1, oBox) :: news, fun i kvs nw => ∃ own, nw = own ++ ((L + 1 + 1 + 1 + 1, oTold) :: (L + 1, oBox) :: news) ∧ (∀ p ∈ own, ∀ q ∈ (L + 1 + 1 + 1 + 1, oTold) :: (L + 1, oBox) :: news, @LT.lt Nat _ q.1 p.1) ∧ kvs.length ≤ i ∧ ∀ l ∈ ls.take i, ∃ v, PySem.valueAt kvs l.u = some v ∧ ToldIn own v l,
    rfl, F, N, by k_mem, by rw [List.size_toArray, List.length_map]; exact Nat.le_trans hlen9 (by decide), ⟨[], rfl, (fun _ h => nomatch h), Nat.le_refl _, (fun _ h => nomatch h)⟩, (fun _ _ _ h => h.elim fun _ h => h.2.2.1), fun g => ⟨?_, ?_⟩⟩
  · rintro i v kvs nw I oI C oC D oD m₂ h tk E' hi hv ⟨own, e, ho, hkl, htl⟩ hdo hC hx F' N' off ne
    have hsub : ∀ p ∈ (L + 1 + 1 + 1 + 1, oTold) :: (L + 1, oBox) :: news, p ∈ nw := fun p hp => by rw [e]; exact List.mem_append_right own hp
    obtain ⟨l, hl, rfl, hk⟩ := refs_at' hv
    obtain ⟨e1, e2⟩ := hls l hl
    have f1 : (l.a, instObj 113 l.d) ∈ nw := hsub _ (by k_mem)
    have f2 : (l.d, dictOf (l.es w.params) l.n) ∈ nw := hsub _ (by k_mem)
    have hsrc := hsub (b.ll, _) (by k_mem)
    clear hi hv N
    w_strict k_steps
    rename ∀ q ∈ _, @LT.lt Nat _ _ _ => l1
    refine compEnd_new (by assumption) (by assumption) l1 off (.inr ⟨_, List.mem_cons_of_mem _ hsrc, rfl, _, rfl⟩) ⟨(_, tupObj l) :: own, by rw [e]; rfl, List.forall_mem_cons.mpr ⟨fun q hq => l1 q (List.Mem.tail _ (List.Mem.tail _ (List.Mem.tail _ (hsub q hq)))), ho⟩, Nat.le_trans (stored_length_le _ _ _) (Nat.succ_le_succ hkl), fun l' hl' => ?_⟩
    rw [take_snoc hk] at hl'
    rcases List.mem_append.mp hl' with h' | h'
    · obtain ⟨v, hv1, hv2⟩ := htl l' h'
      obtain ⟨j, hj⟩ := List.getElem?_of_mem h'
      have hj1 : j < i := by
        have := (List.getElem?_eq_some_iff.mp hj).1
        rw [List.length_take] at this
        omega
      rw [List.getElem?_take, if_pos hj1] at hj
      have hne := sorted_at hsort hj hk hj1
      exact ⟨v, by rw [valueAt_stored, if_neg (by omega)]; exact hv1, hv2.mono fun p hp => List.Mem.tail _ hp⟩
    · rw [List.mem_singleton.mp h']
      exact ⟨_, by rw [valueAt_stored, if_pos rfl], _, rfl, List.Mem.head _⟩
  · intro D oD kvs nw h tk ⟨own, e, ho, hkl, htl⟩ hdo F' N' o1
    subst e
    have o1' := off1_mem o1
    clear o1 N
    have N2 : News h₀ L h ((L + 1 + 1 + 1 + 1, oTold) :: (L + 1, oBox) :: (D, oD) :: (own ++ news)) := kst_newsOf N' (List.forall_mem_cons.mpr ⟨by k_mem, List.forall_mem_cons.mpr ⟨by k_mem, List.forall_mem_cons.mpr ⟨by k_mem, fun p hp => (List.mem_append.mp hp).elim (fun h => List.Mem.tail _ (List.mem_append_left _ h)) (fun h => List.Mem.tail _ (List.mem_append_right _ (List.Mem.tail _ (List.Mem.tail _ h))))⟩⟩⟩)
    clear N'
    have hD4 : @Ne Nat D (L + 1 + 1 + 1 + 1) := Ne.symm (o1' (L + 1 + 1 + 1 + 1, oTold) (List.mem_append_right _ (List.Mem.head _)))
    have hoff4 : ∀ p ∈ (L + 1, oBox) :: (D, oD) :: (own ++ news), p.1 ≠ L + 1 + 1 + 1 + 1 := List.forall_mem_cons.mpr ⟨by show @Ne Nat (L + 1) (L + 1 + 1 + 1 + 1); omega, List.forall_mem_cons.mpr ⟨hD4, fun p hp => (List.mem_append.mp hp).elim (fun h => Nat.ne_of_gt (ho p h (L + 1 + 1 + 1 + 1, oTold) (List.Mem.head _))) (hoff p)⟩⟩
    w_strict k_steps
    rename News _ _ _ _ => NZ
    rename Fr _ _ _ _ => FZ
    refine Stop.mk ?_
    refine hQ D oD kvs own _ _ _ (by assumption) hdo (fun l hl => htl l (by rw [List.size_toArray, List.length_map, List.take_length]; exact hl)) ?_ FZ NZ
    refine List.forall_mem_cons.mpr ⟨fun q hq => o1' q (List.mem_append_right _ hq), fun p hp q hq => Nat.ne_of_lt (ho p hp q hq)⟩
end
section
local macro_rules | `(tactic| k_mem) => `(tactic| first | exact List.Mem.head _ | with_reducible assumption | (refine List.mem_cons_of_mem _ ?_; k_mem) | exact List.mem_append_left _ (by with_reducible assumption) | (refine List.mem_append_right _ ?_; k_mem))
local macro_rules | `(tactic| walk_at "eval Name") => `(tactic| (k_here; k_dflt (refine' nameX_L ?F ?v ?_ ?a ?b; (case a => rfl); (case b => rfl); (case F => k_asm); (case v => ((repeat refine Eq.trans (if_neg (by decide)) ?_); with_reducible assumption)); k_whole)))
local macro_rules | `(tactic| walk_at "call ref") => `(tactic| (k_here; (with_reducible show wpAny _ _ (call (Value.ref 183) _ _) _ _ _); refine Stop.go ?_))

theorem news_last {h₀ h : Heap} {L : Addr} {x0 x1 x2 : Addr × Obj} {l : List (Addr × Obj)} (N : News h₀ L h (x0 :: x1 :: x2 :: l)) : News h₀ L h (x1 :: x2 :: x0 :: l) :=
  kst_newsOf N (List.forall_mem_cons.mpr ⟨by k_mem, List.forall_mem_cons.mpr ⟨by k_mem, List.forall_mem_cons.mpr ⟨by k_mem, fun p hp => List.Mem.tail _ (List.Mem.tail _ (List.Mem.tail _ hp))⟩⟩⟩)

set_option maxRecDepth 100000 in
set_option maxHeartbeats 2000000 in
theorem l7_ok {w : World} {s0 : Shared} {A₀ A : Around} {base h₀ : Heap} {outer : List Env} {L fa : Addr} {cd : Value} {m mg mb : Str → Option Value} {news : List (Addr × Obj)} {E : Value → Shared → Prop} {Q : Flow → Shared → Prop} {s : Shared} {rest : List (Addr × Obj)} {oBox : Obj} {bx bd : Addr} {b : Bx} {n : Nat} {ls : List Lt} :
    Cx 40 w s0 A₀ A base h₀ outer (lawEnv L fa cd) L s.heap m mg mb ((bd, dictOf (b.es w.params) 7) :: (b.ll, listOf (refs ls).toArray n) :: rest) → (∀ p ∈ rest, p.1 ≠ bd) → (∀ p ∈ rest, p.1 ≠ b.ll) → @Ne Nat bd b.ll → (L + 1, oBox) ∈ rest → oBox.data = .cell (some (.ref bx)) → (bx, instObj 151 bd) ∈ rest → ls.length ≤ 8 →
    (∀ (l : Lt) (b' : Bx) (n' : Nat) (own : List (Addr × Obj)) h' tk', l.u = b.nx → l.ms = b.top + 1 → b'.ll = b.ll → l.In w.params own →
      Fr h₀ L h' (fun z => if z = Str.ofString "last" then some (.ref l.a) else m z) → News h₀ L h' ((bd, dictOf (b'.es w.params) 7) :: (b.ll, listOf (refs (ls ++ [l])).toArray n') :: (own ++ rest)) → Q .next { s with heap := h', toks := tk' }) →
    wpAny (model prg w) A (exec (lawBody.getD 7 (.Pass default)) (lawEnv L fa cd)) Q E s := by
  w_top off
  have _ : (PySem.Challenge.rw_nz0284_01 = PySem.Challenge.rw_nz0284_01) ∧ (hd.heap_39 = hd.heap_39) := by k_fill; exact ⟨rfl, rfl⟩
  unfold lawEnv
  conv in lawBody.getD _ _ => whnf
  conv in lawScope => whnf
  rintro ⟨B, F, X, N, T, hA, hf, hke, hh, hd, hu⟩ hoff1 hoff2 hne hbox hcell hbx hlen hQ
  obtain ⟨hdl, dep, frs, gds, un⟩ := A
  dsimp only at hA hh hd hu
  subst hA hh
  with_reducible refine wpAny_mono (?_ : wpAny _ _ _ (fun v s' => Stop (Q v s')) E _) (fun _ _ h => h.go) (fun _ _ e => e)
  have lt1 := news_lt N
  w_strict k_steps
  refine Stop.mk ?_
  rename News _ _ _ _ => NZ
  rename @LT.lt Nat _ _ _ ∧ _ => l1
  refine' add_ok (n := n) (ls := ls) (b := b) (bx := bx) (bd := bd) (nf := 0) (fs := []) ⟨?c1, ?c2, ?c3, ?c4, ?c5, ?c6, ?c7, ?c8, ?c9, ?c10, ?c11⟩ ?d1 ?d2 hne ?d3 ?d4 (.inl rfl) hlen ?q; (case c1 => k_asm); (case c2 => k_asm); (case c3 => k_asm); (case c5 => k_asm); (case c6 => rfl); (case c7 => rfl); (case c8 => rfl); (case c9 => rfl); (case c10 => (simp only [depth_under_make, depth_in1, depth_deeper]; omega)); (case c11 => (simp only [units_under_make, units_in1, units_deeper]; omega))
  case c4 => exact news_last NZ
  case d1 => exact List.forall_mem_cons.mpr ⟨Nat.ne_of_gt l1.1, hoff1⟩
  case d2 => exact List.forall_mem_cons.mpr ⟨Nat.ne_of_gt l1.2.1, hoff2⟩
  case d3 => k_mem
  case d4 => exact List.mem_cons_self
  case q =>
    intro l b2 n2 own2 h2 tk2 e1 e2 e3 e4 e5 e6 F3 N3 hin ho3
    clear NZ
    w_strict k_steps
    refine Stop.mk ?_
    rename News _ _ _ _ => NZ
    rename Fr _ _ _ _ => FZ
    exact hQ l b2 n2 own2 _ _ e1 e2 e5 hin FZ (kst_newsOf NZ (List.forall_mem_cons.mpr ⟨by k_mem, List.forall_mem_cons.mpr ⟨by k_mem, fun p hp => (List.mem_append.mp hp).elim (fun h => List.Mem.tail _ (List.Mem.tail _ (List.mem_append_left _ h))) (fun h => List.Mem.tail _ (List.Mem.tail _ (List.mem_append_right _ (List.Mem.tail _ h))))⟩⟩))
end
section
local macro_rules | `(tactic| k_mem) => `(tactic| first | exact List.Mem.head _ | with_reducible assumption | (refine List.mem_cons_of_mem _ ?_; k_mem) | exact List.mem_append_left _ (by with_reducible assumption) | (refine List.mem_append_right _ ?_; k_mem))
local macro_rules | `(tactic| walk_at "eval Name") => `(tactic| (k_here; k_dflt (refine' nameX_L ?F ?v ?_ ?a ?b; (case a => rfl); (case b => rfl); (case F => k_asm); (case v => ((repeat refine Eq.trans (if_neg (by decide)) ?_); with_reducible assumption)); k_whole)))
local macro_rules | `(tactic| walk_at "call ref") => `(tactic| (k_here; (with_reducible show wpAny _ _ (call (Value.ref 110) _ _) _ _ _); k_dflt (refine' told_ok ⟨?c1, ?c2, ?c3, ?c4, ?c5, ?c6, ?c7, ?c8, ?c9, ?c10, ?c11⟩ ⟨?d1, ?d2⟩ ?_; (case c1 => k_asm); (case c2 => k_asm); (case c3 => k_asm); (case c4 => k_asm); (case c5 => k_asm); (case c6 => rfl); (case c7 => rfl); (case c8 => rfl); (case c9 => rfl); (case c10 => (simp only [depth_under_make, depth_in1, depth_deeper]; omega)); (case c11 => (simp only [units_under_make, units_in1, units_deeper]; omega)); (case d1 => k_mem); (case d2 => k_mem)); intro ta h' tk' F' N' l1))

section
variable {prog : Program} {w : World} {A : Around} {E : Value → Shared → Prop} {s : Shared} {h₀ : Heap} {L : Addr} {news : List (Addr × Obj)} {a b : Addr} {Q : Value → Shared → Prop}
theorem eq_told {l : Lt} (N : News h₀ L s.heap news) (ha : (a, tupObj l) ∈ news) (hb : (b, tupObj l) ∈ news) (hu : A.units + 64 < cLine) (h : Q (.bool true) s) : wpAny (model prog w) A (compareOp .Eq (.ref a) (.ref b)) Q E s := by
  have ta : s.heap.IsTuple a l.tup.toArray := ⟨_, (N _ ha).1, rfl, _, rfl⟩
  have tb : s.heap.IsTuple b l.tup.toArray := ⟨_, (N _ hb).1, rfl, _, rfl⟩
  have := SeqAt.RcAt.tuples (A := A) (e := fun _ => true) ta tb (by omega) (fun j h1 h2 => SeqAt.EqAt.same _)
  have e5 : ((List.range (min l.tup.toArray.size l.tup.toArray.size)).all (fun _ => true) && l.tup.toArray.size == l.tup.toArray.size) = true := by rw [List.all_eq_true.mpr (fun _ _ => rfl), beq_self_eq_true]; rfl
  rw [e5] at this
  exact this prog w E Q h
theorem eq_int_same {x y : Int} {t u : Tok} (e : x = y) (h : Q (.bool true) s) : wpAny (model prog w) A (compareOp .Eq (.int x t) (.int y u)) Q E s := by subst e; exact eq_int (by rw [beq_self_eq_true]; exact h)
end
theorem same_u {ls : List Lt} (hs : (ls.map Lt.u).Pairwise (· < ·)) {x y : Lt} (hx : x ∈ ls) (hy : y ∈ ls) (e : x.u = y.u) : x = y := by
  obtain ⟨i, hi⟩ := List.getElem?_of_mem hx
  obtain ⟨j, hj⟩ := List.getElem?_of_mem hy
  rcases Nat.lt_trichotomy i j with h | h | h
  · have := sorted_at hs hi hj h; omega
  · subst h; rw [hi] at hj; exact Option.some.inj hj
  · have := sorted_at hs hj hi h; omega
local macro_rules | `(tactic| walk_at "call ref") => `(tactic| (k_here; (with_reducible show wpAny _ _ (call (Value.ref 138) _ _) _ _ _); refine Stop.go ?_))
local macro_rules | `(tactic| walk_at "compareOp Eq int int") => `(tactic| (k_here; (with_reducible refine eq_int_same (by with_reducible assumption) ?_)))
local macro_rules | `(tactic| walk_at "compareOp Eq ref ref") => `(tactic| (k_here; (with_reducible show wpAny _ _ (compareOp CmpOp.Eq (Value.ref _) (Value.ref _)) _ _ _); k_dflt (refine eq_told (by with_reducible assumption) (by k_mem) (by k_mem) (by (try simp only [units_deeper, units_in1, units_under_make, units_caller]); (try dsimp only); (show _ < 9900); omega) ?_)))

set_option maxRecDepth 100000 in
set_option maxHeartbeats 2000000 in
theorem l8_ok {w : World} {s0 : Shared} {A₀ A : Around} {base h₀ : Heap} {outer : List Env} {L fa : Addr} {cd : Value} {m mg mb : Str → Option Value} {news : List (Addr × Obj)} {E : Value → Shared → Prop} {Q : Flow → Shared → Prop} {s : Shared} {oTop oBox : Obj} {bx bd : Addr} {b : Bx} {n cn : Nat} {ls : List Lt} {l : Lt} {tt tc : Tok} {top : Int} :
    Cx 40 w s0 A₀ A base h₀ outer (lawEnv L fa cd) L s.heap m mg mb (news) → oTop.data = .cell (some (.int top tt)) → oBox.data = .cell (some (.ref bx)) → (L + 1 + 1 + 1, oTop) ∈ news → (L + 1, oBox) ∈ news → (bx, instObj 151 bd) ∈ news → (bd, dictOf (b.es w.params) 7) ∈ news → (b.ll, listOf (refs ls).toArray n) ∈ news → (∀ l ∈ ls, l.In w.params news) → ls.length ≤ 9 → (ls.map Lt.u).Pairwise (· < ·) → l ∈ ls →
    m (Str.ofString "last") = some (.ref l.a) → m (Str.ofString "count") = some (.int (cn : Int) tc) → l.u = (cn : Int) + 1 → l.ms = top + 1 →
    (∀ h' tk', Fr h₀ L h' m → Q (.ret (.bool true)) { s with heap := h', toks := tk' }) →
    wpAny (model prg w) A (exec (lawBody.getD 8 (.Pass default)) (lawEnv L fa cd)) Q E s := by
  w_top off
  have _ : (PySem.Challenge.rw_nz0284_01 = PySem.Challenge.rw_nz0284_01) ∧ (hd.heap_39 = hd.heap_39) := by k_fill; exact ⟨rfl, rfl⟩
  unfold lawEnv
  conv in lawBody.getD _ _ => whnf
  conv in lawScope => whnf
  rintro ⟨B, F, X, N, T, hA, hf, hke, hh, hd, hu⟩ htop hbox htm hbm hbx hbd hll hls hlen9 hsort hl hml hmc hlu hlm hQ
  obtain ⟨hdl, dep, frs, gds, un⟩ := A
  dsimp only at hA hh hd hu
  subst hA hh
  with_reducible refine wpAny_mono (?_ : wpAny _ _ _ (fun v s' => Stop (Q v s')) E _) (fun _ _ h => h.go) (fun _ _ e => e)
  obtain ⟨e1, e2⟩ := hls l hl
  w_strict k_steps
  refine Stop.mk ?_
  refine' letter_ok (b := b) (bx := bx) (bd := bd) (n := n) (ls := ls) ⟨?c1, ?c2, ?c3, ?c4, ?c5, ?c6, ?c7, ?c8, ?c9, ?c10, ?c11⟩ ?d1 ?d2 ?d3 ?d4 hlen9 hsort ⟨l, hl, hlu⟩ ?q; (case c1 => k_asm); (case c2 => k_asm); (case c3 => k_asm); (case c4 => k_asm); (case c5 => k_asm); (case c6 => rfl); (case c7 => rfl); (case c8 => rfl); (case c9 => rfl); (case c10 => (simp only [depth_under_make, depth_in1, depth_deeper]; omega)); (case c11 => (simp only [units_under_make, units_in1, units_deeper]; omega))
  case d1 => k_mem
  case d2 => k_mem
  case d3 => k_mem
  case d4 => exact hls
  case q =>
    intro l2 h' tk' hl2 hu2 F' N'
    have e := same_u hsort hl2 hl (hu2.trans hlu.symm)
    subst e
    clear N
    w_strict k_steps
    refine Stop.mk ?_
    exact hQ _ _ (by assumption)
end
section
local macro_rules | `(tactic| k_mem) => `(tactic| first | exact List.mem_cons_self | with_reducible assumption | (refine List.mem_cons_of_mem _ ?_; k_mem) | exact List.mem_append_left _ (by with_reducible assumption) | (refine List.mem_append_right _ ?_; k_mem))
local macro_rules | `(tactic| kst_allIn) => `(tactic| (first | exact List.forall_mem_nil _ | (refine List.forall_mem_cons.mpr ⟨by k_mem, ?_⟩; kst_allIn) | (intro p hp; k_mem)))
/-- the kind of an object's data -/
def kd (o : Obj) : Nat := match o.data with | .seq _ _ => 0 | .dict _ _ => 1 | .cell _ => 2 | _ => 3
theorem kd_cell {o : Obj} {v : Option Value} (h : o.data = .cell v) : kd o = 2 := by unfold kd; rw [h]
theorem news_ne {h₀ h : Heap} {L a b : Addr} {o o' : Obj} {l : List (Addr × Obj)} (N : News h₀ L h l) (ha : (a, o) ∈ l) (hb : (b, o') ∈ l) (hk : kd o ≠ kd o') : @Ne Nat a b := fun e => by
  have h1 := (N _ ha).1
  have h2 := (N _ hb).1
  dsimp only at h1 h2
  rw [show a = b from e, h2] at h1
  exact hk (congrArg kd (Option.some.inj h1)).symm
set_option maxRecDepth 100000 in
set_option maxHeartbeats 2000000 in
theorem end_ok {w : World} {s0 : Shared} {A₀ A : Around} {base h₀ : Heap} {outer : List Env} {L fa : Addr} {cd : Value} {m mg mb : Str → Option Value} {E : Value → Shared → Prop} {Q : Flow → Shared → Prop} {s : Shared} {cn : Nat} {sa : Addr} {its : Array Value} {sn : Nat} {d : Dt}
    (X : Cx 40 w s0 A₀ A base h₀ outer (lawEnv L fa cd) L s.heap m mg mb (d.led w.params L)) (K : Ok w cn sa its sn L m d)
    (hQ : ∀ h' tk' m', Fr h₀ L h' m' → Q (.ret (.bool true)) { s with heap := h', toks := tk' }) :
    ∀ st7 st8, st7 = lawBody.getD 7 (.Pass default) → st8 = lawBody.getD 8 (.Pass default) → wpAny (model prg w) A (execs [st7, st8] (lawEnv L fa cd)) Q E s := by
  intro st7 st8 e7 e8
  obtain ⟨cTold, cTop, cThere, cBox, cSome, cCell, src, box, ll, gl, hT, hG, htd, lts, told, hdo, tv, gv, gs, len, cn8, sorted, rng, nx, mcount, mgone, clr, bdoff⟩ := id K
  have cll := clr _ ll
  have sub : ∀ p ∈ d.rest, p ∈ d.led w.params L := fun p hp => List.mem_cons_of_mem _ (List.mem_cons_of_mem _ (List.mem_cons_of_mem _ (List.mem_cons_of_mem _ (List.mem_cons_of_mem _ (List.mem_cons_of_mem _ (List.mem_cons_of_mem _ hp))))))
  have hR : ∀ p ∈ ((L + 1 + 1 + 1, d.oTop) :: (L + 1, d.oBox) :: d.rest).filter (fun p => decide (p.1 ≠ d.b.ll)), p ∈ (L + 1 + 1 + 1, d.oTop) :: (L + 1, d.oBox) :: d.rest ∧ p.1 ≠ d.b.ll := fun p hp => ⟨(List.mem_filter.mp hp).1, of_decide_eq_true (List.mem_filter.mp hp).2⟩
  have hR' : ∀ p ∈ (L + 1 + 1 + 1, d.oTop) :: (L + 1, d.oBox) :: d.rest, p.1 ≠ d.b.ll → p ∈ ((L + 1 + 1 + 1, d.oTop) :: (L + 1, d.oBox) :: d.rest).filter (fun p => decide (p.1 ≠ d.b.ll)) := fun p hp h => List.mem_filter.mpr ⟨hp, decide_eq_true h⟩
  generalize hrest : ((L + 1 + 1 + 1, d.oTop) :: (L + 1, d.oBox) :: d.rest).filter (fun p => decide (p.1 ≠ d.b.ll)) = rest7 at hR hR'
  have N7 : News h₀ L s.heap ((d.bd, dictOf (d.b.es w.params) 7) :: (d.b.ll, listOf (refs d.ls).toArray d.n) :: rest7) := kst_newsOf X.N (List.forall_mem_cons.mpr ⟨List.mem_cons_self, List.forall_mem_cons.mpr ⟨sub _ ll, fun p hp => by
    rcases List.mem_cons.mp (hR p hp).1 with h | h
    · rw [h]; k_mem
    · rcases List.mem_cons.mp h with h | h
      · rw [h]; k_mem
      · exact sub p h⟩⟩)
  have i1 : (L + 1, d.oBox) ∈ rest7 := hR' _ (by k_mem) (Ne.symm cll.c1)
  have i3 : (L + 1 + 1 + 1, d.oTop) ∈ rest7 := hR' _ (by k_mem) (Ne.symm cll.c3)
  have ix : (d.bx, instObj 151 d.bd) ∈ rest7 := hR' _ (by k_mem) (news_ne X.N (sub _ box) (sub _ ll) (show (3 : Nat) ≠ 0 by decide))
  have il : ∀ l ∈ d.ls, l.In w.params rest7 := fun l hl => ⟨hR' _ (List.mem_cons_of_mem _ (List.mem_cons_of_mem _ (lts l hl).1)) (news_ne X.N (sub _ (lts l hl).1) (sub _ ll) (show (3 : Nat) ≠ 0 by decide)), hR' _ (List.mem_cons_of_mem _ (List.mem_cons_of_mem _ (lts l hl).2)) (news_ne X.N (sub _ (lts l hl).2) (sub _ ll) (show (1 : Nat) ≠ 0 by decide))⟩
  have o1 : ∀ p ∈ rest7, p.1 ≠ d.bd := fun p hp => by
    rcases List.mem_cons.mp (hR p hp).1 with h | h
    · rw [h]; exact Ne.symm bdoff.2.2.2.1
    · rcases List.mem_cons.mp h with h | h
      · rw [h]; exact Ne.symm bdoff.2.2.2.2.2
      · exact (clr p h).hb
  with_reducible refine wpAny_execs_cons ?_
  rw [e7]
  with_reducible refine l7_ok (news := []) (X.next X.F N7) o1 (fun p hp => (hR p hp).2) (Ne.symm cll.hb) i1 cBox ix (Nat.le_trans (Nat.le_trans (Nat.le_add_right _ _) len) cn8) ?_
  intro l b2 n2 own h1 tk1 e1 e2 e5 hin F1 N1
  with_reducible show wpAny _ _ (execs _ _) Q E _
  with_reducible refine wpAny_execs_cons ?_
  rw [e8]
  have hin2 : l.In w.params ((d.bd, dictOf (b2.es w.params) 7) :: (d.b.ll, listOf (refs (d.ls ++ [l])).toArray n2) :: (own ++ rest7)) := hin.mono fun p hp => List.mem_cons_of_mem _ (List.mem_cons_of_mem _ (List.mem_append_left _ hp))
  have hu : l.u = (cn : Int) + 1 := e1.trans nx
  with_reducible refine l8_ok (n := n2) (bx := d.bx) (bd := d.bd) (l := l) (ls := d.ls ++ [l]) (cn := cn) (b := b2) (top := d.b.top) (X.next F1 N1) cTop cBox ?c1 ?c2 ?c3 List.mem_cons_self ?c4 ?c5 ?c6 ?c7 ?c8 (if_pos rfl) ((if_neg ?c9).trans mcount) hu e2 ?_
  case c1 => k_mem
  case c2 => k_mem
  case c3 => k_mem
  case c4 => rw [e5]; k_mem
  case c5 =>
    intro x hx
    rcases List.mem_append.mp hx with h | h
    · exact (il x h).mono fun p hp => List.mem_cons_of_mem _ (List.mem_cons_of_mem _ (List.mem_append_right _ hp))
    · rw [List.mem_singleton.mp h]; exact hin2
  case c6 => rw [List.length_append, List.length_singleton]; omega
  case c7 =>
    rw [List.map_append, List.map_cons, List.map_nil]
    refine List.pairwise_append.mpr ⟨sorted, List.pairwise_singleton _ _, fun a ha b hb => ?_⟩
    obtain ⟨x, hx, rfl⟩ := List.mem_map.mp ha
    rw [List.mem_singleton.mp hb, hu]
    have := (rng x hx).2
    omega
  case c8 => exact List.mem_append_right _ (List.mem_singleton.mpr rfl)
  case c9 => decide
  intro h2 tk2 F2
  with_reducible exact hQ h2 tk2 _ F2
end
section
local macro_rules | `(tactic| k_mem) => `(tactic| first | exact List.mem_cons_self | with_reducible assumption | (refine List.mem_cons_of_mem _ ?_; k_mem) | exact List.mem_append_left _ (by with_reducible assumption) | (refine List.mem_append_right _ ?_; k_mem))
local macro_rules | `(tactic| kst_allIn) => `(tactic| (first | exact List.forall_mem_nil _ | (refine List.forall_mem_cons.mpr ⟨by k_mem, ?_⟩; kst_allIn) | (intro p hp; k_mem)))

theorem range_sorted (n : Nat) : ((List.range n).map fun (i : Nat) => (i : Int) + 1).Pairwise (· < ·) :=
  List.pairwise_map.mpr (List.pairwise_lt_range.imp fun h => by omega)
theorem clr_of {h₀ h : Heap} {L : Addr} {P : Params} {d : Dt} (N : News h₀ L h (d.led P L)) (k6 : kd d.oSome = 2) (k5 : kd d.oCell = 2) (k4 : kd d.oTold = 2) (k3 : kd d.oTop = 2) (k2 : kd d.oThere = 2) (k1 : kd d.oBox = 2) {a : Addr} {o : Obj} (hm : (a, o) ∈ d.rest) (h1 : kd o ≠ 1) (h2 : kd o ≠ 2) : Clr d.bd L a := by
  have hm' : (a, o) ∈ d.led P L := List.mem_cons_of_mem _ (List.mem_cons_of_mem _ (List.mem_cons_of_mem _ (List.mem_cons_of_mem _ (List.mem_cons_of_mem _ (List.mem_cons_of_mem _ (List.mem_cons_of_mem _ hm))))))
  exact ⟨news_ne N hm' (b := d.bd) (o' := dictOf (d.b.es P) 7) (by k_mem) h1, news_ne N hm' (o' := d.oSome) (by k_mem) (by rw [k6]; exact h2), news_ne N hm' (o' := d.oCell) (by k_mem) (by rw [k5]; exact h2), news_ne N hm' (o' := d.oTold) (by k_mem) (by rw [k4]; exact h2), news_ne N hm' (o' := d.oTop) (by k_mem) (by rw [k3]; exact h2), news_ne N hm' (o' := d.oThere) (by k_mem) (by rw [k2]; exact h2), news_ne N hm' (o' := d.oBox) (by k_mem) (by rw [k1]; exact h2)⟩

set_option maxRecDepth 100000 in
set_option maxHeartbeats 2000000 in
theorem pre_ok {w : World} {s0 : Shared} {A₀ A : Around} {base h₀ : Heap} {outer : List Env} {L fa : Addr} {cd : Value} {m mg mb : Str → Option Value} {E : Value → Shared → Prop} {Q : Flow → Shared → Prop} {s : Shared} {oSome oCell oTold oTop oThere oBox : Obj} {v6 v5 v4 v3 v2 v1 : Option Value} {sc : Addr} {vs : List Value} {ns : List Int} {stl : List Stmt}
    (X : Cx 40 w s0 A₀ A base h₀ outer (lawEnv L fa cd) L s.heap m mg mb [(L + 1 + 1 + 1 + 1 + 1 + 1, oSome), (L + 1 + 1 + 1 + 1 + 1, oCell), (L + 1 + 1 + 1 + 1, oTold), (L + 1 + 1 + 1, oTop), (L + 1 + 1, oThere), (L + 1, oBox)]) (h6 : oSome.data = .cell v6) (h5 : oCell.data = .cell v5) (h4 : oTold.data = .cell v4) (h3 : oTop.data = .cell v3) (h2 : oThere.data = .cell v2) (h1 : oBox.data = .cell v1)
    (hsc : m (Str.ofString "script") = some (.ref sc)) (hl : h₀.IsList sc vs.toArray) (hin : IntsAre vs ns) (hlen : ns.length ≤ 63) (hE : PassesOwn (model prg w) A (lawEnv L fa cd) E)
    (hQ : ∀ cn C cvs cs d m' h' tk', Ok w cn C (List.toArray cvs) 0 L m' d → m' (Str.ofString "cells") = some (.ref C) → IntsAre cvs cs → cs.length ≤ 7 → Fr h₀ L h' m' → News h₀ L h' (d.led w.params L) → wpAny (model prg w) A (execs stl (lawEnv L fa cd)) Q E { s with heap := h', toks := tk' }) :
    ∀ st0 st1 st2 st3 st4 st5, st0 = lawBody.getD 0 (.Pass default) → st1 = lawBody.getD 1 (.Pass default) → st2 = lawBody.getD 2 (.Pass default) → st3 = lawBody.getD 3 (.Pass default) → st4 = lawBody.getD 4 (.Pass default) → st5 = lawBody.getD 5 (.Pass default) →
      wpAny (model prg w) A (execs (st0 :: st1 :: st2 :: st3 :: st4 :: st5 :: stl) (lawEnv L fa cd)) Q E s := by
  intro st0 st1 st2 st3 st4 st5 q0 q1 q2 q3 q4 q5
  with_reducible refine wpAny_execs_cons ?_
  rw [q0]
  with_reducible refine l0_ok (news := []) X hsc hl hin hlen ?_
  intro C cvs g1 tk1 hcv F1 N1
  have hcs : (ns.take 7).length ≤ 7 := by rw [List.length_take]; omega
  with_reducible show wpAny _ _ (execs _ _) Q E _
  with_reducible refine wpAny_execs_cons ?_
  rw [q1]
  with_reducible refine l1_ok (news := [(L + 1 + 1 + 1 + 1 + 1 + 1, oSome), (L + 1 + 1 + 1 + 1 + 1, oCell), (L + 1 + 1 + 1 + 1, oTold), (L + 1 + 1 + 1, oTop), (L + 1 + 1, oThere), (L + 1, oBox)]) (X.next F1 N1) (if_pos rfl) hcv hcs ?_
  intro cn tc g2 tk2 hc1 hc8 F2 N2
  have mcells : (if Str.ofString "cells" = Str.ofString "count" then some (Value.int (cn : Int) tc) else if Str.ofString "cells" = Str.ofString "cells" then some (Value.ref C) else m (Str.ofString "cells")) = some (.ref C) := (if_neg (by decide)).trans (if_pos rfl)
  have mcount : (if Str.ofString "count" = Str.ofString "count" then some (Value.int (cn : Int) tc) else if Str.ofString "count" = Str.ofString "cells" then some (Value.ref C) else m (Str.ofString "count")) = some (.int (cn : Int) tc) := if_pos rfl
  with_reducible show wpAny _ _ (execs _ _) Q E _
  with_reducible refine wpAny_execs_cons ?_
  rw [q2]
  have hC1 : @Ne Nat C (L + 1) := news_ne N2 (a := C) (b := L + 1) (o' := oBox) (by k_mem) (by k_mem) (by rw [kd_cell h1]; exact (show (0 : Nat) ≠ 2 by decide))
  with_reducible refine l2_ok (oSome := oSome) (oCell := oCell) (oTold := oTold) (oTop := oTop) (oThere := oThere) (oBox := oBox) (v0 := v1) (news := (L + 1 + 1 + 1 + 1 + 1 + 1, oSome) :: (L + 1 + 1 + 1 + 1 + 1, oCell) :: (L + 1 + 1 + 1 + 1, oTold) :: (L + 1 + 1 + 1, oTop) :: (L + 1 + 1, oThere) :: (C, listOf cvs.toArray 0) :: []) (X.next F2 (kst_newsOf N2 ?n2)) h1 ?o2 ?_
  case n2 => kst_allIn
  case o2 => exact List.forall_mem_cons.mpr ⟨(by show @Ne Nat (L + 1 + 1 + 1 + 1 + 1 + 1) (L + 1); omega), List.forall_mem_cons.mpr ⟨(by show @Ne Nat (L + 1 + 1 + 1 + 1 + 1) (L + 1); omega), List.forall_mem_cons.mpr ⟨(by show @Ne Nat (L + 1 + 1 + 1 + 1) (L + 1); omega), List.forall_mem_cons.mpr ⟨(by show @Ne Nat (L + 1 + 1 + 1) (L + 1); omega), List.forall_mem_cons.mpr ⟨(by show @Ne Nat (L + 1 + 1) (L + 1); omega), List.forall_mem_cons.mpr ⟨hC1, List.forall_mem_nil _⟩⟩⟩⟩⟩⟩
  intro b bx bd oBox2 g3 tk3 hb2 hnx htop lt3 lt3' F3 N3
  clear N1 N2
  with_reducible show wpAny _ _ (execs _ _) Q E _
  with_reducible refine wpAny_execs_cons ?_
  rw [q3]
  have k6 := kd_cell h6
  have k5 := kd_cell h5
  have k4 := kd_cell h4
  have k3 := kd_cell h3
  have k2 := kd_cell h2
  have k1 := kd_cell hb2
  have hoff1 : ∀ p ∈ (b.gl, listOf #[] 0) :: (bx, instObj 151 bd) :: (L + 1, oBox2) :: (L + 1 + 1 + 1 + 1 + 1 + 1, oSome) :: (L + 1 + 1 + 1 + 1 + 1, oCell) :: (L + 1 + 1 + 1 + 1, oTold) :: (L + 1 + 1 + 1, oTop) :: (L + 1 + 1, oThere) :: (C, listOf cvs.toArray 0) :: [], p.1 ≠ bd := List.forall_mem_cons.mpr ⟨news_ne N3 (a := b.gl) (b := bd) (o := listOf #[] 0) (o' := dictOf (b.es w.params) 7) (by k_mem) (by k_mem) (show (0 : Nat) ≠ 1 by decide), List.forall_mem_cons.mpr ⟨news_ne N3 (a := bx) (b := bd) (o := instObj 151 bd) (o' := dictOf (b.es w.params) 7) (by k_mem) (by k_mem) (show (3 : Nat) ≠ 1 by decide), List.forall_mem_cons.mpr ⟨news_ne N3 (a := L + 1) (b := bd) (o := oBox2) (o' := dictOf (b.es w.params) 7) (by k_mem) (by k_mem) (by rw [k1]; exact (show (2 : Nat) ≠ 1 by decide)), List.forall_mem_cons.mpr ⟨news_ne N3 (a := L + 1 + 1 + 1 + 1 + 1 + 1) (b := bd) (o := oSome) (o' := dictOf (b.es w.params) 7) (by k_mem) (by k_mem) (by rw [k6]; exact (show (2 : Nat) ≠ 1 by decide)), List.forall_mem_cons.mpr ⟨news_ne N3 (a := L + 1 + 1 + 1 + 1 + 1) (b := bd) (o := oCell) (o' := dictOf (b.es w.params) 7) (by k_mem) (by k_mem) (by rw [k5]; exact (show (2 : Nat) ≠ 1 by decide)), List.forall_mem_cons.mpr ⟨news_ne N3 (a := L + 1 + 1 + 1 + 1) (b := bd) (o := oTold) (o' := dictOf (b.es w.params) 7) (by k_mem) (by k_mem) (by rw [k4]; exact (show (2 : Nat) ≠ 1 by decide)), List.forall_mem_cons.mpr ⟨news_ne N3 (a := L + 1 + 1 + 1) (b := bd) (o := oTop) (o' := dictOf (b.es w.params) 7) (by k_mem) (by k_mem) (by rw [k3]; exact (show (2 : Nat) ≠ 1 by decide)), List.forall_mem_cons.mpr ⟨news_ne N3 (a := L + 1 + 1) (b := bd) (o := oThere) (o' := dictOf (b.es w.params) 7) (by k_mem) (by k_mem) (by rw [k2]; exact (show (2 : Nat) ≠ 1 by decide)), List.forall_mem_cons.mpr ⟨news_ne N3 (a := C) (b := bd) (o := listOf cvs.toArray 0) (o' := dictOf (b.es w.params) 7) (by k_mem) (by k_mem) (show (0 : Nat) ≠ 1 by decide), List.forall_mem_nil _⟩⟩⟩⟩⟩⟩⟩⟩⟩
  have hoff2 : ∀ p ∈ (b.gl, listOf #[] 0) :: (bx, instObj 151 bd) :: (L + 1, oBox2) :: (L + 1 + 1 + 1 + 1 + 1 + 1, oSome) :: (L + 1 + 1 + 1 + 1 + 1, oCell) :: (L + 1 + 1 + 1 + 1, oTold) :: (L + 1 + 1 + 1, oTop) :: (L + 1 + 1, oThere) :: (C, listOf cvs.toArray 0) :: [], p.1 ≠ b.ll := List.forall_mem_cons.mpr ⟨Nat.ne_of_gt lt3', List.forall_mem_cons.mpr ⟨news_ne N3 (a := bx) (b := b.ll) (o := instObj 151 bd) (o' := listOf (refs []).toArray 0) (by k_mem) (by k_mem) (show (3 : Nat) ≠ 0 by decide), List.forall_mem_cons.mpr ⟨Nat.ne_of_lt (lt3 (L + 1, oBox) (by k_mem)), List.forall_mem_cons.mpr ⟨Nat.ne_of_lt (lt3 (L + 1 + 1 + 1 + 1 + 1 + 1, oSome) (by k_mem)), List.forall_mem_cons.mpr ⟨Nat.ne_of_lt (lt3 (L + 1 + 1 + 1 + 1 + 1, oCell) (by k_mem)), List.forall_mem_cons.mpr ⟨Nat.ne_of_lt (lt3 (L + 1 + 1 + 1 + 1, oTold) (by k_mem)), List.forall_mem_cons.mpr ⟨Nat.ne_of_lt (lt3 (L + 1 + 1 + 1, oTop) (by k_mem)), List.forall_mem_cons.mpr ⟨Nat.ne_of_lt (lt3 (L + 1 + 1, oThere) (by k_mem)), List.forall_mem_cons.mpr ⟨Nat.ne_of_lt (lt3 (C, listOf cvs.toArray 0) (by k_mem)), List.forall_mem_nil _⟩⟩⟩⟩⟩⟩⟩⟩⟩
  have hne : @Ne Nat bd b.ll := news_ne N3 (a := bd) (b := b.ll) (o := dictOf (b.es w.params) 7) (o' := listOf (refs []).toArray 0) (by k_mem) (by k_mem) (show (1 : Nat) ≠ 0 by decide)
  with_reducible refine l3_ok (news := []) (n := 0) (bx := bx) (oBox := oBox2) (rest := (b.gl, listOf #[] 0) :: (bx, instObj 151 bd) :: (L + 1, oBox2) :: (L + 1 + 1 + 1 + 1 + 1 + 1, oSome) :: (L + 1 + 1 + 1 + 1 + 1, oCell) :: (L + 1 + 1 + 1 + 1, oTold) :: (L + 1 + 1 + 1, oTop) :: (L + 1 + 1, oThere) :: (C, listOf cvs.toArray 0) :: []) (X.next F3 N3) hoff1 hoff2 hne ?m1 hb2 ?m2 mcount ⟨hc8⟩ hnx htop hE ?_
  case m1 => k_mem
  case m2 => k_mem
  intro b2 ls n2 own m3 g4 tk4 hnx2 htop2 hll2 hgl2 hus hlts hown hm3 F4 N4
  clear hoff1 hoff2 hne lt3 lt3' N3
  have mc3 := (hm3 (Str.ofString "count") (by decide)).trans mcount
  have me3 := (hm3 (Str.ofString "cells") (by decide)).trans mcells
  with_reducible show wpAny _ _ (execs _ _) Q E _
  with_reducible refine wpAny_execs_cons ?_
  rw [q4]
  have N4' : News h₀ L g4 ((L + 1 + 1 + 1, oTop) :: (L + 1 + 1, oThere) :: (bd, dictOf (b2.es w.params) 7) :: (b.ll, listOf (refs ls).toArray n2) :: (b.gl, listOf #[] 0) :: (bx, instObj 151 bd) :: (L + 1, oBox2) :: (L + 1 + 1 + 1 + 1 + 1 + 1, oSome) :: (L + 1 + 1 + 1 + 1 + 1, oCell) :: (L + 1 + 1 + 1 + 1, oTold) :: (C, listOf cvs.toArray 0) :: own) := kst_newsOf N4 (by kst_allIn)
  with_reducible refine l4_ok (oTop := oTop) (oThere := oThere) (news := (bd, dictOf (b2.es w.params) 7) :: (b.ll, listOf (refs ls).toArray n2) :: (b.gl, listOf #[] 0) :: (bx, instObj 151 bd) :: (L + 1, oBox2) :: (L + 1 + 1 + 1 + 1 + 1 + 1, oSome) :: (L + 1 + 1 + 1 + 1 + 1, oCell) :: (L + 1 + 1 + 1 + 1, oTold) :: (C, listOf cvs.toArray 0) :: own) (X.next F4 N4') h3 h2 ?o3 ?o2 mc3 ⟨hc8⟩ ?_
  case o3 => exact List.forall_mem_cons.mpr ⟨news_ne N4' (a := bd) (b := L + 1 + 1 + 1) (o := dictOf (b2.es w.params) 7) (o' := oTop) (by k_mem) (by k_mem) (by rw [k3]; exact (show (1 : Nat) ≠ 2 by decide)), List.forall_mem_cons.mpr ⟨news_ne N4' (a := b.ll) (b := L + 1 + 1 + 1) (o := listOf (refs ls).toArray n2) (o' := oTop) (by k_mem) (by k_mem) (by rw [k3]; exact (show (0 : Nat) ≠ 2 by decide)), List.forall_mem_cons.mpr ⟨news_ne N4' (a := b.gl) (b := L + 1 + 1 + 1) (o := listOf #[] 0) (o' := oTop) (by k_mem) (by k_mem) (by rw [k3]; exact (show (0 : Nat) ≠ 2 by decide)), List.forall_mem_cons.mpr ⟨news_ne N4' (a := bx) (b := L + 1 + 1 + 1) (o := instObj 151 bd) (o' := oTop) (by k_mem) (by k_mem) (by rw [k3]; exact (show (3 : Nat) ≠ 2 by decide)), List.forall_mem_cons.mpr ⟨(by show @Ne Nat (L + 1) (L + 1 + 1 + 1); omega), List.forall_mem_cons.mpr ⟨(by show @Ne Nat (L + 1 + 1 + 1 + 1 + 1 + 1) (L + 1 + 1 + 1); omega), List.forall_mem_cons.mpr ⟨(by show @Ne Nat (L + 1 + 1 + 1 + 1 + 1) (L + 1 + 1 + 1); omega), List.forall_mem_cons.mpr ⟨(by show @Ne Nat (L + 1 + 1 + 1 + 1) (L + 1 + 1 + 1); omega), List.forall_mem_cons.mpr ⟨news_ne N4' (a := C) (b := L + 1 + 1 + 1) (o := listOf cvs.toArray 0) (o' := oTop) (by k_mem) (by k_mem) (by rw [k3]; exact (show (0 : Nat) ≠ 2 by decide)), fun p hp => hown p hp (L + 1 + 1 + 1, oTop) (by k_mem)⟩⟩⟩⟩⟩⟩⟩⟩⟩
  case o2 => exact List.forall_mem_cons.mpr ⟨news_ne N4' (a := bd) (b := L + 1 + 1) (o := dictOf (b2.es w.params) 7) (o' := oThere) (by k_mem) (by k_mem) (by rw [k2]; exact (show (1 : Nat) ≠ 2 by decide)), List.forall_mem_cons.mpr ⟨news_ne N4' (a := b.ll) (b := L + 1 + 1) (o := listOf (refs ls).toArray n2) (o' := oThere) (by k_mem) (by k_mem) (by rw [k2]; exact (show (0 : Nat) ≠ 2 by decide)), List.forall_mem_cons.mpr ⟨news_ne N4' (a := b.gl) (b := L + 1 + 1) (o := listOf #[] 0) (o' := oThere) (by k_mem) (by k_mem) (by rw [k2]; exact (show (0 : Nat) ≠ 2 by decide)), List.forall_mem_cons.mpr ⟨news_ne N4' (a := bx) (b := L + 1 + 1) (o := instObj 151 bd) (o' := oThere) (by k_mem) (by k_mem) (by rw [k2]; exact (show (3 : Nat) ≠ 2 by decide)), List.forall_mem_cons.mpr ⟨(by show @Ne Nat (L + 1) (L + 1 + 1); omega), List.forall_mem_cons.mpr ⟨(by show @Ne Nat (L + 1 + 1 + 1 + 1 + 1 + 1) (L + 1 + 1); omega), List.forall_mem_cons.mpr ⟨(by show @Ne Nat (L + 1 + 1 + 1 + 1 + 1) (L + 1 + 1); omega), List.forall_mem_cons.mpr ⟨(by show @Ne Nat (L + 1 + 1 + 1 + 1) (L + 1 + 1); omega), List.forall_mem_cons.mpr ⟨news_ne N4' (a := C) (b := L + 1 + 1) (o := listOf cvs.toArray 0) (o' := oThere) (by k_mem) (by k_mem) (by rw [k2]; exact (show (0 : Nat) ≠ 2 by decide)), fun p hp => hown p hp (L + 1 + 1, oThere) (by k_mem)⟩⟩⟩⟩⟩⟩⟩⟩⟩
  clear N4
  intro T G tvs tn oTop2 oThere2 t2 g5 tk5 hT3 hT2 htv F5 N5
  have k3' := kd_cell hT3
  have k2' := kd_cell hT2
  with_reducible show wpAny _ _ (execs _ _) Q E _
  with_reducible refine wpAny_execs_cons ?_
  rw [q5]
  have hlen : ls.length = cn := by have := congrArg List.length hus; simpa using this
  have hsort : (ls.map Lt.u).Pairwise (· < ·) := by rw [hus]; exact range_sorted cn
  have N5' : News h₀ L g5 ((L + 1 + 1 + 1 + 1, oTold) :: (L + 1, oBox2) :: (bd, dictOf (b2.es w.params) 7) :: (b.ll, listOf (refs ls).toArray n2) :: (b.gl, listOf #[] 0) :: (bx, instObj 151 bd) :: (L + 1 + 1 + 1 + 1 + 1 + 1, oSome) :: (L + 1 + 1 + 1 + 1 + 1, oCell) :: (L + 1 + 1 + 1, oTop2) :: (L + 1 + 1, oThere2) :: (C, listOf cvs.toArray 0) :: (T, listOf tvs.toArray tn) :: (G, listOf #[] 0) :: own) := kst_newsOf N5 (by kst_allIn)
  clear N5 N4'
  with_reducible refine l5_ok (oTold := oTold) (oBox := oBox2) (bx := bx) (bd := bd) (b := b2) (n := n2) (news := (bd, dictOf (b2.es w.params) 7) :: (b.ll, listOf (refs ls).toArray n2) :: (b.gl, listOf #[] 0) :: (bx, instObj 151 bd) :: (L + 1 + 1 + 1 + 1 + 1 + 1, oSome) :: (L + 1 + 1 + 1 + 1 + 1, oCell) :: (L + 1 + 1 + 1, oTop2) :: (L + 1 + 1, oThere2) :: (C, listOf cvs.toArray 0) :: (T, listOf tvs.toArray tn) :: (G, listOf #[] 0) :: own) (X.next F5 N5') h4 hb2 ?o4 ?m1 ?m2 ?m3 ?m4 ?m5 hsort ?_
  case o4 => exact List.forall_mem_cons.mpr ⟨news_ne N5' (a := bd) (b := L + 1 + 1 + 1 + 1) (o := dictOf (b2.es w.params) 7) (o' := oTold) (by k_mem) (by k_mem) (by rw [k4]; exact (show (1 : Nat) ≠ 2 by decide)), List.forall_mem_cons.mpr ⟨news_ne N5' (a := b.ll) (b := L + 1 + 1 + 1 + 1) (o := listOf (refs ls).toArray n2) (o' := oTold) (by k_mem) (by k_mem) (by rw [k4]; exact (show (0 : Nat) ≠ 2 by decide)), List.forall_mem_cons.mpr ⟨news_ne N5' (a := b.gl) (b := L + 1 + 1 + 1 + 1) (o := listOf #[] 0) (o' := oTold) (by k_mem) (by k_mem) (by rw [k4]; exact (show (0 : Nat) ≠ 2 by decide)), List.forall_mem_cons.mpr ⟨news_ne N5' (a := bx) (b := L + 1 + 1 + 1 + 1) (o := instObj 151 bd) (o' := oTold) (by k_mem) (by k_mem) (by rw [k4]; exact (show (3 : Nat) ≠ 2 by decide)), List.forall_mem_cons.mpr ⟨(by show @Ne Nat (L + 1 + 1 + 1 + 1 + 1 + 1) (L + 1 + 1 + 1 + 1); omega), List.forall_mem_cons.mpr ⟨(by show @Ne Nat (L + 1 + 1 + 1 + 1 + 1) (L + 1 + 1 + 1 + 1); omega), List.forall_mem_cons.mpr ⟨(by show @Ne Nat (L + 1 + 1 + 1) (L + 1 + 1 + 1 + 1); omega), List.forall_mem_cons.mpr ⟨(by show @Ne Nat (L + 1 + 1) (L + 1 + 1 + 1 + 1); omega), List.forall_mem_cons.mpr ⟨news_ne N5' (a := C) (b := L + 1 + 1 + 1 + 1) (o := listOf cvs.toArray 0) (o' := oTold) (by k_mem) (by k_mem) (by rw [k4]; exact (show (0 : Nat) ≠ 2 by decide)), List.forall_mem_cons.mpr ⟨news_ne N5' (a := T) (b := L + 1 + 1 + 1 + 1) (o := listOf tvs.toArray tn) (o' := oTold) (by k_mem) (by k_mem) (by rw [k4]; exact (show (0 : Nat) ≠ 2 by decide)), List.forall_mem_cons.mpr ⟨news_ne N5' (a := G) (b := L + 1 + 1 + 1 + 1) (o := listOf #[] 0) (o' := oTold) (by k_mem) (by k_mem) (by rw [k4]; exact (show (0 : Nat) ≠ 2 by decide)), fun p hp => hown p hp (L + 1 + 1 + 1 + 1, oTold) (by k_mem)⟩⟩⟩⟩⟩⟩⟩⟩⟩⟩⟩
  case m1 => k_mem
  case m2 => k_mem
  case m3 => rw [hll2]; k_mem
  case m4 => exact fun l hl => (hlts l hl).mono (by kst_allIn)
  case m5 => omega
  intro td oT kvs own5 oTold2 g6 tk6 hto hdo hkv ho5 F6 N6
  have k4' := kd_cell hto
  with_reducible show wpAny _ _ (execs _ _) Q E _
  have NB : News h₀ L g6 ((⟨b2, ls, bx, bd, td, T, G, tvs, [], [], tn, 0, n2, 0, [], kvs, oSome, oCell, oTold2, oTop2, oThere2, oBox2, oT, t2, tc, (C, listOf cvs.toArray 0) :: (bx, instObj 151 bd) :: (b.ll, listOf (refs ls).toArray n2) :: (b.gl, listOf #[] 0) :: (T, listOf tvs.toArray tn) :: (G, listOf #[] 0) :: (td, oT) :: (own5 ++ own)⟩ : Dt).led w.params L) := kst_newsOf N6 (by
    refine List.forall_mem_cons.mpr ⟨by k_mem, List.forall_mem_cons.mpr ⟨by k_mem, List.forall_mem_cons.mpr ⟨by k_mem, List.forall_mem_cons.mpr ⟨by k_mem, List.forall_mem_cons.mpr ⟨by k_mem, List.forall_mem_cons.mpr ⟨by k_mem, List.forall_mem_cons.mpr ⟨by k_mem, List.forall_mem_cons.mpr ⟨by k_mem, List.forall_mem_cons.mpr ⟨by k_mem, List.forall_mem_cons.mpr ⟨by k_mem, List.forall_mem_cons.mpr ⟨by k_mem, List.forall_mem_cons.mpr ⟨by k_mem, List.forall_mem_cons.mpr ⟨by k_mem, List.forall_mem_cons.mpr ⟨by k_mem, fun p hp => ?_⟩⟩⟩⟩⟩⟩⟩⟩⟩⟩⟩⟩⟩⟩
    rcases List.mem_append.mp hp with h | h <;> k_mem)
  clear N5' N6
  have hown' := fun p hp => (⟨hown p hp (bd, _) (by k_mem), hown p hp (L + 1 + 1 + 1 + 1 + 1 + 1, _) (by k_mem), hown p hp (L + 1 + 1 + 1 + 1 + 1, _) (by k_mem), hown p hp (L + 1 + 1 + 1 + 1, _) (by k_mem), hown p hp (L + 1 + 1 + 1, _) (by k_mem), hown p hp (L + 1 + 1, _) (by k_mem), hown p hp (L + 1, _) (by k_mem)⟩ : Clr bd L p.1)
  have ho5' := fun p hp => (⟨Ne.symm (ho5 p hp (bd, _) (by k_mem)), Ne.symm (ho5 p hp (L + 1 + 1 + 1 + 1 + 1 + 1, _) (by k_mem)), Ne.symm (ho5 p hp (L + 1 + 1 + 1 + 1 + 1, _) (by k_mem)), Ne.symm (ho5 p hp (L + 1 + 1 + 1 + 1, _) (by k_mem)), Ne.symm (ho5 p hp (L + 1 + 1 + 1, _) (by k_mem)), Ne.symm (ho5 p hp (L + 1 + 1, _) (by k_mem)), Ne.symm (ho5 p hp (L + 1, _) (by k_mem))⟩ : Clr bd L p.1)
  have co := @clr_of h₀ g6 L w.params _ NB k6 k5 k4' k3' k2' k1
  have mg4 : (if Str.ofString "gone" = Str.ofString "gone" then some (Value.ref G) else m3 (Str.ofString "gone")) = some (.ref G) := if_pos rfl
  have mc4 : (if Str.ofString "count" = Str.ofString "gone" then some (Value.ref G) else m3 (Str.ofString "count")) = some (.int (cn : Int) tc) := (if_neg (by decide)).trans mc3
  have me4 : (if Str.ofString "cells" = Str.ofString "gone" then some (Value.ref G) else m3 (Str.ofString "cells")) = some (.ref C) := (if_neg (by decide)).trans me3
  refine hQ cn C cvs (ns.take 7) ⟨b2, ls, bx, bd, td, T, G, tvs, [], [], tn, 0, n2, 0, [], kvs, oSome, oCell, oTold2, oTop2, oThere2, oBox2, oT, t2, tc, (C, listOf cvs.toArray 0) :: (bx, instObj 151 bd) :: (b.ll, listOf (refs ls).toArray n2) :: (b.gl, listOf #[] 0) :: (T, listOf tvs.toArray tn) :: (G, listOf #[] 0) :: (td, oT) :: (own5 ++ own)⟩ (fun z => if z = Str.ofString "gone" then some (Value.ref G) else m3 z) g6 tk6
    ⟨hto, by rw [htop2]; exact hT3, hT2, hb2, ⟨_, h6⟩, ⟨_, h5⟩, by k_mem, by k_mem, ?a1, ?a2, by k_mem, by k_mem, by k_mem, fun l hl => (hlts l hl).mono (by kst_allIn), fun l hl => (hkv l hl).imp fun v h => ⟨h.1, h.2.mono (by kst_allIn)⟩, hdo, by rw [hus]; exact htv, .nil, .nil, ?a3, hc8, hsort, ?a4, hnx2, mc4, mg4, ?a5, ?a6⟩ me4 hcv hcs F6 NB
  case a1 => rw [hll2]; k_mem
  case a2 => rw [hgl2]; k_mem
  case a3 => exact Nat.le_of_eq hlen
  case a4 =>
    intro l hl
    have := List.mem_map_of_mem (f := Lt.u) hl
    rw [hus] at this
    obtain ⟨i, hi, e⟩ := List.mem_map.mp this
    have := List.mem_range.mp hi
    omega
  case a5 =>
    have z0 : (0 : Nat) ≠ 1 := by decide
    have z2 : (0 : Nat) ≠ 2 := by decide
    have y1 : (3 : Nat) ≠ 1 := by decide
    have y2 : (3 : Nat) ≠ 2 := by decide
    refine List.forall_mem_cons.mpr ⟨co (o := listOf cvs.toArray 0) (by k_mem) z0 z2, List.forall_mem_cons.mpr ⟨co (o := instObj 151 bd) (by k_mem) y1 y2, List.forall_mem_cons.mpr ⟨co (o := listOf (refs ls).toArray n2) (by k_mem) z0 z2, List.forall_mem_cons.mpr ⟨co (o := listOf #[] 0) (by k_mem) z0 z2, List.forall_mem_cons.mpr ⟨co (o := listOf tvs.toArray tn) (by k_mem) z0 z2, List.forall_mem_cons.mpr ⟨co (o := listOf #[] 0) (by k_mem) z0 z2, List.forall_mem_cons.mpr ⟨ho5' (td, oT) (by k_mem), fun p hp => ?_⟩⟩⟩⟩⟩⟩⟩
    exact (List.mem_append.mp hp).elim (fun h => ho5' p (by k_mem)) (fun h => hown' p h)
  case a6 => exact ⟨news_ne NB (a := bd) (b := L + 1 + 1 + 1 + 1 + 1 + 1) (o := dictOf (b2.es w.params) 7) (o' := oSome) (by k_mem) (by k_mem) (by rw [k6]; exact (show (1 : Nat) ≠ 2 by decide)), news_ne NB (a := bd) (b := L + 1 + 1 + 1 + 1 + 1) (o := dictOf (b2.es w.params) 7) (o' := oCell) (by k_mem) (by k_mem) (by rw [k5]; exact (show (1 : Nat) ≠ 2 by decide)), news_ne NB (a := bd) (b := L + 1 + 1 + 1 + 1) (o := dictOf (b2.es w.params) 7) (o' := oTold2) (by k_mem) (by k_mem) (by rw [k4']; exact (show (1 : Nat) ≠ 2 by decide)), news_ne NB (a := bd) (b := L + 1 + 1 + 1) (o := dictOf (b2.es w.params) 7) (o' := oTop2) (by k_mem) (by k_mem) (by rw [k3']; exact (show (1 : Nat) ≠ 2 by decide)), news_ne NB (a := bd) (b := L + 1 + 1) (o := dictOf (b2.es w.params) 7) (o' := oThere2) (by k_mem) (by k_mem) (by rw [k2']; exact (show (1 : Nat) ≠ 2 by decide)), news_ne NB (a := bd) (b := L + 1) (o := dictOf (b2.es w.params) 7) (o' := oBox2) (by k_mem) (by k_mem) (by rw [k1]; exact (show (1 : Nat) ≠ 2 by decide))⟩
end
section
theorem law_is : lawBody = [lawBody.getD 0 (.Pass default), lawBody.getD 1 (.Pass default), lawBody.getD 2 (.Pass default), lawBody.getD 3 (.Pass default), lawBody.getD 4 (.Pass default), lawBody.getD 5 (.Pass default), lawBody.getD 6 (.Pass default), lawBody.getD 7 (.Pass default), lawBody.getD 8 (.Pass default)] := by with_unfolding_all rfl
set_option maxRecDepth 100000 in
set_option maxHeartbeats 800000 in
theorem law_ok {w : World} {s0 : Shared} {A₀ A : Around} {base h₀ : Heap} {outer : List Env} {L fa : Addr} {cd : Value} {m mg mb : Str → Option Value} {E : Value → Shared → Prop} {Q : Flow → Shared → Prop} {s : Shared} {oSome oCell oTold oTop oThere oBox : Obj} {v6 v5 v4 v3 v2 v1 : Option Value} {sc : Addr} {vs : List Value} {ns : List Int}
    (X : Cx 40 w s0 A₀ A base h₀ outer (lawEnv L fa cd) L s.heap m mg mb [(L + 1 + 1 + 1 + 1 + 1 + 1, oSome), (L + 1 + 1 + 1 + 1 + 1, oCell), (L + 1 + 1 + 1 + 1, oTold), (L + 1 + 1 + 1, oTop), (L + 1 + 1, oThere), (L + 1, oBox)])
    (h6 : oSome.data = .cell v6) (h5 : oCell.data = .cell v5) (h4 : oTold.data = .cell v4) (h3 : oTop.data = .cell v3) (h2 : oThere.data = .cell v2) (h1 : oBox.data = .cell v1)
    (hsc : m (Str.ofString "script") = some (.ref sc)) (hl : h₀.IsList sc vs.toArray) (hin : IntsAre vs ns) (hlen : ns.length ≤ 63) (hE : PassesOwn (model prg w) A (lawEnv L fa cd) E)
    (hQ : ∀ h' tk' m', Fr h₀ L h' m' → Q (.ret (.bool true)) { s with heap := h', toks := tk' }) :
    wpAny (model prg w) A (execs lawBody (lawEnv L fa cd)) Q E s := by
  rw [law_is]
  with_reducible refine pre_ok X h6 h5 h4 h3 h2 h1 hsc hl hin hlen hE ?_ _ _ _ _ _ _ rfl rfl rfl rfl rfl rfl
  intro cn C cvs cs d m1 g1 tk1 K hmc hcv hcs F1 N1
  with_reducible refine wpAny_execs_cons ?_
  with_reducible refine l6_ok (X.next F1 N1) K hmc hcv hcs hE ?_
  intro d2 m2 sa its sn g2 tk2 K2 F2 N2
  with_reducible show wpAny _ _ (execs _ _) Q E _
  with_reducible exact end_ok (s := { s with heap := g2, toks := tk2 }) (X.next F2 N2) K2 hQ _ _ rfl rfl
end
theorem cx_top {w : World} {s0 : Shared} {base h₀ h : Heap} {L fa : Addr} {cd : Value} {m mg mb : Str → Option Value} {news : List (Addr × Obj)} (B : Below callerA base [] h₀) (F : Fr h₀ L h m) (X : (hd.heap_39 w.params).In h₀) (N : News h₀ L h news)
    (T : Top hd.view_39 (looseW hd.view_39 [Str.ofString "PostError"]) (ExcName.means s0.heap) mg mb h₀) : Cx 40 w s0 callerA (callerA.deeper (lawEnv L fa cd)) base h₀ [] (lawEnv L fa cd) L h m mg mb news :=
  ⟨B, F, X, N, T, rfl, rfl, rfl, rfl, by simp only [depth_deeper, depth_caller]; omega, by simp only [units_deeper, units_caller]; omega⟩
end Mine
open Mine
set_option maxRecDepth 100000 in
set_option maxHeartbeats 8000000 in
theorem PySem.Challenge.cw_nz0284_01_holds : PySem.Challenge.rw_nz0284_01.Holds := by
  exact hd (by
    w_top off
    k_go0
    rename Below _ _ _ _ => B
    rename Fr _ _ _ _ => F
    rename News _ _ _ _ => N
    rename Top _ _ _ _ _ _ => T
    rename IntsAre _ _ => hin
    rename Heap.IsList _ _ _ => hl
    refine law_ok (cx_top B F (by assumption) N T) (by assumption) (by assumption) (by assumption) (by assumption) (by assumption) (by assumption) ?k1 hl hin ?k2 ?k3 ?k4
    case k1 => with_unfolding_all rfl
    case k2 =>
      rename (¬ _ < _) => hc
      omega
    case k3 => with_unfolding_all passes_own
    case k4 =>
      clear F N
      intro h' tk' m' F'
      w_strict k_steps)
