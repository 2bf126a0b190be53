import PyProof.Rows.All
import Wide.All
import OpenK.AllK
import Wide.FinOn
import Lean
import PySem.Challenge.RW_no0154_01
open PySem PySem.W PyProof.Rows PySem.Spec PySem.Calls
set_option Elab.async false
set_option rowWalk.seconds 0
set_option linter.all false

/-! Top1 -/
namespace Mine
set_option maxRecDepth 100000
set_option maxHeartbeats 8000000
open_top hd for PySem.Challenge.rw_no0154_01
end Mine
section
local macro_rules | `(tactic| walk_at $s:str) => `(tactic| k_extra $s)
local macro_rules | `(tactic| k_all) => `(tactic| k_extra "k_all")
local macro_rules | `(tactic| k_upd) => `(tactic| k_extra "k_upd")
local macro_rules | `(tactic| k_updF) => `(tactic| k_extra "k_updF")

/-! Base -/
namespace Mine
set_option genInjectivity false
set_option genSizeOf false

/-- a record as the ledger bears it: its place in the two dicts, its three addresses, its fields -/
structure Rec where
  place : Int
  x : Nat
  dx : Nat
  rw : Nat
  key : Int
  functor : Int
  birth : Int
  death : Int
  next : Int

noncomputable abbrev ent (P : Params) (nm : String) (k : Tok) (v : Value) : DictEntry := ⟨PyData.keyHash P (Str.ofString nm), .str (Str.ofString nm) k, v⟩

/-- tokens and the values that are not looked at -/
noncomputable abbrev RT := (Nat → Tok) × (Nat → Value)
noncomputable abbrev ST := Nat → Tok
noncomputable abbrev PT := (Nat → Tok) × (Nat → Value)
noncomputable abbrev OT := (Nat → Tok) × Nat
noncomputable abbrev WT := (Nat → Tok) × Nat
noncomputable def pickT (l : List Tok) (n : Nat) : Tok := l.getD n 0
noncomputable def pickV (l : List Value) (n : Nat) : Value := l.getD n .none

noncomputable abbrev recDict (P : Params) (τ : RT) (key functor birth death next : Int) : Obj :=
  dictOf [ent P "key" (τ.1 0) (.int key (τ.1 8)), ent P "functor" (τ.1 1) (.int functor (τ.1 9)), ent P "term" (τ.1 2) (τ.2 0), ent P "index_key" (τ.1 3) (τ.2 1), ent P "birth" (τ.1 4) (.int birth (τ.1 10)), ent P "death" (τ.1 5) (.int death (τ.1 11)), ent P "next_key" (τ.1 6) (.int next (τ.1 12)), ent P "entry" (τ.1 7) (τ.2 2)] 8

noncomputable abbrev storeDict (P : Params) (τ : ST) (RD : Nat) (nxt gen : Int) : Obj :=
  dictOf [ent P "records" (τ 0) (.ref RD), ent P "next_record" (τ 1) (.int nxt (τ 3)), ent P "generation" (τ 2) (.int gen (τ 4))] 3

noncomputable def RecObj (P : Params) (r : Rec) (o : Obj) : Prop := ∃ τ, o = recDict P τ r.key r.functor r.birth r.death r.next
noncomputable def StoreObj (P : Params) (RD : Nat) (nxt gen : Int) (o : Obj) : Prop := ∃ τ, o = storeDict P τ RD nxt gen
noncomputable def RowObj (r : Rec) (o : Obj) : Prop := ∃ τ : WT, o = listOf #[.int r.key (τ.1 0), .int r.functor (τ.1 1), .int r.birth (τ.1 2), .int r.death (τ.1 3), .int r.next (τ.1 4)] τ.2

noncomputable def soundB (r : Rec) (place f gen : Int) : Bool :=
  decide (r.key = place) && decide (r.functor = f) && decide (1 ≤ r.birth) && decide (r.birth ≤ gen) &&
    (decide (r.death < 0) || (decide (r.birth < r.death) && decide (r.death ≤ gen)))

theorem news_cons {h₀ h : Heap} {L : Addr} {p : Addr × Obj} {news : List (Addr × Obj)} (N : News h₀ L h news) (hp : p ∈ news) : News h₀ L h (p :: news) :=
  fun q hq => by rcases List.mem_cons.mp hq with rfl | hq; exact N _ hp; exact N q hq
theorem news_add {h₀ h : Heap} {L : Addr} {p : Addr × Obj} {news l : List (Addr × Obj)} (N₀ : News h₀ L h news) (hp : p ∈ news) (N : News h₀ L h l) : News h₀ L h (p :: l) :=
  fun q hq => by rcases List.mem_cons.mp hq with rfl | hq; exact N₀ _ hp; exact N q hq
theorem news_sub {h₀ h : Heap} {L : Addr} {l l' : List (Addr × Obj)} (N : News h₀ L h l) (hp : ∀ p ∈ l', p ∈ l) : News h₀ L h l' :=
  fun q hq => N q (hp q hq)
/-- a procedure and its owner list -/
structure Side where
  f : Int
  ow : Nat
  p : Nat
  pd : Nat
  kind : Str
  first : Int
  last : Int

noncomputable abbrev procDict (P : Params) (τ : PT) (f : Int) (kind : Str) (first last : Int) : Obj :=
  dictOf [ent P "functor" (τ.1 0) (.int f (τ.1 10)), ent P "kind" (τ.1 1) (.str kind (τ.1 11)), ent P "entry" (τ.1 2) (τ.2 0), ent P "codes" (τ.1 3) (τ.2 1), ent P "terms" (τ.1 4) (τ.2 2),
      ent P "first_key" (τ.1 5) (.int first (τ.1 12)), ent P "last_key" (τ.1 6) (.int last (τ.1 13)), ent P "library" (τ.1 7) (τ.2 3), ent P "helper" (τ.1 8) (τ.2 4), ent P "pending" (τ.1 9) (τ.2 5)] 10
noncomputable def ProcObj (P : Params) (σ : Side) (o : Obj) : Prop := ∃ τ, o = procDict P τ σ.f σ.kind σ.first σ.last
noncomputable def OwnObj (σ : Side) (o : Obj) : Prop := ∃ τ : OT, o = listOf #[.int σ.f (τ.1 0), .str σ.kind (τ.1 1), .int σ.first (τ.1 2), .int σ.last (τ.1 3)] τ.2

theorem recObj {P : Params} {r : Rec} {o : Obj} {k1 k2 k3 k4 k5 k6 k7 k8 t1 t2 t5 t6 t7 : Tok} {v3 v4 v8 : Value} (h : o = dictOf [ent P "key" k1 (.int r.key t1), ent P "functor" k2 (.int r.functor t2), ent P "term" k3 v3, ent P "index_key" k4 v4, ent P "birth" k5 (.int r.birth t5), ent P "death" k6 (.int r.death t6), ent P "next_key" k7 (.int r.next t7), ent P "entry" k8 v8] 8) : RecObj P r o :=
  ⟨⟨pickT [k1, k2, k3, k4, k5, k6, k7, k8, t1, t2, t5, t6, t7], pickV [v3, v4, v8]⟩, h⟩
theorem storeObj {P : Params} {RD : Nat} {nxt gen : Int} {o : Obj} {k1 k2 k3 t2 t3 : Tok} (h : o = dictOf [ent P "records" k1 (.ref RD), ent P "next_record" k2 (.int nxt t2), ent P "generation" k3 (.int gen t3)] 3) : StoreObj P RD nxt gen o :=
  ⟨pickT [k1, k2, k3, t2, t3], h⟩
theorem procObj {P : Params} {σ : Side} {o : Obj} {k1 k2 k3 k4 k5 k6 k7 k8 k9 k10 t1 t2 t6 t7 : Tok} {v3 v4 v5 v8 v9 v10 : Value} (h : o = dictOf [ent P "functor" k1 (.int σ.f t1), ent P "kind" k2 (.str σ.kind t2), ent P "entry" k3 v3, ent P "codes" k4 v4, ent P "terms" k5 v5,
      ent P "first_key" k6 (.int σ.first t6), ent P "last_key" k7 (.int σ.last t7), ent P "library" k8 v8, ent P "helper" k9 v9, ent P "pending" k10 v10] 10) : ProcObj P σ o :=
  ⟨⟨pickT [k1, k2, k3, k4, k5, k6, k7, k8, k9, k10, t1, t2, t6, t7], pickV [v3, v4, v5, v8, v9, v10]⟩, h⟩
theorem rowObj {r : Rec} {o : Obj} {t1 t2 t3 t4 t5 : Tok} {n : Nat} (h : o = listOf #[.int r.key t1, .int r.functor t2, .int r.birth t3, .int r.death t4, .int r.next t5] n) : RowObj r o := ⟨⟨pickT [t1, t2, t3, t4, t5], n⟩, h⟩
theorem ownObj {σ : Side} {o : Obj} {t1 t2 t3 t4 : Tok} {n : Nat} (h : o = listOf #[.int σ.f t1, .str σ.kind t2, .int σ.first t3, .int σ.last t4] n) : OwnObj σ o := ⟨⟨pickT [t1, t2, t3, t4], n⟩, h⟩

/-! the plain law: what both readings reckon -/

noncomputable def look (recs : List Rec) (place : Int) : Option Rec := recs.find? fun r => decide (r.place = place)

noncomputable def chain (recs : List Rec) (f gen : Int) : Nat → List Int → Int → Int → Option (List Int × Int)
  | 0, _, _, _ => none
  | n + 1, met, last, place =>
    if place < 0 then some (met, last)
    else if place ∈ met then none
    else match look recs place with
      | none => none
      | some r => if soundB r place f gen = true then chain recs f gen n (met ++ [place]) place r.next else none

noncomputable def side (recs : List Rec) (gen : Int) (σ : Side) (met : List Int) : Option (List Int) :=
  match chain recs σ.f gen (recs.length + 1 - met.length) met (-1) σ.first with
  | none => none
  | some (met', last) => if last ≠ σ.last then none else if (σ.kind != Str.ofString "dynamic") = true ∧ 0 ≤ last then none else some met'

noncomputable def sides (recs : List Rec) (gen : Int) : List Side → List Int → Option (List Int)
  | [], met => some met
  | σ :: r, met => match side recs gen σ met with
    | none => none
    | some met' => sides recs gen r met'

noncomputable def checkB (recs : List Rec) (gen : Int) (σs : List Side) : Bool := (sides recs gen σs []).isSome

/-- what has been met: no place twice, all of the store's -/
structure MetOk (recs : List Rec) (met : List Int) : Prop where
  nodup : met.Nodup
  sub : ∀ p ∈ met, p ∈ recs.map (·.place)

theorem nodup_len : ∀ {a b : List Int}, a.Nodup → (∀ p ∈ a, p ∈ b) → a.length ≤ b.length
  | [], b, _, _ => Nat.zero_le _
  | x :: a, b, hn, hs => by
    have hx : x ∈ b := hs x (List.mem_cons_self ..)
    have hn' := List.nodup_cons.mp hn
    have hl : (b.erase x).length = b.length - 1 := List.length_erase_of_mem hx
    have hpos : 0 < b.length := List.length_pos_of_mem hx
    have := nodup_len (a := a) (b := b.erase x) hn'.2 (fun p hp => by
      have h1 := hs p (List.mem_cons_of_mem _ hp)
      have h2 : p ≠ x := fun e => hn'.1 (e ▸ hp)
      exact (List.mem_erase_of_ne h2).mpr h1)
    simp only [List.length_cons]
    omega

theorem MetOk.len {recs : List Rec} {met : List Int} (h : MetOk recs met) : met.length ≤ recs.length := by
  have := nodup_len h.nodup h.sub
  rwa [List.length_map] at this

theorem look_some {recs : List Rec} {place : Int} {r : Rec} (h : look recs place = some r) : r ∈ recs ∧ r.place = place := by
  refine ⟨List.mem_of_find?_eq_some h, ?_⟩
  have := List.find?_some h
  simpa using this

theorem MetOk.snoc {recs : List Rec} {met : List Int} {place : Int} {r : Rec} (h : MetOk recs met) (hn : place ∉ met) (hl : look recs place = some r) : MetOk recs (met ++ [place]) := by
  obtain ⟨h1, h2⟩ := look_some hl
  refine ⟨?_, ?_⟩
  · rw [List.nodup_append]
    refine ⟨h.nodup, by simp, ?_⟩
    intro a ha b hb
    simp only [List.mem_singleton] at hb
    subst hb
    exact fun e => hn (e ▸ ha)
  · intro p hp
    rcases List.mem_append.mp hp with hp | hp
    · exact h.sub p hp
    · simp only [List.mem_singleton] at hp
      subst hp
      exact List.mem_map.mpr ⟨r, h1, h2⟩

theorem fuel1 {a b : Nat} (h : a ≤ b) : b + 1 - a = b - a + 1 := by omega
theorem fuel2 {a b : Nat} : b + 1 - (a + 1) = b - a := by omega

theorem chain_go {recs : List Rec} {f gen last place : Int} {met : List Int} {r : Rec} (hok : MetOk recs met) (h0 : 0 ≤ place) (hm : place ∉ met) (hl : look recs place = some r) (hs : soundB r place f gen = true) :
    chain recs f gen (recs.length + 1 - met.length) met last place = chain recs f gen (recs.length + 1 - (met ++ [place]).length) (met ++ [place]) place r.next := by
  rw [List.length_append, List.length_singleton, fuel1 hok.len, fuel2]
  show (if place < 0 then _ else _) = _
  rw [if_neg (Int.not_lt.mpr h0), if_neg hm, hl]
  dsimp only
  rw [if_pos hs]

theorem chain_stop {recs : List Rec} {f gen last place : Int} {met : List Int} (hok : MetOk recs met) (h0 : ¬ 0 ≤ place) :
    chain recs f gen (recs.length + 1 - met.length) met last place = some (met, last) := by
  rw [fuel1 hok.len]
  show (if place < 0 then _ else _) = _
  rw [if_pos (Int.not_le.mp h0)]

theorem chain_no {recs : List Rec} {f gen last place : Int} {met : List Int} (hok : MetOk recs met) (h0 : 0 ≤ place) (h : place ∈ met ∨ look recs place = none ∨ ∃ r, look recs place = some r ∧ soundB r place f gen = false) :
    chain recs f gen (recs.length + 1 - met.length) met last place = none := by
  rw [fuel1 hok.len]
  show (if place < 0 then _ else _) = _
  rw [if_neg (Int.not_lt.mpr h0)]
  by_cases hm : place ∈ met
  · rw [if_pos hm]
  · rw [if_neg hm]
    rcases h with h | h | ⟨r, h, h2⟩
    · exact absurd h hm
    · rw [h]
    · rw [h]
      dsimp only
      rw [if_neg (by rw [h2]; decide)]

theorem check_no {recs : List Rec} {gen : Int} {σs rest : List Side} {σ : Side} {met : List Int} (hsd : sides recs gen (σ :: rest) met = sides recs gen σs []) (h : side recs gen σ met = none) : checkB recs gen σs = false := by
  unfold checkB
  rw [← hsd]
  unfold sides
  rw [h]
  rfl
theorem check_next {recs : List Rec} {gen : Int} {σs rest : List Side} {σ : Side} {met met' : List Int} (hsd : sides recs gen (σ :: rest) met = sides recs gen σs []) (h : side recs gen σ met = some met') : sides recs gen rest met' = sides recs gen σs [] := by
  rw [← hsd]
  conv => rhs; unfold sides
  rw [h]
theorem side_none {recs : List Rec} {gen : Int} {σ : Side} {met : List Int} (h : chain recs σ.f gen (recs.length + 1 - met.length) met (-1) σ.first = none) : side recs gen σ met = none := by
  unfold side; rw [h]
theorem side_bad {recs : List Rec} {gen last : Int} {σ : Side} {met met' : List Int} (h : chain recs σ.f gen (recs.length + 1 - met.length) met (-1) σ.first = some (met', last)) (hb : last ≠ σ.last ∨ ((σ.kind != Str.ofString "dynamic") = true ∧ 0 ≤ last)) : side recs gen σ met = none := by
  unfold side; rw [h]
  dsimp only
  by_cases h1 : last ≠ σ.last
  · rw [if_pos h1]
  · rw [if_neg h1, if_pos (hb.resolve_left h1)]
theorem side_good {recs : List Rec} {gen last : Int} {σ : Side} {met met' : List Int} (h : chain recs σ.f gen (recs.length + 1 - met.length) met (-1) σ.first = some (met', last)) (h1 : last = σ.last) (h2 : ¬ ((σ.kind != Str.ofString "dynamic") = true ∧ 0 ≤ last)) : side recs gen σ met = some met' := by
  unfold side; rw [h]
  dsimp only
  rw [if_neg (by simpa using h1), if_neg h2]
end Mine

/-! Loops -/
namespace Mine

theorem Stop.intro' {P : Prop} (h : id P) : P := h
/-- a goal that no line of the walk takes: the walk stops here -/
structure Stop (P : Prop) : Prop where
  go : P
theorem stop_here {P : Prop} (h : Stop P) : P := h.go

theorem fr_congr {h₀ h : Heap} {L : Addr} {m m' : Str → Option Value} (F : Fr h₀ L h m) (e : ∀ y, m y = m' y) : Fr h₀ L h m' := funext e ▸ F

theorem fr_put {h₀ h : Heap} {L : Addr} {m : Str → Option Value} {x : Str} {v : Value} (F : Fr h₀ L h m) (e : m x = some v) : Fr h₀ L h (fun y => if y = x then some v else m y) :=
  fr_congr F fun y => by by_cases h : y = x <;> simp [h, e]

theorem intKind_inv {prog : Program} {w : World} {k : Int} {v : Value} (h : (intKind prog w).is k v = true) : ∃ t, v = .int k t := by
  cases v with
  | int i t => exact ⟨t, by have : i = k := by simpa [intKind, Value.isInt] using h
                            rw [this]⟩
  | _ => cases h

theorem find_map {α β : Type} (f : α → β) (q : β → Bool) : ∀ l : List α, (l.map f).find? q = (l.find? fun a => q (f a)).map f
  | [] => rfl
  | a :: l => by
    simp only [List.map_cons, List.find?_cons]
    cases q (f a) <;> simp [find_map f q l]

theorem valueAt_recs (recs : List Rec) (g : Rec → Value) (k : Int) : valueAt (recs.map fun r => (r.place, g r)) k = (look recs k).map g := by
  unfold valueAt look
  rw [find_map]
  simp [Option.map_map]
  rfl

theorem valueAt_recs_some {recs : List Rec} {g : Rec → Value} {k : Int} {r : Rec} (h : look recs k = some r) : valueAt (recs.map fun r => (r.place, g r)) k = some (g r) := by
  rw [valueAt_recs, h]; rfl
theorem valueAt_recs_none {recs : List Rec} {g : Rec → Value} {k : Int} (h : look recs k = none) : valueAt (recs.map fun r => (r.place, g r)) k = none := by
  rw [valueAt_recs, h]; rfl

theorem valueAt_met {met : List Int} {k : Int} : (valueAt (met.map fun p => (p, Value.bool true)) k).isSome = decide (k ∈ met) := by
  unfold valueAt
  rw [find_map, Option.map_map, Option.isSome_map]
  rw [Bool.eq_iff_iff, List.find?_isSome]
  simp
theorem valueAt_met_yes {met : List Int} {k : Int} (h : k ∈ met) : (valueAt (met.map fun p => (p, Value.bool true)) k).isSome = true := by rw [valueAt_met]; simp [h]
theorem valueAt_met_no {met : List Int} {k : Int} (h : k ∉ met) : (valueAt (met.map fun p => (p, Value.bool true)) k).isSome = false := by rw [valueAt_met]; simp [h]
theorem stored_met {met : List Int} {k : Int} (h : k ∉ met) : stored (met.map fun p => (p, Value.bool true)) k (.bool true) = (met ++ [k]).map fun p => (p, Value.bool true) := by
  unfold stored
  rw [if_neg (by simpa using h), List.map_append]
  rfl

theorem isDict_nodup {prog : Program} {w : World} {K : Type} [DecidableEq K] {knd : KeyKind prog w K} {o : Obj} {kvs : List (K × Value)} (h : o.IsDictOf knd kvs) : (kvs.map (·.1)).Nodup := by
  obtain ⟨_, _, _, _, _, _, hn⟩ := h
  exact hn

section
variable {prog : Program} {w : World} {A : Around} {E : Value → Shared → Prop} {s : Shared} {env : Env} {h₀ : Heap} {x : Str} {body : List Stmt} {Q : Flow → Shared → Prop}

theorem rng_iter {r : Addr} {a₀ b₀ : Int} {t₀ u₀ v₀ : Tok} {n : Nat} {m₀ : Str → Option Value} {news news' : List (Addr × Obj)} (J : Nat → (Str → Option Value) → List (Addr × Obj) → Prop)
    (hh : A.handled = none) (hr : IsRange s.heap r a₀ b₀ 1 t₀ u₀ v₀) (hsmall : Builtin.Range.small a₀ b₀ 1 = true) (hsz : Builtin.Range.rangeSize a₀ b₀ 1 = (n : Int))
    (F : Fr h₀ env.locals s.heap m₀) (N : News h₀ env.locals s.heap news) (hn : ∀ p ∈ news', p ∈ news) (hj : J 0 m₀ news')
    (turn : ∀ i v m₁ nx h tk own, i < n → (∃ t, v = .int (a₀ + i * 1) t) → OwnOff own (nx.map (·.1)) → J i m₁ nx → Fr h₀ env.locals h (fun y => if y = x then some v else m₁ y) → News h₀ env.locals h (nx ++ own) →
      wpAny (model prog w) A (execs body env) (InvPostG h₀ env.locals (J (i + 1)) own { s with heap := h, toks := tk } Q) E { s with heap := h, toks := tk })
    (done : ∀ m₁ nx h tk, J n m₁ nx → Fr h₀ env.locals h m₁ → News h₀ env.locals h nx → Q .next { s with heap := h, toks := tk }) :
    wpAny (model prog w) A (pyIter (.ref r)) (fun it s₂ => LoopAtV prog w A h₀ env x body Q E it s₂) E s := by
  refine wpAny_pyIter_range hr hsmall ?_
  have W : Walks prog w A s.heap.objs.size [s.heap.objs.size] [s.heap.objs.size] n (fun i v => i < n ∧ ∃ t, v = .int (a₀ + i * 1) t)
      (fun i h => IsRangeIter h s.heap.objs.size (a₀ + (i : Nat) * 1) ((n : Int) - (i : Nat)) 1) := (Walks.range hh _ a₀ 1 n).bound
  refine kdr_loop J W (fun _ h => h) (fun _ h => h) ?_ ?_ ?_ ?_ (by show IsRangeIter _ _ _ _ _; rw [hsz]; simpa using Heap.get?_push_size _ rfl) (F.push _) (fun p hp => ⟨Heap.get?_push_of_some _ (N p (hn p hp)).1, (N p (hn p hp)).2⟩) hj ?_ ?_
  · intro i h hi b hb
    rw [List.mem_singleton.mp hb]
    exact ⟨_, hi⟩
  · intro hm
    exact absurd F.ns.lt ((List.mem_singleton.mp hm) ▸ Nat.lt_irrefl _)
  · intro b hb
    rw [List.mem_singleton.mp hb]
    exact next_is_new F
  · intro p hp hI
    exact absurd (Heap.lt_size (N p (hn p hp)).1) ((List.mem_singleton.mp hI) ▸ Nat.lt_irrefl _)
  · rintro i v m₁ nx h tk own hi ⟨_, t, rfl⟩ hoff hJ F₁ N₁
    exact turn i _ m₁ nx h tk own hi ⟨t, rfl⟩ hoff hJ F₁ N₁
  · rintro m₁ nx h tk hJ F₁ N₁
    exact done m₁ nx h tk hJ F₁ N₁

theorem dct_iter {K : Type} [DecidableEq K] {knd : KeyKind prog w K} {d : Addr} {o : Obj} {kvs : List (K × Value)} {m₀ : Str → Option Value} {news : List (Addr × Obj)} (J : Nat → (Str → Option Value) → List (Addr × Obj) → Prop)
    (hh : A.handled = none) (hl : (d, o) ∈ news) (hd : o.IsDictOf knd kvs) (lo : (d == sysModules) = false) (F : Fr h₀ env.locals s.heap m₀) (N : News h₀ env.locals s.heap news) (hj : J 0 m₀ news)
    (turn : ∀ i k xv v m₁ news₁ h tk own, kvs[i]? = some (k, xv) → knd.is k v = true → OwnOff own (news₁.map (·.1)) → (d, o) ∈ news₁ → J i m₁ news₁ → Fr h₀ env.locals h (fun y => if y = x then some v else m₁ y) → News h₀ env.locals h (news₁ ++ own) →
      wpAny (model prog w) A (execs body env) (InvPostG h₀ env.locals (fun m' nx => (d, o) ∈ nx ∧ J (i + 1) m' nx) own { s with heap := h, toks := tk } Q) E { s with heap := h, toks := tk })
    (done : ∀ m₁ news₁ h tk, J kvs.length m₁ news₁ → Fr h₀ env.locals h m₁ → News h₀ env.locals h news₁ → Q .next { s with heap := h, toks := tk }) :
    wpAny (model prog w) A (pyIter (.ref d)) (fun it s₂ => LoopAtV prog w A h₀ env x body Q E it s₂) E s := by
  have hod : s.heap.get? d = some o := (N _ hl).1
  obtain ⟨ep, hat⟩ := KdkAt.of hd
  have hls := hat.dictAt hod
  have hne : d ≠ s.heap.objs.size := Nat.ne_of_lt (Heap.lt_size hod)
  refine wpAny_pyIter_dict lo hls ?_
  have W := Walks.dictKeys (prog := prog) (w := w) (knd := knd) hh s.heap.objs.size d hne kvs ep
  refine ⟨_, _, _, kvs.length, _, _, m₀, news, (fun i m nx => (d, o) ∈ nx ∧ J i m nx), rfl, W, ?_, ?_, ?_, ⟨⟨_, Heap.get?_push_size _ rfl, rfl, rfl⟩, hls.at' fun o e => Heap.get?_push_of_some _ e⟩, F.push _, (fun p hp => ⟨Heap.get?_push_of_some _ (N p hp).1, (N p hp).2⟩), ⟨hl, hj⟩, ?_, ?_⟩
  · intro hm
    rcases List.mem_cons.mp hm with e | hm
    · exact absurd F.ns.lt (e ▸ Nat.lt_irrefl _)
    · exact (N _ hl).2.1 ((List.mem_singleton.mp hm).symm)
  · intro b hb
    rw [List.mem_singleton.mp hb]
    exact next_is_new F
  · intro p hp hI
    exact absurd (Heap.lt_size (N p hp).1) ((List.mem_singleton.mp hI) ▸ Nat.lt_irrefl _)
  · rintro i v m₁ news₁ s₁ own ⟨hh', tk', rfl⟩ hin ⟨k, xv, hk, hv⟩ ⟨hl₁, hJ⟩ hoff hown hget hfp hst F₁ N₁
    have hI0 : h₀.get? s.heap.objs.size = none := next_is_new F
    obtain ⟨⟨oI, hoI, _⟩, _⟩ := id hst
    have hIown : (s.heap.objs.size, oI) ∈ own.filter fun p => decide (p.1 = s.heap.objs.size) := List.mem_filter.mpr ⟨hfp _ (List.mem_cons.mpr (.inl rfl)) hI0 _ hoI, by simp⟩
    have hsep : OwnOff (own.filter fun p => decide (p.1 = s.heap.objs.size)) (news₁.map (·.1)) := by
      intro p hp b hb e
      obtain ⟨q, hq, rfl⟩ := List.mem_map.mp hb
      have h1 : p.1 = s.heap.objs.size := by simpa using (List.mem_filter.mp hp).2
      exact hoff q hq (List.mem_singleton.mpr (e ▸ h1))
    have N₂ : News h₀ env.locals hh' (news₁ ++ own.filter fun p => decide (p.1 = s.heap.objs.size)) := fun p hp => N₁ p ((List.mem_append.mp hp).elim (fun h => List.mem_append.mpr (.inr h)) fun h => List.mem_append.mpr (.inl ((List.mem_filter.mp h).1)))
    have hlo : hh'.get? d = some o := (N₁ _ (List.mem_append.mpr (.inr hl₁))).1
    refine wpAny_mono (turn i k xv v m₁ news₁ hh' tk' _ hk hv hsep hl₁ hJ F₁ N₂) (fun f s₂ p => ?_) fun _ _ e => e
    have fin : InvEndG h₀ env.locals (fun m' nx => (d, o) ∈ nx ∧ J (i + 1) m' nx) (own.filter fun p => decide (p.1 = s.heap.objs.size)) { s with heap := hh', toks := tk' } s₂ →
        LoopStepU h₀ env.locals [s.heap.objs.size] own (fun m nx => (d, o) ∈ nx ∧ J (i + 1) m nx) { s with heap := hh', toks := tk' } .next s₂ := by
      rintro ⟨h', tk, m', news', nx, e, F', N', hn, ho, ha, hm⟩
      refine ⟨rfl, h', tk, m', nx, e, F', fun p hp => ?_, fun p hp hq => ?_, hm⟩
      · rcases List.mem_append.mp hp with h | h
        · by_cases hI : p.1 = s.heap.objs.size
          · exact N' p (ho p (List.mem_filter.mpr ⟨h, by simpa using hI⟩))
          · have h1 : p.1 = d := by
              rcases List.mem_cons.mp (hown p h) with h2 | h2
              · exact absurd h2 hI
              · exact List.mem_singleton.mp h2
            have h2 : hh'.get? p.1 = some p.2 := hget p h
            rw [h1, hlo] at h2
            have h3 : p = (d, o) := Prod.ext h1 (Option.some.inj h2).symm
            rw [h3]
            exact N' _ (hn _ hm.1)
        · exact N' p (hn p h)
      · exact ha _ hIown p.1 (List.mem_map.mpr ⟨p, hp, rfl⟩) (List.mem_singleton.mp hq).symm
    cases f with
    | ret v => exact .ret p
    | brk => exact .brk p
    | next => exact .next (fin p)
    | cont => exact .cont (fin p)
  · rintro h' tk m' news' F' N' _ ⟨_, hJ⟩
    exact done m' news' h' tk hJ F' N'
end

theorem whileStep2_ret {h₀ : Heap} {L : Addr} {s : Shared} {J : Nat → (Str → Option Value) → List (Addr × Obj) → Prop} {Q : Flow → Shared → Prop} {n : Nat} {v : Value} {s₃ : Shared} (h : Q (.ret v) s₃) : WhileStep2 h₀ L s J Q n (.ret v) s₃ := h
end Mine

/-! RangeIn -/
namespace Mine
set_option maxRecDepth 100000
section
open PySem

theorem range_notin {prog : Program} {w : World} {A : Around} {E : Value → Shared → Prop} {s : Shared} {r : Addr} {a b x : Int} {t u v tx : Tok} {Q : Value → Shared → Prop} (hr : IsRange s.heap r a b 1 t u v)
    (h : Q (.bool (!decide (a ≤ x ∧ x < b))) s) : wpAny (model prog w) A (compareOp .NotIn (.int x tx) (.ref r)) Q E s := by
  have hT : s.TypeIs (.ref r) "range" := ⟨_, hr, rfl⟩
  have he : (Builtin.Range.rangePlace? a b 1 x).isSome = (decide (a ≤ x) && decide (x < b)) := by
    unfold Builtin.Range.rangePlace?
    simp only [Int.emod_one, show (1 : Int) > 0 from by decide, if_true, BEq.rfl, Bool.and_true]
    by_cases h1 : a ≤ x <;> by_cases h2 : x < b <;> simp [h1, h2]
  show wpAny _ _ (do return .bool (!(← contains (.ref r) (.int x tx)))) Q E s
  refine wpAny_bind ?_
  unfold contains
  try with_reducible refine wpAny_holding ?_
  refine wpAny_bind (wpAny_specialOf hT F.slot_range_contains.lookup ?_)
  show wpAny _ _ (if (some (Value.builtin "range.__contains__") == some Value.none) = true then _ else _) _ E s
  rw [if_neg (by rw [beq_builtin_none]; exact Bool.false_ne_true)]
  refine wpAny_bind (wpAny_callSpecialUnlessNone?_slot (name := Str.ofString "__contains__") hT F.slot_range_contains
    (wpAny_call_entry F.slot_range_contains hT F.entry_range_contains ?_ (F.args_range_contains_2 _ _)))
  obtain ⟨hp, g, d, tk, os⟩ := s
  wp_walk using AutoSeq1.wpAny_loadPart' hr
  rw [he, show (decide (a ≤ x) && decide (x < b)) = decide (a ≤ x ∧ x < b) from by simp]
  exact ⟨_, rfl, wpAny_truthy_bool (wpAny_pure h)⟩
end

noncomputable def nthV : List Value → Nat → Option Value
  | [], _ => none
  | v :: _, 0 => some v
  | _ :: r, k + 1 => nthV r k
theorem nthV_spec : ∀ (l : List Value) (k : Nat), nthV l k = l[k]?
  | [], _ => by simp [nthV]
  | _ :: _, 0 => rfl
  | _ :: r, k + 1 => by simp [nthV, nthV_spec r k]
theorem item_lst {prog : Program} {w : World} {A : Around} {E : Value → Shared → Prop} {s : Shared} {h₀ : Heap} {L : Addr} {news : List (Addr × Obj)} {value slice : PySem.Expr} {l : Addr} {its : Array Value} {n : Nat} {k : Int} {u : Tok} {v : Value} {Q : Value → Shared → Prop}
    (N : News h₀ L s.heap news) (hm : (l, listOf its n) ∈ news) (h0 : 0 ≤ k) (hhi : k < 2 ^ 63) (hx0 : nthV its.toList k.toNat = some v) (h : Q v s)
    (hs : subscripted slice false (.ref l) (.int k u) = operate [.ref l, .int k u] (getItem (.ref l) (.int k u)) := by with_unfolding_all rfl) :
    wpAny (model prog w) A (subscriptTail value slice (.ref l) (.int k u)) Q E s :=
  have hL : s.heap.IsList l its := ⟨_, (N _ hm).1, rfl, n, rfl⟩
  have hx : its[k.toNat]? = some v := by rw [nthV_spec, Array.getElem?_toList] at hx0; exact hx0
  tail_any hL.typeIs slot_list_getitem.lookup (wpAny_getItem_list hL h0 hhi hx h) hs
end Mine

/-! State -/
namespace Mine
set_option genSizeOf false
set_option maxRecDepth 100000

/-! lists of owned objects -/
noncomputable def dropL (news : List (Addr × Obj)) (ws : List Nat) : List (Addr × Obj) := news.filter fun p => decide (p.1 ∉ ws)
theorem mem_dropL {news : List (Addr × Obj)} {ws : List Nat} {p : Addr × Obj} : p ∈ dropL news ws ↔ p ∈ news ∧ p.1 ∉ ws := by simp [dropL]
theorem dropL_ne {news : List (Addr × Obj)} {ws : List Nat} {d : Nat} (h : d ∈ ws) : ∀ p ∈ dropL news ws, p.1 ≠ d := fun p hp e => (mem_dropL.mp hp).2 (e ▸ h)
theorem dropL_lt {news : List (Addr × Obj)} {ws : List Nat} {d : Nat} (h : ∀ p ∈ news, p.1 < d) : ∀ p ∈ dropL news ws, p.1 < d := fun p hp => h p (mem_dropL.mp hp).1
theorem all_ne_of_allLt {d : Addr} {l : List (Addr × Obj)} (h : AllLt d l) : ∀ p ∈ l, p.1 ≠ d := fun p hp => Nat.ne_of_lt (kst_ltOf h p hp)
theorem all_ne_of_lt {d : Addr} {l : List (Addr × Obj)} (h : ∀ p ∈ l, p.1 < d) : ∀ p ∈ l, p.1 ≠ d := fun p hp => Nat.ne_of_lt (h p hp)

theorem news_drop {h₀ h : Heap} {L : Addr} {news : List (Addr × Obj)} (N : News h₀ L h news) (ws : List Nat) : News h₀ L h (dropL news ws) :=
  news_sub N fun _ hp => (mem_dropL.mp hp).1

/-! what an address is for -/
inductive Role where
  | H | C | S | SD | RD | RW | OWS | PRD
  | ow (f : Int) | p (f : Int) | pd (f : Int)
  | x (k : Int) | dx (k : Int) | rw (k : Int)
  | no

theorem ne_role {ρ : Nat → Role} {a b : Nat} {A B : Role} (h1 : ρ a = A) (h2 : ρ b = B) (h : A ≠ B) : a ≠ b := by
  rintro rfl
  exact h (h1.symm.trans h2)

noncomputable def HandOk (C len : Nat) (o : Obj) : Prop := ∃ i n sd t1 t2 t3 nn, o = listOf #[.ref C, .int i t1, .int n t2, .int sd t3] nn ∧ 0 ≤ i ∧ i ≤ (len : Int) ∧ 0 ≤ n ∧ 0 ≤ sd
noncomputable def CellsOk (len : Nat) (o : Obj) : Prop := ∃ cvs ns nc, o = listOf (List.toArray cvs) nc ∧ IntsAre cvs ns ∧ ns.length = len ∧ len ≤ 63

section
variable {prog : Program} {w : World} {A : Around} {E : Value → Shared → Prop} {s : Shared} {K : Frag} {x C dx L : Addr} {h₀ : Heap} {m : Str → Option Value} {news : List (Addr × Obj)} {o : Obj} {es es' : List DictEntry} {n n' : Nat} {name : Str} {v : Value}

theorem get_opq {expr : Bool} {Q : Value → Shared → Prop} {attr : Option Value} (F : Fr h₀ L s.heap m) (X₀ : K.In h₀) (N : News h₀ L s.heap news) (h1 : (x, instObj C dx) ∈ news) (h2 : (dx, o) ∈ news) (he : o = dictOf es n) (hg : plainGet K C name = true) (hh : hasDictIn K C = true)
    (ha : findIn K (.ref C) name = some attr) (hn : noGet K attr = true) (hl : getL name es = some (some v)) (hv : handedIn v = true) (h : Q v { s with toks := s.toks + 1 }) :
    wpAny (model prog w) A (getAttr (.ref x) name expr) Q E s := by
  subst he
  exact get_own F X₀ (InstAt.of_news N h1 h2) hg hh ha hn hl hv h

theorem set_opq {Q : Unit → Shared → Prop} {g : Obj → List (Addr × Obj)} (F : Fr h₀ L s.heap m) (X₀ : K.In h₀) (N : News h₀ L s.heap news) (h1 : (x, instObj C dx) ∈ news) (U : UpdF dx o news g) (he : o = dictOf es n)
    (hs : findIn K (.ref C) "__setattr__" = some (some (.builtin "object.__setattr__"))) (hp : plainOver K C = true) (ht : takerIn K C name = some none) (hh : hasDictIn K C = true) (hl : (getL name es).isSome = true)
    (e : (putL name (PyData.keyHash w.params name) (.str name (s.toks + 1)) v es, putN name es n) = (es', n')) (hz : es'.length ≤ 1000)
    (h : ∀ h' o', o' = dictOf es' n' → Fr h₀ L h' m → News h₀ L h' (g o') → Q () { s with heap := h', toks := s.toks + 2 }) :
    wpAny (model prog w) A (setAttr (.ref x) name v) Q E s := by
  subst he
  obtain ⟨pre, post, rfl, hg, a, b⟩ := U.split
  have hm : (dx, dictOf es n) ∈ pre ++ (dx, dictOf es n) :: post := List.mem_append_right _ (.head _)
  have hU : Upd dx (dictOf es n) (dictOf es' n') (pre ++ (dx, dictOf es n) :: post) (pre ++ (dx, dictOf es' n') :: post) := by
    clear N h1 hg hm U
    induction pre with
    | nil => exact .head b
    | cons q r ih => exact .tail (a q (.head _)) (ih fun z hz => a z (.tail _ hz))
  exact set_dict F X₀ N (InstAt.of_news N h1 hm) rfl hs hp ht hh hl e hU hz fun h' F' N' => h h' _ rfl F' (by rw [hg]; exact N')
theorem meth_opq {pl : Sem Bool} {Q : Value × List Value → Shared → Prop} {f : Addr} (F : Fr h₀ L s.heap m) (X₀ : K.In h₀) (N : News h₀ L s.heap news) (h1 : (x, instObj C dx) ∈ news) (h2 : (dx, o) ∈ news) (he : o = dictOf es n) (hg : plainGet K C name = true)
    (hf : findIn K (.ref C) name = some (some (.ref f))) (ht : isFn K (.ref f) = true) (hl : getL name es = some none) (h : Q (.ref f, [.ref x]) s) : wpAny (model prog w) A (getMethod (.ref x) name pl) Q E s := by
  subst he
  exact method_inst F X₀ (InstAt.of_news N h1 h2) hg hf ht hl h
end
end Mine

/-! PickW -/
namespace Mine
set_option maxRecDepth 100000
set_option maxHeartbeats 8000000

theorem pick_spec {w : World} {p : Program} {loose : List Str} {mean : ExcName → Option Value} {mg mb : Str → Option Value}
  {dp un : Nat} {gd : Option (List Code)} {cn : Str} {cs : Scope} {a : Addr} {ccd : Value} {cl : List (Str × Addr)} {outer : List Env} {A₀ : Around} {base h₀ : Heap} {L : Addr} {m : Str → Option Value} {hs0 : Heap} {gn : Array GenState} {dr : Drawn} {tk0 : Nat} {os : OsState} {Q E : Value → Shared → Prop}
  {H C : Nat} {nn nc : Nat} {cvs : List Value} {ns : List Int} {i n sd lim : Int} {t1 t2 t3 t4 : Tok} {rest : List (Addr × Obj)}
  (B : Below A₀ base outer h₀) (F : Fr h₀ L hs0 m) (T : Top p loose mean mg mb h₀) (hk : cs.kind = .function)
  (hdp : dp + 20 < recursionLimit) (hun : un + 200 < cLine)
  (N : News h₀ L hs0 ((H, listOf #[.ref C, .int i t1, .int n t2, .int sd t3] nn) :: (C, listOf cvs.toArray nc) :: rest))
  (hr : ∀ p ∈ rest, p.1 ≠ H) (hCH : C ≠ H) (hints : IntsAre cvs ns) (hlen : ns.length ≤ 63)
  (h0 : 0 ≤ i) (hi : i ≤ ns.length) (hn : 0 ≤ n) (hs : 0 ≤ sd) (hlim : 0 < lim) (hlim2 : lim < 1000)
  (ret : ∀ d t i' n' sd' t1' t2' t3' nn' h' tk', 0 ≤ d → d < lim → 0 ≤ i' → i' ≤ (ns.length : Int) → 0 ≤ n' → 0 ≤ sd' → Fr h₀ L h' m →
     News h₀ L h' ((H, listOf #[.ref C, .int i' t1', .int n' t2', .int sd' t3'] nn') :: (C, listOf cvs.toArray nc) :: rest) → Q (.int d t) ⟨h', gn, dr, tk', os⟩) :
  (hd.heap_39 w.params).In h₀ → wpAny (model Challenge.rw_no0154_01.row.prog w) (ktrTop dp un gd cn cs L a ccd cl outer) (call (.ref 182) [.ref H, .int lim t4]) Q E ⟨hs0, gn, dr, tk0, os⟩ := by
  k_fill
  w_top off
  intro X
  k_with_none
  k_with "k_all" => first | assumption | exact List.forall_mem_nil _ | exact dropL_ne (by k_memK) | exact all_ne_of_allLt (by assumption) | exact all_ne_of_lt (by assumption) | exact List.forall_mem_cons.mpr ⟨by first | with_reducible assumption | exact Ne.symm (by with_reducible assumption) | exact Nat.ne_of_lt (by with_reducible assumption) | exact Nat.ne_of_gt (by with_reducible assumption) | exact Nat.ne_of_lt (And.left (by with_reducible assumption)) | exact Nat.ne_of_gt (And.left (by with_reducible assumption)) | exact Nat.ne_of_lt (And.left (And.right (by with_reducible assumption))) | exact Nat.ne_of_gt (And.left (And.right (by with_reducible assumption))) | exact Nat.ne_of_lt (And.left (And.right (And.right (by with_reducible assumption)))) | exact Nat.ne_of_gt (And.left (And.right (And.right (by with_reducible assumption)))) | exact Nat.ne_of_lt (And.left (And.right (And.right (And.right (by with_reducible assumption))))) | exact Nat.ne_of_gt (And.left (And.right (And.right (And.right (by with_reducible assumption))))) | exact Nat.ne_of_lt (And.left (And.right (And.right (And.right (And.right (by with_reducible assumption)))))) | exact Nat.ne_of_gt (And.left (And.right (And.right (And.right (And.right (by with_reducible assumption)))))) | exact Nat.ne_of_lt (And.left (And.right (And.right (And.right (And.right (And.right (by with_reducible assumption))))))) | exact Nat.ne_of_gt (And.left (And.right (And.right (And.right (And.right (And.right (by with_reducible assumption))))))) | exact Nat.ne_of_lt (And.left (And.right (And.right (And.right (And.right (And.right (And.right (by with_reducible assumption)))))))) | exact Nat.ne_of_gt (And.left (And.right (And.right (And.right (And.right (And.right (And.right (by with_reducible assumption)))))))) | k_ne, by k_all⟩
  k_with "k_updF" => first | exact UpdF.head (by k_all) | exact UpdF.tail (by first | with_reducible assumption | exact Ne.symm (by with_reducible assumption) | exact Nat.ne_of_lt (by with_reducible assumption) | exact Nat.ne_of_gt (by with_reducible assumption) | exact Nat.ne_of_lt (And.left (by with_reducible assumption)) | exact Nat.ne_of_gt (And.left (by with_reducible assumption)) | exact Nat.ne_of_lt (And.left (And.right (by with_reducible assumption))) | exact Nat.ne_of_gt (And.left (And.right (by with_reducible assumption))) | exact Nat.ne_of_lt (And.left (And.right (And.right (by with_reducible assumption)))) | exact Nat.ne_of_gt (And.left (And.right (And.right (by with_reducible assumption)))) | exact Nat.ne_of_lt (And.left (And.right (And.right (And.right (by with_reducible assumption))))) | exact Nat.ne_of_gt (And.left (And.right (And.right (And.right (by with_reducible assumption))))) | exact Nat.ne_of_lt (And.left (And.right (And.right (And.right (And.right (by with_reducible assumption)))))) | exact Nat.ne_of_gt (And.left (And.right (And.right (And.right (And.right (by with_reducible assumption)))))) | exact Nat.ne_of_lt (And.left (And.right (And.right (And.right (And.right (And.right (by with_reducible assumption))))))) | exact Nat.ne_of_gt (And.left (And.right (And.right (And.right (And.right (And.right (by with_reducible assumption))))))) | exact Nat.ne_of_lt (And.left (And.right (And.right (And.right (And.right (And.right (And.right (by with_reducible assumption)))))))) | exact Nat.ne_of_gt (And.left (And.right (And.right (And.right (And.right (And.right (And.right (by with_reducible assumption)))))))) | k_ne) (by k_updF)
  k_with "k_upd" => first | exact Upd.head (by k_all) | exact Upd.tail (by first | with_reducible assumption | exact Ne.symm (by with_reducible assumption) | exact Nat.ne_of_lt (by with_reducible assumption) | exact Nat.ne_of_gt (by with_reducible assumption) | exact Nat.ne_of_lt (And.left (by with_reducible assumption)) | exact Nat.ne_of_gt (And.left (by with_reducible assumption)) | exact Nat.ne_of_lt (And.left (And.right (by with_reducible assumption))) | exact Nat.ne_of_gt (And.left (And.right (by with_reducible assumption))) | exact Nat.ne_of_lt (And.left (And.right (And.right (by with_reducible assumption)))) | exact Nat.ne_of_gt (And.left (And.right (And.right (by with_reducible assumption)))) | exact Nat.ne_of_lt (And.left (And.right (And.right (And.right (by with_reducible assumption))))) | exact Nat.ne_of_gt (And.left (And.right (And.right (And.right (by with_reducible assumption))))) | exact Nat.ne_of_lt (And.left (And.right (And.right (And.right (And.right (by with_reducible assumption)))))) | exact Nat.ne_of_gt (And.left (And.right (And.right (And.right (And.right (by with_reducible assumption)))))) | exact Nat.ne_of_lt (And.left (And.right (And.right (And.right (And.right (And.right (by with_reducible assumption))))))) | exact Nat.ne_of_gt (And.left (And.right (And.right (And.right (And.right (And.right (by with_reducible assumption))))))) | exact Nat.ne_of_lt (And.left (And.right (And.right (And.right (And.right (And.right (And.right (by with_reducible assumption)))))))) | exact Nat.ne_of_gt (And.left (And.right (And.right (And.right (And.right (And.right (And.right (by with_reducible assumption)))))))) | k_ne) (by k_upd)
  refine wpAny_call ?_
  k_dflt ktr_enter
  k_steps
  all_goals (
    refine ret _ _ _ _ _ _ _ _ _ _ _ (fmod_lo _ hlim) (fmod_hi _ hlim) ?_ ?_ ?_ ?_ (by k_asm) (by k_asm)
    all_goals first
      | omega
      | exact Int.fdiv_nonneg (by omega) (by omega)
      | exact Int.fdiv_nonneg (fmod_lo _ (by omega)) (by omega)
      | exact fmod_lo _ (by omega)
      | (simp only [List.getD_eq_getElem?_getD] at *; omega))
end Mine

/-! SoundW -/
namespace Mine
set_option maxRecDepth 100000
set_option maxHeartbeats 8000000

theorem sound_spec {w : World} {p : Program} {loose : List Str} {mean : ExcName → Option Value} {mg mb : Str → Option Value}
  {dp un : Nat} {gd : Option (List Code)} {cn : Str} {cs : Scope} {a : Addr} {ccd : Value} {cl : List (Str × Addr)} {outer : List Env} {A₀ : Around} {base h₀ : Heap} {L : Addr} {m : Str → Option Value} {hs0 : Heap} {gn : Array GenState} {dr : Drawn} {tk0 : Nat} {os : OsState} {Q E : Value → Shared → Prop}
  {news : List (Addr × Obj)} {S SD RD : Nat} {nxt gen place f : Int} {t1 t2 : Tok} {so ro : Obj} {r : Rec}
  (B : Below A₀ base outer h₀) (F : Fr h₀ L hs0 m) (T : Top p loose mean mg mb h₀) (hk : cs.kind = .function)
  (hdp : dp + 20 < recursionLimit) (hun : un + 200 < cLine)
  (N₀ : News h₀ L hs0 news) (hS : (S, instObj 157 SD) ∈ news) (hSD : (SD, so) ∈ news) (hso : StoreObj w.params RD nxt gen so)
  (hx : (r.x, instObj 38 r.dx) ∈ news) (hdx : (r.dx, ro) ∈ news) (hro : RecObj w.params r ro)
  (ret : ∀ h' tk', Fr h₀ L h' m → News h₀ L h' news → Q (.bool (soundB r place f gen)) ⟨h', gn, dr, tk', os⟩) :
  (hd.heap_39 w.params).In h₀ → wpAny (model Challenge.rw_no0154_01.row.prog w) (ktrTop dp un gd cn cs L a ccd cl outer) (call (.ref 168) [.ref S, .ref r.x, .int place t1, .int f t2]) Q E ⟨hs0, gn, dr, tk0, os⟩ := by
  k_fill
  w_top off
  intro X
  k_with_none
  obtain ⟨τs, rfl⟩ := hso
  obtain ⟨τ, rfl⟩ := hro
  have N := news_add N₀ hS (news_add N₀ hSD (news_add N₀ hx (news_add N₀ hdx N₀)))
  obtain ⟨pl, x, dx, rwa, key, functor, birth, death, next⟩ := r
  dsimp only at *
  clear N₀ hS hSD hx hdx
  have ret' : ∀ (b : Bool) h' tk', b = soundB ⟨pl, x, dx, rwa, key, functor, birth, death, next⟩ place f gen → Fr h₀ L h' m → News h₀ L h' ((S, instObj 157 SD) :: (SD, storeDict w.params τs RD nxt gen) :: (x, instObj 38 dx) :: (dx, recDict w.params τ key functor birth death next) :: news) → Q (.bool b) ⟨h', gn, dr, tk', os⟩ :=
    fun b h' tk' e F' N' => e ▸ ret h' tk' F' (news_sub N' fun p hp => by simp [hp])
  refine wpAny_call ?_
  k_dflt ktr_enter
  k_steps
  all_goals first
    | (refine ret' _ _ _ ?_ (by k_asm) (by k_asm)
       first | (simp [soundB]; omega) | (rw [Bool.eq_iff_iff]; simp only [soundB, Bool.and_eq_true, Bool.or_eq_true, decide_eq_true_eq]; omega) | (simp [soundB, *]; done) | (simp [soundB]; (try intros); omega))

theorem sound_none {w : World} {p : Program} {loose : List Str} {mean : ExcName → Option Value} {mg mb : Str → Option Value}
  {dp un : Nat} {gd : Option (List Code)} {cn : Str} {cs : Scope} {a : Addr} {ccd : Value} {cl : List (Str × Addr)} {outer : List Env} {A₀ : Around} {base h₀ : Heap} {L : Addr} {m : Str → Option Value} {hs0 : Heap} {gn : Array GenState} {dr : Drawn} {tk0 : Nat} {os : OsState} {Q E : Value → Shared → Prop}
  {news : List (Addr × Obj)} {S : Nat} {place f : Int} {t1 t2 : Tok}
  (B : Below A₀ base outer h₀) (F : Fr h₀ L hs0 m) (T : Top p loose mean mg mb h₀) (hk : cs.kind = .function)
  (hdp : dp + 20 < recursionLimit) (hun : un + 200 < cLine)
  (N : News h₀ L hs0 news)
  (ret : ∀ h' tk', Fr h₀ L h' m → News h₀ L h' news → Q (.bool false) ⟨h', gn, dr, tk', os⟩) :
  (hd.heap_39 w.params).In h₀ → wpAny (model Challenge.rw_no0154_01.row.prog w) (ktrTop dp un gd cn cs L a ccd cl outer) (call (.ref 168) [.ref S, .none, .int place t1, .int f t2]) Q E ⟨hs0, gn, dr, tk0, os⟩ := by
  k_fill
  w_top off
  intro X
  k_with_none
  refine wpAny_call ?_
  k_dflt ktr_enter
  k_steps
  all_goals first
    | exact ret _ _ (by k_asm) (by k_asm)
end Mine

/-! CheckW -/
namespace Mine
set_option maxRecDepth 100000
set_option maxHeartbeats 8000000

noncomputable abbrev CkFor (w : World) (recs : List Rec) (gen : Int) (σs : List Side) (news : List (Addr × Obj)) (M S PRD : Nat) (i : Nat) (m : Str → Option Value) (nx : List (Addr × Obj)) : Prop :=
  ∃ met om, nx = (M, om) :: news ∧ om.IsDictOf (intKind Challenge.rw_no0154_01.row.prog w) (met.map fun p => (p, Value.bool true)) ∧ MetOk recs met ∧ sides recs gen (σs.drop i) met = sides recs gen σs [] ∧
      m (Str.ofString "store") = some (.ref S) ∧ m (Str.ofString "met") = some (.ref M) ∧ m (Str.ofString "procs") = some (.ref PRD)
noncomputable abbrev CkWhile (w : World) (recs : List Rec) (gen : Int) (rest : List (Addr × Obj)) (M S PRD : Nat) (σf : Int) (σp : Nat) (σfirst : Int) (t0 : Tok) (met : List Int) (n : Nat) (m : Str → Option Value) (nx : List (Addr × Obj)) : Prop :=
  ∃ met₁ om₁ last place t1 t2, n = recs.length + 1 - met₁.length ∧ nx = (M, om₁) :: rest ∧ om₁.IsDictOf (intKind Challenge.rw_no0154_01.row.prog w) (met₁.map fun p => (p, Value.bool true)) ∧ MetOk recs met₁ ∧
        chain recs σf gen n met₁ last place = chain recs σf gen (recs.length + 1 - met.length) met (-1) σfirst ∧
        m (Str.ofString "store") = some (.ref S) ∧ m (Str.ofString "met") = some (.ref M) ∧ m (Str.ofString "procs") = some (.ref PRD) ∧ m (Str.ofString "f") = some (.int σf t0) ∧ m (Str.ofString "proc") = some (.ref σp) ∧
        m (Str.ofString "last") = some (.int last t1) ∧ m (Str.ofString "place") = some (.int place t2)
theorem check_spec {w : World} {p : Program} {loose : List Str} {mean : ExcName → Option Value} {mg mb : Str → Option Value}
  {dp un : Nat} {gd : Option (List Code)} {cn : Str} {cs : Scope} {a : Addr} {ccd : Value} {cl : List (Str × Addr)} {outer : List Env} {A₀ : Around} {base h₀ : Heap} {L : Addr} {m : Str → Option Value} {hs0 : Heap} {gn : Array GenState} {dr : Drawn} {tk0 : Nat} {os : OsState} {Q E : Value → Shared → Prop}
  {news : List (Addr × Obj)} {S SD RD PRD : Nat} {nxt gen : Int} {so rdo po : Obj} {recs : List Rec} {σs : List Side}
  (B : Below A₀ base outer h₀) (F : Fr h₀ L hs0 m) (T : Top p loose mean mg mb h₀) (hk : cs.kind = .function)
  (hdp : dp + 40 < recursionLimit) (hun : un + 400 < cLine)
  (N : News h₀ L hs0 news) (hS : (S, instObj 157 SD) ∈ news) (hSD : (SD, so) ∈ news) (hso : StoreObj w.params RD nxt gen so)
  (hRD : (RD, rdo) ∈ news) (hrd : rdo.IsDictOf (intKind Challenge.rw_no0154_01.row.prog w) (recs.map fun r => (r.place, Value.ref r.x))) (hRDm : (RD == sysModules) = false)
  (hrec : ∀ r ∈ recs, (r.x, instObj 38 r.dx) ∈ news ∧ ∃ o, (r.dx, o) ∈ news ∧ RecObj w.params r o)
  (hP : (PRD, po) ∈ news) (hpo : po.IsDictOf (intKind Challenge.rw_no0154_01.row.prog w) (σs.map fun σ => (σ.f, Value.ref σ.p))) (hPm : (PRD == sysModules) = false)
  (hσ : ∀ σ ∈ σs, (σ.p, instObj 66 σ.pd) ∈ news ∧ ∃ o, (σ.pd, o) ∈ news ∧ ProcObj w.params σ o)
  (hlen : recs.length ≤ 100)
  (ret : ∀ h' tk', Fr h₀ L h' m → News h₀ L h' news → Q (.bool (checkB recs gen σs)) ⟨h', gn, dr, tk', os⟩) :
  (hd.heap_39 w.params).In h₀ → wpAny (model Challenge.rw_no0154_01.row.prog w) (ktrTop dp un gd cn cs L a ccd cl outer) (call (.ref 175) [.ref S, .ref PRD]) Q E ⟨hs0, gn, dr, tk0, os⟩ := by
  k_fill
  w_top off
  intro X
  k_with_none
  k_with "k_all" => first | assumption | exact List.forall_mem_nil _ | exact dropL_ne (by k_memK) | exact all_ne_of_allLt (by assumption) | exact all_ne_of_lt (by assumption) | exact List.forall_mem_cons.mpr ⟨by first | with_reducible assumption | exact Ne.symm (by with_reducible assumption) | exact Nat.ne_of_lt (by with_reducible assumption) | exact Nat.ne_of_gt (by with_reducible assumption) | exact Nat.ne_of_lt (And.left (by with_reducible assumption)) | exact Nat.ne_of_gt (And.left (by with_reducible assumption)) | exact Nat.ne_of_lt (And.left (And.right (by with_reducible assumption))) | exact Nat.ne_of_gt (And.left (And.right (by with_reducible assumption))) | exact Nat.ne_of_lt (And.left (And.right (And.right (by with_reducible assumption)))) | exact Nat.ne_of_gt (And.left (And.right (And.right (by with_reducible assumption)))) | exact Nat.ne_of_lt (And.left (And.right (And.right (And.right (by with_reducible assumption))))) | exact Nat.ne_of_gt (And.left (And.right (And.right (And.right (by with_reducible assumption))))) | exact Nat.ne_of_lt (And.left (And.right (And.right (And.right (And.right (by with_reducible assumption)))))) | exact Nat.ne_of_gt (And.left (And.right (And.right (And.right (And.right (by with_reducible assumption)))))) | exact Nat.ne_of_lt (And.left (And.right (And.right (And.right (And.right (And.right (by with_reducible assumption))))))) | exact Nat.ne_of_gt (And.left (And.right (And.right (And.right (And.right (And.right (by with_reducible assumption))))))) | exact Nat.ne_of_lt (And.left (And.right (And.right (And.right (And.right (And.right (And.right (by with_reducible assumption)))))))) | exact Nat.ne_of_gt (And.left (And.right (And.right (And.right (And.right (And.right (And.right (by with_reducible assumption)))))))) | k_ne, by k_all⟩
  k_with "k_updF" => first | exact UpdF.head (by k_all) | exact UpdF.tail (by first | with_reducible assumption | exact Ne.symm (by with_reducible assumption) | exact Nat.ne_of_lt (by with_reducible assumption) | exact Nat.ne_of_gt (by with_reducible assumption) | exact Nat.ne_of_lt (And.left (by with_reducible assumption)) | exact Nat.ne_of_gt (And.left (by with_reducible assumption)) | exact Nat.ne_of_lt (And.left (And.right (by with_reducible assumption))) | exact Nat.ne_of_gt (And.left (And.right (by with_reducible assumption))) | exact Nat.ne_of_lt (And.left (And.right (And.right (by with_reducible assumption)))) | exact Nat.ne_of_gt (And.left (And.right (And.right (by with_reducible assumption)))) | exact Nat.ne_of_lt (And.left (And.right (And.right (And.right (by with_reducible assumption))))) | exact Nat.ne_of_gt (And.left (And.right (And.right (And.right (by with_reducible assumption))))) | exact Nat.ne_of_lt (And.left (And.right (And.right (And.right (And.right (by with_reducible assumption)))))) | exact Nat.ne_of_gt (And.left (And.right (And.right (And.right (And.right (by with_reducible assumption)))))) | exact Nat.ne_of_lt (And.left (And.right (And.right (And.right (And.right (And.right (by with_reducible assumption))))))) | exact Nat.ne_of_gt (And.left (And.right (And.right (And.right (And.right (And.right (by with_reducible assumption))))))) | exact Nat.ne_of_lt (And.left (And.right (And.right (And.right (And.right (And.right (And.right (by with_reducible assumption)))))))) | exact Nat.ne_of_gt (And.left (And.right (And.right (And.right (And.right (And.right (And.right (by with_reducible assumption)))))))) | k_ne) (by k_updF)
  k_with "k_upd" => first | exact Upd.head (by k_all) | exact Upd.tail (by first | with_reducible assumption | exact Ne.symm (by with_reducible assumption) | exact Nat.ne_of_lt (by with_reducible assumption) | exact Nat.ne_of_gt (by with_reducible assumption) | exact Nat.ne_of_lt (And.left (by with_reducible assumption)) | exact Nat.ne_of_gt (And.left (by with_reducible assumption)) | exact Nat.ne_of_lt (And.left (And.right (by with_reducible assumption))) | exact Nat.ne_of_gt (And.left (And.right (by with_reducible assumption))) | exact Nat.ne_of_lt (And.left (And.right (And.right (by with_reducible assumption)))) | exact Nat.ne_of_gt (And.left (And.right (And.right (by with_reducible assumption)))) | exact Nat.ne_of_lt (And.left (And.right (And.right (And.right (by with_reducible assumption))))) | exact Nat.ne_of_gt (And.left (And.right (And.right (And.right (by with_reducible assumption))))) | exact Nat.ne_of_lt (And.left (And.right (And.right (And.right (And.right (by with_reducible assumption)))))) | exact Nat.ne_of_gt (And.left (And.right (And.right (And.right (And.right (by with_reducible assumption)))))) | exact Nat.ne_of_lt (And.left (And.right (And.right (And.right (And.right (And.right (by with_reducible assumption))))))) | exact Nat.ne_of_gt (And.left (And.right (And.right (And.right (And.right (And.right (by with_reducible assumption))))))) | exact Nat.ne_of_lt (And.left (And.right (And.right (And.right (And.right (And.right (And.right (by with_reducible assumption)))))))) | exact Nat.ne_of_gt (And.left (And.right (And.right (And.right (And.right (And.right (And.right (by with_reducible assumption)))))))) | k_ne) (by k_upd)
  k_with "getAttr ref" => k_dflt (refine get_opq (by k_asm) (by k_asm) (by k_asm) (by k_mem) (by k_mem) (by with_reducible assumption) (by k_is) (by k_is) (by k_is) (by k_is) (by k_get) (by k_handed) ?_)
  k_with "getMethod ref" => k_dflt (refine meth_opq (by k_asm) (by k_asm) (by k_asm) (by k_mem) (by k_mem) (by with_reducible assumption) (by k_is) (by k_is) (by k_is) (by k_get) ?_)
  k_with "setAttr ref" => k_dflt (refine set_opq (by k_asm) (by k_asm) (by k_asm) (by k_mem) (by k_updF) (by with_reducible assumption) (by k_is) (by k_is) (by k_is) (by k_is) (by k_get) (by k_put) (by exact Nat.le_of_ble_eq_true rfl) ?_; k_whole; intro h' o' he' F' N'; (try dsimp only at N'); (try k_sweep))
  k_with "exec For Name Name cons nil" => refine stop_here ?_
  k_with "exec While Compare cons nil" => refine stop_here ?_
  k_with "WhileStep2" => (refine whileStep2_ret ?_; dsimp only)
  k_with "subscriptTail" => ((with_reducible show wpAny _ _ (subscriptTail _ _ (Value.ref _) (Value.int _ _)) _ _ _); k_dflt (refine kda_item (knd := intKind _ _) (by k_asm) (by k_mem) (by with_reducible assumption) (intKind_is _ _ _ _) (by with_reducible assumption) ?_))
  k_with "compareOp In int ref" => k_dflt (refine kda_in (knd := intKind _ _) (by k_asm) (by k_mem) (by with_reducible assumption) (by with_reducible assumption) (intKind_is _ _ _ _) _ (by with_reducible assumption) ?_)
  k_with "call builtin:dict.get" => (k_dflt (refine kdg_get1 (knd := intKind _ _) (by k_asm) (by k_mem) (by with_reducible assumption) (by with_reducible assumption) (intKind_is _ _ _ _) _ (by with_reducible assumption) ?_); try dsimp only [Option.getD])
  k_with "getMethod ref" => k_dflt (refine kdg_method (knd := intKind _ _) (by k_asm) (by k_mem) (by with_reducible assumption) ?_)
  k_with "setItem ref int" => (k_dflt (refine kda_set (knd := intKind _ _) (by k_asm) (by k_asm) (by k_updF) (by with_reducible assumption) (intKind_is _ _ _ _) (by (try rw [List.length_map]); rw [sizeLine_eq]; omega) ?_); intro h' o' F' N' hd'; (try dsimp only at N'))
  k_with "call ref" => ((with_reducible show wpAny _ _ (call (Value.ref 168) _) _ _ _); k_dflt (refine sound_none (by k_asm) (by k_asm) (by k_asm) (by exact rfl) (by ktr_room) (by ktr_units) (by k_asm) (fun h' tk' F' N' => ?_) (by k_asm)))
  k_with "call ref" => ((with_reducible show wpAny _ _ (call (Value.ref 168) _) _ _ _); k_dflt (refine sound_spec (by k_asm) (by k_asm) (by k_asm) (by exact rfl) (by ktr_room) (by ktr_units) (by k_asm) (by k_mem) (by k_mem) (by with_reducible assumption) (by k_mem) (by k_mem) (by with_reducible assumption) (fun h' tk' F' N' => ?_) (by k_asm)))
  refine wpAny_call ?_
  k_dflt ktr_enter
  k_steps
  rename_i g1 L1 _h1 FG1 B1 X1 T1 M _h2 om l1 lo1 hs1 fs1 hi1 fi1 h1 F1 N1
  clear hs1 fs1 fi1 _h1 _h2
  have hso' := hso
  obtain ⟨τs, hso'⟩ := hso'
  have hME : ∀ p ∈ news, p.1 ≠ M := fun p hp => Nat.ne_of_lt (l1 p hp)
  refine ⟨?_⟩
  with_unfolding_all refine For_invVF F1 (by exact rfl) (by exact rfl) ?_
  k_dflt (refine ld F1 (by rfl) ?_)
  refine dct_iter (CkFor w recs gen σs news M S PRD) (by rfl) (List.mem_cons_of_mem _ hP) hpo hPm F1 N1 ?_ ?_ ?_
  · exact ⟨[], om, rfl, hi1, ⟨List.nodup_nil, fun _ h => nomatch h⟩, by simp, by rfl, by rfl, by rfl⟩
  · intro i k xv v m₁ nx h tk own hki hkv hoff hmem hJ F₂ N₂
    try k_fold
    obtain ⟨met, om', rfl, hmet, hok, hsd, m1, m2, m3⟩ := hJ
    obtain ⟨t0, rfl⟩ := intKind_inv hkv
    obtain ⟨σ, hσi, rfl, rfl⟩ : ∃ σ, σs[i]? = some σ ∧ σ.f = k ∧ Value.ref σ.p = xv := by
      rw [List.getElem?_map] at hki
      obtain ⟨σ, h1, h2⟩ := Option.map_eq_some_iff.mp hki
      cases h2
      exact ⟨σ, h1, rfl, rfl⟩
    have hmemσ : σ ∈ σs := List.mem_of_getElem? hσi
    have hval : valueAt (σs.map fun σ => (σ.f, Value.ref σ.p)) σ.f = some (.ref σ.p) := valueAt_of_get (isDict_nodup hpo) hki
    have hdrop : σs.drop i = σ :: σs.drop (i + 1) := by
      obtain ⟨hlt, e⟩ := List.getElem?_eq_some_iff.mp hσi
      rw [← e, List.drop_eq_getElem_cons hlt]
    rw [hdrop] at hsd
    obtain ⟨hp1, pdo, hp2, τp, hpdo⟩ := hσ σ hmemσ
    obtain ⟨σf, σow, σp, σpd, σkind, σfirst, σlast⟩ := σ
    dsimp only at *
    have hoffM : ∀ p ∈ news ++ own, p.1 ≠ M := fun p hp => (List.mem_append.mp hp).elim (hME p) fun h => hoff p h M (List.mem_cons_self ..)
    have F₃ : Fr g1 L1 h _ := fr_put (x := Str.ofString "store") (v := .ref S) (fr_put (x := Str.ofString "met") (v := .ref M) (fr_put (x := Str.ofString "procs") (v := .ref PRD) F₂ ((if_neg (by decide)).trans m3)) ((if_neg (by decide)).trans ((if_neg (by decide)).trans m2))) ((if_neg (by decide)).trans ((if_neg (by decide)).trans ((if_neg (by decide)).trans m1)))
    have N₃ : News g1 L1 h ((M, om') :: (S, instObj 157 SD) :: (SD, so) :: (RD, rdo) :: (PRD, po) :: (σp, instObj 66 σpd) :: (σpd, pdo) :: (news ++ own)) :=
      news_add N₂ (.head _) (news_add N₂ (.tail _ (List.mem_append_left _ hS)) (news_add N₂ (.tail _ (List.mem_append_left _ hSD)) (news_add N₂ (.tail _ (List.mem_append_left _ hRD)) (news_add N₂ (.tail _ (List.mem_append_left _ hP)) (news_add N₂ (.tail _ (List.mem_append_left _ hp1)) (news_add N₂ (.tail _ (List.mem_append_left _ hp2)) (news_sub N₂ fun p hp => .tail _ hp)))))))
    clear F₂ N₂ F1 N1
    try k_fold
    k_steps
    rename Fr g1 L1 _ _ => F₄
    rename News g1 L1 _ _ => N₄
    have N₅ : News g1 L1 _ ((M, om') :: (news ++ own)) := news_sub N₄ fun p hp => by
      rcases List.mem_cons.mp hp with rfl | hp
      · exact List.mem_cons_self ..
      · iterate 7 (refine List.mem_cons_of_mem _ ?_)
        exact hp
    refine ⟨?_⟩
    refine While_inv2 (CkWhile w recs gen (news ++ own) M S PRD σf σp σfirst t0 met) F₄ N₅
      ⟨met, om', -1, σfirst, _, _, rfl, rfl, hmet, hok, rfl, by rfl, by rfl, by rfl, by rfl, by rfl, by rfl, by rfl⟩ ?_ (by passes_own)
    clear F₄ N₄ N₅
    intro n m₂ nx₂ h₂ tk₂ F₅ N₅ hJ
    try k_fold
    obtain ⟨met₁, om₁, last, place, t1, t2, rfl, rfl, hmet₁, hok₁, hch, e1, e2, e3, e4, e5, e6, e7⟩ := hJ
    have F₆ : Fr g1 L1 h₂ _ := fr_put (x := Str.ofString "store") (v := .ref S) (fr_put (x := Str.ofString "met") (v := .ref M) (fr_put (x := Str.ofString "procs") (v := .ref PRD) (fr_put (x := Str.ofString "f") (v := .int σf t0) (fr_put (x := Str.ofString "proc") (v := .ref σp) (fr_put (x := Str.ofString "last") (v := .int last t1) (fr_put (x := Str.ofString "place") (v := .int place t2) F₅ e7)
      ((if_neg (by decide)).trans e6)) ((if_neg (by decide)).trans ((if_neg (by decide)).trans e5))) ((if_neg (by decide)).trans ((if_neg (by decide)).trans ((if_neg (by decide)).trans e4)))) ((if_neg (by decide)).trans ((if_neg (by decide)).trans ((if_neg (by decide)).trans ((if_neg (by decide)).trans e3)))))
      ((if_neg (by decide)).trans ((if_neg (by decide)).trans ((if_neg (by decide)).trans ((if_neg (by decide)).trans ((if_neg (by decide)).trans e2)))))) ((if_neg (by decide)).trans ((if_neg (by decide)).trans ((if_neg (by decide)).trans ((if_neg (by decide)).trans ((if_neg (by decide)).trans ((if_neg (by decide)).trans e1))))))
    have N₆ : News g1 L1 h₂ ((M, om₁) :: (S, instObj 157 SD) :: (SD, so) :: (RD, rdo) :: (σp, instObj 66 σpd) :: (σpd, pdo) :: (news ++ own)) :=
      news_add N₅ (.head _) (news_add N₅ (.tail _ (List.mem_append_left _ hS)) (news_add N₅ (.tail _ (List.mem_append_left _ hSD)) (news_add N₅ (.tail _ (List.mem_append_left _ hRD)) (news_add N₅ (.tail _ (List.mem_append_left _ hp1)) (news_add N₅ (.tail _ (List.mem_append_left _ hp2)) (news_sub N₅ fun p hp => .tail _ hp))))))
    clear F₅ N₅
    have nS := hME _ hS
    have nSD := hME _ hSD
    have nRD := hME _ hRD
    have np := hME _ hp1
    have npd := hME _ hp2
    have hml := hok₁.len
    dsimp only at nS nSD nRD np npd
    by_cases hpl : 0 ≤ place
    · rcases hlk : look recs place with _ | r
      · have hv := valueAt_recs_none (g := fun r => Value.ref r.x) hlk
        have hno : checkB recs gen σs = false := check_no hsd (side_none (hch ▸ chain_no hok₁ hpl (.inr (.inl hlk))))
        rw [hno] at ret
        by_cases hm : place ∈ met₁
        · have hv2 := valueAt_met_yes hm
          try k_fold
          k_steps
          all_goals exact ret _ _ (by k_asm) (news_sub (by k_asm) fun p hp => by repeat (first | exact hp | exact List.mem_append_left _ hp | exact List.mem_append_right _ hp | refine List.mem_cons_of_mem _ ?_))
        · have hv2 := valueAt_met_no hm
          try k_fold
          k_steps
          all_goals exact ret _ _ (by k_asm) (news_sub (by k_asm) fun p hp => by repeat (first | exact hp | exact List.mem_append_left _ hp | exact List.mem_append_right _ hp | refine List.mem_cons_of_mem _ ?_))
      · obtain ⟨hr1, hr2⟩ := look_some hlk
        obtain ⟨hx1, ro, hx2, hro⟩ := hrec r hr1
        have nx1 := hME _ hx1
        have nx2 := hME _ hx2
        dsimp only at nx1 nx2
        have hro' := hro
        obtain ⟨τ, hro'⟩ := hro'
        have N₆ := news_add N₆ (List.mem_append_left own hx1 |> fun h => List.mem_cons_of_mem _ (List.mem_cons_of_mem _ (List.mem_cons_of_mem _ (List.mem_cons_of_mem _ (List.mem_cons_of_mem _ (List.mem_cons_of_mem _ h)))))) (news_add N₆ (List.mem_append_left own hx2 |> fun h => List.mem_cons_of_mem _ (List.mem_cons_of_mem _ (List.mem_cons_of_mem _ (List.mem_cons_of_mem _ (List.mem_cons_of_mem _ (List.mem_cons_of_mem _ h)))))) N₆)
        have hv := valueAt_recs_some (g := fun r => Value.ref r.x) hlk
        by_cases hm : place ∈ met₁
        · have hv2 := valueAt_met_yes hm
          have hno : checkB recs gen σs = false := check_no hsd (side_none (hch ▸ chain_no hok₁ hpl (.inl hm)))
          rw [hno] at ret
          try k_fold
          k_steps
          all_goals exact ret _ _ (by k_asm) (news_sub (by k_asm) fun p hp => by repeat (first | exact hp | exact List.mem_append_left _ hp | exact List.mem_append_right _ hp | refine List.mem_cons_of_mem _ ?_))
        · have hv2 := valueAt_met_no hm
          try k_fold
          k_steps
          · rename soundB r place σf gen = true => hs
            rename Obj.IsDictOf _ _ (stored _ _ _) => hd'
            rw [stored_met hm] at hd'
            dsimp only [WhileStep2]
            exact ⟨_, _, _, _, recs.length + 1 - (met₁ ++ [place]).length, rfl, by k_asm, news_sub (by k_asm) (fun p hp => by rcases List.mem_cons.mp hp with rfl | hp; (repeat (first | exact List.mem_cons_self .. | refine List.mem_cons_of_mem _ ?_)); (repeat (first | exact hp | refine List.mem_cons_of_mem _ ?_))), by rw [List.length_append, List.length_singleton]; omega,
              met₁ ++ [place], _, place, r.next, _, _, rfl, rfl, hd', hok₁.snoc hm hlk, (chain_go hok₁ hpl hm hlk hs) ▸ hch, by rfl, by rfl, by rfl, by rfl, by rfl, by rfl, by rfl⟩
          · rename soundB r place σf gen = false => hs
            have hno : checkB recs gen σs = false := check_no hsd (side_none (hch ▸ chain_no hok₁ hpl (.inr (.inr ⟨r, hlk, hs⟩))))
            rw [hno] at ret
            exact ret _ _ (by k_asm) (news_sub (by k_asm) fun p hp => by repeat (first | exact hp | exact List.mem_append_left _ hp | exact List.mem_append_right _ hp | refine List.mem_cons_of_mem _ ?_))
    · have hch2 := hch.symm.trans (chain_stop hok₁ hpl)
      try k_fold
      k_steps
      · have hno : checkB recs gen σs = false := check_no hsd (side_bad hch2 (.inl (by assumption)))
        rw [hno] at ret
        exact ret _ _ (by k_asm) (news_sub (by k_asm) fun p hp => by repeat (first | exact hp | exact List.mem_append_left _ hp | exact List.mem_append_right _ hp | refine List.mem_cons_of_mem _ ?_))
      · have hno : checkB recs gen σs = false := check_no hsd (side_bad hch2 (.inr ⟨by assumption, by omega⟩))
        rw [hno] at ret
        exact ret _ _ (by k_asm) (news_sub (by k_asm) fun p hp => by repeat (first | exact hp | exact List.mem_append_left _ hp | exact List.mem_append_right _ hp | refine List.mem_cons_of_mem _ ?_))
      all_goals (
        refine ⟨_, _, _, _, (M, om₁) :: news, rfl, by k_asm, by k_asm, fun p hp => ?_, fun p hp => by repeat (first | exact hp | exact List.mem_append_left _ hp | exact List.mem_append_right _ hp | refine List.mem_cons_of_mem _ ?_), hoff, List.mem_cons_of_mem _ hP, met₁, om₁, rfl, hmet₁, hok₁, check_next hsd (side_good hch2 ?_ ?_), by rfl, by rfl, by rfl⟩
        · rcases List.mem_cons.mp hp with rfl | hp; (repeat (first | exact List.mem_cons_self .. | refine List.mem_cons_of_mem _ ?_)); (repeat (first | exact hp | exact List.mem_append_left _ hp | exact List.mem_append_right _ hp | refine List.mem_cons_of_mem _ ?_))
        · show last = σlast
          omega
        · show ¬ ((σkind != _) = true ∧ 0 ≤ last)
          first | (rintro ⟨h9, h8⟩; omega) | (rintro ⟨h9, h8⟩; rename (σkind != _) = false => h7; rw [h7] at h9; cases h9))
  · rintro m₁ nx h tk ⟨met, om', rfl, hmet, hok, hsd, m1, m2, m3⟩ F₂ N₂
    have hB : checkB recs gen σs = true := by
      rw [List.length_map, List.drop_length] at hsd
      unfold checkB
      rw [← hsd]; rfl
    rw [hB] at ret
    try k_fold
    try dsimp only
    k_steps
    exact ret _ _ (by k_asm) (news_sub (by k_asm) fun p hp => List.mem_cons_of_mem _ hp)
end Mine

/-! LSoundW -/
namespace Mine
set_option maxRecDepth 100000
set_option maxHeartbeats 8000000


theorem met_in {prog : Program} {w : World} {A : Around} {E : Value → Shared → Prop} {s : Shared} {h₀ : Heap} {L l : Addr} {news : List (Addr × Obj)} {its : Array Value} {n : Nat} {ns : List Int} {k : Int} {t : Tok} {Q : Value → Shared → Prop}
    (N : News h₀ L s.heap news) (hm : (l, listOf its n) ∈ news) (hi : IntsAre its.toList ns) (b : Bool) (hb : ns.any (· == k) = b) (h : Q (.bool b) s) : wpAny (model prog w) A (compareOp .In (.int k t) (.ref l)) Q E s :=
  in_list_ints (kso_isList N hm rfl) hi (by rw [hb]; exact h)
theorem any_yes {ns : List Int} {k : Int} (h : k ∈ ns) : ns.any (· == k) = true := by simpa using h
theorem any_no {ns : List Int} {k : Int} (h : k ∉ ns) : ns.any (· == k) = false := by
  rw [List.any_eq_false]
  intro x hx
  simp only [beq_iff_eq]
  rintro rfl
  exact h hx

noncomputable abbrev LsFor (recs : List Rec) (gen : Int) (σs : List Side) (news : List (Addr × Obj)) (M RW : Nat) (tg : Tok) (i : Nat) (m : Str → Option Value) (nx : List (Addr × Obj)) : Prop :=
  ∃ met its n, nx = (M, listOf its n) :: news ∧ IntsAre its.toList met ∧ MetOk recs met ∧ sides recs gen (σs.drop i) met = sides recs gen σs [] ∧
      m (Str.ofString "rows") = some (.ref RW) ∧ m (Str.ofString "met") = some (.ref M) ∧ m (Str.ofString "now") = some (.int gen tg)
noncomputable abbrev LsWhile (recs : List Rec) (gen : Int) (rest : List (Addr × Obj)) (M RW : Nat) (tg : Tok) (σf : Int) (σow : Nat) (σfirst : Int) (met : List Int) (n : Nat) (m : Str → Option Value) (nx : List (Addr × Obj)) : Prop :=
  ∃ met₁ its₁ mn₁ last place t1 t2, n = recs.length + 1 - met₁.length ∧ nx = (M, listOf its₁ mn₁) :: rest ∧ IntsAre its₁.toList met₁ ∧ MetOk recs met₁ ∧
        chain recs σf gen n met₁ last place = chain recs σf gen (recs.length + 1 - met.length) met (-1) σfirst ∧
        m (Str.ofString "rows") = some (.ref RW) ∧ m (Str.ofString "met") = some (.ref M) ∧ m (Str.ofString "now") = some (.int gen tg) ∧ m (Str.ofString "owner") = some (.ref σow) ∧
        m (Str.ofString "last") = some (.int last t1) ∧ m (Str.ofString "place") = some (.int place t2)
theorem lsound_spec {w : World} {p : Program} {loose : List Str} {mean : ExcName → Option Value} {mg mb : Str → Option Value}
  {dp un : Nat} {gd : Option (List Code)} {cn : Str} {cs : Scope} {a : Addr} {ccd : Value} {cl : List (Str × Addr)} {outer : List Env} {A₀ : Around} {base h₀ : Heap} {L : Addr} {m : Str → Option Value} {hs0 : Heap} {gn : Array GenState} {dr : Drawn} {tk0 : Nat} {os : OsState} {Q E : Value → Shared → Prop}
  {news : List (Addr × Obj)} {RW OWS on : Nat} {gen : Int} {tg : Tok} {rwo : Obj} {recs : List Rec} {σs : List Side}
  (B : Below A₀ base outer h₀) (F : Fr h₀ L hs0 m) (T : Top p loose mean mg mb h₀) (hk : cs.kind = .function)
  (hdp : dp + 40 < recursionLimit) (hun : un + 400 < cLine)
  (N : News h₀ L hs0 news)
  (hRW : (RW, rwo) ∈ news) (hrw : rwo.IsDictOf (intKind Challenge.rw_no0154_01.row.prog w) (recs.map fun r => (r.place, Value.ref r.rw))) (hRWm : (RW == sysModules) = false)
  (hrec : ∀ r ∈ recs, ∃ o, (r.rw, o) ∈ news ∧ RowObj r o)
  (hO : (OWS, listOf (σs.map fun σ => Value.ref σ.ow).toArray on) ∈ news)
  (hσ : ∀ σ ∈ σs, ∃ o, (σ.ow, o) ∈ news ∧ OwnObj σ o)
  (hlen : recs.length ≤ 100) (hgen : gen < 2 ^ 40) (hgen0 : 0 ≤ gen)
  (ret : ∀ h' tk', Fr h₀ L h' m → News h₀ L h' news → Q (.bool (checkB recs gen σs)) ⟨h', gn, dr, tk', os⟩) :
  (hd.heap_39 w.params).In h₀ → wpAny (model Challenge.rw_no0154_01.row.prog w) (ktrTop dp un gd cn cs L a ccd cl outer) (call (.ref 189) [.ref RW, .ref OWS, .int gen tg]) Q E ⟨hs0, gn, dr, tk0, os⟩ := by
  k_fill
  w_top off
  intro X
  k_with_none
  k_with "k_all" => first | assumption | exact List.forall_mem_nil _ | exact dropL_ne (by k_memK) | exact all_ne_of_allLt (by assumption) | exact all_ne_of_lt (by assumption) | exact List.forall_mem_cons.mpr ⟨by first | with_reducible assumption | exact Ne.symm (by with_reducible assumption) | exact Nat.ne_of_lt (by with_reducible assumption) | exact Nat.ne_of_gt (by with_reducible assumption) | exact Nat.ne_of_lt (And.left (by with_reducible assumption)) | exact Nat.ne_of_gt (And.left (by with_reducible assumption)) | exact Nat.ne_of_lt (And.left (And.right (by with_reducible assumption))) | exact Nat.ne_of_gt (And.left (And.right (by with_reducible assumption))) | exact Nat.ne_of_lt (And.left (And.right (And.right (by with_reducible assumption)))) | exact Nat.ne_of_gt (And.left (And.right (And.right (by with_reducible assumption)))) | exact Nat.ne_of_lt (And.left (And.right (And.right (And.right (by with_reducible assumption))))) | exact Nat.ne_of_gt (And.left (And.right (And.right (And.right (by with_reducible assumption))))) | exact Nat.ne_of_lt (And.left (And.right (And.right (And.right (And.right (by with_reducible assumption)))))) | exact Nat.ne_of_gt (And.left (And.right (And.right (And.right (And.right (by with_reducible assumption)))))) | exact Nat.ne_of_lt (And.left (And.right (And.right (And.right (And.right (And.right (by with_reducible assumption))))))) | exact Nat.ne_of_gt (And.left (And.right (And.right (And.right (And.right (And.right (by with_reducible assumption))))))) | exact Nat.ne_of_lt (And.left (And.right (And.right (And.right (And.right (And.right (And.right (by with_reducible assumption)))))))) | exact Nat.ne_of_gt (And.left (And.right (And.right (And.right (And.right (And.right (And.right (by with_reducible assumption)))))))) | k_ne, by k_all⟩
  k_with "k_updF" => first | exact UpdF.head (by k_all) | exact UpdF.tail (by first | with_reducible assumption | exact Ne.symm (by with_reducible assumption) | exact Nat.ne_of_lt (by with_reducible assumption) | exact Nat.ne_of_gt (by with_reducible assumption) | exact Nat.ne_of_lt (And.left (by with_reducible assumption)) | exact Nat.ne_of_gt (And.left (by with_reducible assumption)) | exact Nat.ne_of_lt (And.left (And.right (by with_reducible assumption))) | exact Nat.ne_of_gt (And.left (And.right (by with_reducible assumption))) | exact Nat.ne_of_lt (And.left (And.right (And.right (by with_reducible assumption)))) | exact Nat.ne_of_gt (And.left (And.right (And.right (by with_reducible assumption)))) | exact Nat.ne_of_lt (And.left (And.right (And.right (And.right (by with_reducible assumption))))) | exact Nat.ne_of_gt (And.left (And.right (And.right (And.right (by with_reducible assumption))))) | exact Nat.ne_of_lt (And.left (And.right (And.right (And.right (And.right (by with_reducible assumption)))))) | exact Nat.ne_of_gt (And.left (And.right (And.right (And.right (And.right (by with_reducible assumption)))))) | exact Nat.ne_of_lt (And.left (And.right (And.right (And.right (And.right (And.right (by with_reducible assumption))))))) | exact Nat.ne_of_gt (And.left (And.right (And.right (And.right (And.right (And.right (by with_reducible assumption))))))) | exact Nat.ne_of_lt (And.left (And.right (And.right (And.right (And.right (And.right (And.right (by with_reducible assumption)))))))) | exact Nat.ne_of_gt (And.left (And.right (And.right (And.right (And.right (And.right (And.right (by with_reducible assumption)))))))) | k_ne) (by k_updF)
  k_with "k_upd" => first | exact Upd.head (by k_all) | exact Upd.tail (by first | with_reducible assumption | exact Ne.symm (by with_reducible assumption) | exact Nat.ne_of_lt (by with_reducible assumption) | exact Nat.ne_of_gt (by with_reducible assumption) | exact Nat.ne_of_lt (And.left (by with_reducible assumption)) | exact Nat.ne_of_gt (And.left (by with_reducible assumption)) | exact Nat.ne_of_lt (And.left (And.right (by with_reducible assumption))) | exact Nat.ne_of_gt (And.left (And.right (by with_reducible assumption))) | exact Nat.ne_of_lt (And.left (And.right (And.right (by with_reducible assumption)))) | exact Nat.ne_of_gt (And.left (And.right (And.right (by with_reducible assumption)))) | exact Nat.ne_of_lt (And.left (And.right (And.right (And.right (by with_reducible assumption))))) | exact Nat.ne_of_gt (And.left (And.right (And.right (And.right (by with_reducible assumption))))) | exact Nat.ne_of_lt (And.left (And.right (And.right (And.right (And.right (by with_reducible assumption)))))) | exact Nat.ne_of_gt (And.left (And.right (And.right (And.right (And.right (by with_reducible assumption)))))) | exact Nat.ne_of_lt (And.left (And.right (And.right (And.right (And.right (And.right (by with_reducible assumption))))))) | exact Nat.ne_of_gt (And.left (And.right (And.right (And.right (And.right (And.right (by with_reducible assumption))))))) | exact Nat.ne_of_lt (And.left (And.right (And.right (And.right (And.right (And.right (And.right (by with_reducible assumption)))))))) | exact Nat.ne_of_gt (And.left (And.right (And.right (And.right (And.right (And.right (And.right (by with_reducible assumption)))))))) | k_ne) (by k_upd)
  k_with "exec For Name Name cons nil" => refine stop_here ?_
  k_with "exec While Compare cons nil" => refine stop_here ?_
  k_with "WhileStep2" => (refine whileStep2_ret ?_; dsimp only)
  k_with "subscriptTail" => ((with_reducible show wpAny _ _ (subscriptTail _ _ (Value.ref _) (Value.int _ _)) _ _ _); k_dflt (refine kda_item (knd := intKind _ _) (by k_asm) (by k_mem) (by with_reducible assumption) (intKind_is _ _ _ _) (by with_reducible assumption) ?_))
  k_with "subscriptTail" => ((with_reducible show wpAny _ _ (subscriptTail _ _ (Value.ref _) (Value.int _ _)) _ _ _); k_dflt (refine item_lst (by k_asm) (by k_mem) (by decide) (by decide) (by rfl) ?_))
  k_with "compareOp NotIn int ref" => k_dflt (refine kdg_notin (knd := intKind _ _) (by k_asm) (by k_mem) (by with_reducible assumption) (by with_reducible assumption) (intKind_is _ _ _ _) _ (by with_reducible assumption) ?_)
  k_with "compareOp NotIn int ref" => k_dflt (refine range_notin (by with_reducible assumption) ?_)
  k_with "compareOp In int ref" => k_dflt (refine met_in (by k_asm) (by k_mem) (by with_reducible assumption) _ (by with_reducible assumption) ?_)
  refine wpAny_call ?_
  k_dflt ktr_enter
  k_steps
  rename_i g1 L1 _h1 FG1 B1 X1 T1 M _h2 l1 h1 F1 N1
  clear _h1 _h2
  have hME : ∀ p ∈ news, p.1 ≠ M := fun p hp => Nat.ne_of_lt (l1 p hp)
  refine ⟨?_⟩
  with_unfolding_all refine For_invVF F1 (by exact rfl) (by exact rfl) ?_
  k_dflt (refine ld F1 (by rfl) ?_)
  refine kdl_iter (LsFor recs gen σs news M RW tg) (by rfl) (List.mem_cons_of_mem _ hO) F1 N1 ?_ ?_ ?_
  · exact ⟨[], #[], 0, rfl, .nil, ⟨List.nodup_nil, fun _ h => nomatch h⟩, by simp, by rfl, by rfl, by rfl⟩
  · intro i v m₁ nx h tk own hki hoff hmem hJ F₂ N₂
    try k_fold
    obtain ⟨met, its, mn, rfl, hmet, hok, hsd, m1, m2, m3⟩ := hJ
    obtain ⟨σ, hσi, rfl⟩ : ∃ σ, σs[i]? = some σ ∧ Value.ref σ.ow = v := by
      rw [List.getElem?_map] at hki
      exact Option.map_eq_some_iff.mp hki
    have hmemσ : σ ∈ σs := List.mem_of_getElem? hσi
    have hdrop : σs.drop i = σ :: σs.drop (i + 1) := by
      obtain ⟨hlt, e⟩ := List.getElem?_eq_some_iff.mp hσi
      rw [← e, List.drop_eq_getElem_cons hlt]
    rw [hdrop] at hsd
    obtain ⟨owo, hp1, τo, rfl⟩ := hσ σ hmemσ
    obtain ⟨σf, σow, σp, σpd, σkind, σfirst, σlast⟩ := σ
    dsimp only at *
    have hoffM : ∀ p ∈ news ++ own, p.1 ≠ M := fun p hp => (List.mem_append.mp hp).elim (hME p) fun h => hoff p h M (List.mem_cons_self ..)
    have F₃ : Fr g1 L1 h _ := (fr_put (x := Str.ofString "rows") (v := .ref RW) (fr_put (x := Str.ofString "met") (v := .ref M) (fr_put (x := Str.ofString "now") (v := .int gen tg) F₂ ((if_neg (by decide)).trans m3)) ((if_neg (by decide)).trans ((if_neg (by decide)).trans m2))) ((if_neg (by decide)).trans ((if_neg (by decide)).trans ((if_neg (by decide)).trans m1))))
    have N₃ : News g1 L1 h ((M, listOf its mn) :: (RW, rwo) :: (σow, _) :: (news ++ own)) :=
      news_add N₂ (.head _) (news_add N₂ (.tail _ (List.mem_append_left _ hRW)) (news_add N₂ (.tail _ (List.mem_append_left _ hp1)) (news_sub N₂ fun p hp => .tail _ hp)))
    clear F₂ N₂ F1 N1
    try k_fold
    k_steps
    rename Fr g1 L1 _ _ => F₄
    rename News g1 L1 _ _ => N₄
    have N₅ : News g1 L1 _ ((M, listOf its mn) :: (news ++ own)) := news_sub N₄ fun p hp => by
      rcases List.mem_cons.mp hp with rfl | hp
      · exact List.mem_cons_self ..
      · iterate 3 (refine List.mem_cons_of_mem _ ?_)
        exact hp
    refine ⟨?_⟩
    refine While_inv2 (LsWhile recs gen (news ++ own) M RW tg σf σow σfirst met) F₄ N₅
      ⟨met, its, mn, -1, σfirst, _, _, rfl, rfl, hmet, hok, rfl, by rfl, by rfl, by rfl, by rfl, by rfl, by rfl⟩ ?_ (by passes_own)
    clear F₄ N₄ N₅
    intro n m₂ nx₂ h₂ tk₂ F₅ N₅ hJ
    try k_fold
    obtain ⟨met₁, its₁, mn₁, last, place, t1, t2, rfl, rfl, hmet₁, hok₁, hch, e1, e2, e3, e4, e6, e7⟩ := hJ
    have F₆ : Fr g1 L1 h₂ _ := (fr_put (x := Str.ofString "rows") (v := .ref RW) (fr_put (x := Str.ofString "met") (v := .ref M) (fr_put (x := Str.ofString "now") (v := .int gen tg) (fr_put (x := Str.ofString "owner") (v := .ref σow) (fr_put (x := Str.ofString "last") (v := .int last t1) (fr_put (x := Str.ofString "place") (v := .int place t2) F₅ e7) ((if_neg (by decide)).trans e6)) ((if_neg (by decide)).trans ((if_neg (by decide)).trans e4))) ((if_neg (by decide)).trans ((if_neg (by decide)).trans ((if_neg (by decide)).trans e3)))) ((if_neg (by decide)).trans ((if_neg (by decide)).trans ((if_neg (by decide)).trans ((if_neg (by decide)).trans e2))))) ((if_neg (by decide)).trans ((if_neg (by decide)).trans ((if_neg (by decide)).trans ((if_neg (by decide)).trans ((if_neg (by decide)).trans e1))))))
    have N₆ : News g1 L1 h₂ ((M, listOf its₁ mn₁) :: (RW, rwo) :: (σow, _) :: (news ++ own)) :=
      news_add N₅ (.head _) (news_add N₅ (.tail _ (List.mem_append_left _ hRW)) (news_add N₅ (.tail _ (List.mem_append_left _ hp1)) (news_sub N₅ fun p hp => .tail _ hp)))
    clear F₅ N₅
    have nRW := hME _ hRW
    have npd := hME _ hp1
    have hml := hok₁.len
    dsimp only at nRW npd
    by_cases hpl : 0 ≤ place
    · rcases hlk : look recs place with _ | r
      · have hv := valueAt_recs_none (g := fun r => Value.ref r.rw) hlk
        have hv1 : (valueAt (recs.map fun r => (r.place, Value.ref r.rw)) place).isSome = false := by rw [hv]; rfl
        have hno : checkB recs gen σs = false := check_no hsd (side_none (hch ▸ chain_no hok₁ hpl (.inr (.inl hlk))))
        rw [hno] at ret
        by_cases hm : place ∈ met₁
        · have hv2 := any_yes hm
          try k_fold
          k_steps
          all_goals exact ret _ _ (by k_asm) (news_sub (by k_asm) fun p hp => by repeat (first | exact hp | exact List.mem_append_left _ hp | exact List.mem_append_right _ hp | refine List.mem_cons_of_mem _ ?_))
        · have hv2 := any_no hm
          try k_fold
          k_steps
          all_goals exact ret _ _ (by k_asm) (news_sub (by k_asm) fun p hp => by repeat (first | exact hp | exact List.mem_append_left _ hp | exact List.mem_append_right _ hp | refine List.mem_cons_of_mem _ ?_))
      · obtain ⟨hr1, hr2⟩ := look_some hlk
        obtain ⟨ro, hx2, τw, rfl⟩ := hrec r hr1
        have nx2 := hME _ hx2
        dsimp only at nx2
        have N₆ := news_add N₆ (List.mem_append_left own hx2 |> fun h => List.mem_cons_of_mem _ (List.mem_cons_of_mem _ (List.mem_cons_of_mem _ h))) N₆
        have hv := valueAt_recs_some (g := fun r => Value.ref r.rw) hlk
        have hv1 : (valueAt (recs.map fun r => (r.place, Value.ref r.rw)) place).isSome = true := by rw [hv]; rfl
        by_cases hm : place ∈ met₁
        · have hv2 := any_yes hm
          have hno : checkB recs gen σs = false := check_no hsd (side_none (hch ▸ chain_no hok₁ hpl (.inl hm)))
          rw [hno] at ret
          try k_fold
          k_steps
          all_goals exact ret _ _ (by k_asm) (news_sub (by k_asm) fun p hp => by repeat (first | exact hp | exact List.mem_append_left _ hp | exact List.mem_append_right _ hp | refine List.mem_cons_of_mem _ ?_))
        · have hv2 := any_no hm
          try k_fold
          k_steps
          all_goals (
            have z0 : [r.key, r.functor, r.birth, r.death, r.next].getD (Int.toNat 0) 0 = r.key := rfl
            have z1 : [r.key, r.functor, r.birth, r.death, r.next].getD (Int.toNat 1) 0 = r.functor := rfl
            have z2 : [r.key, r.functor, r.birth, r.death, r.next].getD (Int.toNat 2) 0 = r.birth := rfl
            have z3 : [r.key, r.functor, r.birth, r.death, r.next].getD (Int.toNat 3) 0 = r.death := rfl
            have z4 : [r.key, r.functor, r.birth, r.death, r.next].getD (Int.toNat 4) 0 = r.next := rfl)
          all_goals first
            | (have hs : soundB r place σf gen = true := by
                 simp only [soundB, Bool.and_eq_true, Bool.or_eq_true, decide_eq_true_eq]; omega
               dsimp only [WhileStep2]
               refine ⟨_, _, _, _, recs.length + 1 - (met₁ ++ [place]).length, rfl, by k_asm, news_sub (by k_asm) (fun p hp => by rcases List.mem_cons.mp hp with rfl | hp; (repeat (first | exact List.mem_cons_self .. | refine List.mem_cons_of_mem _ ?_)); (repeat (first | exact hp | refine List.mem_cons_of_mem _ ?_))), by rw [List.length_append, List.length_singleton]; omega,
                 met₁ ++ [place], its₁.push (.int place t2), mn₁ + 1, place, r.next, _, _, rfl, rfl, by rw [Array.toList_push]; exact ksk_snoc hmet₁, hok₁.snoc hm hlk, (chain_go hok₁ hpl hm hlk hs) ▸ hch, by rfl, by rfl, by rfl, by rfl, by rfl, by rfl⟩)
            | (have hs : soundB r place σf gen = false := by
                 rw [Bool.eq_false_iff]
                 simp only [soundB, ne_eq, Bool.and_eq_true, Bool.or_eq_true, decide_eq_true_eq]; omega
               have hno : checkB recs gen σs = false := check_no hsd (side_none (hch ▸ chain_no hok₁ hpl (.inr (.inr ⟨r, hlk, hs⟩))))
               rw [hno] at ret
               exact ret _ _ (by k_asm) (news_sub (by k_asm) fun p hp => by repeat (first | exact hp | exact List.mem_append_left _ hp | exact List.mem_append_right _ hp | refine List.mem_cons_of_mem _ ?_)))
    · have hch2 := hch.symm.trans (chain_stop hok₁ hpl)
      try k_fold
      k_steps
      · have hno : checkB recs gen σs = false := check_no hsd (side_bad hch2 (.inl (by assumption)))
        rw [hno] at ret
        exact ret _ _ (by k_asm) (news_sub (by k_asm) fun p hp => by repeat (first | exact hp | exact List.mem_append_left _ hp | exact List.mem_append_right _ hp | refine List.mem_cons_of_mem _ ?_))
      · have hno : checkB recs gen σs = false := check_no hsd (side_bad hch2 (.inr ⟨by assumption, by omega⟩))
        rw [hno] at ret
        exact ret _ _ (by k_asm) (news_sub (by k_asm) fun p hp => by repeat (first | exact hp | exact List.mem_append_left _ hp | exact List.mem_append_right _ hp | refine List.mem_cons_of_mem _ ?_))
      all_goals (
        refine ⟨_, _, _, _, (M, listOf its₁ mn₁) :: news, rfl, by k_asm, by k_asm, fun p hp => ?_, fun p hp => by repeat (first | exact hp | exact List.mem_append_left _ hp | exact List.mem_append_right _ hp | refine List.mem_cons_of_mem _ ?_), hoff, List.mem_cons_of_mem _ hO, met₁, its₁, mn₁, rfl, hmet₁, hok₁, check_next hsd (side_good hch2 ?_ ?_), by rfl, by rfl, by rfl⟩
        · rcases List.mem_cons.mp hp with rfl | hp; (repeat (first | exact List.mem_cons_self .. | refine List.mem_cons_of_mem _ ?_)); (repeat (first | exact hp | exact List.mem_append_left _ hp | exact List.mem_append_right _ hp | refine List.mem_cons_of_mem _ ?_))
        · show last = σlast
          omega
        · show ¬ ((σkind != _) = true ∧ 0 ≤ last)
          first | (rintro ⟨h9, h8⟩; omega) | (rintro ⟨h9, h8⟩; rename (σkind != _) = false => h7; rw [h7] at h9; cases h9))
  · rintro m₁ nx h tk ⟨met, its, mn, rfl, hmet, hok, hsd, m1, m2, m3⟩ F₂ N₂
    have hB : checkB recs gen σs = true := by
      rw [List.length_map, List.drop_length] at hsd
      unfold checkB
      rw [← hsd]; rfl
    rw [hB] at ret
    try k_fold
    try dsimp only
    k_steps
    exact ret _ _ (by k_asm) (news_sub (by k_asm) fun p hp => List.mem_cons_of_mem _ hp)
end Mine

/-! CtorW -/
namespace Mine
set_option maxRecDepth 100000
set_option maxHeartbeats 8000000

theorem recctor_spec {w : World} {p : Program} {loose : List Str} {mean : ExcName → Option Value} {mg mb : Str → Option Value}
  {dp un : Nat} {gd : Option (List Code)} {cn : Str} {cs : Scope} {a : Addr} {ccd : Value} {cl : List (Str × Addr)} {outer : List Env} {A₀ : Around} {base h₀ : Heap} {L : Addr} {m : Str → Option Value} {hs0 : Heap} {gn : Array GenState} {dr : Drawn} {tk0 : Nat} {os : OsState} {Q E : Value → Shared → Prop}
  {news : List (Addr × Obj)} {key f birth : Int} {t1 t2 t5 : Tok} {v3 v4 v8 : Value}
  (B : Below A₀ base outer h₀) (F : Fr h₀ L hs0 m) (T : Top p loose mean mg mb h₀) (hk : cs.kind = .function)
  (hdp : dp + 20 < recursionLimit)
  (N : News h₀ L hs0 news)
  (ret : ∀ (x dx : Nat) ro h' tk', Fr h₀ L h' m → News h₀ L h' ((x, instObj 38 dx) :: (dx, ro) :: news) → RecObj w.params ⟨key, x, dx, 0, key, f, birth, -1, -1⟩ ro → (∀ p ∈ news, p.1 < dx) → dx < x → Q (.ref x) ⟨h', gn, dr, tk', os⟩) :
  (hd.heap_39 w.params).In h₀ → wpAny (model Challenge.rw_no0154_01.row.prog w) (ktrTop dp un gd cn cs L a ccd cl outer) (call (.ref 38) [.int key t1, .int f t2, v3, v4, .int birth t5, v8]) Q E ⟨hs0, gn, dr, tk0, os⟩ := by
  k_fill
  w_top off
  intro X
  k_with_none
  k_with "k_all" => first | assumption | exact List.forall_mem_nil _ | exact dropL_ne (by k_memK) | exact all_ne_of_allLt (by assumption) | exact all_ne_of_lt (by assumption) | exact List.forall_mem_cons.mpr ⟨by first | with_reducible assumption | exact Ne.symm (by with_reducible assumption) | exact Nat.ne_of_lt (by with_reducible assumption) | exact Nat.ne_of_gt (by with_reducible assumption) | exact Nat.ne_of_lt (And.left (by with_reducible assumption)) | exact Nat.ne_of_gt (And.left (by with_reducible assumption)) | exact Nat.ne_of_lt (And.left (And.right (by with_reducible assumption))) | exact Nat.ne_of_gt (And.left (And.right (by with_reducible assumption))) | exact Nat.ne_of_lt (And.left (And.right (And.right (by with_reducible assumption)))) | exact Nat.ne_of_gt (And.left (And.right (And.right (by with_reducible assumption)))) | exact Nat.ne_of_lt (And.left (And.right (And.right (And.right (by with_reducible assumption))))) | exact Nat.ne_of_gt (And.left (And.right (And.right (And.right (by with_reducible assumption))))) | exact Nat.ne_of_lt (And.left (And.right (And.right (And.right (And.right (by with_reducible assumption)))))) | exact Nat.ne_of_gt (And.left (And.right (And.right (And.right (And.right (by with_reducible assumption)))))) | exact Nat.ne_of_lt (And.left (And.right (And.right (And.right (And.right (And.right (by with_reducible assumption))))))) | exact Nat.ne_of_gt (And.left (And.right (And.right (And.right (And.right (And.right (by with_reducible assumption))))))) | exact Nat.ne_of_lt (And.left (And.right (And.right (And.right (And.right (And.right (And.right (by with_reducible assumption)))))))) | exact Nat.ne_of_gt (And.left (And.right (And.right (And.right (And.right (And.right (And.right (by with_reducible assumption)))))))) | k_ne, by k_all⟩
  k_with "k_updF" => first | exact UpdF.head (by k_all) | exact UpdF.tail (by first | with_reducible assumption | exact Ne.symm (by with_reducible assumption) | exact Nat.ne_of_lt (by with_reducible assumption) | exact Nat.ne_of_gt (by with_reducible assumption) | exact Nat.ne_of_lt (And.left (by with_reducible assumption)) | exact Nat.ne_of_gt (And.left (by with_reducible assumption)) | exact Nat.ne_of_lt (And.left (And.right (by with_reducible assumption))) | exact Nat.ne_of_gt (And.left (And.right (by with_reducible assumption))) | exact Nat.ne_of_lt (And.left (And.right (And.right (by with_reducible assumption)))) | exact Nat.ne_of_gt (And.left (And.right (And.right (by with_reducible assumption)))) | exact Nat.ne_of_lt (And.left (And.right (And.right (And.right (by with_reducible assumption))))) | exact Nat.ne_of_gt (And.left (And.right (And.right (And.right (by with_reducible assumption))))) | exact Nat.ne_of_lt (And.left (And.right (And.right (And.right (And.right (by with_reducible assumption)))))) | exact Nat.ne_of_gt (And.left (And.right (And.right (And.right (And.right (by with_reducible assumption)))))) | exact Nat.ne_of_lt (And.left (And.right (And.right (And.right (And.right (And.right (by with_reducible assumption))))))) | exact Nat.ne_of_gt (And.left (And.right (And.right (And.right (And.right (And.right (by with_reducible assumption))))))) | exact Nat.ne_of_lt (And.left (And.right (And.right (And.right (And.right (And.right (And.right (by with_reducible assumption)))))))) | exact Nat.ne_of_gt (And.left (And.right (And.right (And.right (And.right (And.right (And.right (by with_reducible assumption)))))))) | k_ne) (by k_updF)
  k_with "k_upd" => first | exact Upd.head (by k_all) | exact Upd.tail (by first | with_reducible assumption | exact Ne.symm (by with_reducible assumption) | exact Nat.ne_of_lt (by with_reducible assumption) | exact Nat.ne_of_gt (by with_reducible assumption) | exact Nat.ne_of_lt (And.left (by with_reducible assumption)) | exact Nat.ne_of_gt (And.left (by with_reducible assumption)) | exact Nat.ne_of_lt (And.left (And.right (by with_reducible assumption))) | exact Nat.ne_of_gt (And.left (And.right (by with_reducible assumption))) | exact Nat.ne_of_lt (And.left (And.right (And.right (by with_reducible assumption)))) | exact Nat.ne_of_gt (And.left (And.right (And.right (by with_reducible assumption)))) | exact Nat.ne_of_lt (And.left (And.right (And.right (And.right (by with_reducible assumption))))) | exact Nat.ne_of_gt (And.left (And.right (And.right (And.right (by with_reducible assumption))))) | exact Nat.ne_of_lt (And.left (And.right (And.right (And.right (And.right (by with_reducible assumption)))))) | exact Nat.ne_of_gt (And.left (And.right (And.right (And.right (And.right (by with_reducible assumption)))))) | exact Nat.ne_of_lt (And.left (And.right (And.right (And.right (And.right (And.right (by with_reducible assumption))))))) | exact Nat.ne_of_gt (And.left (And.right (And.right (And.right (And.right (And.right (by with_reducible assumption))))))) | exact Nat.ne_of_lt (And.left (And.right (And.right (And.right (And.right (And.right (And.right (by with_reducible assumption)))))))) | exact Nat.ne_of_gt (And.left (And.right (And.right (And.right (And.right (And.right (And.right (by with_reducible assumption)))))))) | k_ne) (by k_upd)
  refine' call_cls ?k1 ?k2 ?k3 ?k4 ?k5 ?k6 ?_
  case k1 => k_asm
  case k2 => k_asm
  case k3 => k_asm
  case k4 => k_is
  case k5 => k_is
  case k6 => k_is
  intro x' d' h' F' N' l1 l2
  have l3 := ltN l2
  k_dflt ktr_enter
  k_steps
  all_goals exact ret _ _ _ _ _ (by k_asm) (by k_asm) (recObj rfl) l1 l2

theorem procctor_spec {w : World} {p : Program} {loose : List Str} {mean : ExcName → Option Value} {mg mb : Str → Option Value}
  {dp un : Nat} {gd : Option (List Code)} {cn : Str} {cs : Scope} {a : Addr} {ccd : Value} {cl : List (Str × Addr)} {outer : List Env} {A₀ : Around} {base h₀ : Heap} {L : Addr} {m : Str → Option Value} {hs0 : Heap} {gn : Array GenState} {dr : Drawn} {tk0 : Nat} {os : OsState} {Q E : Value → Shared → Prop}
  {news : List (Addr × Obj)} {f : Int} {kind : Str} {t1 t2 : Tok}
  (B : Below A₀ base outer h₀) (F : Fr h₀ L hs0 m) (T : Top p loose mean mg mb h₀) (hk : cs.kind = .function)
  (hdp : dp + 20 < recursionLimit)
  (N : News h₀ L hs0 news)
  (ret : ∀ (x dx : Nat) po h' tk', Fr h₀ L h' m → News h₀ L h' ((x, instObj 66 dx) :: (dx, po) :: news) → (∀ ow, ProcObj w.params ⟨f, ow, x, dx, kind, -1, -1⟩ po) → (∀ p ∈ news, p.1 < dx) → dx < x → Q (.ref x) ⟨h', gn, dr, tk', os⟩) :
  (hd.heap_39 w.params).In h₀ → wpAny (model Challenge.rw_no0154_01.row.prog w) (ktrTop dp un gd cn cs L a ccd cl outer) (call (.ref 66) [.int f t1, .str kind t2]) Q E ⟨hs0, gn, dr, tk0, os⟩ := by
  k_fill
  w_top off
  intro X
  k_with_none
  k_with "k_all" => first | assumption | exact List.forall_mem_nil _ | exact dropL_ne (by k_memK) | exact all_ne_of_allLt (by assumption) | exact all_ne_of_lt (by assumption) | exact List.forall_mem_cons.mpr ⟨by first | with_reducible assumption | exact Ne.symm (by with_reducible assumption) | exact Nat.ne_of_lt (by with_reducible assumption) | exact Nat.ne_of_gt (by with_reducible assumption) | exact Nat.ne_of_lt (And.left (by with_reducible assumption)) | exact Nat.ne_of_gt (And.left (by with_reducible assumption)) | exact Nat.ne_of_lt (And.left (And.right (by with_reducible assumption))) | exact Nat.ne_of_gt (And.left (And.right (by with_reducible assumption))) | exact Nat.ne_of_lt (And.left (And.right (And.right (by with_reducible assumption)))) | exact Nat.ne_of_gt (And.left (And.right (And.right (by with_reducible assumption)))) | exact Nat.ne_of_lt (And.left (And.right (And.right (And.right (by with_reducible assumption))))) | exact Nat.ne_of_gt (And.left (And.right (And.right (And.right (by with_reducible assumption))))) | exact Nat.ne_of_lt (And.left (And.right (And.right (And.right (And.right (by with_reducible assumption)))))) | exact Nat.ne_of_gt (And.left (And.right (And.right (And.right (And.right (by with_reducible assumption)))))) | exact Nat.ne_of_lt (And.left (And.right (And.right (And.right (And.right (And.right (by with_reducible assumption))))))) | exact Nat.ne_of_gt (And.left (And.right (And.right (And.right (And.right (And.right (by with_reducible assumption))))))) | exact Nat.ne_of_lt (And.left (And.right (And.right (And.right (And.right (And.right (And.right (by with_reducible assumption)))))))) | exact Nat.ne_of_gt (And.left (And.right (And.right (And.right (And.right (And.right (And.right (by with_reducible assumption)))))))) | k_ne, by k_all⟩
  k_with "k_updF" => first | exact UpdF.head (by k_all) | exact UpdF.tail (by first | with_reducible assumption | exact Ne.symm (by with_reducible assumption) | exact Nat.ne_of_lt (by with_reducible assumption) | exact Nat.ne_of_gt (by with_reducible assumption) | exact Nat.ne_of_lt (And.left (by with_reducible assumption)) | exact Nat.ne_of_gt (And.left (by with_reducible assumption)) | exact Nat.ne_of_lt (And.left (And.right (by with_reducible assumption))) | exact Nat.ne_of_gt (And.left (And.right (by with_reducible assumption))) | exact Nat.ne_of_lt (And.left (And.right (And.right (by with_reducible assumption)))) | exact Nat.ne_of_gt (And.left (And.right (And.right (by with_reducible assumption)))) | exact Nat.ne_of_lt (And.left (And.right (And.right (And.right (by with_reducible assumption))))) | exact Nat.ne_of_gt (And.left (And.right (And.right (And.right (by with_reducible assumption))))) | exact Nat.ne_of_lt (And.left (And.right (And.right (And.right (And.right (by with_reducible assumption)))))) | exact Nat.ne_of_gt (And.left (And.right (And.right (And.right (And.right (by with_reducible assumption)))))) | exact Nat.ne_of_lt (And.left (And.right (And.right (And.right (And.right (And.right (by with_reducible assumption))))))) | exact Nat.ne_of_gt (And.left (And.right (And.right (And.right (And.right (And.right (by with_reducible assumption))))))) | exact Nat.ne_of_lt (And.left (And.right (And.right (And.right (And.right (And.right (And.right (by with_reducible assumption)))))))) | exact Nat.ne_of_gt (And.left (And.right (And.right (And.right (And.right (And.right (And.right (by with_reducible assumption)))))))) | k_ne) (by k_updF)
  k_with "k_upd" => first | exact Upd.head (by k_all) | exact Upd.tail (by first | with_reducible assumption | exact Ne.symm (by with_reducible assumption) | exact Nat.ne_of_lt (by with_reducible assumption) | exact Nat.ne_of_gt (by with_reducible assumption) | exact Nat.ne_of_lt (And.left (by with_reducible assumption)) | exact Nat.ne_of_gt (And.left (by with_reducible assumption)) | exact Nat.ne_of_lt (And.left (And.right (by with_reducible assumption))) | exact Nat.ne_of_gt (And.left (And.right (by with_reducible assumption))) | exact Nat.ne_of_lt (And.left (And.right (And.right (by with_reducible assumption)))) | exact Nat.ne_of_gt (And.left (And.right (And.right (by with_reducible assumption)))) | exact Nat.ne_of_lt (And.left (And.right (And.right (And.right (by with_reducible assumption))))) | exact Nat.ne_of_gt (And.left (And.right (And.right (And.right (by with_reducible assumption))))) | exact Nat.ne_of_lt (And.left (And.right (And.right (And.right (And.right (by with_reducible assumption)))))) | exact Nat.ne_of_gt (And.left (And.right (And.right (And.right (And.right (by with_reducible assumption)))))) | exact Nat.ne_of_lt (And.left (And.right (And.right (And.right (And.right (And.right (by with_reducible assumption))))))) | exact Nat.ne_of_gt (And.left (And.right (And.right (And.right (And.right (And.right (by with_reducible assumption))))))) | exact Nat.ne_of_lt (And.left (And.right (And.right (And.right (And.right (And.right (And.right (by with_reducible assumption)))))))) | exact Nat.ne_of_gt (And.left (And.right (And.right (And.right (And.right (And.right (And.right (by with_reducible assumption)))))))) | k_ne) (by k_upd)
  refine' call_cls ?k1 ?k2 ?k3 ?k4 ?k5 ?k6 ?_
  case k1 => k_asm
  case k2 => k_asm
  case k3 => k_asm
  case k4 => k_is
  case k5 => k_is
  case k6 => k_is
  intro x' d' h' F' N' l1 l2
  have l3 := ltN l2
  k_dflt ktr_enter
  k_steps
  all_goals exact ret _ _ _ _ _ (by k_asm) (news_sub (by k_asm) fun p hp => List.mem_cons_of_mem _ (List.mem_cons_of_mem _ hp)) (fun _ => by exact (procObj rfl)) l1 l2
end Mine

/-! StoreW -/
namespace Mine
set_option maxRecDepth 100000
set_option maxHeartbeats 8000000

theorem stored_new {kvs : List (Int × Value)} {k : Int} {v : Value} (h : valueAt kvs k = none) : stored kvs k v = kvs ++ [(k, v)] := by
  unfold stored
  rw [if_neg]
  intro hc
  rw [List.any_eq_true] at hc
  obtain ⟨q, hq, he⟩ := hc
  unfold valueAt at h
  rw [Option.map_eq_none_iff, List.find?_eq_none] at h
  exact h q hq he

theorem newrec_spec {w : World} {p : Program} {loose : List Str} {mean : ExcName → Option Value} {mg mb : Str → Option Value}
  {dp un : Nat} {gd : Option (List Code)} {cn : Str} {cs : Scope} {a : Addr} {ccd : Value} {cl : List (Str × Addr)} {outer : List Env} {A₀ : Around} {base h₀ : Heap} {L : Addr} {m : Str → Option Value} {hs0 : Heap} {gn : Array GenState} {dr : Drawn} {tk0 : Nat} {os : OsState} {Q E : Value → Shared → Prop}
  {news : List (Addr × Obj)} {S SD RD a1 a2 : Nat} {nxt gen e : Int} {te : Tok} {so rdo po : Obj} {σ : Side} {kvs : List (Int × Value)}
  (B : Below A₀ base outer h₀) (F : Fr h₀ L hs0 m) (T : Top p loose mean mg mb h₀) (hk : cs.kind = .function)
  (hdp : dp + 40 < recursionLimit)
  (N₀ : News h₀ L hs0 news) (hS : (S, instObj 157 SD) ∈ news) (hSD : (SD, so) ∈ news) (hso : StoreObj w.params RD nxt gen so)
  (hRD : (RD, rdo) ∈ news) (hrd : rdo.IsDictOf (intKind Challenge.rw_no0154_01.row.prog w) kvs) (hnew : valueAt kvs nxt = none) (hlen : kvs.length ≤ 1000)
  (hp : (σ.p, instObj 66 σ.pd) ∈ news) (hpd : (σ.pd, po) ∈ news) (hpo : ProcObj w.params σ po)
  (n1 : S ≠ SD) (n2 : S ≠ RD) (n3 : SD ≠ RD) (n4 : σ.p ≠ SD) (n5 : σ.p ≠ RD) (n6 : σ.pd ≠ SD) (n7 : σ.pd ≠ RD)
  (ret : ∀ (x dx : Nat) ro' so' rdo' h' tk' news', Fr h₀ L h' m → News h₀ L h' news' → (x, instObj 38 dx) ∈ news' → (dx, ro') ∈ news' → RecObj w.params ⟨nxt, x, dx, 0, nxt, σ.f, gen + 1, -1, -1⟩ ro' →
     (SD, so') ∈ news' → StoreObj w.params RD (nxt + 1) (gen + 1) so' → (RD, rdo') ∈ news' → rdo'.IsDictOf (intKind Challenge.rw_no0154_01.row.prog w) (kvs ++ [(nxt, .ref x)]) →
     (∀ p ∈ news, p.1 ≠ SD → p.1 ≠ RD → p ∈ news') → (∀ p ∈ news, p.1 < dx) → dx < x → Q (.ref x) ⟨h', gn, dr, tk', os⟩) :
  (hd.heap_39 w.params).In h₀ → wpAny (model Challenge.rw_no0154_01.row.prog w) (ktrTop dp un gd cn cs L a ccd cl outer) (call (.ref 91) [.ref S, .ref σ.p, .ref a1, .ref a2, .int e te]) Q E ⟨hs0, gn, dr, tk0, os⟩ := by
  k_fill
  w_top off
  intro X
  k_with_none
  k_with "k_all" => first | assumption | exact List.forall_mem_nil _ | exact dropL_ne (by k_memK) | exact all_ne_of_allLt (by assumption) | exact all_ne_of_lt (by assumption) | exact List.forall_mem_cons.mpr ⟨by first | with_reducible assumption | exact Ne.symm (by with_reducible assumption) | exact Nat.ne_of_lt (by with_reducible assumption) | exact Nat.ne_of_gt (by with_reducible assumption) | exact Nat.ne_of_lt (And.left (by with_reducible assumption)) | exact Nat.ne_of_gt (And.left (by with_reducible assumption)) | exact Nat.ne_of_lt (And.left (And.right (by with_reducible assumption))) | exact Nat.ne_of_gt (And.left (And.right (by with_reducible assumption))) | exact Nat.ne_of_lt (And.left (And.right (And.right (by with_reducible assumption)))) | exact Nat.ne_of_gt (And.left (And.right (And.right (by with_reducible assumption)))) | exact Nat.ne_of_lt (And.left (And.right (And.right (And.right (by with_reducible assumption))))) | exact Nat.ne_of_gt (And.left (And.right (And.right (And.right (by with_reducible assumption))))) | exact Nat.ne_of_lt (And.left (And.right (And.right (And.right (And.right (by with_reducible assumption)))))) | exact Nat.ne_of_gt (And.left (And.right (And.right (And.right (And.right (by with_reducible assumption)))))) | exact Nat.ne_of_lt (And.left (And.right (And.right (And.right (And.right (And.right (by with_reducible assumption))))))) | exact Nat.ne_of_gt (And.left (And.right (And.right (And.right (And.right (And.right (by with_reducible assumption))))))) | exact Nat.ne_of_lt (And.left (And.right (And.right (And.right (And.right (And.right (And.right (by with_reducible assumption)))))))) | exact Nat.ne_of_gt (And.left (And.right (And.right (And.right (And.right (And.right (And.right (by with_reducible assumption)))))))) | k_ne, by k_all⟩
  k_with "k_updF" => first | exact UpdF.head (by k_all) | exact UpdF.tail (by first | with_reducible assumption | exact Ne.symm (by with_reducible assumption) | exact Nat.ne_of_lt (by with_reducible assumption) | exact Nat.ne_of_gt (by with_reducible assumption) | exact Nat.ne_of_lt (And.left (by with_reducible assumption)) | exact Nat.ne_of_gt (And.left (by with_reducible assumption)) | exact Nat.ne_of_lt (And.left (And.right (by with_reducible assumption))) | exact Nat.ne_of_gt (And.left (And.right (by with_reducible assumption))) | exact Nat.ne_of_lt (And.left (And.right (And.right (by with_reducible assumption)))) | exact Nat.ne_of_gt (And.left (And.right (And.right (by with_reducible assumption)))) | exact Nat.ne_of_lt (And.left (And.right (And.right (And.right (by with_reducible assumption))))) | exact Nat.ne_of_gt (And.left (And.right (And.right (And.right (by with_reducible assumption))))) | exact Nat.ne_of_lt (And.left (And.right (And.right (And.right (And.right (by with_reducible assumption)))))) | exact Nat.ne_of_gt (And.left (And.right (And.right (And.right (And.right (by with_reducible assumption)))))) | exact Nat.ne_of_lt (And.left (And.right (And.right (And.right (And.right (And.right (by with_reducible assumption))))))) | exact Nat.ne_of_gt (And.left (And.right (And.right (And.right (And.right (And.right (by with_reducible assumption))))))) | exact Nat.ne_of_lt (And.left (And.right (And.right (And.right (And.right (And.right (And.right (by with_reducible assumption)))))))) | exact Nat.ne_of_gt (And.left (And.right (And.right (And.right (And.right (And.right (And.right (by with_reducible assumption)))))))) | k_ne) (by k_updF)
  k_with "k_upd" => first | exact Upd.head (by k_all) | exact Upd.tail (by first | with_reducible assumption | exact Ne.symm (by with_reducible assumption) | exact Nat.ne_of_lt (by with_reducible assumption) | exact Nat.ne_of_gt (by with_reducible assumption) | exact Nat.ne_of_lt (And.left (by with_reducible assumption)) | exact Nat.ne_of_gt (And.left (by with_reducible assumption)) | exact Nat.ne_of_lt (And.left (And.right (by with_reducible assumption))) | exact Nat.ne_of_gt (And.left (And.right (by with_reducible assumption))) | exact Nat.ne_of_lt (And.left (And.right (And.right (by with_reducible assumption)))) | exact Nat.ne_of_gt (And.left (And.right (And.right (by with_reducible assumption)))) | exact Nat.ne_of_lt (And.left (And.right (And.right (And.right (by with_reducible assumption))))) | exact Nat.ne_of_gt (And.left (And.right (And.right (And.right (by with_reducible assumption))))) | exact Nat.ne_of_lt (And.left (And.right (And.right (And.right (And.right (by with_reducible assumption)))))) | exact Nat.ne_of_gt (And.left (And.right (And.right (And.right (And.right (by with_reducible assumption)))))) | exact Nat.ne_of_lt (And.left (And.right (And.right (And.right (And.right (And.right (by with_reducible assumption))))))) | exact Nat.ne_of_gt (And.left (And.right (And.right (And.right (And.right (And.right (by with_reducible assumption))))))) | exact Nat.ne_of_lt (And.left (And.right (And.right (And.right (And.right (And.right (And.right (by with_reducible assumption)))))))) | exact Nat.ne_of_gt (And.left (And.right (And.right (And.right (And.right (And.right (And.right (by with_reducible assumption)))))))) | k_ne) (by k_upd)
  k_with "getAttr ref" => k_dflt (refine get_opq (by k_asm) (by k_asm) (by k_asm) (by k_mem) (by k_mem) (by with_reducible assumption) (by k_is) (by k_is) (by k_is) (by k_is) (by k_get) (by k_handed) ?_)
  k_with "getMethod ref" => k_dflt (refine meth_opq (by k_asm) (by k_asm) (by k_asm) (by k_mem) (by k_mem) (by with_reducible assumption) (by k_is) (by k_is) (by k_is) (by k_get) ?_)
  k_with "setAttr ref" => k_dflt (refine set_opq (by k_asm) (by k_asm) (by k_asm) (by k_mem) (by k_updF) (by with_reducible assumption) (by k_is) (by k_is) (by k_is) (by k_is) (by k_get) (by k_put) (by exact Nat.le_of_ble_eq_true rfl) ?_; k_whole; intro h' o' he' F' N'; (try dsimp only at N'); (try k_sweep))
  k_with "setItem ref int" => (k_dflt (refine kda_set (knd := intKind _ _) (by k_asm) (by k_asm) (by k_updF) (by with_reducible assumption) (intKind_is _ _ _ _) (by (try rw [List.length_map]); rw [sizeLine_eq]; omega) ?_); intro h' o' F' N' hd'; (try dsimp only at N'))
  k_with "call ref" => ((with_reducible show wpAny _ _ (call (Value.ref 38) _) _ _ _); k_dflt (refine recctor_spec (by k_asm) (by k_asm) (by k_asm) (by exact rfl) (by ktr_room) (by k_asm) (fun x' dx' ro' h' tk' F' N' hro' l1 l2 => ?_) (by k_asm); (try k_lt l1); (try k_lt2 l2); (try k_sweep)))
  obtain ⟨τs, hso⟩ := hso
  obtain ⟨τp, hpo⟩ := hpo
  have N := news_add N₀ hS (news_add N₀ hSD (news_add N₀ hRD (news_add N₀ hp (news_add N₀ hpd (news_drop N₀ [SD, RD])))))
  obtain ⟨σf, σow, σp, σpd, σkind, σfirst, σlast⟩ := σ
  dsimp only at *
  clear N₀
  refine wpAny_call ?_
  k_dflt ktr_enter
  k_steps
  rename Obj.IsDictOf _ _ (stored _ _ _) => hd'
  rw [stored_new hnew] at hd'
  rename S < _ ∧ _ => l1
  rename (_ : Addr) < _ => l2
  have lt : ∀ p ∈ news, p.1 < _ := fun p hp => by
    by_cases h1 : p.1 = SD
    · rw [h1]; exact l1.2.1
    · by_cases h2 : p.1 = RD
      · rw [h2]; exact l1.2.2.1
      · exact kst_ltOf l1.2.2.2.2.2 p (mem_dropL.mpr ⟨hp, by simp [h1, h2]⟩)
  refine ret _ _ _ _ _ _ _ _ (by k_asm) (by k_asm) (by k_mem) (by k_mem) (by assumption) (by k_mem) (storeObj (by assumption)) (by k_mem) hd' ?_ lt l2
  intro p hp h1 h2
  exact List.mem_cons_of_mem _ (List.mem_cons_of_mem _ (List.mem_cons_of_mem _ (List.mem_cons_of_mem _ (List.mem_cons_of_mem _ (List.mem_cons_of_mem _ (List.mem_cons_of_mem _ (mem_dropL.mpr ⟨hp, by simp [h1, h2]⟩)))))))
end Mine

/-! AppW -/
namespace Mine
set_option maxRecDepth 100000
set_option maxHeartbeats 8000000

theorem valueAt_app {kvs l' : List (Int × Value)} {k : Int} {v : Value} (h : valueAt kvs k = some v) : valueAt (kvs ++ l') k = some v := by
  unfold valueAt at *
  rw [List.find?_append]
  obtain ⟨q, hq, rfl⟩ := Option.map_eq_some_iff.mp h
  rw [hq]; rfl
theorem prepend_spec {w : World} {p : Program} {loose : List Str} {mean : ExcName → Option Value} {mg mb : Str → Option Value}
  {dp un : Nat} {gd : Option (List Code)} {cn : Str} {cs : Scope} {a : Addr} {ccd : Value} {cl : List (Str × Addr)} {outer : List Env} {A₀ : Around} {base h₀ : Heap} {L : Addr} {m : Str → Option Value} {hs0 : Heap} {gn : Array GenState} {dr : Drawn} {tk0 : Nat} {os : OsState} {Q E : Value → Shared → Prop}
  {news : List (Addr × Obj)} {S SD RD a1 a2 : Nat} {nxt gen e : Int} {te : Tok} {so rdo po : Obj} {σ : Side} {kvs : List (Int × Value)}
  (B : Below A₀ base outer h₀) (F : Fr h₀ L hs0 m) (T : Top p loose mean mg mb h₀) (hk : cs.kind = .function)
  (hdp : dp + 60 < recursionLimit)
  (N₀ : News h₀ L hs0 news) (hS : (S, instObj 157 SD) ∈ news) (hSD : (SD, so) ∈ news) (hso : StoreObj w.params RD nxt gen so)
  (hRD : (RD, rdo) ∈ news) (hrd : rdo.IsDictOf (intKind Challenge.rw_no0154_01.row.prog w) kvs) (hnew : valueAt kvs nxt = none) (hlen : kvs.length ≤ 1000)
  (hp : (σ.p, instObj 66 σ.pd) ∈ news) (hpd : (σ.pd, po) ∈ news) (hpo : ProcObj w.params σ po)
  (n1 : S ≠ SD) (n2 : S ≠ RD) (n3 : SD ≠ RD) (n4 : σ.p ≠ SD) (n5 : σ.p ≠ RD) (n6 : σ.pd ≠ SD) (n7 : σ.pd ≠ RD) (n8 : S ≠ σ.pd) (n9 : σ.p ≠ σ.pd)
  (ret : ∀ (x dx : Nat) ro' so' rdo' po'  h' tk' news', Fr h₀ L h' m → News h₀ L h' news' → (x, instObj 38 dx) ∈ news' → (dx, ro') ∈ news' → RecObj w.params ⟨nxt, x, dx, 0, nxt, σ.f, gen + 1, -1, σ.first⟩ ro' →
     (SD, so') ∈ news' → StoreObj w.params RD (nxt + 1) (gen + 1) so' → (RD, rdo') ∈ news' → rdo'.IsDictOf (intKind Challenge.rw_no0154_01.row.prog w) (kvs ++ [(nxt, .ref x)]) →
     (σ.pd, po') ∈ news' → ProcObj w.params ⟨σ.f, σ.ow, σ.p, σ.pd, σ.kind, nxt, if σ.first < 0 then nxt else σ.last⟩ po' → 
     (∀ p ∈ news, p.1 ≠ SD → p.1 ≠ RD → p.1 ≠ σ.pd →  p ∈ news') → (∀ p ∈ news, p.1 < dx) → dx < x → Q (.ref x) ⟨h', gn, dr, tk', os⟩) :
  (hd.heap_39 w.params).In h₀ → wpAny (model Challenge.rw_no0154_01.row.prog w) (ktrTop dp un gd cn cs L a ccd cl outer) (call (.ref 105) [.ref S, .ref σ.p, .ref a1, .ref a2, .int e te]) Q E ⟨hs0, gn, dr, tk0, os⟩ := by
  k_fill
  w_top off
  intro X
  k_with_none
  k_with "k_all" => first | assumption | exact List.forall_mem_nil _ | exact dropL_ne (by k_memK) | exact all_ne_of_allLt (by assumption) | exact all_ne_of_lt (by assumption) | exact List.forall_mem_cons.mpr ⟨by first | with_reducible assumption | exact Ne.symm (by with_reducible assumption) | exact Nat.ne_of_lt (by with_reducible assumption) | exact Nat.ne_of_gt (by with_reducible assumption) | exact Nat.ne_of_lt (And.left (by with_reducible assumption)) | exact Nat.ne_of_gt (And.left (by with_reducible assumption)) | exact Nat.ne_of_lt (And.left (And.right (by with_reducible assumption))) | exact Nat.ne_of_gt (And.left (And.right (by with_reducible assumption))) | exact Nat.ne_of_lt (And.left (And.right (And.right (by with_reducible assumption)))) | exact Nat.ne_of_gt (And.left (And.right (And.right (by with_reducible assumption)))) | exact Nat.ne_of_lt (And.left (And.right (And.right (And.right (by with_reducible assumption))))) | exact Nat.ne_of_gt (And.left (And.right (And.right (And.right (by with_reducible assumption))))) | exact Nat.ne_of_lt (And.left (And.right (And.right (And.right (And.right (by with_reducible assumption)))))) | exact Nat.ne_of_gt (And.left (And.right (And.right (And.right (And.right (by with_reducible assumption)))))) | exact Nat.ne_of_lt (And.left (And.right (And.right (And.right (And.right (And.right (by with_reducible assumption))))))) | exact Nat.ne_of_gt (And.left (And.right (And.right (And.right (And.right (And.right (by with_reducible assumption))))))) | exact Nat.ne_of_lt (And.left (And.right (And.right (And.right (And.right (And.right (And.right (by with_reducible assumption)))))))) | exact Nat.ne_of_gt (And.left (And.right (And.right (And.right (And.right (And.right (And.right (by with_reducible assumption)))))))) | k_ne, by k_all⟩
  k_with "k_updF" => first | exact UpdF.head (by k_all) | exact UpdF.tail (by first | with_reducible assumption | exact Ne.symm (by with_reducible assumption) | exact Nat.ne_of_lt (by with_reducible assumption) | exact Nat.ne_of_gt (by with_reducible assumption) | exact Nat.ne_of_lt (And.left (by with_reducible assumption)) | exact Nat.ne_of_gt (And.left (by with_reducible assumption)) | exact Nat.ne_of_lt (And.left (And.right (by with_reducible assumption))) | exact Nat.ne_of_gt (And.left (And.right (by with_reducible assumption))) | exact Nat.ne_of_lt (And.left (And.right (And.right (by with_reducible assumption)))) | exact Nat.ne_of_gt (And.left (And.right (And.right (by with_reducible assumption)))) | exact Nat.ne_of_lt (And.left (And.right (And.right (And.right (by with_reducible assumption))))) | exact Nat.ne_of_gt (And.left (And.right (And.right (And.right (by with_reducible assumption))))) | exact Nat.ne_of_lt (And.left (And.right (And.right (And.right (And.right (by with_reducible assumption)))))) | exact Nat.ne_of_gt (And.left (And.right (And.right (And.right (And.right (by with_reducible assumption)))))) | exact Nat.ne_of_lt (And.left (And.right (And.right (And.right (And.right (And.right (by with_reducible assumption))))))) | exact Nat.ne_of_gt (And.left (And.right (And.right (And.right (And.right (And.right (by with_reducible assumption))))))) | exact Nat.ne_of_lt (And.left (And.right (And.right (And.right (And.right (And.right (And.right (by with_reducible assumption)))))))) | exact Nat.ne_of_gt (And.left (And.right (And.right (And.right (And.right (And.right (And.right (by with_reducible assumption)))))))) | k_ne) (by k_updF)
  k_with "k_upd" => first | exact Upd.head (by k_all) | exact Upd.tail (by first | with_reducible assumption | exact Ne.symm (by with_reducible assumption) | exact Nat.ne_of_lt (by with_reducible assumption) | exact Nat.ne_of_gt (by with_reducible assumption) | exact Nat.ne_of_lt (And.left (by with_reducible assumption)) | exact Nat.ne_of_gt (And.left (by with_reducible assumption)) | exact Nat.ne_of_lt (And.left (And.right (by with_reducible assumption))) | exact Nat.ne_of_gt (And.left (And.right (by with_reducible assumption))) | exact Nat.ne_of_lt (And.left (And.right (And.right (by with_reducible assumption)))) | exact Nat.ne_of_gt (And.left (And.right (And.right (by with_reducible assumption)))) | exact Nat.ne_of_lt (And.left (And.right (And.right (And.right (by with_reducible assumption))))) | exact Nat.ne_of_gt (And.left (And.right (And.right (And.right (by with_reducible assumption))))) | exact Nat.ne_of_lt (And.left (And.right (And.right (And.right (And.right (by with_reducible assumption)))))) | exact Nat.ne_of_gt (And.left (And.right (And.right (And.right (And.right (by with_reducible assumption)))))) | exact Nat.ne_of_lt (And.left (And.right (And.right (And.right (And.right (And.right (by with_reducible assumption))))))) | exact Nat.ne_of_gt (And.left (And.right (And.right (And.right (And.right (And.right (by with_reducible assumption))))))) | exact Nat.ne_of_lt (And.left (And.right (And.right (And.right (And.right (And.right (And.right (by with_reducible assumption)))))))) | exact Nat.ne_of_gt (And.left (And.right (And.right (And.right (And.right (And.right (And.right (by with_reducible assumption)))))))) | k_ne) (by k_upd)
  k_with "getAttr ref" => k_dflt (refine get_opq (by k_asm) (by k_asm) (by k_asm) (by k_mem) (by k_mem) (by with_reducible assumption) (by k_is) (by k_is) (by k_is) (by k_is) (by k_get) (by k_handed) ?_)
  k_with "getMethod ref" => k_dflt (refine meth_opq (by k_asm) (by k_asm) (by k_asm) (by k_mem) (by k_mem) (by with_reducible assumption) (by k_is) (by k_is) (by k_is) (by k_get) ?_)
  k_with "setAttr ref" => k_dflt (refine set_opq (by k_asm) (by k_asm) (by k_asm) (by k_mem) (by k_updF) (by with_reducible assumption) (by k_is) (by k_is) (by k_is) (by k_is) (by k_get) (by k_put) (by exact Nat.le_of_ble_eq_true rfl) ?_; k_whole; intro h' o' he' F' N'; (try dsimp only at N'); (try k_sweep))
  k_with "setItem ref int" => (k_dflt (refine kda_set (knd := intKind _ _) (by k_asm) (by k_asm) (by k_updF) (by with_reducible assumption) (intKind_is _ _ _ _) (by (try rw [List.length_map]); rw [sizeLine_eq]; omega) ?_); intro h' o' F' N' hd'; (try dsimp only at N'))
  k_with "subscriptTail" => ((with_reducible show wpAny _ _ (subscriptTail _ _ (Value.ref _) (Value.int _ _)) _ _ _); k_dflt (refine kda_item (knd := intKind _ _) (by k_asm) (by k_mem) (by with_reducible assumption) (intKind_is _ _ _ _) (by with_reducible assumption) ?_))
  k_with "getItem ref int" => k_dflt (refine kdt_getItem (knd := intKind _ _) (by k_asm) (by k_mem) (by with_reducible assumption) (intKind_is _ _ _ _) (by with_reducible assumption) ?_)
  k_with "call ref" => ((with_reducible show wpAny _ _ (call (Value.ref 91) _) _ _ _); k_dflt (refine newrec_spec (by k_asm) (by k_asm) (by k_asm) (by exact rfl) (by ktr_room) N₁ hS hSD ⟨_, by with_reducible assumption⟩ hRD hrd hnew hlen hp hpd (by with_reducible assumption) n1 n2 n3 n4 n5 n6 n7 (fun x dx ro' so' rdo' h' tk' news' F' N' hx' hdx' hro' hSD' hso' hRD' hrd' hkeep hlt hlt2 => stop_here ?_) (by k_asm)))
  obtain ⟨τs, hso⟩ := hso
  have hpo' := hpo
  obtain ⟨τp, hpo'⟩ := hpo'
  refine wpAny_call ?_
  have N := news_add N₀ hS (news_add N₀ hSD N₀)
  k_dflt ktr_enter
  rename News _ _ _ _ => N2
  have N₁ := news_sub N2 (l' := news) fun p hp => List.mem_cons_of_mem _ (List.mem_cons_of_mem _ hp)
  k_steps
  refine ⟨?_⟩
  have b1 : σ.p < dx := hlt _ hp
  have b2 : σ.pd < dx := hlt _ hpd
  have b3 : SD < dx := hlt _ hSD
  have b4 : RD < dx := hlt _ hRD
  have b5 : S < dx := hlt _ hS
  have b6 : dx < x := hlt2
  obtain ⟨τr, hro'⟩ := hro'
  dsimp only at hro'
  have N₃ := news_add N' (hkeep _ hp n4 n5) (news_add N' (hkeep _ hpd n6 n7) (news_add N' hx' (news_add N' hdx' (news_drop N' [σ.pd, dx]))))
  have m1 : (SD, so') ∈ dropL news' [σ.pd, dx] := mem_dropL.mpr ⟨hSD', by simp only [List.mem_cons, List.not_mem_nil, or_false, not_or]; exact ⟨Ne.symm n6, Nat.ne_of_lt b3⟩⟩
  have m2 : (RD, rdo') ∈ dropL news' [σ.pd, dx] := mem_dropL.mpr ⟨hRD', by simp only [List.mem_cons, List.not_mem_nil, or_false, not_or]; exact ⟨Ne.symm n7, Nat.ne_of_lt b4⟩⟩
  have m3 : ∀ p ∈ news, p.1 ≠ SD → p.1 ≠ RD → p.1 ≠ σ.pd → p ∈ dropL news' [σ.pd, dx] := fun p hp h1 h2 h3 => mem_dropL.mpr ⟨hkeep p hp h1 h2, by
    simp only [List.mem_cons, List.not_mem_nil, or_false, not_or]; exact ⟨h3, Nat.ne_of_lt (hlt p hp)⟩⟩
  clear N' N N₀ N₁ N2
  k_steps
  all_goals (
    refine ret x dx _ so' rdo' _ _ _ _ (by k_asm) (by k_asm) (by k_mem) (by k_mem) (recObj (by assumption)) ?_ hso' ?_ hrd' (by k_mem) ?_ ?_ hlt hlt2
    · iterate 4 (refine List.mem_cons_of_mem _ ?_)
      exact m1
    · iterate 4 (refine List.mem_cons_of_mem _ ?_)
      exact m2
    · try dsimp only
      first | rw [if_pos (by omega)] | rw [if_neg (by omega)]
      exact (procObj (by assumption))
    · intro p hp h1 h2 h3
      iterate 4 (refine List.mem_cons_of_mem _ ?_)
      exact m3 p hp h1 h2 h3)
theorem append_first {w : World} {p : Program} {loose : List Str} {mean : ExcName → Option Value} {mg mb : Str → Option Value}
  {dp un : Nat} {gd : Option (List Code)} {cn : Str} {cs : Scope} {a : Addr} {ccd : Value} {cl : List (Str × Addr)} {outer : List Env} {A₀ : Around} {base h₀ : Heap} {L : Addr} {m : Str → Option Value} {hs0 : Heap} {gn : Array GenState} {dr : Drawn} {tk0 : Nat} {os : OsState} {Q E : Value → Shared → Prop}
  {news : List (Addr × Obj)} {S SD RD a1 a2 : Nat} {nxt gen e : Int} {te : Tok} {so rdo po : Obj} {σ : Side} {kvs : List (Int × Value)}
  (B : Below A₀ base outer h₀) (F : Fr h₀ L hs0 m) (T : Top p loose mean mg mb h₀) (hk : cs.kind = .function)
  (hdp : dp + 60 < recursionLimit)
  (N₀ : News h₀ L hs0 news) (hS : (S, instObj 157 SD) ∈ news) (hSD : (SD, so) ∈ news) (hso : StoreObj w.params RD nxt gen so)
  (hRD : (RD, rdo) ∈ news) (hrd : rdo.IsDictOf (intKind Challenge.rw_no0154_01.row.prog w) kvs) (hnew : valueAt kvs nxt = none) (hlen : kvs.length ≤ 1000)
  (hp : (σ.p, instObj 66 σ.pd) ∈ news) (hpd : (σ.pd, po) ∈ news) (hpo : ProcObj w.params σ po)
  (n1 : S ≠ SD) (n2 : S ≠ RD) (n3 : SD ≠ RD) (n4 : σ.p ≠ SD) (n5 : σ.p ≠ RD) (n6 : σ.pd ≠ SD) (n7 : σ.pd ≠ RD) (n8 : S ≠ σ.pd) (n9 : σ.p ≠ σ.pd)
  (hf : σ.first < 0)
  (ret : ∀ (x dx : Nat) ro' so' rdo' po'  h' tk' news', Fr h₀ L h' m → News h₀ L h' news' → (x, instObj 38 dx) ∈ news' → (dx, ro') ∈ news' → RecObj w.params ⟨nxt, x, dx, 0, nxt, σ.f, gen + 1, -1, -1⟩ ro' →
     (SD, so') ∈ news' → StoreObj w.params RD (nxt + 1) (gen + 1) so' → (RD, rdo') ∈ news' → rdo'.IsDictOf (intKind Challenge.rw_no0154_01.row.prog w) (kvs ++ [(nxt, .ref x)]) →
     (σ.pd, po') ∈ news' → ProcObj w.params ⟨σ.f, σ.ow, σ.p, σ.pd, σ.kind, nxt, nxt⟩ po' → 
     (∀ p ∈ news, p.1 ≠ SD → p.1 ≠ RD → p.1 ≠ σ.pd →  p ∈ news') → (∀ p ∈ news, p.1 < dx) → dx < x → Q (.ref x) ⟨h', gn, dr, tk', os⟩) :
  (hd.heap_39 w.params).In h₀ → wpAny (model Challenge.rw_no0154_01.row.prog w) (ktrTop dp un gd cn cs L a ccd cl outer) (call (.ref 98) [.ref S, .ref σ.p, .ref a1, .ref a2, .int e te]) Q E ⟨hs0, gn, dr, tk0, os⟩ := by
  k_fill
  w_top off
  intro X
  k_with_none
  k_with "k_all" => first | assumption | exact List.forall_mem_nil _ | exact dropL_ne (by k_memK) | exact all_ne_of_allLt (by assumption) | exact all_ne_of_lt (by assumption) | exact List.forall_mem_cons.mpr ⟨by first | with_reducible assumption | exact Ne.symm (by with_reducible assumption) | exact Nat.ne_of_lt (by with_reducible assumption) | exact Nat.ne_of_gt (by with_reducible assumption) | exact Nat.ne_of_lt (And.left (by with_reducible assumption)) | exact Nat.ne_of_gt (And.left (by with_reducible assumption)) | exact Nat.ne_of_lt (And.left (And.right (by with_reducible assumption))) | exact Nat.ne_of_gt (And.left (And.right (by with_reducible assumption))) | exact Nat.ne_of_lt (And.left (And.right (And.right (by with_reducible assumption)))) | exact Nat.ne_of_gt (And.left (And.right (And.right (by with_reducible assumption)))) | exact Nat.ne_of_lt (And.left (And.right (And.right (And.right (by with_reducible assumption))))) | exact Nat.ne_of_gt (And.left (And.right (And.right (And.right (by with_reducible assumption))))) | exact Nat.ne_of_lt (And.left (And.right (And.right (And.right (And.right (by with_reducible assumption)))))) | exact Nat.ne_of_gt (And.left (And.right (And.right (And.right (And.right (by with_reducible assumption)))))) | exact Nat.ne_of_lt (And.left (And.right (And.right (And.right (And.right (And.right (by with_reducible assumption))))))) | exact Nat.ne_of_gt (And.left (And.right (And.right (And.right (And.right (And.right (by with_reducible assumption))))))) | exact Nat.ne_of_lt (And.left (And.right (And.right (And.right (And.right (And.right (And.right (by with_reducible assumption)))))))) | exact Nat.ne_of_gt (And.left (And.right (And.right (And.right (And.right (And.right (And.right (by with_reducible assumption)))))))) | k_ne, by k_all⟩
  k_with "k_updF" => first | exact UpdF.head (by k_all) | exact UpdF.tail (by first | with_reducible assumption | exact Ne.symm (by with_reducible assumption) | exact Nat.ne_of_lt (by with_reducible assumption) | exact Nat.ne_of_gt (by with_reducible assumption) | exact Nat.ne_of_lt (And.left (by with_reducible assumption)) | exact Nat.ne_of_gt (And.left (by with_reducible assumption)) | exact Nat.ne_of_lt (And.left (And.right (by with_reducible assumption))) | exact Nat.ne_of_gt (And.left (And.right (by with_reducible assumption))) | exact Nat.ne_of_lt (And.left (And.right (And.right (by with_reducible assumption)))) | exact Nat.ne_of_gt (And.left (And.right (And.right (by with_reducible assumption)))) | exact Nat.ne_of_lt (And.left (And.right (And.right (And.right (by with_reducible assumption))))) | exact Nat.ne_of_gt (And.left (And.right (And.right (And.right (by with_reducible assumption))))) | exact Nat.ne_of_lt (And.left (And.right (And.right (And.right (And.right (by with_reducible assumption)))))) | exact Nat.ne_of_gt (And.left (And.right (And.right (And.right (And.right (by with_reducible assumption)))))) | exact Nat.ne_of_lt (And.left (And.right (And.right (And.right (And.right (And.right (by with_reducible assumption))))))) | exact Nat.ne_of_gt (And.left (And.right (And.right (And.right (And.right (And.right (by with_reducible assumption))))))) | exact Nat.ne_of_lt (And.left (And.right (And.right (And.right (And.right (And.right (And.right (by with_reducible assumption)))))))) | exact Nat.ne_of_gt (And.left (And.right (And.right (And.right (And.right (And.right (And.right (by with_reducible assumption)))))))) | k_ne) (by k_updF)
  k_with "k_upd" => first | exact Upd.head (by k_all) | exact Upd.tail (by first | with_reducible assumption | exact Ne.symm (by with_reducible assumption) | exact Nat.ne_of_lt (by with_reducible assumption) | exact Nat.ne_of_gt (by with_reducible assumption) | exact Nat.ne_of_lt (And.left (by with_reducible assumption)) | exact Nat.ne_of_gt (And.left (by with_reducible assumption)) | exact Nat.ne_of_lt (And.left (And.right (by with_reducible assumption))) | exact Nat.ne_of_gt (And.left (And.right (by with_reducible assumption))) | exact Nat.ne_of_lt (And.left (And.right (And.right (by with_reducible assumption)))) | exact Nat.ne_of_gt (And.left (And.right (And.right (by with_reducible assumption)))) | exact Nat.ne_of_lt (And.left (And.right (And.right (And.right (by with_reducible assumption))))) | exact Nat.ne_of_gt (And.left (And.right (And.right (And.right (by with_reducible assumption))))) | exact Nat.ne_of_lt (And.left (And.right (And.right (And.right (And.right (by with_reducible assumption)))))) | exact Nat.ne_of_gt (And.left (And.right (And.right (And.right (And.right (by with_reducible assumption)))))) | exact Nat.ne_of_lt (And.left (And.right (And.right (And.right (And.right (And.right (by with_reducible assumption))))))) | exact Nat.ne_of_gt (And.left (And.right (And.right (And.right (And.right (And.right (by with_reducible assumption))))))) | exact Nat.ne_of_lt (And.left (And.right (And.right (And.right (And.right (And.right (And.right (by with_reducible assumption)))))))) | exact Nat.ne_of_gt (And.left (And.right (And.right (And.right (And.right (And.right (And.right (by with_reducible assumption)))))))) | k_ne) (by k_upd)
  k_with "getAttr ref" => k_dflt (refine get_opq (by k_asm) (by k_asm) (by k_asm) (by k_mem) (by k_mem) (by with_reducible assumption) (by k_is) (by k_is) (by k_is) (by k_is) (by k_get) (by k_handed) ?_)
  k_with "getMethod ref" => k_dflt (refine meth_opq (by k_asm) (by k_asm) (by k_asm) (by k_mem) (by k_mem) (by with_reducible assumption) (by k_is) (by k_is) (by k_is) (by k_get) ?_)
  k_with "setAttr ref" => k_dflt (refine set_opq (by k_asm) (by k_asm) (by k_asm) (by k_mem) (by k_updF) (by with_reducible assumption) (by k_is) (by k_is) (by k_is) (by k_is) (by k_get) (by k_put) (by exact Nat.le_of_ble_eq_true rfl) ?_; k_whole; intro h' o' he' F' N'; (try dsimp only at N'); (try k_sweep))
  k_with "setItem ref int" => (k_dflt (refine kda_set (knd := intKind _ _) (by k_asm) (by k_asm) (by k_updF) (by with_reducible assumption) (intKind_is _ _ _ _) (by (try rw [List.length_map]); rw [sizeLine_eq]; omega) ?_); intro h' o' F' N' hd'; (try dsimp only at N'))
  k_with "subscriptTail" => ((with_reducible show wpAny _ _ (subscriptTail _ _ (Value.ref _) (Value.int _ _)) _ _ _); k_dflt (refine kda_item (knd := intKind _ _) (by k_asm) (by k_mem) (by with_reducible assumption) (intKind_is _ _ _ _) (by with_reducible assumption) ?_))
  k_with "getItem ref int" => k_dflt (refine kdt_getItem (knd := intKind _ _) (by k_asm) (by k_mem) (by with_reducible assumption) (intKind_is _ _ _ _) (by with_reducible assumption) ?_)
  k_with "call ref" => ((with_reducible show wpAny _ _ (call (Value.ref 91) _) _ _ _); k_dflt (refine newrec_spec (by k_asm) (by k_asm) (by k_asm) (by exact rfl) (by ktr_room) N₁ hS hSD ⟨_, by with_reducible assumption⟩ hRD hrd hnew hlen hp hpd (by with_reducible assumption) n1 n2 n3 n4 n5 n6 n7 (fun x dx ro' so' rdo' h' tk' news' F' N' hx' hdx' hro' hSD' hso' hRD' hrd' hkeep hlt hlt2 => stop_here ?_) (by k_asm)))
  obtain ⟨τs, hso⟩ := hso
  have hpo' := hpo
  obtain ⟨τp, hpo'⟩ := hpo'
  refine wpAny_call ?_
  have N := news_add N₀ hS (news_add N₀ hSD N₀)
  k_dflt ktr_enter
  rename News _ _ _ _ => N2
  have N₁ := news_sub N2 (l' := news) fun p hp => List.mem_cons_of_mem _ (List.mem_cons_of_mem _ hp)
  k_steps
  refine ⟨?_⟩
  have b1 : σ.p < dx := hlt _ hp
  have b2 : σ.pd < dx := hlt _ hpd
  have b3 : SD < dx := hlt _ hSD
  have b4 : RD < dx := hlt _ hRD
  have b5 : S < dx := hlt _ hS
  have b6 : dx < x := hlt2
  obtain ⟨τr, hro'⟩ := hro'
  dsimp only at hro'
  have N₃ := news_add N' (hkeep _ hp n4 n5) (news_add N' (hkeep _ hpd n6 n7) (news_add N' hx' (news_add N' hdx' (news_drop N' [σ.pd, dx]))))
  have m1 : (SD, so') ∈ dropL news' [σ.pd, dx] := mem_dropL.mpr ⟨hSD', by simp only [List.mem_cons, List.not_mem_nil, or_false, not_or]; exact ⟨Ne.symm n6, Nat.ne_of_lt b3⟩⟩
  have m2 : (RD, rdo') ∈ dropL news' [σ.pd, dx] := mem_dropL.mpr ⟨hRD', by simp only [List.mem_cons, List.not_mem_nil, or_false, not_or]; exact ⟨Ne.symm n7, Nat.ne_of_lt b4⟩⟩
  have m3 : ∀ p ∈ news, p.1 ≠ SD → p.1 ≠ RD → p.1 ≠ σ.pd → p ∈ dropL news' [σ.pd, dx] := fun p hp h1 h2 h3 => mem_dropL.mpr ⟨hkeep p hp h1 h2, by
    simp only [List.mem_cons, List.not_mem_nil, or_false, not_or]; exact ⟨h3, Nat.ne_of_lt (hlt p hp)⟩⟩
  clear N' N N₀ N₁ N2
  k_steps
  all_goals (
    refine ret x dx _ so' rdo' _ _ _ _ (by k_asm) (by k_asm) (by k_mem) (by k_mem) (recObj (by assumption)) ?_ hso' ?_ hrd' (by k_mem) ?_ ?_ hlt hlt2
    · iterate 4 (refine List.mem_cons_of_mem _ ?_)
      exact m1
    · iterate 4 (refine List.mem_cons_of_mem _ ?_)
      exact m2
    · exact (procObj (by assumption))
    · intro p hp h1 h2 h3
      iterate 4 (refine List.mem_cons_of_mem _ ?_)
      exact m3 p hp h1 h2 h3)
theorem append_more {w : World} {p : Program} {loose : List Str} {mean : ExcName → Option Value} {mg mb : Str → Option Value}
  {dp un : Nat} {gd : Option (List Code)} {cn : Str} {cs : Scope} {a : Addr} {ccd : Value} {cl : List (Str × Addr)} {outer : List Env} {A₀ : Around} {base h₀ : Heap} {L : Addr} {m : Str → Option Value} {hs0 : Heap} {gn : Array GenState} {dr : Drawn} {tk0 : Nat} {os : OsState} {Q E : Value → Shared → Prop}
  {news : List (Addr × Obj)} {S SD RD a1 a2 : Nat} {nxt gen e : Int} {te : Tok} {so rdo po rro : Obj} {r : Rec} {σ : Side} {kvs : List (Int × Value)}
  (B : Below A₀ base outer h₀) (F : Fr h₀ L hs0 m) (T : Top p loose mean mg mb h₀) (hk : cs.kind = .function)
  (hdp : dp + 60 < recursionLimit)
  (N₀ : News h₀ L hs0 news) (hS : (S, instObj 157 SD) ∈ news) (hSD : (SD, so) ∈ news) (hso : StoreObj w.params RD nxt gen so)
  (hRD : (RD, rdo) ∈ news) (hrd : rdo.IsDictOf (intKind Challenge.rw_no0154_01.row.prog w) kvs) (hnew : valueAt kvs nxt = none) (hlen : kvs.length ≤ 1000)
  (hp : (σ.p, instObj 66 σ.pd) ∈ news) (hpd : (σ.pd, po) ∈ news) (hpo : ProcObj w.params σ po)
  (n1 : S ≠ SD) (n2 : S ≠ RD) (n3 : SD ≠ RD) (n4 : σ.p ≠ SD) (n5 : σ.p ≠ RD) (n6 : σ.pd ≠ SD) (n7 : σ.pd ≠ RD) (n8 : S ≠ σ.pd) (n9 : σ.p ≠ σ.pd)
  (hf : ¬ σ.first < 0) (hv : valueAt kvs σ.last = some (.ref r.x)) (hrx : (r.x, instObj 38 r.dx) ∈ news) (hrdx : (r.dx, rro) ∈ news) (hrro : RecObj w.params r rro)
  (e1 : r.x ≠ SD) (e2 : r.x ≠ RD) (e3 : r.x ≠ σ.pd) (e4 : r.x ≠ r.dx) (e5 : r.dx ≠ SD) (e6 : r.dx ≠ RD) (e7 : r.dx ≠ σ.pd) (e8 : r.dx ≠ σ.p) (e9 : r.dx ≠ S) (e10 : S ≠ RD)
  (ret : ∀ (x dx : Nat) ro' so' rdo' po' rro' h' tk' news', Fr h₀ L h' m → News h₀ L h' news' → (x, instObj 38 dx) ∈ news' → (dx, ro') ∈ news' → RecObj w.params ⟨nxt, x, dx, 0, nxt, σ.f, gen + 1, -1, -1⟩ ro' →
     (SD, so') ∈ news' → StoreObj w.params RD (nxt + 1) (gen + 1) so' → (RD, rdo') ∈ news' → rdo'.IsDictOf (intKind Challenge.rw_no0154_01.row.prog w) (kvs ++ [(nxt, .ref x)]) →
     (σ.pd, po') ∈ news' → ProcObj w.params ⟨σ.f, σ.ow, σ.p, σ.pd, σ.kind, σ.first, nxt⟩ po' → (r.dx, rro') ∈ news' → RecObj w.params ⟨r.place, r.x, r.dx, r.rw, r.key, r.functor, r.birth, r.death, nxt⟩ rro' →
     (∀ p ∈ news, p.1 ≠ SD → p.1 ≠ RD → p.1 ≠ σ.pd → p.1 ≠ r.dx → p ∈ news') → (∀ p ∈ news, p.1 < dx) → dx < x → Q (.ref x) ⟨h', gn, dr, tk', os⟩) :
  (hd.heap_39 w.params).In h₀ → wpAny (model Challenge.rw_no0154_01.row.prog w) (ktrTop dp un gd cn cs L a ccd cl outer) (call (.ref 98) [.ref S, .ref σ.p, .ref a1, .ref a2, .int e te]) Q E ⟨hs0, gn, dr, tk0, os⟩ := by
  k_fill
  w_top off
  intro X
  k_with_none
  k_with "k_all" => first | assumption | exact List.forall_mem_nil _ | exact dropL_ne (by k_memK) | exact all_ne_of_allLt (by assumption) | exact all_ne_of_lt (by assumption) | exact List.forall_mem_cons.mpr ⟨by first | with_reducible assumption | exact Ne.symm (by with_reducible assumption) | exact Nat.ne_of_lt (by with_reducible assumption) | exact Nat.ne_of_gt (by with_reducible assumption) | exact Nat.ne_of_lt (And.left (by with_reducible assumption)) | exact Nat.ne_of_gt (And.left (by with_reducible assumption)) | exact Nat.ne_of_lt (And.left (And.right (by with_reducible assumption))) | exact Nat.ne_of_gt (And.left (And.right (by with_reducible assumption))) | exact Nat.ne_of_lt (And.left (And.right (And.right (by with_reducible assumption)))) | exact Nat.ne_of_gt (And.left (And.right (And.right (by with_reducible assumption)))) | exact Nat.ne_of_lt (And.left (And.right (And.right (And.right (by with_reducible assumption))))) | exact Nat.ne_of_gt (And.left (And.right (And.right (And.right (by with_reducible assumption))))) | exact Nat.ne_of_lt (And.left (And.right (And.right (And.right (And.right (by with_reducible assumption)))))) | exact Nat.ne_of_gt (And.left (And.right (And.right (And.right (And.right (by with_reducible assumption)))))) | exact Nat.ne_of_lt (And.left (And.right (And.right (And.right (And.right (And.right (by with_reducible assumption))))))) | exact Nat.ne_of_gt (And.left (And.right (And.right (And.right (And.right (And.right (by with_reducible assumption))))))) | exact Nat.ne_of_lt (And.left (And.right (And.right (And.right (And.right (And.right (And.right (by with_reducible assumption)))))))) | exact Nat.ne_of_gt (And.left (And.right (And.right (And.right (And.right (And.right (And.right (by with_reducible assumption)))))))) | k_ne, by k_all⟩
  k_with "k_updF" => first | exact UpdF.head (by k_all) | exact UpdF.tail (by first | with_reducible assumption | exact Ne.symm (by with_reducible assumption) | exact Nat.ne_of_lt (by with_reducible assumption) | exact Nat.ne_of_gt (by with_reducible assumption) | exact Nat.ne_of_lt (And.left (by with_reducible assumption)) | exact Nat.ne_of_gt (And.left (by with_reducible assumption)) | exact Nat.ne_of_lt (And.left (And.right (by with_reducible assumption))) | exact Nat.ne_of_gt (And.left (And.right (by with_reducible assumption))) | exact Nat.ne_of_lt (And.left (And.right (And.right (by with_reducible assumption)))) | exact Nat.ne_of_gt (And.left (And.right (And.right (by with_reducible assumption)))) | exact Nat.ne_of_lt (And.left (And.right (And.right (And.right (by with_reducible assumption))))) | exact Nat.ne_of_gt (And.left (And.right (And.right (And.right (by with_reducible assumption))))) | exact Nat.ne_of_lt (And.left (And.right (And.right (And.right (And.right (by with_reducible assumption)))))) | exact Nat.ne_of_gt (And.left (And.right (And.right (And.right (And.right (by with_reducible assumption)))))) | exact Nat.ne_of_lt (And.left (And.right (And.right (And.right (And.right (And.right (by with_reducible assumption))))))) | exact Nat.ne_of_gt (And.left (And.right (And.right (And.right (And.right (And.right (by with_reducible assumption))))))) | exact Nat.ne_of_lt (And.left (And.right (And.right (And.right (And.right (And.right (And.right (by with_reducible assumption)))))))) | exact Nat.ne_of_gt (And.left (And.right (And.right (And.right (And.right (And.right (And.right (by with_reducible assumption)))))))) | k_ne) (by k_updF)
  k_with "k_upd" => first | exact Upd.head (by k_all) | exact Upd.tail (by first | with_reducible assumption | exact Ne.symm (by with_reducible assumption) | exact Nat.ne_of_lt (by with_reducible assumption) | exact Nat.ne_of_gt (by with_reducible assumption) | exact Nat.ne_of_lt (And.left (by with_reducible assumption)) | exact Nat.ne_of_gt (And.left (by with_reducible assumption)) | exact Nat.ne_of_lt (And.left (And.right (by with_reducible assumption))) | exact Nat.ne_of_gt (And.left (And.right (by with_reducible assumption))) | exact Nat.ne_of_lt (And.left (And.right (And.right (by with_reducible assumption)))) | exact Nat.ne_of_gt (And.left (And.right (And.right (by with_reducible assumption)))) | exact Nat.ne_of_lt (And.left (And.right (And.right (And.right (by with_reducible assumption))))) | exact Nat.ne_of_gt (And.left (And.right (And.right (And.right (by with_reducible assumption))))) | exact Nat.ne_of_lt (And.left (And.right (And.right (And.right (And.right (by with_reducible assumption)))))) | exact Nat.ne_of_gt (And.left (And.right (And.right (And.right (And.right (by with_reducible assumption)))))) | exact Nat.ne_of_lt (And.left (And.right (And.right (And.right (And.right (And.right (by with_reducible assumption))))))) | exact Nat.ne_of_gt (And.left (And.right (And.right (And.right (And.right (And.right (by with_reducible assumption))))))) | exact Nat.ne_of_lt (And.left (And.right (And.right (And.right (And.right (And.right (And.right (by with_reducible assumption)))))))) | exact Nat.ne_of_gt (And.left (And.right (And.right (And.right (And.right (And.right (And.right (by with_reducible assumption)))))))) | k_ne) (by k_upd)
  k_with "getAttr ref" => k_dflt (refine get_opq (by k_asm) (by k_asm) (by k_asm) (by k_mem) (by k_mem) (by with_reducible assumption) (by k_is) (by k_is) (by k_is) (by k_is) (by k_get) (by k_handed) ?_)
  k_with "getMethod ref" => k_dflt (refine meth_opq (by k_asm) (by k_asm) (by k_asm) (by k_mem) (by k_mem) (by with_reducible assumption) (by k_is) (by k_is) (by k_is) (by k_get) ?_)
  k_with "setAttr ref" => k_dflt (refine set_opq (by k_asm) (by k_asm) (by k_asm) (by k_mem) (by k_updF) (by with_reducible assumption) (by k_is) (by k_is) (by k_is) (by k_is) (by k_get) (by k_put) (by exact Nat.le_of_ble_eq_true rfl) ?_; k_whole; intro h' o' he' F' N'; (try dsimp only at N'); (try k_sweep))
  k_with "setItem ref int" => (k_dflt (refine kda_set (knd := intKind _ _) (by k_asm) (by k_asm) (by k_updF) (by with_reducible assumption) (intKind_is _ _ _ _) (by (try rw [List.length_map]); rw [sizeLine_eq]; omega) ?_); intro h' o' F' N' hd'; (try dsimp only at N'))
  k_with "subscriptTail" => ((with_reducible show wpAny _ _ (subscriptTail _ _ (Value.ref _) (Value.int _ _)) _ _ _); k_dflt (refine kda_item (knd := intKind _ _) (by k_asm) (by k_mem) (by with_reducible assumption) (intKind_is _ _ _ _) (by with_reducible assumption) ?_))
  k_with "getItem ref int" => k_dflt (refine kdt_getItem (knd := intKind _ _) (by k_asm) (by k_mem) (by with_reducible assumption) (intKind_is _ _ _ _) (by with_reducible assumption) ?_)
  k_with "call ref" => ((with_reducible show wpAny _ _ (call (Value.ref 91) _) _ _ _); k_dflt (refine newrec_spec (by k_asm) (by k_asm) (by k_asm) (by exact rfl) (by ktr_room) N₁ hS hSD ⟨_, by with_reducible assumption⟩ hRD hrd hnew hlen hp hpd (by with_reducible assumption) n1 n2 n3 n4 n5 n6 n7 (fun x dx ro' so' rdo' h' tk' news' F' N' hx' hdx' hro' hSD' hso' hRD' hrd' hkeep hlt hlt2 => stop_here ?_) (by k_asm)))
  obtain ⟨τs, hso⟩ := hso
  have hpo' := hpo
  obtain ⟨τp, hpo'⟩ := hpo'
  refine wpAny_call ?_
  have N := news_add N₀ hS (news_add N₀ hSD N₀)
  k_dflt ktr_enter
  rename News _ _ _ _ => N2
  have N₁ := news_sub N2 (l' := news) fun p hp => List.mem_cons_of_mem _ (List.mem_cons_of_mem _ hp)
  k_steps
  refine ⟨?_⟩
  have b1 : σ.p < dx := hlt _ hp
  have b2 : σ.pd < dx := hlt _ hpd
  have b3 : SD < dx := hlt _ hSD
  have b4 : RD < dx := hlt _ hRD
  have b5 : S < dx := hlt _ hS
  have b6 : dx < x := hlt2
  obtain ⟨τr, hro'⟩ := hro'
  dsimp only at hro'
  have b7 : r.x < dx := hlt _ hrx
  have b8 : r.dx < dx := hlt _ hrdx
  have hv' := valueAt_app (l' := [(nxt, Value.ref x)]) hv
  obtain ⟨τq, hrro'⟩ := hrro
  have N₃ := news_add N' (hkeep _ hS n1 e10) (news_add N' hSD' (news_add N' hRD' (news_add N' (hkeep _ hp n4 n5) (news_add N' (hkeep _ hpd n6 n7) (news_add N' (hkeep _ hrx e1 e2) (news_add N' (hkeep _ hrdx e5 e6) (news_add N' hx' (news_add N' hdx' (news_drop N' [σ.pd, r.dx])))))))))
  have m3 : ∀ p ∈ news, p.1 ≠ SD → p.1 ≠ RD → p.1 ≠ σ.pd → p.1 ≠ r.dx → p ∈ dropL news' [σ.pd, r.dx] := fun p hp h1 h2 h3 h4 => mem_dropL.mpr ⟨hkeep p hp h1 h2, by
    simp only [List.mem_cons, List.not_mem_nil, or_false, not_or]; exact ⟨h3, h4⟩⟩
  have hso2 := hso'
  obtain ⟨τs', hso2⟩ := hso2
  clear N' N N₀ N₁ N2 hso
  k_steps
  all_goals (
    refine ret x dx _ so' rdo' _ _ _ _ _ (by k_asm) (by k_asm) (by k_mem) (by k_mem) (recObj (by assumption)) (by k_mem) hso' (by k_mem) hrd' (by k_mem) (procObj (by assumption)) (by k_mem) (recObj (by assumption)) ?_ hlt hlt2
    · intro p hp h1 h2 h3 h4
      iterate 9 (refine List.mem_cons_of_mem _ ?_)
      exact m3 p hp h1 h2 h3 h4)
theorem erase_spec {w : World} {p : Program} {loose : List Str} {mean : ExcName → Option Value} {mg mb : Str → Option Value}
  {dp un : Nat} {gd : Option (List Code)} {cn : Str} {cs : Scope} {a : Addr} {ccd : Value} {cl : List (Str × Addr)} {outer : List Env} {A₀ : Around} {base h₀ : Heap} {L : Addr} {m : Str → Option Value} {hs0 : Heap} {gn : Array GenState} {dr : Drawn} {tk0 : Nat} {os : OsState} {Q E : Value → Shared → Prop}
  {news : List (Addr × Obj)} {S SD RD : Nat} {nxt gen k : Int} {tk : Tok} {so rdo rro : Obj} {r : Rec} {kvs : List (Int × Value)}
  (B : Below A₀ base outer h₀) (F : Fr h₀ L hs0 m) (T : Top p loose mean mg mb h₀) (hk : cs.kind = .function)
  (hdp : dp + 60 < recursionLimit)
  (N₀ : News h₀ L hs0 news) (hS : (S, instObj 157 SD) ∈ news) (hSD : (SD, so) ∈ news) (hso : StoreObj w.params RD nxt gen so)
  (hRD : (RD, rdo) ∈ news) (hrd : rdo.IsDictOf (intKind Challenge.rw_no0154_01.row.prog w) kvs) (hRDm : (RD == sysModules) = false) (hv : valueAt kvs k = some (.ref r.x))
  (hrx : (r.x, instObj 38 r.dx) ∈ news) (hrdx : (r.dx, rro) ∈ news) (hrro : RecObj w.params r rro)
  (n1 : S ≠ SD) (n3 : RD ≠ SD) (e1 : r.x ≠ SD) (e4 : r.x ≠ r.dx) (e5 : r.dx ≠ SD) (e6 : r.dx ≠ RD) (e9 : r.dx ≠ S)
  (ret1 : 0 ≤ r.death → ∀ h' tk', Fr h₀ L h' m → News h₀ L h' news → Q (.bool false) ⟨h', gn, dr, tk', os⟩)
  (ret2 : r.death < 0 → ∀ so' rro' h' tk' news', Fr h₀ L h' m → News h₀ L h' news' → (SD, so') ∈ news' → StoreObj w.params RD nxt (gen + 1) so' →
     (r.dx, rro') ∈ news' → RecObj w.params ⟨r.place, r.x, r.dx, r.rw, r.key, r.functor, r.birth, gen + 1, r.next⟩ rro' → (∀ p ∈ news, p.1 ≠ SD → p.1 ≠ r.dx → p ∈ news') → Q (.bool true) ⟨h', gn, dr, tk', os⟩) :
  (hd.heap_39 w.params).In h₀ → wpAny (model Challenge.rw_no0154_01.row.prog w) (ktrTop dp un gd cn cs L a ccd cl outer) (call (.ref 147) [.ref S, .int k tk]) Q E ⟨hs0, gn, dr, tk0, os⟩ := by
  k_fill
  w_top off
  intro X
  k_with_none
  k_with "k_all" => first | assumption | exact List.forall_mem_nil _ | exact dropL_ne (by k_memK) | exact all_ne_of_allLt (by assumption) | exact all_ne_of_lt (by assumption) | exact List.forall_mem_cons.mpr ⟨by first | with_reducible assumption | exact Ne.symm (by with_reducible assumption) | exact Nat.ne_of_lt (by with_reducible assumption) | exact Nat.ne_of_gt (by with_reducible assumption) | exact Nat.ne_of_lt (And.left (by with_reducible assumption)) | exact Nat.ne_of_gt (And.left (by with_reducible assumption)) | exact Nat.ne_of_lt (And.left (And.right (by with_reducible assumption))) | exact Nat.ne_of_gt (And.left (And.right (by with_reducible assumption))) | exact Nat.ne_of_lt (And.left (And.right (And.right (by with_reducible assumption)))) | exact Nat.ne_of_gt (And.left (And.right (And.right (by with_reducible assumption)))) | exact Nat.ne_of_lt (And.left (And.right (And.right (And.right (by with_reducible assumption))))) | exact Nat.ne_of_gt (And.left (And.right (And.right (And.right (by with_reducible assumption))))) | exact Nat.ne_of_lt (And.left (And.right (And.right (And.right (And.right (by with_reducible assumption)))))) | exact Nat.ne_of_gt (And.left (And.right (And.right (And.right (And.right (by with_reducible assumption)))))) | exact Nat.ne_of_lt (And.left (And.right (And.right (And.right (And.right (And.right (by with_reducible assumption))))))) | exact Nat.ne_of_gt (And.left (And.right (And.right (And.right (And.right (And.right (by with_reducible assumption))))))) | exact Nat.ne_of_lt (And.left (And.right (And.right (And.right (And.right (And.right (And.right (by with_reducible assumption)))))))) | exact Nat.ne_of_gt (And.left (And.right (And.right (And.right (And.right (And.right (And.right (by with_reducible assumption)))))))) | k_ne, by k_all⟩
  k_with "k_updF" => first | exact UpdF.head (by k_all) | exact UpdF.tail (by first | with_reducible assumption | exact Ne.symm (by with_reducible assumption) | exact Nat.ne_of_lt (by with_reducible assumption) | exact Nat.ne_of_gt (by with_reducible assumption) | exact Nat.ne_of_lt (And.left (by with_reducible assumption)) | exact Nat.ne_of_gt (And.left (by with_reducible assumption)) | exact Nat.ne_of_lt (And.left (And.right (by with_reducible assumption))) | exact Nat.ne_of_gt (And.left (And.right (by with_reducible assumption))) | exact Nat.ne_of_lt (And.left (And.right (And.right (by with_reducible assumption)))) | exact Nat.ne_of_gt (And.left (And.right (And.right (by with_reducible assumption)))) | exact Nat.ne_of_lt (And.left (And.right (And.right (And.right (by with_reducible assumption))))) | exact Nat.ne_of_gt (And.left (And.right (And.right (And.right (by with_reducible assumption))))) | exact Nat.ne_of_lt (And.left (And.right (And.right (And.right (And.right (by with_reducible assumption)))))) | exact Nat.ne_of_gt (And.left (And.right (And.right (And.right (And.right (by with_reducible assumption)))))) | exact Nat.ne_of_lt (And.left (And.right (And.right (And.right (And.right (And.right (by with_reducible assumption))))))) | exact Nat.ne_of_gt (And.left (And.right (And.right (And.right (And.right (And.right (by with_reducible assumption))))))) | exact Nat.ne_of_lt (And.left (And.right (And.right (And.right (And.right (And.right (And.right (by with_reducible assumption)))))))) | exact Nat.ne_of_gt (And.left (And.right (And.right (And.right (And.right (And.right (And.right (by with_reducible assumption)))))))) | k_ne) (by k_updF)
  k_with "k_upd" => first | exact Upd.head (by k_all) | exact Upd.tail (by first | with_reducible assumption | exact Ne.symm (by with_reducible assumption) | exact Nat.ne_of_lt (by with_reducible assumption) | exact Nat.ne_of_gt (by with_reducible assumption) | exact Nat.ne_of_lt (And.left (by with_reducible assumption)) | exact Nat.ne_of_gt (And.left (by with_reducible assumption)) | exact Nat.ne_of_lt (And.left (And.right (by with_reducible assumption))) | exact Nat.ne_of_gt (And.left (And.right (by with_reducible assumption))) | exact Nat.ne_of_lt (And.left (And.right (And.right (by with_reducible assumption)))) | exact Nat.ne_of_gt (And.left (And.right (And.right (by with_reducible assumption)))) | exact Nat.ne_of_lt (And.left (And.right (And.right (And.right (by with_reducible assumption))))) | exact Nat.ne_of_gt (And.left (And.right (And.right (And.right (by with_reducible assumption))))) | exact Nat.ne_of_lt (And.left (And.right (And.right (And.right (And.right (by with_reducible assumption)))))) | exact Nat.ne_of_gt (And.left (And.right (And.right (And.right (And.right (by with_reducible assumption)))))) | exact Nat.ne_of_lt (And.left (And.right (And.right (And.right (And.right (And.right (by with_reducible assumption))))))) | exact Nat.ne_of_gt (And.left (And.right (And.right (And.right (And.right (And.right (by with_reducible assumption))))))) | exact Nat.ne_of_lt (And.left (And.right (And.right (And.right (And.right (And.right (And.right (by with_reducible assumption)))))))) | exact Nat.ne_of_gt (And.left (And.right (And.right (And.right (And.right (And.right (And.right (by with_reducible assumption)))))))) | k_ne) (by k_upd)
  k_with "getAttr ref" => k_dflt (refine get_opq (by k_asm) (by k_asm) (by k_asm) (by k_mem) (by k_mem) (by with_reducible assumption) (by k_is) (by k_is) (by k_is) (by k_is) (by k_get) (by k_handed) ?_)
  k_with "getMethod ref" => k_dflt (refine meth_opq (by k_asm) (by k_asm) (by k_asm) (by k_mem) (by k_mem) (by with_reducible assumption) (by k_is) (by k_is) (by k_is) (by k_get) ?_)
  k_with "setAttr ref" => k_dflt (refine set_opq (by k_asm) (by k_asm) (by k_asm) (by k_mem) (by k_updF) (by with_reducible assumption) (by k_is) (by k_is) (by k_is) (by k_is) (by k_get) (by k_put) (by exact Nat.le_of_ble_eq_true rfl) ?_; k_whole; intro h' o' he' F' N'; (try dsimp only at N'); (try k_sweep))
  k_with "call builtin:dict.get" => (k_dflt (refine kdg_get1 (knd := intKind _ _) (by k_asm) (by k_mem) (by with_reducible assumption) (by with_reducible assumption) (intKind_is _ _ _ _) _ (by with_reducible assumption) ?_); try dsimp only [Option.getD])
  k_with "getMethod ref" => k_dflt (refine kdg_method (knd := intKind _ _) (by k_asm) (by k_mem) (by with_reducible assumption) ?_)
  obtain ⟨τs, hso⟩ := hso
  obtain ⟨τq, hrro'⟩ := hrro
  have N := news_add N₀ hS (news_add N₀ hSD (news_add N₀ hRD (news_add N₀ hrx (news_add N₀ hrdx (news_drop N₀ [SD, r.dx])))))
  have hkeep : ∀ p ∈ news, p.1 ≠ SD → p.1 ≠ r.dx → p ∈ dropL news [SD, r.dx] := fun p hp h1 h2 => mem_dropL.mpr ⟨hp, by simp only [List.mem_cons, List.not_mem_nil, or_false, not_or]; exact ⟨h1, h2⟩⟩
  have hall : ∀ p ∈ news, p ∈ (S, instObj 157 SD) :: (SD, so) :: (RD, rdo) :: (r.x, instObj 38 r.dx) :: (r.dx, rro) :: dropL news [SD, r.dx] := fun p hp => by
    have g1 : ∀ {o : Obj}, (p.1, o) ∈ news → p = (p.1, o) := fun {o} h => Prod.ext rfl (Option.some.inj ((N₀ _ hp).1.symm.trans (N₀ _ h).1))
    by_cases h1 : p.1 = SD
    · rw [g1 (o := so) (by rw [h1]; exact hSD), h1]; exact .tail _ (.head _)
    · by_cases h2 : p.1 = r.dx
      · rw [g1 (o := rro) (by rw [h2]; exact hrdx), h2]; exact .tail _ (.tail _ (.tail _ (.tail _ (.head _))))
      · exact .tail _ (.tail _ (.tail _ (.tail _ (.tail _ (hkeep p hp h1 h2)))))
  clear N₀
  refine wpAny_call ?_
  k_dflt ktr_enter
  k_steps
  · exact ret1 (by omega) _ _ (by k_asm) (news_sub (by k_asm) hall)
  · exact ret2 (by omega) _ _ _ _ _ (by k_asm) (by k_asm) (by k_mem) (storeObj (by assumption)) (by k_mem) (recObj (by assumption)) (fun p hp h1 h2 => .tail _ (.tail _ (.tail _ (.tail _ (.tail _ (hkeep p hp h1 h2))))))
end Mine

/-! St -/
namespace Mine
set_option genSizeOf false
set_option genInjectivity false
set_option maxRecDepth 100000

structure Fx where
  (H C S SD RD RW OWS PRD : Nat)

noncomputable def Cell (news : List (Addr × Obj)) (a : Nat) (Φ : Obj → Prop) : Prop := ∃ o, (a, o) ∈ news ∧ Φ o
noncomputable abbrev kvx (recs : List Rec) : List (Int × Value) := recs.map fun r => (r.place, Value.ref r.x)
noncomputable abbrev kvr (recs : List Rec) : List (Int × Value) := recs.map fun r => (r.place, Value.ref r.rw)
noncomputable abbrev kvp (σs : List Side) : List (Int × Value) := σs.map fun σ => (σ.f, Value.ref σ.p)
noncomputable abbrev IntDict (w : World) (kvs : List (Int × Value)) (o : Obj) : Prop := o.IsDictOf (intKind Challenge.rw_no0154_01.row.prog w) kvs

/-- all that the law keeps: what lies where, and what each address is for -/
structure St (w : World) (ρ : Nat → Role) (X : Fx) (own : List (Addr × Obj)) (len : Nat) (recs : List Rec) (σs : List Side) (gen nxt : Int) (news : List (Addr × Obj)) : Prop where
  hand : Cell news X.H (HandOk X.C len)
  cells : Cell news X.C (CellsOk len)
  store : (X.S, instObj 157 X.SD) ∈ news
  sd : Cell news X.SD (StoreObj w.params X.RD nxt gen)
  rd : Cell news X.RD (IntDict w (kvx recs))
  rwd : Cell news X.RW (IntDict w (kvr recs))
  ows : ∃ n, (X.OWS, listOf (σs.map fun σ => Value.ref σ.ow).toArray n) ∈ news
  prd : Cell news X.PRD (IntDict w (kvp σs))
  side : ∀ σ ∈ σs, (σ.p, instObj 66 σ.pd) ∈ news ∧ Cell news σ.pd (ProcObj w.params σ) ∧ Cell news σ.ow (OwnObj σ)
  hrs : ∀ r ∈ recs, (r.x, instObj 38 r.dx) ∈ news ∧ Cell news r.dx (RecObj w.params r) ∧ Cell news r.rw (RowObj r)
  fx : ρ X.H = .H ∧ ρ X.C = .C ∧ ρ X.S = .S ∧ ρ X.SD = .SD ∧ ρ X.RD = .RD ∧ ρ X.RW = .RW ∧ ρ X.OWS = .OWS ∧ ρ X.PRD = .PRD
  rside : ∀ σ ∈ σs, ρ σ.p = .p σ.f ∧ ρ σ.pd = .pd σ.f ∧ ρ σ.ow = .ow σ.f
  rrec : ∀ r ∈ recs, ρ r.x = .x r.place ∧ ρ r.dx = .dx r.place ∧ ρ r.rw = .rw r.place
  mods : (X.RD == sysModules) = false ∧ (X.RW == sysModules) = false ∧ (X.PRD == sysModules) = false
  len : recs.length ≤ 100
  two : σs.length = 2
  gen : 0 ≤ gen ∧ gen < 2 ^ 40
  own : ∀ p ∈ own, p ∈ news ∧ ρ p.1 = .no

section
variable {w : World} {ρ : Nat → Role} {X : Fx} {own : List (Addr × Obj)} {len : Nat} {recs : List Rec} {σs : List Side} {gen nxt : Int} {news news' : List (Addr × Obj)}

theorem dl1 {a : Nat} {p : Addr × Obj} (h : p ∈ news) (h1 : p.1 ≠ a) : p ∈ dropL news [a] := mem_dropL.mpr ⟨h, fun hc => by rcases List.mem_cons.mp hc with e | hc; exact h1 e; cases hc⟩
theorem dl2 {a b : Nat} {p : Addr × Obj} (h : p ∈ news) (h1 : p.1 ≠ a) (h2 : p.1 ≠ b) : p ∈ dropL news [a, b] := mem_dropL.mpr ⟨h, fun hc => by rcases List.mem_cons.mp hc with e | hc; exact h1 e; exact (mem_dropL.mp (dl1 h h2)).2 hc⟩
theorem dl3 {a b c : Nat} {p : Addr × Obj} (h : p ∈ news) (h1 : p.1 ≠ a) (h2 : p.1 ≠ b) (h3 : p.1 ≠ c) : p ∈ dropL news [a, b, c] := mem_dropL.mpr ⟨h, fun hc => by rcases List.mem_cons.mp hc with e | hc; exact h1 e; exact (mem_dropL.mp (dl2 h h2 h3)).2 hc⟩

theorem Cell.keep {a : Nat} {Φ : Obj → Prop} {R : Role} {ch : Role → Prop} (h : Cell news a Φ) (hk : ∀ p ∈ news, ¬ ch (ρ p.1) → p ∈ news') (hr : ρ a = R) (hn : ¬ ch R) : Cell news' a Φ := by
  obtain ⟨o, h1, h2⟩ := h
  exact ⟨o, hk _ h1 (by dsimp only; rw [hr]; exact hn), h2⟩
theorem keep_mem {a : Nat} {o : Obj} {R : Role} {ch : Role → Prop} (h : (a, o) ∈ news) (hk : ∀ p ∈ news, ¬ ch (ρ p.1) → p ∈ news') (hr : ρ a = R) (hn : ¬ ch R) : (a, o) ∈ news' :=
  hk _ h (by dsimp only; rw [hr]; exact hn)
theorem Cell.sub {a : Nat} {Φ : Obj → Prop} (h : Cell news a Φ) (hk : ∀ p ∈ news, p ∈ news') : Cell news' a Φ := by
  obtain ⟨o, h1, h2⟩ := h
  exact ⟨o, hk _ h1, h2⟩

theorem St.keys (st : St w ρ X own len recs σs gen nxt news) : (recs.map (·.place)).Nodup := by
  obtain ⟨o, _, h⟩ := st.rd
  have := isDict_nodup h
  simpa [kvx, Function.comp_def] using this
theorem St.fs (st : St w ρ X own len recs σs gen nxt news) : (σs.map (·.f)).Nodup := by
  obtain ⟨o, _, h⟩ := st.prd
  have := isDict_nodup h
  simpa [kvp, Function.comp_def] using this

theorem nodup_ne {α : Type} {f : α → Int} {A B : List α} {r q : α} (h : ((A ++ r :: B).map f).Nodup) (hq : q ∈ A ∨ q ∈ B) : f q ≠ f r := by
  rw [List.map_append, List.map_cons, List.nodup_append] at h
  obtain ⟨_, h2, h3⟩ := h
  rcases hq with hq | hq
  · exact h3 _ (List.mem_map_of_mem hq) _ (List.mem_cons_self ..)
  · exact fun e => (List.nodup_cons.mp h2).1 (e ▸ List.mem_map_of_mem hq)

theorem mem_mid {α : Type} {A B : List α} {r q : α} : q ∈ A ++ r :: B ↔ q = r ∨ (q ∈ A ∨ q ∈ B) := by
  simp only [List.mem_append, List.mem_cons]
  constructor
  · rintro (h | h | h)
    · exact .inr (.inl h)
    · exact .inl h
    · exact .inr (.inr h)
  · rintro (h | h | h)
    · exact .inr (.inl h)
    · exact .inl h
    · exact .inr (.inr h)

theorem look_of_mem {r : Rec} (hn : (recs.map (·.place)).Nodup) (hr : r ∈ recs) : look recs r.place = some r := by
  unfold look
  induction recs with
  | nil => cases hr
  | cons q l ih =>
    rw [List.map_cons, List.nodup_cons] at hn
    rcases List.mem_cons.mp hr with rfl | h
    · simp
    · have h1 : decide (q.place = r.place) = false := decide_eq_false fun e => hn.1 (e ▸ List.mem_map_of_mem h)
      rw [List.find?_cons]
      simp only [h1]
      exact ih hn.2 h

theorem valueAt_side {σ : Side} (hn : (σs.map (·.f)).Nodup) (hr : σ ∈ σs) : valueAt (kvp σs) σ.f = some (.ref σ.p) := by
  unfold valueAt kvp
  induction σs with
  | nil => cases hr
  | cons q l ih =>
    rw [List.map_cons, List.nodup_cons] at hn
    rcases List.mem_cons.mp hr with rfl | h
    · simp
    · have h1 : decide (q.f = σ.f) = false := decide_eq_false fun e => hn.1 (e ▸ List.mem_map_of_mem h)
      rw [List.map_cons, List.find?_cons]
      simp only [h1]
      exact ih hn.2 h

theorem St.vx (st : St w ρ X own len recs σs gen nxt news) {r : Rec} (hr : r ∈ recs) : valueAt (kvx recs) r.place = some (.ref r.x) := valueAt_recs_some (look_of_mem st.keys hr)
theorem St.vr (st : St w ρ X own len recs σs gen nxt news) {r : Rec} (hr : r ∈ recs) : valueAt (kvr recs) r.place = some (.ref r.rw) := valueAt_recs_some (look_of_mem st.keys hr)
theorem St.vp (st : St w ρ X own len recs σs gen nxt news) {σ : Side} (hr : σ ∈ σs) : valueAt (kvp σs) σ.f = some (.ref σ.p) := valueAt_side st.fs hr

theorem St.mono (st : St w ρ X own len recs σs gen nxt news) (hk : ∀ p ∈ news, p ∈ news') : St w ρ X own len recs σs gen nxt news' where
  hand := st.hand.sub hk
  cells := st.cells.sub hk
  store := hk _ st.store
  sd := st.sd.sub hk
  rd := st.rd.sub hk
  rwd := st.rwd.sub hk
  ows := st.ows.imp fun n h => hk _ h
  prd := st.prd.sub hk
  side := fun σ h => ⟨hk _ (st.side σ h).1, (st.side σ h).2.1.sub hk, (st.side σ h).2.2.sub hk⟩
  hrs := fun r h => ⟨hk _ (st.hrs r h).1, (st.hrs r h).2.1.sub hk, (st.hrs r h).2.2.sub hk⟩
  fx := st.fx
  rside := st.rside
  rrec := st.rrec
  mods := st.mods
  len := st.len
  two := st.two
  gen := st.gen
  own := fun p h => ⟨hk _ (st.own p h).1, (st.own p h).2⟩

/-- the hand moves -/
theorem St.pick (st : St w ρ X own len recs σs gen nxt news) (hk : ∀ p ∈ news, p.1 ≠ X.H → p ∈ news') (hh : Cell news' X.H (HandOk X.C len)) : St w ρ X own len recs σs gen nxt news' := by
  obtain ⟨f1, f2, f3, f4, f5, f6, f7, f8⟩ := id st.fx
  have hk' : ∀ p ∈ news, ¬ (ρ p.1 = .H) → p ∈ news' := fun p hp h => hk p hp fun e => h (e ▸ f1)
  refine ⟨hh, st.cells.keep (ch := (· = .H)) hk' f2 (by simp), keep_mem (ch := (· = .H)) st.store hk' f3 (by simp), st.sd.keep (ch := (· = .H)) hk' f4 (by simp), st.rd.keep (ch := (· = .H)) hk' f5 (by simp), st.rwd.keep (ch := (· = .H)) hk' f6 (by simp),
    st.ows.imp fun n h => keep_mem (ch := (· = .H)) h hk' f7 (by simp), st.prd.keep (ch := (· = .H)) hk' f8 (by simp), ?_, ?_, st.fx, st.rside, st.rrec, st.mods, st.len, st.two, st.gen, fun p h => ⟨hk' _ (st.own p h).1 (by rw [(st.own p h).2]; simp), (st.own p h).2⟩⟩
  · intro σ h
    obtain ⟨a, b, c⟩ := st.side σ h
    obtain ⟨g1, g2, g3⟩ := st.rside σ h
    exact ⟨keep_mem (ch := (· = .H)) a hk' g1 (by simp), b.keep (ch := (· = .H)) hk' g2 (by simp), c.keep (ch := (· = .H)) hk' g3 (by simp)⟩
  · intro r h
    obtain ⟨a, b, c⟩ := st.hrs r h
    obtain ⟨g1, g2, g3⟩ := st.rrec r h
    exact ⟨keep_mem (ch := (· = .H)) a hk' g1 (by simp), b.keep (ch := (· = .H)) hk' g2 (by simp), c.keep (ch := (· = .H)) hk' g3 (by simp)⟩

/-- one side changes -/
theorem St.side_to {A B : List Side} {σ σ' : Side} (st : St w ρ X own len recs (A ++ σ :: B) gen nxt news) (e : σ'.f = σ.f ∧ σ'.ow = σ.ow ∧ σ'.p = σ.p ∧ σ'.pd = σ.pd) (hk : ∀ p ∈ news, p.1 ≠ σ.pd → p.1 ≠ σ.ow → p ∈ news')
    (hp : Cell news' σ.pd (ProcObj w.params σ')) (ho : Cell news' σ.ow (OwnObj σ')) : St w ρ X own len recs (A ++ σ' :: B) gen nxt news' := by
  obtain ⟨f1, f2, f3, f4, f5, f6, f7, f8⟩ := id st.fx
  have hσ : σ ∈ A ++ σ :: B := mem_mid.mpr (.inl rfl)
  obtain ⟨s1, s2, s3⟩ := st.rside σ hσ
  have fs := st.fs
  let ch : Role → Prop := fun R => R = .pd σ.f ∨ R = .ow σ.f
  have hk' : ∀ p ∈ news, ¬ ch (ρ p.1) → p ∈ news' := fun p hp h => hk p hp (fun e => h (.inl (e ▸ s2))) fun e => h (.inr (e ▸ s3))
  have em : (A ++ σ' :: B).map (fun σ => Value.ref σ.ow) = (A ++ σ :: B).map fun σ => Value.ref σ.ow := by simp [e.2.1]
  have ep : kvp (A ++ σ' :: B) = kvp (A ++ σ :: B) := by simp [kvp, e.1, e.2.2.1]
  refine ⟨st.hand.keep hk' f1 (by simp [ch]), st.cells.keep hk' f2 (by simp [ch]), keep_mem st.store hk' f3 (by simp [ch]), st.sd.keep hk' f4 (by simp [ch]), st.rd.keep hk' f5 (by simp [ch]), st.rwd.keep hk' f6 (by simp [ch]),
    em ▸ st.ows.imp fun n h => keep_mem h hk' f7 (by simp [ch]), ep ▸ st.prd.keep hk' f8 (by simp [ch]), ?_, ?_, st.fx, ?_, st.rrec, st.mods, st.len, ?_, st.gen, fun p h => ⟨hk' _ (st.own p h).1 (by rw [(st.own p h).2]; simp [ch]), (st.own p h).2⟩⟩
  · intro τ h
    rcases mem_mid.mp h with rfl | h
    · obtain ⟨a, b, c⟩ := st.side σ hσ
      rw [e.2.1, e.2.2.1, e.2.2.2]
      exact ⟨keep_mem a hk' s1 (by simp [ch]), hp, ho⟩
    · obtain ⟨a, b, c⟩ := st.side τ (mem_mid.mpr (.inr h))
      obtain ⟨g1, g2, g3⟩ := st.rside τ (mem_mid.mpr (.inr h))
      have := nodup_ne fs h
      exact ⟨keep_mem a hk' g1 (by simp [ch]), b.keep hk' g2 (by simp [ch, this]), c.keep hk' g3 (by simp [ch, this])⟩
  · intro r h
    obtain ⟨a, b, c⟩ := st.hrs r h
    obtain ⟨g1, g2, g3⟩ := st.rrec r h
    exact ⟨keep_mem a hk' g1 (by simp [ch]), b.keep hk' g2 (by simp [ch]), c.keep hk' g3 (by simp [ch])⟩
  · intro τ h
    rcases mem_mid.mp h with rfl | h
    · rw [e.1, e.2.1, e.2.2.1, e.2.2.2]
      exact ⟨s1, s2, s3⟩
    · exact st.rside τ (mem_mid.mpr (.inr h))
  · have := st.two
    simpa using this

/-- one record changes, and the store's generation with it -/
theorem St.rec_to {A B : List Rec} {r r' : Rec} {gen' : Int} (st : St w ρ X own len (A ++ r :: B) σs gen nxt news) (e : r'.place = r.place ∧ r'.x = r.x ∧ r'.dx = r.dx ∧ r'.rw = r.rw) (hk : ∀ p ∈ news, p.1 ≠ X.SD → p.1 ≠ r.dx → p.1 ≠ r.rw → p ∈ news')
    (hs : Cell news' X.SD (StoreObj w.params X.RD nxt gen')) (hg : 0 ≤ gen' ∧ gen' < 2 ^ 40)
    (hp : Cell news' r.dx (RecObj w.params r')) (ho : Cell news' r.rw (RowObj r')) : St w ρ X own len (A ++ r' :: B) σs gen' nxt news' := by
  obtain ⟨f1, f2, f3, f4, f5, f6, f7, f8⟩ := id st.fx
  have hσ : r ∈ A ++ r :: B := mem_mid.mpr (.inl rfl)
  obtain ⟨s1, s2, s3⟩ := st.rrec r hσ
  have fs := st.keys
  let ch : Role → Prop := fun R => R = .SD ∨ R = .dx r.place ∨ R = .rw r.place
  have hk' : ∀ p ∈ news, ¬ ch (ρ p.1) → p ∈ news' := fun p hp h => hk p hp (fun e => h (.inl (e ▸ f4))) (fun e => h (.inr (.inl (e ▸ s2)))) fun e => h (.inr (.inr (e ▸ s3)))
  have em : kvx (A ++ r' :: B) = kvx (A ++ r :: B) := by simp [kvx, e.1, e.2.1]
  have ep : kvr (A ++ r' :: B) = kvr (A ++ r :: B) := by simp [kvr, e.1, e.2.2.2]
  refine ⟨st.hand.keep hk' f1 (by simp [ch]), st.cells.keep hk' f2 (by simp [ch]), keep_mem st.store hk' f3 (by simp [ch]), hs, em ▸ st.rd.keep hk' f5 (by simp [ch]), ep ▸ st.rwd.keep hk' f6 (by simp [ch]),
    st.ows.imp fun n h => keep_mem h hk' f7 (by simp [ch]), st.prd.keep hk' f8 (by simp [ch]), ?_, ?_, st.fx, st.rside, ?_, st.mods, ?_, st.two, hg, fun p h => ⟨hk' _ (st.own p h).1 (by rw [(st.own p h).2]; simp [ch]), (st.own p h).2⟩⟩
  · intro τ h
    obtain ⟨a, b, c⟩ := st.side τ h
    obtain ⟨g1, g2, g3⟩ := st.rside τ h
    exact ⟨keep_mem a hk' g1 (by simp [ch]), b.keep hk' g2 (by simp [ch]), c.keep hk' g3 (by simp [ch])⟩
  · intro q h
    rcases mem_mid.mp h with rfl | h
    · obtain ⟨a, b, c⟩ := st.hrs r hσ
      rw [e.2.1, e.2.2.1, e.2.2.2]
      exact ⟨keep_mem a hk' s1 (by simp [ch]), hp, ho⟩
    · obtain ⟨a, b, c⟩ := st.hrs q (mem_mid.mpr (.inr h))
      obtain ⟨g1, g2, g3⟩ := st.rrec q (mem_mid.mpr (.inr h))
      have := nodup_ne fs h
      exact ⟨keep_mem a hk' g1 (by simp [ch]), b.keep hk' g2 (by simp [ch, this]), c.keep hk' g3 (by simp [ch, this])⟩
  · intro τ h
    rcases mem_mid.mp h with rfl | h
    · rw [e.1, e.2.1, e.2.2.1, e.2.2.2]
      exact ⟨s1, s2, s3⟩
    · exact st.rrec τ (mem_mid.mpr (.inr h))
  · have := st.len
    simpa using this

theorem without_mid {A B : List Rec} {r : Rec} {g : Rec → Value} (hn : ((A ++ r :: B).map (·.place)).Nodup) : without ((A ++ r :: B).map fun r => (r.place, g r)) r.place = (A ++ B).map fun r => (r.place, g r) := by
  have h1 : ∀ q, q ∈ A ∨ q ∈ B → q.place ≠ r.place := fun q hq => nodup_ne hn hq
  unfold without
  rw [List.map_append, List.filter_append, List.map_cons, List.filter_cons]
  have e1 : ∀ l : List Rec, (∀ q ∈ l, q.place ≠ r.place) → (l.map fun r => (r.place, g r)).filter (fun p => decide (p.1 ≠ r.place)) = l.map fun r => (r.place, g r) := fun l hl => by
    rw [List.filter_eq_self]
    intro a ha
    obtain ⟨q, hq, rfl⟩ := List.mem_map.mp ha
    simpa using hl q hq
  rw [e1 A fun q hq => h1 q (.inl hq), e1 B fun q hq => h1 q (.inr hq)]
  simp

/-- one record goes -/
theorem St.pop {A B : List Rec} {r : Rec} (st : St w ρ X own len (A ++ r :: B) σs gen nxt news) (hk : ∀ p ∈ news, p.1 ≠ X.RD → p.1 ≠ X.RW → p ∈ news')
    (hp : Cell news' X.RD (IntDict w (without (kvx (A ++ r :: B)) r.place))) (ho : Cell news' X.RW (IntDict w (without (kvr (A ++ r :: B)) r.place))) : St w ρ X own len (A ++ B) σs gen nxt news' := by
  obtain ⟨f1, f2, f3, f4, f5, f6, f7, f8⟩ := id st.fx
  have fs := st.keys
  let ch : Role → Prop := fun R => R = .RD ∨ R = .RW
  have hk' : ∀ p ∈ news, ¬ ch (ρ p.1) → p ∈ news' := fun p hp h => hk p hp (fun e => h (.inl (e ▸ f5))) fun e => h (.inr (e ▸ f6))
  have hin : ∀ q ∈ A ++ B, q ∈ A ++ r :: B := fun q hq => mem_mid.mpr (.inr (List.mem_append.mp hq))
  refine ⟨st.hand.keep hk' f1 (by simp [ch]), st.cells.keep hk' f2 (by simp [ch]), keep_mem st.store hk' f3 (by simp [ch]), st.sd.keep hk' f4 (by simp [ch]), by rw [show without (kvx (A ++ r :: B)) r.place = kvx (A ++ B) from without_mid (g := fun r => Value.ref r.x) fs] at hp; exact hp, by rw [show without (kvr (A ++ r :: B)) r.place = kvr (A ++ B) from without_mid (g := fun r => Value.ref r.rw) fs] at ho; exact ho,
    st.ows.imp fun n h => keep_mem h hk' f7 (by simp [ch]), st.prd.keep hk' f8 (by simp [ch]), ?_, ?_, st.fx, st.rside, fun q hq => st.rrec q (hin q hq), st.mods, ?_, st.two, st.gen, fun p h => ⟨hk' _ (st.own p h).1 (by rw [(st.own p h).2]; simp [ch]), (st.own p h).2⟩⟩
  · intro τ h
    obtain ⟨a, b, c⟩ := st.side τ h
    obtain ⟨g1, g2, g3⟩ := st.rside τ h
    exact ⟨keep_mem a hk' g1 (by simp [ch]), b.keep hk' g2 (by simp [ch]), c.keep hk' g3 (by simp [ch])⟩
  · intro q h
    obtain ⟨a, b, c⟩ := st.hrs q (hin q h)
    obtain ⟨g1, g2, g3⟩ := st.rrec q (hin q h)
    exact ⟨keep_mem a hk' g1 (by simp [ch]), b.keep hk' g2 (by simp [ch]), c.keep hk' g3 (by simp [ch])⟩
  · have := st.len
    simp at this ⊢
    omega
end
end Mine

/-! Ru -/
namespace Mine
set_option maxRecDepth 100000
set_option maxHeartbeats 8000000

theorem pick_lit {w : World} {p : Program} {loose : List Str} {mean : ExcName → Option Value} {mg mb : Str → Option Value}
  {dp un : Nat} {gd : Option (List Code)} {cn : Str} {cs : Scope} {a : Addr} {ccd : Value} {cl : List (Str × Addr)} {outer : List Env} {A₀ : Around} {base h₀ : Heap} {L : Addr} {m : Str → Option Value} {hs0 : Heap} {gn : Array GenState} {dr : Drawn} {tk0 : Nat} {os : OsState} {Q E : Value → Shared → Prop}
  {H C len : Nat} {lim : Int} {t4 : Tok} {ho co : Obj} {news : List (Addr × Obj)}
  (B : Below A₀ base outer h₀) (F : Fr h₀ L hs0 m) (T : Top p loose mean mg mb h₀) (hk : cs.kind = .function)
  (hdp : dp + 20 < recursionLimit) (hun : un + 200 < cLine)
  (N : News h₀ L hs0 news) (hH : (H, ho) ∈ news) (hho : HandOk C len ho) (hC : (C, co) ∈ news) (hco : CellsOk len co) (hCH : C ≠ H) (hlim : 0 < lim) (hlim2 : lim < 1000)
  (ret : ∀ d t ho' news' h' tk', 0 ≤ d → d < lim → Fr h₀ L h' m → News h₀ L h' news' → (H, ho') ∈ news' → HandOk C len ho' → (∀ p ∈ news, p.1 ≠ H → p ∈ news') → Q (.int d t) ⟨h', gn, dr, tk', os⟩) :
  (hd.heap_39 w.params).In h₀ → wpAny (model Challenge.rw_no0154_01.row.prog w) (ktrTop dp un gd cn cs L a ccd cl outer) (call (.ref 182) [.ref H, .int lim t4]) Q E ⟨hs0, gn, dr, tk0, os⟩ := by
  obtain ⟨i, n, sd, t1, t2, t3, nn, rfl, a1, a2, a3, a4⟩ := hho
  obtain ⟨cvs, ns, nc, rfl, b1, b2, b3⟩ := hco
  refine pick_spec (rest := dropL news [H]) B F T hk hdp hun (news_add N hH (news_add N hC (news_drop N [H]))) (dropL_ne (List.mem_cons_self ..)) hCH b1 (by omega) a1 (by omega) a3 a4 hlim hlim2 ?_
  intro d t i' n' sd' t1' t2' t3' nn' h' tk' c1 c2 c3 c4 c5 c6 F' N'
  exact ret d t _ _ h' tk' c1 c2 F' N' (.head _) ⟨_, _, _, _, _, _, _, rfl, c3, by omega, c5, c6⟩ fun p hp h => .tail _ (.tail _ (mem_dropL.mpr ⟨hp, by simpa using h⟩))

theorem key_of {recs : List Rec} : ∀ {vs : List Value} {ns : List Int} {n : Nat} {k : Int}, IntsAre vs ns → ns.length = n → (∀ x ∈ ns, x ∈ (kvr recs).map (·.1)) → 0 ≤ k → k < (n : Int) → ∃ r ∈ recs, ∃ t, nthV (List.toArray vs).toList k.toNat = some (.int r.place t) := by
  intro vs ns n k h hn hs h0 h1
  have key : ∀ {vs : List Value} {ns : List Int} (i : Nat), IntsAre vs ns → i < ns.length → ∃ x ∈ ns, ∃ t, nthV vs i = some (.int x t) := by
    intro vs ns i h
    induction h generalizing i with
    | nil => intro h; cases h
    | cons n t _ ih =>
      intro hi
      cases i with
      | zero => exact ⟨n, List.mem_cons_self .., t, rfl⟩
      | succ i =>
        obtain ⟨x, hx, t', e⟩ := ih i (by simpa using hi)
        exact ⟨x, List.mem_cons_of_mem _ hx, t', e⟩
  obtain ⟨x, hx, t, e⟩ := key k.toNat h (by omega)
  have hx' := hs x hx
  rw [List.map_map] at hx'
  obtain ⟨r, hr, rfl⟩ := List.mem_map.mp hx'
  exact ⟨r, hr, t, by simpa using e⟩
theorem nthV_ints : ∀ {l : List Value} (k : Nat), (∀ v ∈ l, ∃ i t, v = .int i t) → k < l.length → ∃ v t', nthV l k = some (.int v t')
  | [], _, _, h => nomatch h
  | v :: _, 0, h, _ => by
    obtain ⟨i, t, rfl⟩ := h v (.head _)
    exact ⟨i, t, rfl⟩
  | _ :: _, k + 1, h, hk => nthV_ints k (fun v hv => h v (.tail _ hv)) (Nat.lt_of_succ_lt_succ hk)
theorem all_int0 : ∀ v ∈ ([] : List Value), ∃ i t, v = .int i t := fun _ h => nomatch h
theorem all_int1 {i : Int} {t : Tok} {l : List Value} (h : ∀ v ∈ l, ∃ i t, v = .int i t) : ∀ v ∈ Value.int i t :: l, ∃ i t, v = .int i t := fun v hv => by
  rcases List.mem_cons.mp hv with rfl | hv
  · exact ⟨i, t, rfl⟩
  · exact h v hv
theorem toNat_lt' {k : Int} {n : Nat} (h0 : 0 ≤ k) (h : k < (n : Int)) : k.toNat < n := by omega
theorem nth4M {l : Nat} {a b c d : Int} {t1 t2 t3 t4 : Tok} {n : Nat} {news : List (Addr × Obj)} {k : Int} (_ : (l, listOf #[.int a t1, .int b t2, .int c t3, .int d t4] n) ∈ news) (h : 0 ≤ k) (h2 : k < 4) : ∃ v t', nthV (#[Value.int a t1, .int b t2, .int c t3, .int d t4] : Array Value).toList k.toNat = some (.int v t') :=
  nthV_ints _ (all_int1 (all_int1 (all_int1 (all_int1 all_int0)))) (toNat_lt' (n := 4) h h2)
theorem nth5M {l : Nat} {a b c d e : Int} {t1 t2 t3 t4 t5 : Tok} {n : Nat} {news : List (Addr × Obj)} {k : Int} (_ : (l, listOf #[.int a t1, .int b t2, .int c t3, .int d t4, .int e t5] n) ∈ news) (h : 0 ≤ k) (h2 : k < 5) : ∃ v t', nthV (#[Value.int a t1, .int b t2, .int c t3, .int d t4, .int e t5] : Array Value).toList k.toNat = some (.int v t') :=
  nthV_ints _ (all_int1 (all_int1 (all_int1 (all_int1 (all_int1 all_int0))))) (toNat_lt' (n := 5) h h2)
theorem nth2M {l : Nat} {a b : Str} {t u : Tok} {n : Nat} {news : List (Addr × Obj)} {k : Int} (_ : (l, listOf #[.str a t, .str b u] n) ∈ news) (h : 0 ≤ k) (h2 : k < 2) : ∃ kd t', nthV (#[Value.str a t, Value.str b u] : Array Value).toList k.toNat = some (.str kd t') := by
  rcases (by omega : k = 0 ∨ k = 1) with rfl | rfl
  · exact ⟨a, t, rfl⟩
  · exact ⟨b, u, rfl⟩
section
variable {prog : Program} {w : World} {A : Around} {E : Value → Shared → Prop} {s : Shared} {h₀ : Heap} {L : Addr} {m : Str → Option Value} {news : List (Addr × Obj)}

theorem hits0 {ka : List (Int × Value)} (h : ka.length = ([] : List (Int × Value)).length) : KeqHits A s [] ka true := by
  cases ka with
  | nil => exact .nil
  | cons => cases h
theorem dict_eq0 {a b : Addr} {oa ob : Obj} {ka : List (Int × Value)} {Q : Value → Shared → Prop} (N : News h₀ L s.heap news) (h1 : (a, oa) ∈ news) (h2 : oa.IsDictOf (intKind prog w) ka) (l1 : (a == sysModules) = false)
    (h3 : (b, ob) ∈ news) (h4 : ob.IsDictOf (intKind prog w) []) (l2 : (b == sysModules) = false) (hu : A.units < cLine) (h : Q (.bool (decide ((ka.length : Int) = 0))) s) : wpAny (model prog w) A (compareOp .Eq (.ref a) (.ref b)) Q E s := by
  refine keq_eq l1 l2 (kda_dict N h1 h2) (kda_dict N h3 h4) hu hits0 ?_
  rw [show (ka.length == ([] : List (Int × Value)).length && true) = decide ((ka.length : Int) = 0) from by rw [Bool.and_true, Bool.eq_iff_iff, beq_iff_eq, decide_eq_true_eq]; simp]
  exact h
theorem dict_ne0 {a b : Addr} {oa ob : Obj} {ka : List (Int × Value)} {Q : Value → Shared → Prop} (N : News h₀ L s.heap news) (h1 : (a, oa) ∈ news) (h2 : oa.IsDictOf (intKind prog w) ka) (l1 : (a == sysModules) = false)
    (h3 : (b, ob) ∈ news) (h4 : ob.IsDictOf (intKind prog w) []) (l2 : (b == sysModules) = false) (hu : A.units < cLine) (h : Q (.bool (!(decide ((ka.length : Int) = 0)))) s) : wpAny (model prog w) A (compareOp .NotEq (.ref a) (.ref b)) Q E s := by
  refine keq_ne l1 l2 (kda_dict N h1 h2) (kda_dict N h3 h4) hu hits0 ?_
  rw [show (ka.length == ([] : List (Int × Value)).length && true) = decide ((ka.length : Int) = 0) from by rw [Bool.and_true, Bool.eq_iff_iff, beq_iff_eq, decide_eq_true_eq]; simp]
  exact h

theorem ints_of_keys {kvs : List (Int × Value)} : ∀ {vs : List Value} (i : Nat), (∀ (j : Nat) (v : Value), vs[j]? = some v → ∃ k x, kvs[i + j]? = some (k, x) ∧ (intKind prog w).is k v = true) → ∃ ns, IntsAre vs ns ∧ ns.length = vs.length ∧ ∀ x ∈ ns, x ∈ kvs.map (·.1)
  | [], _, _ => ⟨[], .nil, rfl, fun _ h => nomatch h⟩
  | v :: vs, i, h => by
    obtain ⟨k, x, h1, h2⟩ := h 0 v rfl
    obtain ⟨ns, g1, g2, g3⟩ := ints_of_keys (kvs := kvs) (vs := vs) (i + 1) fun j v hv => by
      have := h (j + 1) v (by simpa using hv)
      rwa [Nat.add_assoc, Nat.add_comm 1 j]
    obtain ⟨t, rfl⟩ := intKind_inv h2
    refine ⟨k :: ns, .cons _ _ g1, by simp [g2], fun y hy => ?_⟩
    rcases List.mem_cons.mp hy with rfl | hy
    · exact List.mem_map.mpr ⟨(y, x), List.mem_of_getElem? h1, rfl⟩
    · exact g3 y hy

theorem sorted_int {d : Addr} {o : Obj} {kvs : List (Int × Value)} {Q : Value → Shared → Prop} (hh : A.handled = none) (F : Fr h₀ L s.heap m) (N : News h₀ L s.heap news) (hl : (d, o) ∈ news) (hd : o.IsDictOf (intKind prog w) kvs) (lo : (d == sysModules) = false) (hn : kvs.length < 64)
    (h : ∀ (D : Addr) h' tk vs ns c, Fr h₀ L h' m → News h₀ L h' ((D, listOf (List.toArray vs) c) :: news) → (∀ q ∈ news, q.1 < D) → IntsAre vs ns → ns.length = kvs.length → (∀ x ∈ ns, x ∈ kvs.map (·.1)) → Q (.ref D) { s with heap := h', toks := tk }) :
    wpAny (model prog w) A (call (.builtin "sorted") [.ref d]) Q E s := by
  obtain ⟨ep, hat⟩ := KdkAt.of hd
  have hls := hat.dictAt (N _ hl).1
  refine kdu_sorted (kdl_dict lo) hh F N hls (by rw [sizeLine_eq]; omega) ?_
  intro D h' tk vs F' N' hlt hlen hP
  obtain ⟨ns, g1, g2, g3⟩ := ints_of_keys (kvs := kvs) (vs := vs) 0 (fun j v hv => by simpa using hP j v hv)
  refine ksk_lsort (vs := vs) (ns := ns) F' N' (fun o => .head fun q hq => Nat.ne_of_lt (hlt q hq)) rfl g1 (by omega) ?_
  intro vs' ns' c h'' F'' N'' i1 i2 i3 _ _
  exact h D h'' tk vs' ns' c F'' N'' hlt i1 (by omega) fun x hx => g3 x (i3.mem_iff.mp hx)
theorem sorted_lit {hp : Heap} {gn : Array GenState} {dr : Drawn} {tk0 : Nat} {os : OsState} {d : Addr} {o : Obj} {kvs : List (Int × Value)} {Q : Value → Shared → Prop} (hh : A.handled = none) (F : Fr h₀ L hp m) (N : News h₀ L hp news) (hl : (d, o) ∈ news) (hd : o.IsDictOf (intKind prog w) kvs) (lo : (d == sysModules) = false) (hn : kvs.length < 64)
    (h : ∀ (D : Addr) h' tk vs ns c, Fr h₀ L h' m → News h₀ L h' ((D, listOf (List.toArray vs) c) :: news) → (∀ q ∈ news, q.1 < D) → IntsAre vs ns → ns.length = kvs.length → (∀ x ∈ ns, x ∈ kvs.map (·.1)) → Q (.ref D) ⟨h', gn, dr, tk, os⟩) :
    wpAny (model prog w) A (call (.builtin "sorted") [.ref d]) Q E ⟨hp, gn, dr, tk0, os⟩ :=
  sorted_int (s := ⟨hp, gn, dr, tk0, os⟩) hh F N hl hd lo hn h

end
end Mine

/-! StAdd -/
namespace Mine
set_option maxRecDepth 100000
section
variable {w : World} {ρ : Nat → Role} {X : Fx} {own : List (Addr × Obj)} {len : Nat} {recs : List Rec} {σs : List Side} {gen nxt : Int} {news news' : List (Addr × Obj)}

noncomputable def newRole (ρ : Nat → Role) (n : Rec) (a : Nat) : Role := if a = n.x then .x n.place else if a = n.dx then .dx n.place else if a = n.rw then .rw n.place else ρ a
theorem newRole_old {n : Rec} {a : Nat} (h1 : a < n.dx) (h2 : n.dx < n.x) (h3 : n.x < n.rw) : newRole ρ n a = ρ a := by
  unfold newRole
  rw [if_neg (by omega), if_neg (by omega), if_neg (by omega)]

/-- a record is added: at the side σ, and with the records before it as `recs₁` -/
theorem St.add {A B : List Side} {σ σ' : Side} {recs₁ : List Rec} {n : Rec} {ch : Role → Prop} (st : St w ρ X own len recs (A ++ σ :: B) gen nxt news) (e : σ'.f = σ.f ∧ σ'.ow = σ.ow ∧ σ'.p = σ.p ∧ σ'.pd = σ.pd)
    (hch : ∀ R, ch R → ∃ k, R = .dx k ∨ R = .rw k) (hlt : ∀ p ∈ news, p.1 < n.dx) (hlt2 : n.dx < n.x) (hlt3 : n.x < n.rw)
    (hk : ∀ p ∈ news, p.1 ≠ X.SD → p.1 ≠ X.RD → p.1 ≠ X.RW → p.1 ≠ σ.pd → p.1 ≠ σ.ow → ¬ ch (ρ p.1) → p ∈ news')
    (hsd : Cell news' X.SD (StoreObj w.params X.RD (nxt + 1) (gen + 1))) (hg : gen + 1 < 2 ^ 40)
    (hrd : Cell news' X.RD (IntDict w (kvx recs₁ ++ [(n.place, .ref n.x)]))) (hrw : Cell news' X.RW (IntDict w (kvr recs₁ ++ [(n.place, .ref n.rw)])))
    (hpd : Cell news' σ.pd (ProcObj w.params σ')) (how : Cell news' σ.ow (OwnObj σ'))
    (hrs : ∀ q ∈ recs₁, (q.x, instObj 38 q.dx) ∈ news' ∧ Cell news' q.dx (RecObj w.params q) ∧ Cell news' q.rw (RowObj q))
    (hro : ∀ q ∈ recs₁, ∃ q' ∈ recs, q.place = q'.place ∧ q.x = q'.x ∧ q.dx = q'.dx ∧ q.rw = q'.rw) (hl : recs₁.length = recs.length) (hl2 : recs.length < 100)
    (hn1 : (n.x, instObj 38 n.dx) ∈ news') (hn2 : Cell news' n.dx (RecObj w.params n)) (hn3 : Cell news' n.rw (RowObj n)) :
    St w (newRole ρ n) X own len (recs₁ ++ [n]) (A ++ σ' :: B) (gen + 1) (nxt + 1) news' := by
  obtain ⟨f1, f2, f3, f4, f5, f6, f7, f8⟩ := id st.fx
  have hσ : σ ∈ A ++ σ :: B := mem_mid.mpr (.inl rfl)
  obtain ⟨s1, s2, s3⟩ := st.rside σ hσ
  have fs := st.fs
  let c2 : Role → Prop := fun R => R = .SD ∨ R = .RD ∨ R = .RW ∨ R = .pd σ.f ∨ R = .ow σ.f ∨ ch R
  have hk' : ∀ p ∈ news, ¬ c2 (ρ p.1) → p ∈ news' := fun p hp h => hk p hp (fun e => h (.inl (e ▸ f4))) (fun e => h (.inr (.inl (e ▸ f5)))) (fun e => h (.inr (.inr (.inl (e ▸ f6)))))
    (fun e => h (.inr (.inr (.inr (.inl (e ▸ s2)))))) (fun e => h (.inr (.inr (.inr (.inr (.inl (e ▸ s3))))))) fun e => h (.inr (.inr (.inr (.inr (.inr e)))))
  have nc : ∀ R, (∀ k, R ≠ .dx k) → (∀ k, R ≠ .rw k) → ¬ ch R := fun R h1 h2 hc => by
    obtain ⟨k, h | h⟩ := hch R hc
    · exact h1 k h
    · exact h2 k h
  have old : ∀ {a : Nat} {R : Role} {o : Obj}, (a, o) ∈ news → ρ a = R → newRole ρ n a = R := fun h1 h2 => (newRole_old (hlt _ h1) hlt2 hlt3).trans h2
  have em : (A ++ σ' :: B).map (fun σ => Value.ref σ.ow) = (A ++ σ :: B).map fun σ => Value.ref σ.ow := by simp [e.2.1]
  have ep : kvp (A ++ σ' :: B) = kvp (A ++ σ :: B) := by simp [kvp, e.1, e.2.2.1]
  have ekx : kvx (recs₁ ++ [n]) = kvx recs₁ ++ [(n.place, .ref n.x)] := by simp [kvx]
  have ekr : kvr (recs₁ ++ [n]) = kvr recs₁ ++ [(n.place, .ref n.rw)] := by simp [kvr]
  have hg0 := st.gen
  refine ⟨st.hand.keep hk' f1 ?_, st.cells.keep hk' f2 ?_, keep_mem st.store hk' f3 ?_, hsd, ekx ▸ hrd, ekr ▸ hrw,
    em ▸ st.ows.imp fun n h => keep_mem h hk' f7 ?_, ep ▸ st.prd.keep hk' f8 ?_, ?_, ?_, ?_, ?_, ?_, st.mods, ?_, ?_, ⟨by omega, hg⟩, fun p h => ⟨hk' _ (st.own p h).1 (by rw [(st.own p h).2]; simp [c2, nc]), old (st.own p h).1 (st.own p h).2⟩⟩
  any_goals (simp only [c2]; simp [nc])
  · intro τ h
    have h1 : ¬ c2 (.p τ.f) := by simp [c2, nc]
    rcases mem_mid.mp h with rfl | h | h
    rotate_left
    · have hτ : τ ∈ A ++ σ :: B := mem_mid.mpr (.inr (.inl h))
      obtain ⟨a, b, c⟩ := st.side τ hτ
      obtain ⟨g1, g2, g3⟩ := st.rside τ hτ
      have := nodup_ne fs (.inl h)
      exact ⟨keep_mem a hk' g1 h1, b.keep hk' g2 (by simp [c2, nc, this]), c.keep hk' g3 (by simp [c2, nc, this])⟩
    · have hτ : τ ∈ A ++ σ :: B := mem_mid.mpr (.inr (.inr h))
      obtain ⟨a, b, c⟩ := st.side τ hτ
      obtain ⟨g1, g2, g3⟩ := st.rside τ hτ
      have := nodup_ne fs (.inr h)
      exact ⟨keep_mem a hk' g1 h1, b.keep hk' g2 (by simp [c2, nc, this]), c.keep hk' g3 (by simp [c2, nc, this])⟩
    · obtain ⟨a, b, c⟩ := st.side σ hσ
      rw [e.2.1, e.2.2.1, e.2.2.2]
      exact ⟨keep_mem a hk' s1 (by simp [c2, nc]), hpd, how⟩
  · intro q h
    rcases List.mem_append.mp h with h | h
    · exact hrs q h
    · rw [List.mem_singleton] at h
      subst h
      exact ⟨hn1, hn2, hn3⟩
  · obtain ⟨o1, m1, _⟩ := st.hand
    obtain ⟨o2, m2, _⟩ := st.cells
    obtain ⟨o4, m4, _⟩ := st.sd
    obtain ⟨o5, m5, _⟩ := st.rd
    obtain ⟨o6, m6, _⟩ := st.rwd
    obtain ⟨o7, m7⟩ := st.ows
    obtain ⟨o8, m8, _⟩ := st.prd
    exact ⟨old m1 f1, old m2 f2, old st.store f3, old m4 f4, old m5 f5, old m6 f6, old m7 f7, old m8 f8⟩
  · intro τ h
    have key : ∀ τ ∈ A ++ σ :: B, newRole ρ n τ.p = .p τ.f ∧ newRole ρ n τ.pd = .pd τ.f ∧ newRole ρ n τ.ow = .ow τ.f := fun τ hτ => by
      obtain ⟨a, ⟨_, b, _⟩, _, c, _⟩ := st.side τ hτ
      obtain ⟨g1, g2, g3⟩ := st.rside τ hτ
      exact ⟨old a g1, old b g2, old c g3⟩
    rcases mem_mid.mp h with rfl | h | h
    · have := key σ hσ
      rw [e.1, e.2.1, e.2.2.1, e.2.2.2]
      exact this
    · exact key τ (mem_mid.mpr (.inr (.inl h)))
    · exact key τ (mem_mid.mpr (.inr (.inr h)))
  · intro q h
    rcases List.mem_append.mp h with h | h
    · obtain ⟨q', hq, e1, e2, e3, e4⟩ := hro q h
      obtain ⟨a, ⟨_, b, _⟩, _, c, _⟩ := st.hrs q' hq
      obtain ⟨g1, g2, g3⟩ := st.rrec q' hq
      rw [e1, e2, e3, e4]
      exact ⟨old a g1, old b g2, old c g3⟩
    · rw [List.mem_singleton] at h
      subst h
      unfold newRole
      refine ⟨if_pos rfl, ?_, ?_⟩
      · rw [if_neg (by omega), if_pos rfl]
      · rw [if_neg (by omega), if_neg (by omega), if_pos rfl]
  · rw [List.length_append, List.length_singleton]
    omega
  · have := st.two
    simp at this ⊢
    omega
end
end Mine

/-! Pure -/
namespace Mine

/-- the chain of a side: the places that it meets, the last of them -/
inductive Path (recs : List Rec) (f : Int) : Int → List Int → Int → Int → Prop
  | stop {place prev : Int} : place < 0 → Path recs f place [] prev prev
  | go {place prev last : Int} {c : List Int} {r : Rec} : 0 ≤ place → look recs place = some r → r.functor = f → Path recs f r.next c place last → Path recs f place (place :: c) prev last

structure Bd (recs : List Rec) (σs : List Side) (gen nxt : Int) : Prop where
  recOk : ∀ r ∈ recs, r.key = r.place ∧ 0 ≤ r.place ∧ r.place < nxt ∧ 1 ≤ r.birth ∧ r.birth ≤ gen ∧ (r.death < 0 ∨ (r.birth < r.death ∧ r.death ≤ gen))
  sideOk : ∀ σ ∈ σs, σ.kind = Str.ofString "dynamic" ∧ ∃ c, c.Nodup ∧ Path recs σ.f σ.first c (-1) σ.last
  keys : (recs.map (·.place)).Nodup
  fs : (σs.map (·.f)).Nodup
  gen0 : 0 ≤ gen
  nxt0 : 0 ≤ nxt

theorem rec_mono {r : Rec} {gen nxt gen' nxt' : Int} (h : r.key = r.place ∧ 0 ≤ r.place ∧ r.place < nxt ∧ 1 ≤ r.birth ∧ r.birth ≤ gen ∧ (r.death < 0 ∨ (r.birth < r.death ∧ r.death ≤ gen))) (hg : gen ≤ gen') (hn : nxt ≤ nxt') :
    r.key = r.place ∧ 0 ≤ r.place ∧ r.place < nxt' ∧ 1 ≤ r.birth ∧ r.birth ≤ gen' ∧ (r.death < 0 ∨ (r.birth < r.death ∧ r.death ≤ gen')) :=
  ⟨h.1, h.2.1, Int.lt_of_lt_of_le h.2.2.1 hn, h.2.2.2.1, Int.le_trans h.2.2.2.2.1 hg, h.2.2.2.2.2.imp id fun x => ⟨x.1, Int.le_trans x.2 hg⟩⟩
theorem succ_le (g : Int) : g ≤ g + 1 := Int.le_add_one (Int.le_refl g)
theorem rec_new {n g f nx : Int} {x dx rw : Nat} (hg : 0 ≤ g) (hn : 0 ≤ n) : (⟨n, x, dx, rw, n, f, g + 1, -1, nx⟩ : Rec).key = n ∧ 0 ≤ n ∧ n < n + 1 ∧ 1 ≤ g + 1 ∧ g + 1 ≤ g + 1 ∧ ((-1 : Int) < 0 ∨ (g + 1 < -1 ∧ (-1 : Int) ≤ g + 1)) :=
  ⟨rfl, hn, Int.lt_succ n, by omega, Int.le_refl _, .inl (by decide)⟩
theorem sound_of {r : Rec} {place f gen : Int} (hp : r.place = place) (hf : r.functor = f) (h : r.key = r.place ∧ 1 ≤ r.birth ∧ r.birth ≤ gen ∧ (r.death < 0 ∨ (r.birth < r.death ∧ r.death ≤ gen))) : soundB r place f gen = true := by
  simp only [soundB, Bool.and_eq_true, Bool.or_eq_true, decide_eq_true_eq]
  exact ⟨⟨⟨⟨h.1.trans hp, hf⟩, h.2.1⟩, h.2.2.1⟩, h.2.2.2⟩

theorem Path.mem {recs : List Rec} {f place prev last : Int} {c : List Int} (h : Path recs f place c prev last) : ∀ p ∈ c, 0 ≤ p ∧ ∃ r, look recs p = some r ∧ r.functor = f := by
  induction h with
  | stop => intro p hp; cases hp
  | go h0 hl hf _ ih =>
    intro p hp
    rcases List.mem_cons.mp hp with rfl | hp
    · exact ⟨h0, _, hl, hf⟩
    · exact ih p hp

theorem Path.neg {recs : List Rec} {f place prev last : Int} {c : List Int} (h : Path recs f place c prev last) (h0 : place < 0) : c = [] ∧ last = prev := by
  cases h with
  | stop => exact ⟨rfl, rfl⟩
  | go h1 => omega

theorem Path.last_mem {recs : List Rec} {f place prev last : Int} {c : List Int} (h : Path recs f place c prev last) : 0 ≤ place → last ∈ c := by
  induction h with
  | stop h1 => intro h0; omega
  | @go place prev last c r h1 hl hf hp ih =>
    intro _
    by_cases hn : 0 ≤ r.next
    · exact List.mem_cons_of_mem _ (ih hn)
    · obtain ⟨rfl, rfl⟩ := hp.neg (by omega)
      exact List.mem_cons_self ..

theorem Path.prev {recs : List Rec} {f place prev last : Int} {c : List Int} (h : Path recs f place c prev last) (h0 : 0 ≤ place) (prev' : Int) : Path recs f place c prev' last := by
  cases h with
  | stop h1 => omega
  | go h1 hl hf hp => exact .go h1 hl hf hp

theorem Path.mono {recs recs' : List Rec} {f place prev last : Int} {c : List Int} (h : Path recs f place c prev last)
    (hm : ∀ q r, look recs q = some r → r.functor = f → ∃ r', look recs' q = some r' ∧ r'.functor = f ∧ r'.next = r.next) : Path recs' f place c prev last := by
  induction h with
  | stop h => exact .stop h
  | go h0 hl hf _ ih =>
    obtain ⟨r', g1, g2, g3⟩ := hm _ _ hl hf
    exact .go h0 g1 g2 (g3 ▸ ih)

theorem Path.snoc {recs recs' : List Rec} {f place prev last k : Int} {c : List Int} {rk : Rec} (h : Path recs f place c prev last) (hn : c.Nodup) (hk : 0 ≤ k) (hlk : look recs' k = some rk) (hfk : rk.functor = f) (hnk : rk.next < 0)
    (hm : ∀ q r, q ≠ last → look recs q = some r → r.functor = f → ∃ r', look recs' q = some r' ∧ r'.functor = f ∧ r'.next = r.next)
    (hl' : ∃ r', look recs' last = some r' ∧ r'.functor = f ∧ r'.next = k) : 0 ≤ place → Path recs' f place (c ++ [k]) prev k := by
  induction h with
  | stop h => intro h0; omega
  | @go place prev last c r h0 hl hf hp ih =>
    intro _
    rw [List.nodup_cons] at hn
    by_cases hn0 : 0 ≤ r.next
    · have hne : place ≠ last := fun e => hn.1 (e ▸ hp.last_mem hn0)
      obtain ⟨r', g1, g2, g3⟩ := hm _ _ hne hl hf
      exact .go h0 g1 g2 (g3 ▸ ih hn.2 hm hl' hn0)
    · obtain ⟨rfl, rfl⟩ := hp.neg (by omega)
      obtain ⟨r', g1, g2, g3⟩ := hl'
      exact .go h0 g1 g2 (by rw [g3]; exact .go hk hlk hfk (.stop hnk))

theorem chain_of_path {recs : List Rec} {f gen place prev last : Int} {c : List Int} (h : Path recs f place c prev last)
    (hr : ∀ r ∈ recs, r.key = r.place ∧ 1 ≤ r.birth ∧ r.birth ≤ gen ∧ (r.death < 0 ∨ (r.birth < r.death ∧ r.death ≤ gen))) :
    ∀ n met, c.length < n → (∀ p ∈ c, p ∉ met) → c.Nodup → chain recs f gen n met prev place = some (met ++ c, last) := by
  induction h with
  | stop h =>
    intro n met hn _ _
    obtain ⟨n, rfl⟩ : ∃ k, n = k + 1 := ⟨n - 1, by simp at hn; omega⟩
    show (if _ then _ else _) = _
    rw [if_pos h, List.append_nil]
  | @go place prev last c r h0 hl hf hp ih =>
    intro n met hn hm hnd
    obtain ⟨n, rfl⟩ : ∃ k, n = k + 1 := ⟨n - 1, by simp at hn; omega⟩
    rw [List.nodup_cons] at hnd
    have hs : soundB r place f gen = true := sound_of (look_some hl).2 hf (hr r (look_some hl).1)
    show (if _ then _ else _) = _
    rw [if_neg (by omega), if_neg (hm place (List.mem_cons_self ..)), hl]
    dsimp only
    rw [if_pos hs, ih n (met ++ [place]) (by simp at hn; omega) ?_ hnd.2, List.append_assoc]
    · rfl
    · intro p hpc hpm
      rcases List.mem_append.mp hpm with hpm | hpm
      · exact hm p (List.mem_cons_of_mem _ hpc) hpm
      · rw [List.mem_singleton] at hpm
        exact hnd.1 (hpm ▸ hpc)

theorem sides_ok {recs : List Rec} {gen : Int} (hr : ∀ r ∈ recs, r.key = r.place ∧ 1 ≤ r.birth ∧ r.birth ≤ gen ∧ (r.death < 0 ∨ (r.birth < r.death ∧ r.death ≤ gen))) :
    ∀ (σs : List Side) (met : List Int), (∀ σ ∈ σs, σ.kind = Str.ofString "dynamic" ∧ ∃ c, c.Nodup ∧ Path recs σ.f σ.first c (-1) σ.last) → (σs.map (·.f)).Nodup → met.Nodup →
      (∀ p ∈ met, ∃ r, look recs p = some r ∧ ∀ σ ∈ σs, r.functor ≠ σ.f) → (sides recs gen σs met).isSome = true
  | [], met, _, _, _, _ => rfl
  | σ :: σs, met, h, hf, hn, hm => by
    obtain ⟨hk, c, hc, hp⟩ := h σ (List.mem_cons_self ..)
    rw [List.map_cons, List.nodup_cons] at hf
    have hdis : ∀ p ∈ c, p ∉ met := fun p hpc hpm => by
      obtain ⟨r, h1, h2⟩ := hm p hpm
      obtain ⟨_, r', h3, h4⟩ := hp.mem p hpc
      rw [h1] at h3
      cases h3
      exact h2 σ (List.mem_cons_self ..) h4
    have hnd : (met ++ c).Nodup := by
      rw [List.nodup_append]
      exact ⟨hn, hc, fun a ha b hb e => hdis b hb (e ▸ ha)⟩
    have hsub : ∀ p ∈ met ++ c, p ∈ recs.map (·.place) := fun p hpm => by
      have : ∃ r, look recs p = some r := by
        rcases List.mem_append.mp hpm with hpm | hpm
        · obtain ⟨r, h1, _⟩ := hm p hpm; exact ⟨r, h1⟩
        · obtain ⟨_, r, h1, _⟩ := hp.mem p hpm; exact ⟨r, h1⟩
      obtain ⟨r, h1⟩ := this
      obtain ⟨h2, h3⟩ := look_some h1
      exact List.mem_map.mpr ⟨r, h2, h3⟩
    have hlen := MetOk.len ⟨hnd, hsub⟩
    rw [List.length_append] at hlen
    have hch := chain_of_path hp hr (recs.length + 1 - met.length) met (by omega) hdis hc
    have hside : side recs gen σ met = some (met ++ c) := side_good hch rfl (by rw [hk]; rintro ⟨h, _⟩; simp at h)
    show (match side recs gen σ met with | none => none | some met' => sides recs gen σs met').isSome = true
    rw [hside]
    refine sides_ok hr σs (met ++ c) (fun τ hτ => h τ (List.mem_cons_of_mem _ hτ)) hf.2 hnd ?_
    intro p hpm
    rcases List.mem_append.mp hpm with hpm | hpm
    · obtain ⟨r, h1, h2⟩ := hm p hpm
      exact ⟨r, h1, fun τ hτ => h2 τ (List.mem_cons_of_mem _ hτ)⟩
    · obtain ⟨_, r, h1, h2⟩ := hp.mem p hpm
      refine ⟨r, h1, fun τ hτ e => hf.1 ?_⟩
      rw [← h2, e]
      exact List.mem_map_of_mem hτ

theorem Bd.check {recs : List Rec} {σs : List Side} {gen nxt : Int} (h : Bd recs σs gen nxt) : checkB recs gen σs = true :=
  sides_ok (fun r hr => ⟨(h.recOk r hr).1, (h.recOk r hr).2.2.2⟩) σs [] h.sideOk h.fs List.nodup_nil fun p hp => nomatch hp

theorem Bd.last {recs : List Rec} {σs : List Side} {gen nxt : Int} {σ : Side} (h : Bd recs σs gen nxt) (hσ : σ ∈ σs) (h0 : ¬ σ.first < 0) : ∃ r ∈ recs, r.place = σ.last ∧ r.functor = σ.f := by
  obtain ⟨_, c, _, hp⟩ := h.sideOk σ hσ
  obtain ⟨_, r, h1, h2⟩ := hp.mem _ (hp.last_mem (by omega))
  obtain ⟨h3, h4⟩ := look_some h1
  exact ⟨r, h3, h4, h2⟩

theorem look_app {recs l : List Rec} {q : Int} {r : Rec} (h : look recs q = some r) : look (recs ++ l) q = some r := by
  unfold look at *
  rw [List.find?_append, h]; rfl

theorem look_new {recs : List Rec} {new : Rec} (h : ∀ r ∈ recs, r.place ≠ new.place) : look (recs ++ [new]) new.place = some new := by
  unfold look
  rw [List.find?_append]
  have : recs.find? (fun r => decide (r.place = new.place)) = none := List.find?_eq_none.mpr fun r hr => by simpa using h r hr
  rw [this]
  simp

theorem look_swap {A B : List Rec} {r r' : Rec} {q : Int} (he : r'.place = r.place) (hq : q ≠ r.place) : look (A ++ r' :: B) q = look (A ++ r :: B) q := by
  unfold look
  rw [List.find?_append, List.find?_append, List.find?_cons, List.find?_cons]
  have h1 : decide (r'.place = q) = false := decide_eq_false fun e => hq (by rw [← e, he])
  have h2 : decide (r.place = q) = false := decide_eq_false fun e => hq e.symm
  rw [h1, h2]

theorem look_mid {A B : List Rec} {r : Rec} (hn : ((A ++ r :: B).map (·.place)).Nodup) : look (A ++ r :: B) r.place = some r := look_of_mem hn (mem_mid.mpr (.inl rfl))

theorem keys_swap {A B : List Rec} {r r' : Rec} (he : r'.place = r.place) (hn : ((A ++ r :: B).map (·.place)).Nodup) : ((A ++ r' :: B).map (·.place)).Nodup := by
  simpa [he] using hn

/-- erased: a death is set -/
theorem Bd.erase {A B : List Rec} {r : Rec} {σs : List Side} {gen nxt : Int} (h : Bd (A ++ r :: B) σs gen nxt) (h0 : r.death < 0) : Bd (A ++ ⟨r.place, r.x, r.dx, r.rw, r.key, r.functor, r.birth, gen + 1, r.next⟩ :: B) σs (gen + 1) nxt := by
  have hk := h.keys
  have hg := h.gen0
  refine ⟨?_, ?_, keys_swap (r := r) rfl hk, h.fs, by omega, h.nxt0⟩
  · intro q hq
    rcases mem_mid.mp hq with rfl | hq
    · obtain ⟨a1, a2, a3, a4, a5, _⟩ := h.recOk r (mem_mid.mpr (.inl rfl))
      exact ⟨a1, a2, a3, a4, Int.le_trans a5 (succ_le gen), .inr ⟨Int.lt_add_one_of_le a5, Int.le_refl _⟩⟩
    · exact rec_mono (h.recOk q (mem_mid.mpr (.inr hq))) (succ_le gen) (Int.le_refl _)
  · intro σ hσ
    obtain ⟨g1, c, g2, g3⟩ := h.sideOk σ hσ
    refine ⟨g1, c, g2, g3.mono fun q r' hl hf => ?_⟩
    by_cases hq : q = r.place
    · subst hq
      rw [look_mid hk] at hl
      cases hl
      exact ⟨_, look_mid (r := ⟨r.place, r.x, r.dx, r.rw, r.key, r.functor, r.birth, gen + 1, r.next⟩) (keys_swap (r := r) rfl hk), hf, rfl⟩
    · exact ⟨r', (look_swap (r := r) (r' := ⟨r.place, r.x, r.dx, r.rw, r.key, r.functor, r.birth, gen + 1, r.next⟩) rfl hq).trans hl, hf, rfl⟩

theorem fs_swap {A B : List Side} {σ σ' : Side} (he : σ'.f = σ.f) (hn : ((A ++ σ :: B).map (·.f)).Nodup) : ((A ++ σ' :: B).map (·.f)).Nodup := by
  simpa [he] using hn

/-- a new record ahead of a chain, or as the first of an empty one -/
theorem Bd.first {recs : List Rec} {A B : List Side} {σ σ' : Side} {gen nxt nx : Int} {x dx rw : Nat} (h : Bd recs (A ++ σ :: B) gen nxt) (hnx : nx = σ.first ∨ (nx < 0 ∧ σ.first < 0))
    (hs : σ' = ⟨σ.f, σ.ow, σ.p, σ.pd, σ.kind, nxt, if σ.first < 0 then nxt else σ.last⟩) : Bd (recs ++ [⟨nxt, x, dx, rw, nxt, σ.f, gen + 1, -1, nx⟩]) (A ++ σ' :: B) (gen + 1) (nxt + 1) := by
  have hg := h.gen0
  have hn0 := h.nxt0
  have hfresh : ∀ r ∈ recs, r.place ≠ nxt := fun r hr => Int.ne_of_lt (h.recOk r hr).2.2.1
  subst hs
  refine ⟨?_, ?_, ?_, fs_swap (σ := σ) rfl h.fs, by omega, by omega⟩
  · intro q hq
    rcases List.mem_append.mp hq with hq | hq
    · exact rec_mono (h.recOk q hq) (succ_le gen) (succ_le nxt)
    · rw [List.mem_singleton] at hq
      subst hq
      exact rec_new (f := σ.f) (nx := nx) (x := x) (dx := dx) (rw := rw) hg hn0
  · intro τ hτ
    rcases mem_mid.mp hτ with rfl | hτ
    · obtain ⟨g1, c, g2, g3⟩ := h.sideOk σ (mem_mid.mpr (.inl rfl))
      have g4 : Path (recs ++ [⟨nxt, x, dx, rw, nxt, σ.f, gen + 1, -1, nx⟩]) σ.f σ.first c (-1) σ.last := g3.mono fun q r hl hf => ⟨r, look_app hl, hf, rfl⟩
      refine ⟨g1, nxt :: c, List.nodup_cons.mpr ⟨fun hc => ?_, g2⟩, ?_⟩
      · obtain ⟨_, r, h1, _⟩ := g3.mem _ hc
        obtain ⟨h2, h3⟩ := look_some h1
        exact hfresh r h2 h3
      · refine .go hn0 (look_new (new := ⟨nxt, x, dx, rw, nxt, σ.f, gen + 1, -1, nx⟩) hfresh) rfl ?_
        by_cases hneg : σ.first < 0
        · obtain ⟨rfl, _⟩ := g3.neg hneg
          dsimp only
          rw [if_pos hneg]
          exact .stop (by omega)
        · dsimp only
          rw [if_neg hneg]
          rcases hnx with rfl | hnx
          · exact g4.prev (by omega) _
          · omega
    · obtain ⟨g1, c, g2, g3⟩ := h.sideOk τ (mem_mid.mpr (.inr hτ))
      exact ⟨g1, c, g2, g3.mono fun q r hl hf => ⟨r, look_app hl, hf, rfl⟩⟩
  · rw [List.map_append, List.nodup_append]
    refine ⟨h.keys, by simp, ?_⟩
    intro a ha b hb
    obtain ⟨r, hr, rfl⟩ := List.mem_map.mp ha
    simp only [List.map_cons, List.map_nil, List.mem_singleton] at hb
    subst hb
    exact hfresh r hr

/-- a new record at the end of a chain -/
theorem Bd.more {R S : List Rec} {r : Rec} {A B : List Side} {σ σ' : Side} {gen nxt : Int} {x dx rw : Nat} (h : Bd (R ++ r :: S) (A ++ σ :: B) gen nxt) (h0 : ¬ σ.first < 0) (hr : r.place = σ.last) (hrf : r.functor = σ.f)
    (hs : σ' = ⟨σ.f, σ.ow, σ.p, σ.pd, σ.kind, σ.first, nxt⟩) : Bd ((R ++ ⟨r.place, r.x, r.dx, r.rw, r.key, r.functor, r.birth, r.death, nxt⟩ :: S) ++ [⟨nxt, x, dx, rw, nxt, σ.f, gen + 1, -1, -1⟩]) (A ++ σ' :: B) (gen + 1) (nxt + 1) := by
  have hg := h.gen0
  have hn0 := h.nxt0
  have hk := h.keys
  have hk' := keys_swap (r := r) (r' := ⟨r.place, r.x, r.dx, r.rw, r.key, r.functor, r.birth, r.death, nxt⟩) rfl hk
  have hfresh : ∀ q ∈ R ++ ⟨r.place, r.x, r.dx, r.rw, r.key, r.functor, r.birth, r.death, nxt⟩ :: S, q.place ≠ nxt := fun q hq => by
    rcases mem_mid.mp hq with rfl | hq
    · exact Int.ne_of_lt (h.recOk r (mem_mid.mpr (.inl rfl))).2.2.1
    · exact Int.ne_of_lt (h.recOk q (mem_mid.mpr (.inr hq))).2.2.1
  have hmid : look (R ++ ⟨r.place, r.x, r.dx, r.rw, r.key, r.functor, r.birth, r.death, nxt⟩ :: S) r.place = some ⟨r.place, r.x, r.dx, r.rw, r.key, r.functor, r.birth, r.death, nxt⟩ := look_mid (r := ⟨r.place, r.x, r.dx, r.rw, r.key, r.functor, r.birth, r.death, nxt⟩) hk'
  subst hs
  refine ⟨?_, ?_, ?_, fs_swap (σ := σ) rfl h.fs, by omega, by omega⟩
  · intro q hq
    rcases List.mem_append.mp hq with hq | hq
    · rcases mem_mid.mp hq with rfl | hq
      · exact rec_mono (h.recOk r (mem_mid.mpr (.inl rfl))) (succ_le gen) (succ_le nxt)
      · exact rec_mono (h.recOk q (mem_mid.mpr (.inr hq))) (succ_le gen) (succ_le nxt)
    · rw [List.mem_singleton] at hq
      subst hq
      exact rec_new (f := σ.f) (nx := -1) (x := x) (dx := dx) (rw := rw) hg hn0
  · intro τ hτ
    rcases mem_mid.mp hτ with rfl | hτ
    · obtain ⟨g1, c, g2, g3⟩ := h.sideOk σ (mem_mid.mpr (.inl rfl))
      refine ⟨g1, c ++ [nxt], ?_, ?_⟩
      · rw [List.nodup_append]
        refine ⟨g2, by simp, ?_⟩
        intro a ha b hb e
        rw [List.mem_singleton] at hb
        obtain ⟨_, q, h1, _⟩ := g3.mem _ ha
        obtain ⟨h2, h3⟩ := look_some h1
        have := h.recOk q h2
        omega
      · refine g3.snoc g2 hn0 (look_new (new := ⟨nxt, x, dx, rw, nxt, σ.f, gen + 1, -1, -1⟩) hfresh) rfl (by dsimp only; omega) ?_ ?_ (by omega)
        · intro q r' hq hl hf
          exact ⟨r', look_app ((look_swap (r := r) (r' := ⟨r.place, r.x, r.dx, r.rw, r.key, r.functor, r.birth, r.death, nxt⟩) rfl (by rw [hr]; exact hq)).trans hl), hf, rfl⟩
        · exact ⟨⟨r.place, r.x, r.dx, r.rw, r.key, r.functor, r.birth, r.death, nxt⟩, by rw [← hr]; exact look_app hmid, hrf, rfl⟩
    · have hne := nodup_ne h.fs hτ
      obtain ⟨g1, c, g2, g3⟩ := h.sideOk τ (mem_mid.mpr (.inr hτ))
      refine ⟨g1, c, g2, g3.mono fun q r' hl hf => ?_⟩
      by_cases hq : q = r.place
      · subst hq
        rw [look_mid hk] at hl
        cases hl
        exact absurd (hf.symm.trans hrf) hne
      · exact ⟨r', look_app ((look_swap (r := r) (r' := ⟨r.place, r.x, r.dx, r.rw, r.key, r.functor, r.birth, r.death, nxt⟩) rfl hq).trans hl), hf, rfl⟩
  · rw [List.map_append, List.nodup_append]
    refine ⟨hk', by simp, ?_⟩
    intro a ha b hb
    obtain ⟨q, hq, rfl⟩ := List.mem_map.mp ha
    simp only [List.map_cons, List.map_nil, List.mem_singleton] at hb
    subst hb
    exact hfresh q hq
end Mine

/-! StMore -/
namespace Mine
set_option maxRecDepth 100000
section
variable {w : World} {ρ : Nat → Role} {X : Fx} {own : List (Addr × Obj)} {len : Nat} {recs : List Rec} {σs : List Side} {gen nxt : Int} {news news' : List (Addr × Obj)}

/-- the state lies in the objects whose address has a role -/
theorem St.restr (st : St w ρ X own len recs σs gen nxt news) (hk : ∀ p ∈ news, ρ p.1 ≠ .no → p ∈ news') : St w ρ X [] len recs σs gen nxt news' := by
  obtain ⟨f1, f2, f3, f4, f5, f6, f7, f8⟩ := id st.fx
  have hk' : ∀ p ∈ news, ¬ (ρ p.1 = .no) → p ∈ news' := hk
  refine ⟨st.hand.keep (ch := (· = .no)) hk' f1 (by simp), st.cells.keep (ch := (· = .no)) hk' f2 (by simp), keep_mem (ch := (· = .no)) st.store hk' f3 (by simp), st.sd.keep (ch := (· = .no)) hk' f4 (by simp), st.rd.keep (ch := (· = .no)) hk' f5 (by simp), st.rwd.keep (ch := (· = .no)) hk' f6 (by simp),
    st.ows.imp fun n h => keep_mem (ch := (· = .no)) h hk' f7 (by simp), st.prd.keep (ch := (· = .no)) hk' f8 (by simp), ?_, ?_, st.fx, st.rside, st.rrec, st.mods, st.len, st.two, st.gen, fun _ h => nomatch h⟩
  · intro σ h
    obtain ⟨a, b, c⟩ := st.side σ h
    obtain ⟨g1, g2, g3⟩ := st.rside σ h
    exact ⟨keep_mem (ch := (· = .no)) a hk' g1 (by simp), b.keep (ch := (· = .no)) hk' g2 (by simp), c.keep (ch := (· = .no)) hk' g3 (by simp)⟩
  · intro r h
    obtain ⟨a, b, c⟩ := st.hrs r h
    obtain ⟨g1, g2, g3⟩ := st.rrec r h
    exact ⟨keep_mem (ch := (· = .no)) a hk' g1 (by simp), b.keep (ch := (· = .no)) hk' g2 (by simp), c.keep (ch := (· = .no)) hk' g3 (by simp)⟩

/-- other roles, the same where the state lies -/
theorem St.rerole {ρ' : Nat → Role} (st : St w ρ X own len recs σs gen nxt news) (h : ∀ p ∈ news, ρ' p.1 = ρ p.1) : St w ρ' X own len recs σs gen nxt news := by
  obtain ⟨f1, f2, f3, f4, f5, f6, f7, f8⟩ := id st.fx
  have old : ∀ {a : Nat} {R : Role} {o : Obj}, (a, o) ∈ news → ρ a = R → ρ' a = R := fun h1 h2 => (h _ h1).trans h2
  obtain ⟨o1, m1, _⟩ := id st.hand
  obtain ⟨o2, m2, _⟩ := id st.cells
  obtain ⟨o4, m4, _⟩ := id st.sd
  obtain ⟨o5, m5, _⟩ := id st.rd
  obtain ⟨o6, m6, _⟩ := id st.rwd
  obtain ⟨o7, m7⟩ := id st.ows
  obtain ⟨o8, m8, _⟩ := id st.prd
  refine ⟨st.hand, st.cells, st.store, st.sd, st.rd, st.rwd, st.ows, st.prd, st.side, st.hrs, ⟨old m1 f1, old m2 f2, old st.store f3, old m4 f4, old m5 f5, old m6 f6, old m7 f7, old m8 f8⟩, ?_, ?_, st.mods, st.len, st.two, st.gen, fun p hp => ⟨(st.own p hp).1, old (st.own p hp).1 (st.own p hp).2⟩⟩
  · intro τ hτ
    obtain ⟨a, ⟨_, b, _⟩, _, c, _⟩ := st.side τ hτ
    obtain ⟨g1, g2, g3⟩ := st.rside τ hτ
    exact ⟨old a g1, old b g2, old c g3⟩
  · intro τ hτ
    obtain ⟨a, ⟨_, b, _⟩, _, c, _⟩ := st.hrs τ hτ
    obtain ⟨g1, g2, g3⟩ := st.rrec τ hτ
    exact ⟨old a g1, old b g2, old c g3⟩

noncomputable def offRole (ρ : Nat → Role) (bs : List Addr) (a : Nat) : Role := if a ∈ bs then .no else ρ a
theorem offRole_no {bs : List Addr} {a : Nat} (h : a ∈ bs) : offRole ρ bs a = .no := if_pos h
/-- in a turn of a loop: what the loop owns has no role, and lies beside -/
theorem St.reown {own : List (Addr × Obj)} (st : St w ρ X [] len recs σs gen nxt news) (hoff : OwnOff own (news.map (·.1))) : St w (offRole ρ (own.map (·.1))) X own len recs σs gen nxt (news ++ own) :=
  have z : St w (offRole ρ (own.map (·.1))) X [] len recs σs gen nxt (news ++ own) := St.mono (news := news) (st.rerole fun p hp => if_neg fun h => by
    obtain ⟨q, hq, e⟩ := List.mem_map.mp h
    exact hoff q hq p.1 (List.mem_map_of_mem hp) e) fun p hp => List.mem_append_left _ hp
  { z with own := fun p hp => ⟨List.mem_append_right _ hp, offRole_no (List.mem_map_of_mem hp)⟩ }
theorem St.back (st : St w ρ X own len recs σs gen nxt news) : St w ρ X [] len recs σs gen nxt (dropL news (own.map (·.1))) :=
  st.restr fun p hp hn => mem_dropL.mpr ⟨hp, fun hb => hn (by obtain ⟨q, hq, e⟩ := List.mem_map.mp hb; rw [← e]; exact (st.own q hq).2)⟩
theorem ownOff_drop {own : List (Addr × Obj)} : OwnOff own ((dropL news (own.map (·.1))).map (·.1)) := by
  intro p hp b hb e
  obtain ⟨q, hq, rfl⟩ := List.mem_map.mp hb
  exact (mem_dropL.mp hq).2 (e ▸ List.mem_map_of_mem hp)

noncomputable def Inc : Nat → List (Nat × Role) → Prop
  | _, [] => True
  | a, p :: l => @LT.lt Nat _ a p.1 ∧ Inc p.1 l
theorem Inc.lt : ∀ {l : List (Nat × Role)} {a : Nat}, Inc a l → ∀ p ∈ l, @LT.lt Nat _ a p.1
  | [], _, _, _, h => nomatch h
  | _ :: _, _, h, p, hp => by
    rcases List.mem_cons.mp hp with rfl | hp
    · exact h.1
    · exact Nat.lt_trans h.1 (Inc.lt h.2 p hp)
noncomputable def roleOf : List (Nat × Role) → Nat → Role
  | [], _ => .no
  | p :: l, a => if a = p.1 then p.2 else roleOf l a
theorem roleOf_head {p : Nat × Role} {l : List (Nat × Role)} : roleOf (p :: l) p.1 = p.2 := if_pos rfl
theorem roleOf_inc : ∀ {l : List (Nat × Role)} {a : Nat} {p : Nat × Role}, Inc a l → p ∈ l → roleOf l p.1 = p.2
  | [], _, _, _, h => nomatch h
  | q :: l, _, p, h, hp => by
    rcases List.mem_cons.mp hp with rfl | hp
    · exact if_pos rfl
    · exact (if_neg (Nat.ne_of_gt (Inc.lt h.2 p hp))).trans (roleOf_inc h.2 hp)
theorem roleOf_tail {p q : Nat × Role} {l : List (Nat × Role)} {a : Nat} (h : Inc a l) (hp : p ∈ l) (hne : p.1 ≠ q.1) : roleOf (q :: l) p.1 = p.2 := (if_neg hne).trans (roleOf_inc h hp)
theorem mk_rho {C H SD S RD ow0 ow1 OWS PRD pd0 p0 pd1 p1 RW : Nat} (h1 : C < H) (h2 : H < SD) (h3 : SD < S) (h4 : S < RD) (h5 : RD < ow0) (h6 : ow0 < ow1) (h7 : ow1 < OWS) (h8 : OWS < PRD) (h9 : PRD < pd0) (h10 : pd0 < p0) (h11 : p0 < pd1) (h12 : pd1 < p1) (h13 : C ≠ RW ∧ H ≠ RW ∧ SD ≠ RW ∧ S ≠ RW ∧ RD ≠ RW ∧ ow0 ≠ RW ∧ ow1 ≠ RW ∧ OWS ≠ RW ∧ PRD ≠ RW ∧ pd0 ≠ RW ∧ p0 ≠ RW ∧ pd1 ≠ RW ∧ p1 ≠ RW) :
    ∃ ρ : Nat → Role, ρ C = .C ∧ ρ H = .H ∧ ρ SD = .SD ∧ ρ S = .S ∧ ρ RD = .RD ∧ ρ ow0 = .ow 50 ∧ ρ ow1 = .ow 51 ∧ ρ OWS = .OWS ∧ ρ PRD = .PRD ∧ ρ pd0 = .pd 50 ∧ ρ p0 = .p 50 ∧ ρ pd1 = .pd 51 ∧ ρ p1 = .p 51 ∧ ρ RW = .RW := by
  obtain ⟨g1, g2, g3, g4, g5, g6, g7, g8, g9, g10, g11, g12, g13⟩ := h13
  have hi : Inc C [(H, .H), (SD, .SD), (S, .S), (RD, .RD), (ow0, .ow 50), (ow1, .ow 51), (OWS, .OWS), (PRD, .PRD), (pd0, .pd 50), (p0, .p 50), (pd1, .pd 51), (p1, .p 51)] := ⟨h1, h2, h3, h4, h5, h6, h7, h8, h9, h10, h11, h12, trivial⟩
  have key : ∀ p ∈ [(H, Role.H), (SD, .SD), (S, .S), (RD, .RD), (ow0, .ow 50), (ow1, .ow 51), (OWS, .OWS), (PRD, .PRD), (pd0, .pd 50), (p0, .p 50), (pd1, .pd 51), (p1, .p 51)], @Ne Nat p.1 RW → roleOf ((RW, .RW) :: (C, .C) :: [(H, .H), (SD, .SD), (S, .S), (RD, .RD), (ow0, .ow 50), (ow1, .ow 51), (OWS, .OWS), (PRD, .PRD), (pd0, .pd 50), (p0, .p 50), (pd1, .pd 51), (p1, .p 51)]) p.1 = p.2 :=
    fun p hp hne => (if_neg hne).trans (roleOf_tail hi hp (Nat.ne_of_gt (Inc.lt hi p hp)))
  refine ⟨_, (if_neg g1).trans (if_pos rfl), key (H, .H) (by repeat (first | exact .head _ | refine .tail _ ?_)) g2, key (SD, .SD) (by repeat (first | exact .head _ | refine .tail _ ?_)) g3, key (S, .S) (by repeat (first | exact .head _ | refine .tail _ ?_)) g4, key (RD, .RD) (by repeat (first | exact .head _ | refine .tail _ ?_)) g5, key (ow0, .ow 50) (by repeat (first | exact .head _ | refine .tail _ ?_)) g6, key (ow1, .ow 51) (by repeat (first | exact .head _ | refine .tail _ ?_)) g7,
    key (OWS, .OWS) (by repeat (first | exact .head _ | refine .tail _ ?_)) g8, key (PRD, .PRD) (by repeat (first | exact .head _ | refine .tail _ ?_)) g9, key (pd0, .pd 50) (by repeat (first | exact .head _ | refine .tail _ ?_)) g10, key (p0, .p 50) (by repeat (first | exact .head _ | refine .tail _ ?_)) g11, key (pd1, .pd 51) (by repeat (first | exact .head _ | refine .tail _ ?_)) g12, key (p1, .p 51) (by repeat (first | exact .head _ | refine .tail _ ?_)) g13, if_pos rfl⟩

noncomputable abbrev AllNe (l : List (Addr × Obj)) (a : Addr) : Prop := ∀ p ∈ l, p.1 ≠ a
noncomputable abbrev side0 (ow p pd : Nat) (f : Int) : Side := ⟨f, ow, p, pd, Str.ofString "dynamic", -1, -1⟩

theorem st0 {C H SD S RD ow0 ow1 OWS PRD pd0 p0 pd1 p1 RW : Nat} (h1 : C < H) (h2 : H < SD) (h3 : SD < S) (h4 : S < RD) (h5 : RD < ow0) (h6 : ow0 < ow1) (h7 : ow1 < OWS) (h8 : OWS < PRD) (h9 : PRD < pd0) (h10 : pd0 < p0) (h11 : p0 < pd1) (h12 : pd1 < p1) (h13 : C ≠ RW ∧ H ≠ RW ∧ SD ≠ RW ∧ S ≠ RW ∧ RD ≠ RW ∧ ow0 ≠ RW ∧ ow1 ≠ RW ∧ OWS ≠ RW ∧ PRD ≠ RW ∧ pd0 ≠ RW ∧ p0 ≠ RW ∧ pd1 ≠ RW ∧ p1 ≠ RW)
    (c1 : Cell news H (HandOk C len)) (c2 : Cell news C (CellsOk len)) (c3 : (S, instObj 157 SD) ∈ news) (c4 : Cell news SD (StoreObj w.params RD 0 0)) (c5 : Cell news RD (IntDict w [])) (c6 : Cell news RW (IntDict w []))
    (c7 : ∃ n, (OWS, listOf #[.ref ow0, .ref ow1] n) ∈ news) (c8 : Cell news PRD (IntDict w [(50, .ref p0), (51, .ref p1)])) (c9 : (p0, instObj 66 pd0) ∈ news) (c10 : Cell news pd0 (ProcObj w.params (side0 ow0 p0 pd0 50))) (c11 : Cell news ow0 (OwnObj (side0 ow0 p0 pd0 50)))
    (c12 : (p1, instObj 66 pd1) ∈ news) (c13 : Cell news pd1 (ProcObj w.params (side0 ow1 p1 pd1 51))) (c14 : Cell news ow1 (OwnObj (side0 ow1 p1 pd1 51)))
    (m1 : (RD == sysModules) = false) (m2 : (RW == sysModules) = false) (m3 : (PRD == sysModules) = false) :
    ∃ ρ, St w ρ ⟨H, C, S, SD, RD, RW, OWS, PRD⟩ [] len [] [side0 ow0 p0 pd0 50, side0 ow1 p1 pd1 51] 0 0 news := by
  obtain ⟨ρ, r1, r2, r3, r4, r5, r6, r7, r8, r9, r10, r11, r12, r13, r14⟩ := mk_rho h1 h2 h3 h4 h5 h6 h7 h8 h9 h10 h11 h12 h13
  refine ⟨ρ, c1, c2, c3, c4, c5, c6, c7, c8, ?_, (fun _ h => nomatch h), ⟨r2, r1, r4, r3, r5, r14, r8, r9⟩, ?_, (fun _ h => nomatch h), ⟨m1, m2, m3⟩, by simp, rfl, by decide, fun _ h => nomatch h⟩
  · intro σ h
    simp only [List.mem_cons, List.not_mem_nil, or_false] at h
    rcases h with rfl | rfl
    · exact ⟨c9, c10, c11⟩
    · exact ⟨c12, c13, c14⟩
  · intro σ h
    simp only [List.mem_cons, List.not_mem_nil, or_false] at h
    rcases h with rfl | rfl
    · exact ⟨r11, r10, r6⟩
    · exact ⟨r13, r12, r7⟩

theorem bd0 {ow0 ow1 pd0 p0 pd1 p1 : Nat} : Bd [] [side0 ow0 p0 pd0 50, side0 ow1 p1 pd1 51] 0 0 := by
  refine ⟨(fun _ h => nomatch h), ?_, List.nodup_nil, by simp, by decide, by decide⟩
  intro σ h
  simp only [List.mem_cons, List.not_mem_nil, or_false] at h
  rcases h with rfl | rfl <;> exact ⟨rfl, [], List.nodup_nil, .stop (by show (-1 : Int) < 0; decide)⟩
theorem fr5d {h₀ h : Heap} {L : Addr} {m : Str → Option Value} {v1 v2 v3 v4 v5 : Value} (F : Fr h₀ L h m)
    (e1 : m (Str.ofString "hand") = some v1) (e2 : m (Str.ofString "kept") = some v2) (e3 : m (Str.ofString "owners") = some v3) (e4 : m (Str.ofString "procs") = some v4) (e5 : m (Str.ofString "rows") = some v5) :
    Fr h₀ L h (fun y => if y = Str.ofString "hand" then some v1 else if y = Str.ofString "kept" then some v2 else if y = Str.ofString "owners" then some v3 else if y = Str.ofString "procs" then some v4 else if y = Str.ofString "rows" then some v5 else m y) := by
  refine fr_congr F fun y => ?_
  by_cases h1 : y = Str.ofString "hand"
  · subst h1; rw [if_pos rfl, e1]
  by_cases h2 : y = Str.ofString "kept"
  · subst h2; rw [if_neg h1, if_pos rfl, e2]
  by_cases h3 : y = Str.ofString "owners"
  · subst h3; rw [if_neg h1, if_neg h2, if_pos rfl, e3]
  by_cases h4 : y = Str.ofString "procs"
  · subst h4; rw [if_neg h1, if_neg h2, if_neg h3, if_pos rfl, e4]
  by_cases h5 : y = Str.ofString "rows"
  · subst h5; rw [if_neg h1, if_neg h2, if_neg h3, if_neg h4, if_pos rfl, e5]
  rw [if_neg h1, if_neg h2, if_neg h3, if_neg h4, if_neg h5]
theorem st0_use {P : Prop} {h₀ h : Heap} {L : Addr} {C H SD S RD ow0 ow1 OWS PRD pd0 p0 pd1 p1 RW : Nat} (N : News h₀ L h news) (h1 : C < H) (h2 : H < SD) (h3 : SD < S) (h4 : S < RD) (h5 : RD < ow0) (h6 : ow0 < ow1) (h7 : ow1 < OWS) (h8 : OWS < PRD) (h9 : PRD < pd0) (h10 : pd0 < p0) (h11 : p0 < pd1) (h12 : pd1 < p1) (h13 : C ≠ RW ∧ H ≠ RW ∧ SD ≠ RW ∧ S ≠ RW ∧ RD ≠ RW ∧ ow0 ≠ RW ∧ ow1 ≠ RW ∧ OWS ≠ RW ∧ PRD ≠ RW ∧ pd0 ≠ RW ∧ p0 ≠ RW ∧ pd1 ≠ RW ∧ p1 ≠ RW)
    (c1 : Cell news H (HandOk C len)) (c2 : Cell news C (CellsOk len)) (c3 : (S, instObj 157 SD) ∈ news) (c4 : Cell news SD (StoreObj w.params RD 0 0)) (c5 : Cell news RD (IntDict w [])) (c6 : Cell news RW (IntDict w []))
    (c7 : ∃ n, (OWS, listOf #[.ref ow0, .ref ow1] n) ∈ news) (c8 : Cell news PRD (IntDict w [(50, .ref p0), (51, .ref p1)])) (c9 : (p0, instObj 66 pd0) ∈ news) (c10 : Cell news pd0 (ProcObj w.params (side0 ow0 p0 pd0 50))) (c11 : Cell news ow0 (OwnObj (side0 ow0 p0 pd0 50)))
    (c12 : (p1, instObj 66 pd1) ∈ news) (c13 : Cell news pd1 (ProcObj w.params (side0 ow1 p1 pd1 51))) (c14 : Cell news ow1 (OwnObj (side0 ow1 p1 pd1 51)))
    (m1 : (RD == sysModules) = false) (m2 : (RW == sysModules) = false) (m3 : (PRD == sysModules) = false)
    {m : Str → Option Value} (F : Fr h₀ L h m) (e1 : m (Str.ofString "hand") = some (.ref H)) (e2 : m (Str.ofString "kept") = some (.ref S)) (e3 : m (Str.ofString "owners") = some (.ref OWS)) (e4 : m (Str.ofString "procs") = some (.ref PRD)) (e5 : m (Str.ofString "rows") = some (.ref RW))
    (k : ∀ ρ (X : Fx) σs news' (m' : Str → Option Value), Fr h₀ L h (fun y => if y = Str.ofString "hand" then some (.ref X.H) else if y = Str.ofString "kept" then some (.ref X.S) else if y = Str.ofString "owners" then some (.ref X.OWS) else if y = Str.ofString "procs" then some (.ref X.PRD) else if y = Str.ofString "rows" then some (.ref X.RW) else m' y) →
      News h₀ L h news' → St w ρ X [] len [] σs 0 0 news' → Bd [] σs 0 0 → P) : P := by
  obtain ⟨ρ, st⟩ := st0 h1 h2 h3 h4 h5 h6 h7 h8 h9 h10 h11 h12 h13 c1 c2 c3 c4 c5 c6 c7 c8 c9 c10 c11 c12 c13 c14 m1 m2 m3
  exact k ρ _ _ news m (fr5d F e1 e2 e3 e4 e5) N st bd0

theorem rng_size {b : Int} (h0 : 0 ≤ b) : Builtin.Range.rangeSize 0 b 1 = (b.toNat : Int) := by
  unfold Builtin.Range.rangeSize
  rw [if_pos (by decide)]
  split <;> omega
theorem rng_small {b : Int} (h0 : 0 ≤ b) (h1 : b < 2 ^ 40) : Builtin.Range.small 0 b 1 = true := by
  unfold Builtin.Range.small
  rw [rng_size h0]
  simp only [Builtin.Range.rangeFitsLong, Bool.and_eq_true, Bool.or_eq_true, decide_eq_true_eq, beq_iff_eq, show ((1 : Int) > 0) by decide, if_true]
  omega

/-- what the building loop keeps -/
noncomputable abbrev BJ (w : World) (X : Fx) (len : Nat) (v1 : Int) (t1 : Tok) (i : Nat) (m : Str → Option Value) (nx : List (Addr × Obj)) : Prop :=
  ∃ ρ recs σs gen nxt tn, St w ρ X [] len recs σs gen nxt nx ∧ Bd recs σs gen nxt ∧ recs.length ≤ i ∧ gen ≤ (i : Int) ∧
    m (Str.ofString "hand") = some (.ref X.H) ∧ m (Str.ofString "kept") = some (.ref X.S) ∧ m (Str.ofString "owners") = some (.ref X.OWS) ∧ m (Str.ofString "procs") = some (.ref X.PRD) ∧ m (Str.ofString "rows") = some (.ref X.RW) ∧
      m (Str.ofString "now") = some (.int gen tn) ∧ m (Str.ofString "times") = some (.int v1 t1)
/-- what the spoiling loop keeps -/
noncomputable abbrev SJ (w : World) (X : Fx) (len : Nat) (gen : Int) (tn : Tok) (_ : Nat) (m : Str → Option Value) (nx : List (Addr × Obj)) : Prop :=
  ∃ ρ recs σs nxt, St w ρ X [] len recs σs gen nxt nx ∧ recs.length < 64 ∧
    m (Str.ofString "hand") = some (.ref X.H) ∧ m (Str.ofString "kept") = some (.ref X.S) ∧ m (Str.ofString "owners") = some (.ref X.OWS) ∧ m (Str.ofString "procs") = some (.ref X.PRD) ∧ m (Str.ofString "rows") = some (.ref X.RW) ∧
      m (Str.ofString "now") = some (.int gen tn)

section
variable {prog : Program} {A : Around} {E : Value → Shared → Prop} {s : Shared} {env : Env} {h₀ : Heap} {x : Str} {body : List Stmt} {Q : Flow → Shared → Prop}
theorem bj_iter {r : Addr} {b v1 : Int} {t₀ u₀ v₀ t1 tn₀ : Tok} {m₀ : Str → Option Value} (st : St w ρ X [] len [] σs 0 0 news) (bd : Bd [] σs 0 0)
    (hh : A.handled = none) (hr : IsRange s.heap r 0 b 1 t₀ u₀ v₀) (h0 : 0 ≤ b) (h1 : b < 2 ^ 40)
    (F : Fr h₀ env.locals s.heap m₀) (N : News h₀ env.locals s.heap news)
    (e1 : m₀ (Str.ofString "hand") = some (.ref X.H)) (e2 : m₀ (Str.ofString "kept") = some (.ref X.S)) (e3 : m₀ (Str.ofString "owners") = some (.ref X.OWS)) (e4 : m₀ (Str.ofString "procs") = some (.ref X.PRD)) (e5 : m₀ (Str.ofString "rows") = some (.ref X.RW))
    (e6 : m₀ (Str.ofString "now") = some (.int 0 tn₀)) (e7 : m₀ (Str.ofString "times") = some (.int v1 t1))
    (turn : ∀ (i : Nat) t (m₁ : Str → Option Value) nx h tk own ρ recs σs gen nxt tn, (i : Int) < b → OwnOff own (nx.map (·.1)) → St w ρ X [] len recs σs gen nxt nx → Bd recs σs gen nxt → recs.length ≤ i → gen ≤ (i : Int) →
      m₁ (Str.ofString "hand") = some (.ref X.H) → m₁ (Str.ofString "kept") = some (.ref X.S) → m₁ (Str.ofString "owners") = some (.ref X.OWS) → m₁ (Str.ofString "procs") = some (.ref X.PRD) → m₁ (Str.ofString "rows") = some (.ref X.RW) →
      m₁ (Str.ofString "now") = some (.int gen tn) → m₁ (Str.ofString "times") = some (.int v1 t1) →
      Fr h₀ env.locals h (fun y => if y = x then some (.int (0 + i * 1) t) else m₁ y) → News h₀ env.locals h (nx ++ own) →
      wpAny (model prog w) A (execs body env) (InvPostG h₀ env.locals (BJ w X len v1 t1 (i + 1)) own { s with heap := h, toks := tk } Q) E { s with heap := h, toks := tk })
    (done : ∀ (m₁ : Str → Option Value) nx h tk ρ recs σs gen nxt tn, St w ρ X [] len recs σs gen nxt nx → Bd recs σs gen nxt → (recs.length : Int) ≤ b → gen ≤ b →
      m₁ (Str.ofString "hand") = some (.ref X.H) → m₁ (Str.ofString "kept") = some (.ref X.S) → m₁ (Str.ofString "owners") = some (.ref X.OWS) → m₁ (Str.ofString "procs") = some (.ref X.PRD) → m₁ (Str.ofString "rows") = some (.ref X.RW) →
      m₁ (Str.ofString "now") = some (.int gen tn) → m₁ (Str.ofString "times") = some (.int v1 t1) → Fr h₀ env.locals h m₁ → News h₀ env.locals h nx → Q .next { s with heap := h, toks := tk }) :
    wpAny (model prog w) A (pyIter (.ref r)) (fun it s₂ => LoopAtV prog w A h₀ env x body Q E it s₂) E s := by
  refine rng_iter (n := b.toNat) (BJ w X len v1 t1) hh hr (rng_small h0 h1) (rng_size h0) F N (fun _ h => h) ⟨ρ, [], σs, 0, 0, _, st, bd, Nat.le_refl _, Int.le_refl _, e1, e2, e3, e4, e5, e6, e7⟩ ?_ ?_
  · rintro i v m₁ nx h tk own hi ⟨t, rfl⟩ hoff ⟨ρ, recs, σs, gen, nxt, tn, st, bd, hrl, hgl, c1, c2, c3, c4, c5, c6, c7⟩ F₁ N₁
    exact turn i t m₁ nx h tk own ρ recs σs gen nxt tn (by omega) hoff st bd hrl hgl c1 c2 c3 c4 c5 c6 c7 F₁ N₁
  · rintro m₁ nx h tk ⟨ρ, recs, σs, gen, nxt, tn, st, bd, hrl, hgl, c1, c2, c3, c4, c5, c6, c7⟩ F₁ N₁
    exact done m₁ nx h tk ρ recs σs gen nxt tn st bd (by omega) (by omega) c1 c2 c3 c4 c5 c6 c7 F₁ N₁

theorem sj_iter {r : Addr} {b : Int} {t₀ u₀ v₀ tn : Tok} {m₀ : Str → Option Value} (st : St w ρ X [] len recs σs gen nxt news) (hrl : recs.length < 64)
    (hh : A.handled = none) (hr : IsRange s.heap r 0 b 1 t₀ u₀ v₀) (h0 : 0 ≤ b) (h1 : b < 2 ^ 40)
    (F : Fr h₀ env.locals s.heap m₀) (N : News h₀ env.locals s.heap news)
    (e1 : m₀ (Str.ofString "hand") = some (.ref X.H)) (e2 : m₀ (Str.ofString "kept") = some (.ref X.S)) (e3 : m₀ (Str.ofString "owners") = some (.ref X.OWS)) (e4 : m₀ (Str.ofString "procs") = some (.ref X.PRD)) (e5 : m₀ (Str.ofString "rows") = some (.ref X.RW))
    (e6 : m₀ (Str.ofString "now") = some (.int gen tn))
    (turn : ∀ (i : Nat) t (m₁ : Str → Option Value) nx h tk own ρ recs σs nxt, OwnOff own (nx.map (·.1)) → St w ρ X [] len recs σs gen nxt nx → recs.length < 64 →
      m₁ (Str.ofString "hand") = some (.ref X.H) → m₁ (Str.ofString "kept") = some (.ref X.S) → m₁ (Str.ofString "owners") = some (.ref X.OWS) → m₁ (Str.ofString "procs") = some (.ref X.PRD) → m₁ (Str.ofString "rows") = some (.ref X.RW) →
      m₁ (Str.ofString "now") = some (.int gen tn) →
      Fr h₀ env.locals h (fun y => if y = x then some (.int (0 + i * 1) t) else m₁ y) → News h₀ env.locals h (nx ++ own) →
      wpAny (model prog w) A (execs body env) (InvPostG h₀ env.locals (SJ w X len gen tn (i + 1)) own { s with heap := h, toks := tk } Q) E { s with heap := h, toks := tk })
    (done : ∀ (m₁ : Str → Option Value) nx h tk ρ recs σs nxt, St w ρ X [] len recs σs gen nxt nx → recs.length < 64 →
      m₁ (Str.ofString "hand") = some (.ref X.H) → m₁ (Str.ofString "kept") = some (.ref X.S) → m₁ (Str.ofString "owners") = some (.ref X.OWS) → m₁ (Str.ofString "procs") = some (.ref X.PRD) → m₁ (Str.ofString "rows") = some (.ref X.RW) →
      m₁ (Str.ofString "now") = some (.int gen tn) → Fr h₀ env.locals h m₁ → News h₀ env.locals h nx → Q .next { s with heap := h, toks := tk }) :
    wpAny (model prog w) A (pyIter (.ref r)) (fun it s₂ => LoopAtV prog w A h₀ env x body Q E it s₂) E s := by
  refine rng_iter (n := b.toNat) (SJ w X len gen tn) hh hr (rng_small h0 h1) (rng_size h0) F N (fun _ h => h) ⟨ρ, recs, σs, nxt, st, hrl, e1, e2, e3, e4, e5, e6⟩ ?_ ?_
  · rintro i v m₁ nx h tk own hi ⟨t, rfl⟩ hoff ⟨ρ, recs, σs, nxt, st, hrl, c1, c2, c3, c4, c5, c6⟩ F₁ N₁
    exact turn i t m₁ nx h tk own ρ recs σs nxt hoff st hrl c1 c2 c3 c4 c5 c6 F₁ N₁
  · rintro m₁ nx h tk ⟨ρ, recs, σs, nxt, st, hrl, c1, c2, c3, c4, c5, c6⟩ F₁ N₁
    exact done m₁ nx h tk ρ recs σs nxt st hrl c1 c2 c3 c4 c5 c6 F₁ N₁
end

theorem fr6d {h₀ h : Heap} {L : Addr} {m : Str → Option Value} {v1 v2 v3 v4 v5 v6 : Value} (F : Fr h₀ L h m)
    (e1 : m (Str.ofString "hand") = some v1) (e2 : m (Str.ofString "kept") = some v2) (e3 : m (Str.ofString "owners") = some v3) (e4 : m (Str.ofString "procs") = some v4) (e5 : m (Str.ofString "rows") = some v5)
    (e6 : m (Str.ofString "now") = some v6) :
    Fr h₀ L h (fun y => if y = Str.ofString "hand" then some v1 else if y = Str.ofString "kept" then some v2 else if y = Str.ofString "owners" then some v3 else if y = Str.ofString "procs" then some v4 else if y = Str.ofString "rows" then some v5 else
      if y = Str.ofString "now" then some v6 else m y) :=
  fr5d (fr_put F e6) ((if_neg (by decide)).trans e1) ((if_neg (by decide)).trans e2) ((if_neg (by decide)).trans e3) ((if_neg (by decide)).trans e4) ((if_neg (by decide)).trans e5)
theorem fr6 {h₀ h : Heap} {L : Addr} {m : Str → Option Value} {u v1 v2 v3 v4 v5 v6 : Value} (F : Fr h₀ L h (fun y => if y = Str.ofString "_" then some u else m y))
    (e1 : m (Str.ofString "hand") = some v1) (e2 : m (Str.ofString "kept") = some v2) (e3 : m (Str.ofString "owners") = some v3) (e4 : m (Str.ofString "procs") = some v4) (e5 : m (Str.ofString "rows") = some v5)
    (e6 : m (Str.ofString "now") = some v6) :
    Fr h₀ L h (fun y => if y = Str.ofString "hand" then some v1 else if y = Str.ofString "kept" then some v2 else if y = Str.ofString "owners" then some v3 else if y = Str.ofString "procs" then some v4 else if y = Str.ofString "rows" then some v5 else
      if y = Str.ofString "now" then some v6 else if y = Str.ofString "_" then some u else m y) :=
  fr6d F ((if_neg (by decide)).trans e1) ((if_neg (by decide)).trans e2) ((if_neg (by decide)).trans e3) ((if_neg (by decide)).trans e4) ((if_neg (by decide)).trans e5) ((if_neg (by decide)).trans e6)
theorem fr7d {h₀ h : Heap} {L : Addr} {m : Str → Option Value} {v1 v2 v3 v4 v5 v6 v7 : Value} (F : Fr h₀ L h m)
    (e1 : m (Str.ofString "hand") = some v1) (e2 : m (Str.ofString "kept") = some v2) (e3 : m (Str.ofString "owners") = some v3) (e4 : m (Str.ofString "procs") = some v4) (e5 : m (Str.ofString "rows") = some v5)
    (e6 : m (Str.ofString "now") = some v6) (e7 : m (Str.ofString "times") = some v7) :
    Fr h₀ L h (fun y => if y = Str.ofString "hand" then some v1 else if y = Str.ofString "kept" then some v2 else if y = Str.ofString "owners" then some v3 else if y = Str.ofString "procs" then some v4 else if y = Str.ofString "rows" then some v5 else
      if y = Str.ofString "now" then some v6 else if y = Str.ofString "times" then some v7 else m y) :=
  fr6d (fr_put F e7) ((if_neg (by decide)).trans e1) ((if_neg (by decide)).trans e2) ((if_neg (by decide)).trans e3) ((if_neg (by decide)).trans e4) ((if_neg (by decide)).trans e5) ((if_neg (by decide)).trans e6)
theorem fr7 {h₀ h : Heap} {L : Addr} {m : Str → Option Value} {u v1 v2 v3 v4 v5 v6 v7 : Value} (F : Fr h₀ L h (fun y => if y = Str.ofString "_" then some u else m y))
    (e1 : m (Str.ofString "hand") = some v1) (e2 : m (Str.ofString "kept") = some v2) (e3 : m (Str.ofString "owners") = some v3) (e4 : m (Str.ofString "procs") = some v4) (e5 : m (Str.ofString "rows") = some v5)
    (e6 : m (Str.ofString "now") = some v6) (e7 : m (Str.ofString "times") = some v7) :
    Fr h₀ L h (fun y => if y = Str.ofString "hand" then some v1 else if y = Str.ofString "kept" then some v2 else if y = Str.ofString "owners" then some v3 else if y = Str.ofString "procs" then some v4 else if y = Str.ofString "rows" then some v5 else
      if y = Str.ofString "now" then some v6 else if y = Str.ofString "times" then some v7 else if y = Str.ofString "_" then some u else m y) :=
  fr7d F ((if_neg (by decide)).trans e1) ((if_neg (by decide)).trans e2) ((if_neg (by decide)).trans e3) ((if_neg (by decide)).trans e4) ((if_neg (by decide)).trans e5) ((if_neg (by decide)).trans e6) ((if_neg (by decide)).trans e7)


theorem bj_end {h₀ h' : Heap} {L : Addr} {m' : Str → Option Value} {final : List (Addr × Obj)} {s₁ : Shared} {tk : Nat} {i : Nat} {v1 : Int} {t1 tn : Tok} (F : Fr h₀ L h' m') (N : News h₀ L h' final)
    (st : St w ρ X own len recs σs gen nxt final) (bd : Bd recs σs gen nxt) (hrl : recs.length ≤ i + 1) (hgl : gen ≤ (i : Int) + 1)
    (e1 : m' (Str.ofString "hand") = some (.ref X.H)) (e2 : m' (Str.ofString "kept") = some (.ref X.S)) (e3 : m' (Str.ofString "owners") = some (.ref X.OWS)) (e4 : m' (Str.ofString "procs") = some (.ref X.PRD)) (e5 : m' (Str.ofString "rows") = some (.ref X.RW))
    (e6 : m' (Str.ofString "now") = some (.int gen tn)) (e7 : m' (Str.ofString "times") = some (.int v1 t1)) :
    InvEndG h₀ L (BJ w X len v1 t1 (i + 1)) own s₁ { s₁ with heap := h', toks := tk } :=
  ⟨h', tk, m', final, dropL final (own.map (·.1)), rfl, F, N, fun p hp => (mem_dropL.mp hp).1, fun p hp => (st.own p hp).1, ownOff_drop, ρ, recs, σs, gen, nxt, tn, st.back, bd, hrl, by omega, e1, e2, e3, e4, e5, e6, e7⟩
theorem sj_end {h₀ h' : Heap} {L : Addr} {m' : Str → Option Value} {final : List (Addr × Obj)} {s₁ : Shared} {tk : Nat} {i : Nat} {tn : Tok} (F : Fr h₀ L h' m') (N : News h₀ L h' final)
    (st : St w ρ X own len recs σs gen nxt final) (hrl : recs.length < 64)
    (e1 : m' (Str.ofString "hand") = some (.ref X.H)) (e2 : m' (Str.ofString "kept") = some (.ref X.S)) (e3 : m' (Str.ofString "owners") = some (.ref X.OWS)) (e4 : m' (Str.ofString "procs") = some (.ref X.PRD)) (e5 : m' (Str.ofString "rows") = some (.ref X.RW))
    (e6 : m' (Str.ofString "now") = some (.int gen tn)) :
    InvEndG h₀ L (SJ w X len gen tn (i + 1)) own s₁ { s₁ with heap := h', toks := tk } :=
  ⟨h', tk, m', final, dropL final (own.map (·.1)), rfl, F, N, fun p hp => (mem_dropL.mp hp).1, fun p hp => (st.own p hp).1, ownOff_drop, ρ, recs, σs, nxt, st.back, hrl, e1, e2, e3, e4, e5, e6⟩
theorem Bd.look_new (bd : Bd recs σs gen nxt) : look recs nxt = none := by
  unfold look
  rw [List.find?_eq_none]
  intro r hr
  have := bd.recOk r hr
  simp only [decide_eq_true_eq]
  omega
theorem Bd.freshx (bd : Bd recs σs gen nxt) : valueAt (kvx recs) nxt = none := valueAt_recs_none (g := fun r => Value.ref r.x) bd.look_new
theorem Bd.freshr (bd : Bd recs σs gen nxt) : valueAt (kvr recs) nxt = none := valueAt_recs_none (g := fun r => Value.ref r.rw) bd.look_new

/-- a record is added, the others stay as they are -/
theorem St.add_same {A B : List Side} {σ σ' : Side} {n : Rec} (st : St w ρ X own len recs (A ++ σ :: B) gen nxt news) (e : σ'.f = σ.f ∧ σ'.ow = σ.ow ∧ σ'.p = σ.p ∧ σ'.pd = σ.pd)
    (hlt : ∀ p ∈ news, p.1 < n.dx) (hlt2 : n.dx < n.x) (hlt3 : n.x < n.rw)
    (hk : ∀ p ∈ news, p.1 ≠ X.SD → p.1 ≠ X.RD → p.1 ≠ X.RW → p.1 ≠ σ.pd → p.1 ≠ σ.ow → p ∈ news')
    (hsd : Cell news' X.SD (StoreObj w.params X.RD (nxt + 1) (gen + 1))) (hg : gen + 1 < 2 ^ 40)
    (hrd : Cell news' X.RD (IntDict w (kvx recs ++ [(n.place, .ref n.x)]))) (hrw : Cell news' X.RW (IntDict w (kvr recs ++ [(n.place, .ref n.rw)])))
    (hpd : Cell news' σ.pd (ProcObj w.params σ')) (how : Cell news' σ.ow (OwnObj σ')) (hl2 : recs.length < 100)
    (hn1 : (n.x, instObj 38 n.dx) ∈ news') (hn2 : Cell news' n.dx (RecObj w.params n)) (hn3 : Cell news' n.rw (RowObj n)) :
    St w (newRole ρ n) X own len (recs ++ [n]) (A ++ σ' :: B) (gen + 1) (nxt + 1) news' := by
  refine st.add (ch := fun _ => False) e (fun _ h => h.elim) hlt hlt2 hlt3 (fun p hp h1 h2 h3 h4 h5 _ => hk p hp h1 h2 h3 h4 h5) hsd hg hrd hrw hpd how ?_ (fun q hq => ⟨q, hq, rfl, rfl, rfl, rfl⟩) rfl hl2 hn1 hn2 hn3
  obtain ⟨f1, f2, f3, f4, f5, f6, f7, f8⟩ := id st.fx
  obtain ⟨s1, s2, s3⟩ := st.rside σ (mem_mid.mpr (.inl rfl))
  have hk' : ∀ p ∈ news, ∀ R, ρ p.1 = R → R ≠ .SD → R ≠ .RD → R ≠ .RW → R ≠ .pd σ.f → R ≠ .ow σ.f → p ∈ news' := fun p hp R hR h1 h2 h3 h4 h5 =>
    hk p hp (ne_role hR f4 h1) (ne_role hR f5 h2) (ne_role hR f6 h3) (ne_role hR s2 h4) (ne_role hR s3 h5)
  intro q hq
  obtain ⟨a, ⟨o1, b1, b2⟩, o2, c1, c2⟩ := st.hrs q hq
  obtain ⟨g1, g2, g3⟩ := st.rrec q hq
  exact ⟨hk' _ a _ g1 (by simp) (by simp) (by simp) (by simp) (by simp), ⟨o1, hk' _ b1 _ g2 (by simp) (by simp) (by simp) (by simp) (by simp), b2⟩, ⟨o2, hk' _ c1 _ g3 (by simp) (by simp) (by simp) (by simp) (by simp), c2⟩⟩

/-- a record is added, and the one before it in the chain points to it -/
theorem St.add_link {A B : List Side} {σ σ' : Side} {R S : List Rec} {n r r' : Rec} (st : St w ρ X own len (R ++ r :: S) (A ++ σ :: B) gen nxt news) (e : σ'.f = σ.f ∧ σ'.ow = σ.ow ∧ σ'.p = σ.p ∧ σ'.pd = σ.pd)
    (er : r'.place = r.place ∧ r'.x = r.x ∧ r'.dx = r.dx ∧ r'.rw = r.rw)
    (hlt : ∀ p ∈ news, p.1 < n.dx) (hlt2 : n.dx < n.x) (hlt3 : n.x < n.rw)
    (hk : ∀ p ∈ news, p.1 ≠ X.SD → p.1 ≠ X.RD → p.1 ≠ X.RW → p.1 ≠ σ.pd → p.1 ≠ σ.ow → p.1 ≠ r.dx → p.1 ≠ r.rw → p ∈ news')
    (hsd : Cell news' X.SD (StoreObj w.params X.RD (nxt + 1) (gen + 1))) (hg : gen + 1 < 2 ^ 40)
    (hrd : Cell news' X.RD (IntDict w (kvx (R ++ r :: S) ++ [(n.place, .ref n.x)]))) (hrw : Cell news' X.RW (IntDict w (kvr (R ++ r :: S) ++ [(n.place, .ref n.rw)])))
    (hpd : Cell news' σ.pd (ProcObj w.params σ')) (how : Cell news' σ.ow (OwnObj σ')) (hl2 : (R ++ r :: S).length < 100)
    (hr1 : Cell news' r.dx (RecObj w.params r')) (hr2 : Cell news' r.rw (RowObj r'))
    (hn1 : (n.x, instObj 38 n.dx) ∈ news') (hn2 : Cell news' n.dx (RecObj w.params n)) (hn3 : Cell news' n.rw (RowObj n)) :
    St w (newRole ρ n) X own len ((R ++ r' :: S) ++ [n]) (A ++ σ' :: B) (gen + 1) (nxt + 1) news' := by
  have hr : r ∈ R ++ r :: S := mem_mid.mpr (.inl rfl)
  obtain ⟨t1, t2, t3⟩ := st.rrec r hr
  have em : kvx (R ++ r' :: S) = kvx (R ++ r :: S) := by simp [kvx, er.1, er.2.1]
  have ep : kvr (R ++ r' :: S) = kvr (R ++ r :: S) := by simp [kvr, er.1, er.2.2.2]
  have fs := st.keys
  refine st.add (ch := fun a => a = .dx r.place ∨ a = .rw r.place) e (fun _ h => ⟨r.place, h⟩) hlt hlt2 hlt3 (fun p hp h1 h2 h3 h4 h5 h6 => hk p hp h1 h2 h3 h4 h5 (fun e => h6 (.inl (e ▸ t2))) (fun e => h6 (.inr (e ▸ t3)))) hsd hg (em ▸ hrd) (ep ▸ hrw) hpd how ?_ ?_ (by simp) hl2 hn1 hn2 hn3
  · obtain ⟨f1, f2, f3, f4, f5, f6, f7, f8⟩ := id st.fx
    obtain ⟨s1, s2, s3⟩ := st.rside σ (mem_mid.mpr (.inl rfl))
    have hk' : ∀ p ∈ news, ∀ a, ρ p.1 = a → a ≠ .SD → a ≠ .RD → a ≠ .RW → a ≠ .pd σ.f → a ≠ .ow σ.f → a ≠ .dx r.place → a ≠ .rw r.place → p ∈ news' := fun p hp a hR h1 h2 h3 h4 h5 h6 h7 =>
      hk p hp (ne_role hR f4 h1) (ne_role hR f5 h2) (ne_role hR f6 h3) (ne_role hR s2 h4) (ne_role hR s3 h5) (ne_role hR t2 h6) (ne_role hR t3 h7)
    intro q hq
    rcases mem_mid.mp hq with rfl | hq
    · obtain ⟨a, _, _⟩ := st.hrs r hr
      rw [er.2.1, er.2.2.1, er.2.2.2]
      exact ⟨hk' _ a _ t1 (by simp) (by simp) (by simp) (by simp) (by simp) (by simp) (by simp), hr1, hr2⟩
    · have hne := nodup_ne fs hq
      have hq := mem_mid.mpr (.inr hq : q = r ∨ _)
      obtain ⟨a, ⟨o1, b1, b2⟩, o2, c1, c2⟩ := st.hrs q hq
      obtain ⟨g1, g2, g3⟩ := st.rrec q hq
      exact ⟨hk' _ a _ g1 (by simp) (by simp) (by simp) (by simp) (by simp) (by simp) (by simp), ⟨o1, hk' _ b1 _ g2 (by simp) (by simp) (by simp) (by simp) (by simp) (by simp [hne]) (by simp), b2⟩, ⟨o2, hk' _ c1 _ g3 (by simp) (by simp) (by simp) (by simp) (by simp) (by simp) (by simp [hne]), c2⟩⟩
  · intro q hq
    rcases mem_mid.mp hq with rfl | hq
    · exact ⟨r, hr, er.1, er.2.1, er.2.2.1, er.2.2.2⟩
    · exact ⟨q, mem_mid.mpr (.inr hq), rfl, rfl, rfl, rfl⟩

theorem eq_int_no {prog : Program} {A : Around} {E : Value → Shared → Prop} {s : Shared} {a b : Int} {t u : Tok} {Q : Value → Shared → Prop} (h : ¬ a = b) (hq : Q (.bool false) s) : wpAny (model prog w) A (compareOp .Eq (.int a t) (.int b u)) Q E s := by
  refine eq_int ?_
  rw [show (a == b) = false from beq_eq_false_iff_ne.mpr h]
  exact hq
theorem valueAt_stored {kvs : List (Int × Value)} {k n : Int} {u v : Value} (hn : valueAt kvs n = none) (h : valueAt kvs k = some u) : valueAt (stored kvs n v) k = some u := by
  rw [stored_new hn]; exact valueAt_app h
end
end Mine

/-! SpW -/
namespace Mine
set_option maxRecDepth 100000
set_option maxHeartbeats 8000000
inductive CutR {h₀ h : Heap} {L : Addr} {m : Str → Option Value} (_ : Fr h₀ L h m) (s : Shared) (news : List (Addr × Obj)) (b : Bool) : Bool → Shared → Prop
  | mk {h' : Heap} {tk' : Nat} {news' : List (Addr × Obj)} : Fr h₀ L h' m → News h₀ L h' news' → (∀ p ∈ news, p ∈ news') → CutR _ s news b b { s with heap := h', toks := tk' }
structure CutDone : Prop
structure Cut2 : Prop
noncomputable abbrev AllLs (l : List (Addr × Obj)) (a : Addr) : Prop := ∀ p ∈ l, p.1 < a
theorem spoil_spec {w : World} {p : Program} {loose : List Str} {mean : ExcName → Option Value} {mg mb : Str → Option Value}
  {dp un : Nat} {gd : Option (List Code)} {cn : Str} {cs : Scope} {a : Addr} {ccd : Value} {cl : List (Str × Addr)} {outer : List Env} {A₀ : Around} {base h₀ : Heap} {L : Addr} {m : Str → Option Value} {hs0 : Heap} {gn : Array GenState} {dr : Drawn} {tk0 : Nat} {os : OsState} {Q E : Value → Shared → Prop}
  {ρ : Nat → Role} {X : Fx} {own : List (Addr × Obj)} {len : Nat} {recs : List Rec} {σs : List Side} {gen nxt : Int} {news : List (Addr × Obj)}
  (B : Below A₀ base outer h₀) (F : Fr h₀ L hs0 m) (T : Top p loose mean mg mb h₀) (hk : cs.kind = .function)
  (hdp : dp + 60 < recursionLimit) (hun : un + 400 < cLine)
  (N : News h₀ L hs0 news) (st : St w ρ X own len recs σs gen nxt news) (hrl : recs.length < 64)
  (ret : ∀ recs' σs' news' h' tk', Fr h₀ L h' m → News h₀ L h' news' → St w ρ X own len recs' σs' gen nxt news' → recs'.length ≤ recs.length → Q .none ⟨h', gn, dr, tk', os⟩) :
  (hd.heap_39 w.params).In h₀ → wpAny (model Challenge.rw_no0154_01.row.prog w) (ktrTop dp un gd cn cs L a ccd cl outer) (call (.ref 196) [.ref X.H, .ref X.S, .ref X.PRD, .ref X.RW, .ref X.OWS]) Q E ⟨hs0, gn, dr, tk0, os⟩ := by
  k_fill
  w_top off
  intro XX
  k_with_none
  k_with "k_all" => first | with_reducible assumption | exact List.forall_mem_nil _ | ((with_reducible refine dropL_ne ?_); k_memK) | with_reducible exact all_ne_of_allLt (by assumption) | with_reducible exact all_ne_of_lt (by assumption) | exact List.forall_mem_cons.mpr ⟨by first | with_reducible assumption | exact Ne.symm (by with_reducible assumption) | exact Nat.ne_of_lt (by with_reducible assumption) | exact Nat.ne_of_gt (by with_reducible assumption) | exact Nat.ne_of_lt (And.left (by with_reducible assumption)) | exact Nat.ne_of_gt (And.left (by with_reducible assumption)) | exact Nat.ne_of_lt (And.left (And.right (by with_reducible assumption))) | exact Nat.ne_of_gt (And.left (And.right (by with_reducible assumption))) | exact Nat.ne_of_lt (And.left (And.right (And.right (by with_reducible assumption)))) | exact Nat.ne_of_gt (And.left (And.right (And.right (by with_reducible assumption)))) | exact Nat.ne_of_lt (And.left (And.right (And.right (And.right (by with_reducible assumption))))) | exact Nat.ne_of_gt (And.left (And.right (And.right (And.right (by with_reducible assumption))))) | exact Nat.ne_of_lt (And.left (And.right (And.right (And.right (And.right (by with_reducible assumption)))))) | exact Nat.ne_of_gt (And.left (And.right (And.right (And.right (And.right (by with_reducible assumption)))))) | exact Nat.ne_of_lt (And.left (And.right (And.right (And.right (And.right (And.right (by with_reducible assumption))))))) | exact Nat.ne_of_gt (And.left (And.right (And.right (And.right (And.right (And.right (by with_reducible assumption))))))) | exact Nat.ne_of_lt (And.left (And.right (And.right (And.right (And.right (And.right (And.right (by with_reducible assumption)))))))) | exact Nat.ne_of_gt (And.left (And.right (And.right (And.right (And.right (And.right (And.right (by with_reducible assumption)))))))) | k_ne, by k_all⟩
  k_with "k_updF" => first | exact UpdF.head (by k_all) | exact UpdF.tail (by first | with_reducible assumption | exact Ne.symm (by with_reducible assumption) | exact Nat.ne_of_lt (by with_reducible assumption) | exact Nat.ne_of_gt (by with_reducible assumption) | exact Nat.ne_of_lt (And.left (by with_reducible assumption)) | exact Nat.ne_of_gt (And.left (by with_reducible assumption)) | exact Nat.ne_of_lt (And.left (And.right (by with_reducible assumption))) | exact Nat.ne_of_gt (And.left (And.right (by with_reducible assumption))) | exact Nat.ne_of_lt (And.left (And.right (And.right (by with_reducible assumption)))) | exact Nat.ne_of_gt (And.left (And.right (And.right (by with_reducible assumption)))) | exact Nat.ne_of_lt (And.left (And.right (And.right (And.right (by with_reducible assumption))))) | exact Nat.ne_of_gt (And.left (And.right (And.right (And.right (by with_reducible assumption))))) | exact Nat.ne_of_lt (And.left (And.right (And.right (And.right (And.right (by with_reducible assumption)))))) | exact Nat.ne_of_gt (And.left (And.right (And.right (And.right (And.right (by with_reducible assumption)))))) | exact Nat.ne_of_lt (And.left (And.right (And.right (And.right (And.right (And.right (by with_reducible assumption))))))) | exact Nat.ne_of_gt (And.left (And.right (And.right (And.right (And.right (And.right (by with_reducible assumption))))))) | exact Nat.ne_of_lt (And.left (And.right (And.right (And.right (And.right (And.right (And.right (by with_reducible assumption)))))))) | exact Nat.ne_of_gt (And.left (And.right (And.right (And.right (And.right (And.right (And.right (by with_reducible assumption)))))))) | k_ne) (by k_updF)
  k_with "k_upd" => first | exact Upd.head (by k_all) | exact Upd.tail (by first | with_reducible assumption | exact Ne.symm (by with_reducible assumption) | exact Nat.ne_of_lt (by with_reducible assumption) | exact Nat.ne_of_gt (by with_reducible assumption) | exact Nat.ne_of_lt (And.left (by with_reducible assumption)) | exact Nat.ne_of_gt (And.left (by with_reducible assumption)) | exact Nat.ne_of_lt (And.left (And.right (by with_reducible assumption))) | exact Nat.ne_of_gt (And.left (And.right (by with_reducible assumption))) | exact Nat.ne_of_lt (And.left (And.right (And.right (by with_reducible assumption)))) | exact Nat.ne_of_gt (And.left (And.right (And.right (by with_reducible assumption)))) | exact Nat.ne_of_lt (And.left (And.right (And.right (And.right (by with_reducible assumption))))) | exact Nat.ne_of_gt (And.left (And.right (And.right (And.right (by with_reducible assumption))))) | exact Nat.ne_of_lt (And.left (And.right (And.right (And.right (And.right (by with_reducible assumption)))))) | exact Nat.ne_of_gt (And.left (And.right (And.right (And.right (And.right (by with_reducible assumption)))))) | exact Nat.ne_of_lt (And.left (And.right (And.right (And.right (And.right (And.right (by with_reducible assumption))))))) | exact Nat.ne_of_gt (And.left (And.right (And.right (And.right (And.right (And.right (by with_reducible assumption))))))) | exact Nat.ne_of_lt (And.left (And.right (And.right (And.right (And.right (And.right (And.right (by with_reducible assumption)))))))) | exact Nat.ne_of_gt (And.left (And.right (And.right (And.right (And.right (And.right (And.right (by with_reducible assumption)))))))) | k_ne) (by k_upd)
  k_with "getAttr ref" => k_dflt (refine get_opq (by k_asm) (by k_asm) (by k_asm) (by first | with_reducible assumption | k_memK | k_mem) (by first | with_reducible assumption | k_memK | k_mem) (by with_reducible assumption) (by k_is) (by k_is) (by k_is) (by k_is) (by k_get) (by k_handed) ?_)
  k_with "getMethod ref" => k_dflt (refine meth_opq (by k_asm) (by k_asm) (by k_asm) (by first | with_reducible assumption | k_memK | k_mem) (by first | with_reducible assumption | k_memK | k_mem) (by with_reducible assumption) (by k_is) (by k_is) (by k_is) (by k_get) ?_)
  k_with "setAttr ref" => k_dflt (refine set_opq (by k_asm) (by k_asm) (by k_asm) (by first | with_reducible assumption | k_memK | k_mem) (by k_updF) (by with_reducible assumption) (by k_is) (by k_is) (by k_is) (by k_is) (by k_get) (by k_put) (by exact Nat.le_of_ble_eq_true rfl) ?_; k_whole; intro h' o' he' F' N'; (try dsimp only at N'); (try k_sweep))
  k_with "setItem ref int" => (k_dflt (refine kda_set (knd := intKind _ _) (by k_asm) (by k_asm) (by k_updF) (by with_reducible assumption) (intKind_is _ _ _ _) (by (try rw [List.length_map]); rw [sizeLine_eq]; omega) ?_); intro h' o' F' N' hd'; (try dsimp only at N'))
  k_with "subscriptTail" => ((with_reducible show wpAny _ _ (subscriptTail _ _ (Value.ref _) (Value.int _ _)) _ _ _); k_dflt (refine kda_item (knd := intKind _ _) (by k_asm) (by first | with_reducible assumption | k_memK | k_mem) (by with_reducible assumption) (intKind_is _ _ _ _) (by with_reducible assumption) ?_))
  k_with "getItem ref int" => k_dflt (refine kdt_getItem (knd := intKind _ _) (by k_asm) (by first | with_reducible assumption | k_memK | k_mem) (by with_reducible assumption) (intKind_is _ _ _ _) (by with_reducible assumption) ?_)
  k_with "subscriptTail" => ((with_reducible show wpAny _ _ (subscriptTail _ _ (Value.ref _) (Value.int _ _)) _ _ _); k_dflt (refine item_lst (by k_asm) (by first | with_reducible assumption | k_memK | k_mem) (by decide) (by decide) (by rfl) ?_))
  k_with "subscriptTail" => ((with_reducible show wpAny _ _ (subscriptTail _ _ (Value.ref _) (Value.int _ _)) _ _ _); k_dflt (refine item_lst (by k_asm) (by first | with_reducible assumption | k_memK) (by assumption) (by omega) (by with_reducible assumption) ?_))
  k_with "call ref" => ((with_reducible show wpAny _ _ (call (Value.ref 182) _) _ _ _); k_dflt (refine pick_lit (by k_asm) (by k_asm) (by k_asm) (by exact rfl) (by ktr_room) (by ktr_units) (by k_asm) (by first | with_reducible assumption | exact List.mem_cons_of_mem _ (by with_reducible assumption) | exact List.mem_cons_of_mem _ (List.mem_cons_of_mem _ (by with_reducible assumption)) | k_memK) (by with_reducible assumption) (by first | with_reducible assumption | exact List.mem_cons_of_mem _ (by with_reducible assumption) | exact List.mem_cons_of_mem _ (List.mem_cons_of_mem _ (by with_reducible assumption)) | k_memK) (by with_reducible assumption) (by with_reducible assumption) (by first | decide | omega) (by first | decide | omega) (fun d t ho' news' h' tk' d1 d2 F' N' hH' hho' hkeep => ?_) (by k_asm)); (try dsimp only at F' N' ⊢); refine stop_here ?_)
  k_with "call builtin:len" => (k_dflt (refine kda_len (knd := intKind _ _) (by k_asm) (by first | with_reducible assumption | exact List.mem_cons_of_mem _ (by with_reducible assumption) | exact List.mem_cons_of_mem _ (List.mem_cons_of_mem _ (by with_reducible assumption)) | k_memK) (by with_reducible assumption) (by with_reducible assumption) (by (try rw [List.length_map]); omega) ?_); try rw [List.length_map])
  k_with "compareOp Eq ref ref" => (k_dflt (refine dict_eq0 (by k_asm) (by first | with_reducible assumption | exact List.mem_cons_of_mem _ (by with_reducible assumption) | exact List.mem_cons_of_mem _ (List.mem_cons_of_mem _ (by with_reducible assumption)) | k_memK) (by with_reducible assumption) (by with_reducible assumption) (by first | with_reducible assumption | exact List.mem_cons_of_mem _ (by with_reducible assumption) | exact List.mem_cons_of_mem _ (List.mem_cons_of_mem _ (by with_reducible assumption)) | k_memK) (by with_reducible assumption) (by with_reducible assumption) (by ktr_units) ?_); try rw [List.length_map])
  k_with "compareOp NotEq ref ref" => (k_dflt (refine dict_ne0 (by k_asm) (by first | with_reducible assumption | exact List.mem_cons_of_mem _ (by with_reducible assumption) | exact List.mem_cons_of_mem _ (List.mem_cons_of_mem _ (by with_reducible assumption)) | k_memK) (by with_reducible assumption) (by with_reducible assumption) (by first | with_reducible assumption | exact List.mem_cons_of_mem _ (by with_reducible assumption) | exact List.mem_cons_of_mem _ (List.mem_cons_of_mem _ (by with_reducible assumption)) | k_memK) (by with_reducible assumption) (by with_reducible assumption) (by ktr_units) ?_); try rw [List.length_map])
  k_with "call builtin:sorted" => (k_dflt (refine sorted_lit (by exact rfl) (by k_asm) (by k_asm) (by first | with_reducible assumption | exact List.mem_cons_of_mem _ (by with_reducible assumption) | exact List.mem_cons_of_mem _ (List.mem_cons_of_mem _ (by with_reducible assumption)) | k_memK) (by with_reducible assumption) (by with_reducible assumption) (by (try rw [List.length_map]); omega) ?_); intro D h' tk vs ns c F' N' hlt hvs hnl hns; (try dsimp only at N'); (try k_sweep))
  k_with "isTrue BoolOp" => ((fail_if_success (have hcut : CutDone := by assumption)); refine stop_here ?_)
  k_with "getMethod ref" => k_dflt (refine kob_method (knd := intKind _ _) PySem.F.slot_dict_pop PySem.F.type_dict_pop (by k_asm) (by first | with_reducible assumption | k_memK | k_mem) (by with_reducible assumption) ?_)
  k_with "call builtin:dict.pop" => (k_dflt (refine kob_pop (knd := intKind _ _) (more := []) (by k_asm) (by k_asm) (by k_updF) (by with_reducible assumption) (intKind_is _ _ _ _) (.inl rfl) (by exact rfl) (PySem.F.args_dict_pop_2 _ _) (by with_reducible assumption) (by (try rw [List.length_map]); rw [sizeLine_eq]; omega) ?_); intro h' o' F' N' hd'; (try dsimp only at N'))
  k_with "setAttr ref" => ((fail_if_success (have hcut2 : Cut2 := by assumption)); refine stop_here ?_)
  k_with "setItem ref int" => ((fail_if_success (have hcut2 : Cut2 := by assumption)); refine stop_here ?_)
  k_with "call builtin:dict.pop" => ((fail_if_success (have hcut2 : Cut2 := by assumption)); refine stop_here ?_)
  k_with "LeaveK" => refine stop_here ?_
  obtain ⟨ho, hH, hho⟩ := id st.hand
  obtain ⟨co, hC, hco⟩ := id st.cells
  obtain ⟨rwo, hRW, hrw⟩ := id st.rwd
  have hRWm := st.mods.2.1
  have hCH : @Ne Addr X.C X.H := ne_role st.fx.2.1 st.fx.1 (by simp)
  refine wpAny_call ?_
  k_dflt ktr_enter
  k_steps
  refine ⟨?_⟩
  try k_fold

  replace st := st.pick (fun p hp h => hkeep p (hp) h) ⟨_, hH', hho'⟩
  clear hH hho hC hco hRW hrw hkeep hH' hho'
  rename Int => v1
  rename 0 ≤ v1 => v1l
  rename v1 < _ => v1h
  obtain ⟨ho, hH, hho⟩ := id st.hand
  obtain ⟨co, hC, hco⟩ := id st.cells
  obtain ⟨rwo, hRW, hrw⟩ := id st.rwd
  k_steps
  refine ⟨?_⟩
  try k_fold

  replace st := st.pick (fun p hp h => hkeep p (hp) h) ⟨_, hH', hho'⟩
  clear hH hho hC hco hRW hrw hkeep hH' hho'
  rename Int => v2
  rename 0 ≤ v2 => v2l
  rename v2 < _ => v2h
  obtain ⟨ho, hH, hho⟩ := id st.hand
  obtain ⟨co, hC, hco⟩ := id st.cells
  obtain ⟨rwo, hRW, hrw⟩ := id st.rwd
  k_steps
  refine ⟨?_⟩
  try k_fold
  rename Fr _ _ _ _ => Fc
  refine wpAny_mono (Q := CutR Fc ⟨hs0, gn, dr, tk0, os⟩ news' (decide (6 < v1 ∨ (recs.length : Int) = 0))) ?_ ?_ (fun _ _ e => e)
  · have hcut : CutDone := ⟨⟩
    by_cases hA : 6 < v1 ∨ (recs.length : Int) = 0
    · rw [decide_eq_true hA]
      k_steps
      all_goals exact .mk (by k_asm) (by k_asm) (fun p hp => by first | exact hp | exact .tail _ hp)
    · rw [decide_eq_false hA]
      k_steps
      all_goals exact .mk (by k_asm) (by k_asm) (fun p hp => by first | exact hp | exact .tail _ hp)
  rintro _ _ ⟨F', N2, hsub⟩
  replace st := st.mono hsub
  replace hH := hsub _ hH
  replace hC := hsub _ hC
  replace hRW := hsub _ hRW
  clear hsub Fc
  by_cases hA : 6 < v1 ∨ (recs.length : Int) = 0
  · rw [decide_eq_true hA]
    k_steps
    refine ⟨?_⟩
    try k_fold
    replace st := st.pick (fun p hp h => hkeep p (hp) h) ⟨_, hH', hho'⟩
    clear hH hho hC hco hRW hrw hkeep hH' hho'
    rename Int => v3
    rename 0 ≤ v3 => v3l
    rename v3 < _ => v3h
    obtain ⟨ho, hH, hho⟩ := id st.hand
    obtain ⟨co, hC, hco⟩ := id st.cells
    obtain ⟨rwo, hRW, hrw⟩ := id st.rwd
    obtain ⟨σ, hσi⟩ : ∃ σ, σs[v3.toNat]? = some σ := ⟨_, List.getElem?_eq_getElem (by rw [st.two]; omega)⟩
    have hnv : nthV (σs.map fun σ => Value.ref σ.ow).toArray.toList v3.toNat = some (.ref σ.ow) := by rw [nthV_spec]; simp [hσi]
    have hσ := List.mem_of_getElem? hσi
    clear hσi
    obtain ⟨A, B', hAB⟩ := List.append_of_mem hσ
    have hvp := st.vp hσ
    obtain ⟨g1, g2, g3⟩ := st.rside σ hσ
    have n1 : @Ne Addr X.OWS σ.pd := ne_role st.fx.2.2.2.2.2.2.1 g2 (by simp)
    have n2 : @Ne Addr X.OWS σ.ow := ne_role st.fx.2.2.2.2.2.2.1 g3 (by simp)
    have n5 : @Ne Addr σ.p σ.pd := ne_role g1 g2 (by simp)
    have n6 : @Ne Addr σ.p σ.ow := ne_role g1 g3 (by simp)
    have n7 : @Ne Addr σ.pd σ.ow := ne_role g2 g3 (by simp)
    clear g1 g2 g3
    obtain ⟨no, hOW⟩ := id st.ows
    obtain ⟨hp1, ⟨pdo, hp2, τp, hp3⟩, owo, ho1, τo, ho2⟩ := st.side σ hσ
    subst ho2
    obtain ⟨pro, hP, hPd⟩ := id st.prd
    k_steps
    · refine ⟨?_⟩
      try k_fold
      rename News _ _ _ _ => N'
      have hcut2 : Cut2 := ⟨⟩
      have N5 := news_add N' hOW (news_add N' hp1 (news_add N' hp2 (news_add N' ho1 (news_drop N' [σ.pd, σ.ow]))))
      clear N'
      k_steps
      refine ⟨?_⟩
      refine leaveK_ (by k_asm) (by k_asm) ?_
      intro kF kN
      rw [hAB] at st
      exact ret recs _ _ _ _ kF kN (st.side_to (σ' := ⟨σ.f, σ.ow, σ.p, σ.pd, σ.kind, v2 - 1, σ.last⟩) ⟨rfl, rfl, rfl, rfl⟩ (fun p hp h1 h2 => .tail _ (.tail _ (.tail _ (.tail _ (dl2 hp h1 h2))))) ⟨_, by k_mem, procObj (by with_reducible assumption)⟩ ⟨_, by k_mem, ownObj rfl⟩) (Nat.le_refl _)
    · refine ⟨?_⟩
      try k_fold
      rename News _ _ _ _ => N'
      have hcut2 : Cut2 := ⟨⟩
      have N5 := news_add N' hOW (news_add N' hp1 (news_add N' hp2 (news_add N' ho1 (news_drop N' [σ.pd, σ.ow]))))
      clear N'
      k_steps
      refine ⟨?_⟩
      refine leaveK_ (by k_asm) (by k_asm) ?_
      intro kF kN
      rw [hAB] at st
      exact ret recs _ _ _ _ kF kN (st.side_to (σ' := ⟨σ.f, σ.ow, σ.p, σ.pd, σ.kind, σ.first, v2 - 1⟩) ⟨rfl, rfl, rfl, rfl⟩ (fun p hp h1 h2 => .tail _ (.tail _ (.tail _ (.tail _ (dl2 hp h1 h2))))) ⟨_, by k_mem, procObj (by with_reducible assumption)⟩ ⟨_, by k_mem, ownObj rfl⟩) (Nat.le_refl _)
    rename AllLs _ _ => hlt2
    have hM := hkeep _ (List.mem_cons_self ..) (Ne.symm (Nat.ne_of_lt (hlt2 _ hH)))
    refine ⟨?_⟩
    try k_fold
    replace st := st.pick (fun p hp h => hkeep p (.tail _ hp) h) ⟨_, hH', hho'⟩
    clear hH hho hC hco hRW hrw hOW hp1 hp2 hp3 ho1 hP hPd hkeep hH' hho'
    rename Int => v4
    rename 0 ≤ v4 => v4l
    rename v4 < _ => v4h
    obtain ⟨kd, tkd, hkd⟩ := nth2M hM v4l v4h
    obtain ⟨no, hOW⟩ := id st.ows
    obtain ⟨hp1, ⟨pdo, hp2, τp, hp3⟩, owo, ho1, τo, ho2⟩ := st.side σ hσ
    subst ho2
    obtain ⟨pro, hP, hPd⟩ := id st.prd
    k_steps
    refine ⟨?_⟩
    try k_fold
    rename News _ _ _ _ => N'
    have hcut2 : Cut2 := ⟨⟩
    have N5 := news_add N' hOW (news_add N' hp1 (news_add N' hp2 (news_add N' ho1 (news_drop N' [σ.pd, σ.ow]))))
    clear N'
    k_steps
    refine ⟨?_⟩
    refine leaveK_ (by k_asm) (by k_asm) ?_
    intro kF kN
    rw [hAB] at st
    exact ret recs _ _ _ _ kF kN (st.side_to (σ' := ⟨σ.f, σ.ow, σ.p, σ.pd, kd, σ.first, σ.last⟩) ⟨rfl, rfl, rfl, rfl⟩ (fun p hp h1 h2 => .tail _ (.tail _ (.tail _ (.tail _ (dl2 hp h1 h2))))) ⟨_, by k_mem, procObj (by with_reducible assumption)⟩ ⟨_, by k_mem, ownObj rfl⟩) (Nat.le_refl _)
  · rw [decide_eq_false hA]
    have hcut : CutDone := ⟨⟩
    k_steps
    have hM := hkeep _ (List.mem_cons_self ..) (Ne.symm (Nat.ne_of_lt (hlt _ hH)))
    refine ⟨?_⟩
    try k_fold
    replace st := st.pick (fun p hp h => hkeep p (.tail _ hp) h) ⟨_, hH', hho'⟩
    clear hH hho hC hco hRW hrw hkeep hH' hho'
    rename Int => v3
    rename 0 ≤ v3 => v3l
    rename v3 < _ => v3h
    obtain ⟨ho, hH, hho⟩ := id st.hand
    obtain ⟨co, hC, hco⟩ := id st.cells
    obtain ⟨rwo, hRW, hrw⟩ := id st.rwd
    obtain ⟨r, hr, tkey, hkey⟩ := key_of hvs rfl hns v3l (by rw [hnl, List.length_map]; exact v3h)
    obtain ⟨A, B', hAB⟩ := List.append_of_mem hr
    obtain ⟨g1, g2, g3⟩ := st.rrec r hr
    have n1 : @Ne Addr r.x r.dx := ne_role g1 g2 (by simp)
    have n2 : @Ne Addr r.x r.rw := ne_role g1 g3 (by simp)
    have n3 : @Ne Addr r.dx r.rw := ne_role g2 g3 (by simp)
    have n4 : @Ne Addr X.RD X.RW := ne_role st.fx.2.2.2.2.1 st.fx.2.2.2.2.2.1 (by simp)
    clear g1 g2 g3
    have hvx := st.vx hr
    have hvr := st.vr hr
    have hRDm := st.mods.1
    have hS := st.store
    obtain ⟨so, hSD, τs, hso⟩ := id st.sd
    obtain ⟨rdo, hRD, hrd⟩ := id st.rd
    obtain ⟨hx, ⟨ro, hdx, τr, hro⟩, rwo', hrw2, τw, hrwo⟩ := st.hrs r hr
    subst hrwo
    k_steps
    refine ⟨?_⟩
    try k_fold
    replace st := st.pick (fun p hp h => hkeep p (hp) h) ⟨_, hH', hho'⟩
    clear hH hho hC hco hRW hrw hS hSD hso hRD hrd hx hdx hro hrw2 hkeep hH' hho'
    rename Int => v4
    rename 0 ≤ v4 => v4l
    rename v4 < _ => v4h
    obtain ⟨ho, hH, hho⟩ := id st.hand
    obtain ⟨co, hC, hco⟩ := id st.cells
    obtain ⟨rwo, hRW, hrw⟩ := id st.rwd
    have hS := st.store
    obtain ⟨so, hSD, τs, hso⟩ := id st.sd
    obtain ⟨rdo, hRD, hrd⟩ := id st.rd
    obtain ⟨hx, ⟨ro, hdx, τr, hro⟩, rwo', hrw2, τw, hrwo⟩ := st.hrs r hr
    subst hrwo
    k_steps
    all_goals first | (exfalso; omega) | skip
    · refine ⟨?_⟩
      try k_fold
      rename News _ _ _ _ => N'
      have hcut2 : Cut2 := ⟨⟩
      have N5 := news_add N' hx (news_add N' hdx (news_add N' hrw2 (news_drop N' [r.dx, r.rw])))
      have hSD2 := dl2 hSD (ne_role st.fx.2.2.2.1 (st.rrec r hr).2.1 (by simp)) (ne_role st.fx.2.2.2.1 (st.rrec r hr).2.2 (by simp))
      have hso2 := storeObj hso
      clear N'
      k_steps
      refine ⟨?_⟩
      refine leaveK_ (by k_asm) (by k_asm) ?_
      intro kF kN
      rw [hAB] at st
      exact ret (A ++ ⟨r.place, r.x, r.dx, r.rw, v2 - 1, r.functor, r.birth, r.death, r.next⟩ :: B') σs _ _ _ kF kN (st.rec_to (r' := ⟨r.place, r.x, r.dx, r.rw, v2 - 1, r.functor, r.birth, r.death, r.next⟩) ⟨rfl, rfl, rfl, rfl⟩ (fun p hp _ h1 h2 => .tail _ (.tail _ (.tail _ (dl2 hp h1 h2)))) ⟨_, .tail _ (.tail _ (.tail _ (hSD2))), hso2⟩ st.gen ⟨_, by k_mem, recObj (by first | with_reducible assumption | assumption)⟩ ⟨_, by k_mem, rowObj rfl⟩) (by rw [hAB]; simp)
    · refine ⟨?_⟩
      try k_fold
      rename News _ _ _ _ => N'
      have hcut2 : Cut2 := ⟨⟩
      have N5 := news_add N' hx (news_add N' hdx (news_add N' hrw2 (news_drop N' [r.dx, r.rw])))
      have hSD2 := dl2 hSD (ne_role st.fx.2.2.2.1 (st.rrec r hr).2.1 (by simp)) (ne_role st.fx.2.2.2.1 (st.rrec r hr).2.2 (by simp))
      have hso2 := storeObj hso
      clear N'
      k_steps
      refine ⟨?_⟩
      refine leaveK_ (by k_asm) (by k_asm) ?_
      intro kF kN
      rw [hAB] at st
      exact ret (A ++ ⟨r.place, r.x, r.dx, r.rw, r.key, 50 + (v2 - 1), r.birth, r.death, r.next⟩ :: B') σs _ _ _ kF kN (st.rec_to (r' := ⟨r.place, r.x, r.dx, r.rw, r.key, 50 + (v2 - 1), r.birth, r.death, r.next⟩) ⟨rfl, rfl, rfl, rfl⟩ (fun p hp _ h1 h2 => .tail _ (.tail _ (.tail _ (dl2 hp h1 h2)))) ⟨_, .tail _ (.tail _ (.tail _ (hSD2))), hso2⟩ st.gen ⟨_, by k_mem, recObj (by first | with_reducible assumption | assumption)⟩ ⟨_, by k_mem, rowObj rfl⟩) (by rw [hAB]; simp)
    · rename AllLs _ _ => hlt2
      have hM2 := hkeep _ (List.mem_cons_self ..) (Ne.symm (Nat.ne_of_lt (hlt2 _ hH)))
      refine ⟨?_⟩
      try k_fold
      replace st := st.pick (fun p hp h => hkeep p (.tail _ hp) h) ⟨_, hH', hho'⟩
      clear hH hho hC hco hRW hrw hS hSD hso hRD hrd hx hdx hro hrw2 hkeep hH' hho'
      rename Int => v5
      rename 0 ≤ v5 => v5l
      rename v5 < _ => v5h
      obtain ⟨vl, tvl, hvl⟩ := nth4M hM2 v5l v5h
      have hS := st.store
      obtain ⟨so, hSD, τs, hso⟩ := id st.sd
      obtain ⟨rdo, hRD, hrd⟩ := id st.rd
      obtain ⟨hx, ⟨ro, hdx, τr, hro⟩, rwo', hrw2, τw, hrwo⟩ := st.hrs r hr
      subst hrwo
      k_steps
      refine ⟨?_⟩
      try k_fold
      rename News _ _ _ _ => N'
      have hcut2 : Cut2 := ⟨⟩
      have N5 := news_add N' hx (news_add N' hdx (news_add N' hrw2 (news_drop N' [r.dx, r.rw])))
      have hSD2 := dl2 hSD (ne_role st.fx.2.2.2.1 (st.rrec r hr).2.1 (by simp)) (ne_role st.fx.2.2.2.1 (st.rrec r hr).2.2 (by simp))
      have hso2 := storeObj hso
      clear N'
      k_steps
      refine ⟨?_⟩
      refine leaveK_ (by k_asm) (by k_asm) ?_
      intro kF kN
      rw [hAB] at st
      exact ret (A ++ ⟨r.place, r.x, r.dx, r.rw, r.key, r.functor, vl, r.death, r.next⟩ :: B') σs _ _ _ kF kN (st.rec_to (r' := ⟨r.place, r.x, r.dx, r.rw, r.key, r.functor, vl, r.death, r.next⟩) ⟨rfl, rfl, rfl, rfl⟩ (fun p hp _ h1 h2 => .tail _ (.tail _ (.tail _ (dl2 hp h1 h2)))) ⟨_, .tail _ (.tail _ (.tail _ (hSD2))), hso2⟩ st.gen ⟨_, by k_mem, recObj (by first | with_reducible assumption | assumption)⟩ ⟨_, by k_mem, rowObj rfl⟩) (by rw [hAB]; simp)
    · rename AllLs _ _ => hlt2
      have hM2 := hkeep _ (List.mem_cons_self ..) (Ne.symm (Nat.ne_of_lt (hlt2 _ hH)))
      refine ⟨?_⟩
      try k_fold
      replace st := st.pick (fun p hp h => hkeep p (.tail _ hp) h) ⟨_, hH', hho'⟩
      clear hH hho hC hco hRW hrw hS hSD hso hRD hrd hx hdx hro hrw2 hkeep hH' hho'
      rename Int => v5
      rename 0 ≤ v5 => v5l
      rename v5 < _ => v5h
      obtain ⟨vl, tvl, hvl⟩ := nth5M hM2 v5l v5h
      have hS := st.store
      obtain ⟨so, hSD, τs, hso⟩ := id st.sd
      obtain ⟨rdo, hRD, hrd⟩ := id st.rd
      obtain ⟨hx, ⟨ro, hdx, τr, hro⟩, rwo', hrw2, τw, hrwo⟩ := st.hrs r hr
      subst hrwo
      k_steps
      refine ⟨?_⟩
      try k_fold
      rename News _ _ _ _ => N'
      have hcut2 : Cut2 := ⟨⟩
      have N5 := news_add N' hx (news_add N' hdx (news_add N' hrw2 (news_drop N' [r.dx, r.rw])))
      have hSD2 := dl2 hSD (ne_role st.fx.2.2.2.1 (st.rrec r hr).2.1 (by simp)) (ne_role st.fx.2.2.2.1 (st.rrec r hr).2.2 (by simp))
      have hso2 := storeObj hso
      clear N'
      k_steps
      refine ⟨?_⟩
      refine leaveK_ (by k_asm) (by k_asm) ?_
      intro kF kN
      rw [hAB] at st
      exact ret (A ++ ⟨r.place, r.x, r.dx, r.rw, r.key, r.functor, r.birth, vl, r.next⟩ :: B') σs _ _ _ kF kN (st.rec_to (r' := ⟨r.place, r.x, r.dx, r.rw, r.key, r.functor, r.birth, vl, r.next⟩) ⟨rfl, rfl, rfl, rfl⟩ (fun p hp _ h1 h2 => .tail _ (.tail _ (.tail _ (dl2 hp h1 h2)))) ⟨_, .tail _ (.tail _ (.tail _ (hSD2))), hso2⟩ st.gen ⟨_, by k_mem, recObj (by first | with_reducible assumption | assumption)⟩ ⟨_, by k_mem, rowObj rfl⟩) (by rw [hAB]; simp)
    · refine ⟨?_⟩
      try k_fold
      rename News _ _ _ _ => N'
      have hcut2 : Cut2 := ⟨⟩
      have N5 := news_add N' hx (news_add N' hdx (news_add N' hrw2 (news_drop N' [r.dx, r.rw])))
      have hSD2 := dl2 hSD (ne_role st.fx.2.2.2.1 (st.rrec r hr).2.1 (by simp)) (ne_role st.fx.2.2.2.1 (st.rrec r hr).2.2 (by simp))
      have hso2 := storeObj hso
      clear N'
      k_steps
      refine ⟨?_⟩
      refine leaveK_ (by k_asm) (by k_asm) ?_
      intro kF kN
      rw [hAB] at st
      exact ret (A ++ ⟨r.place, r.x, r.dx, r.rw, r.key, r.functor, r.birth, r.death, v2 - 1⟩ :: B') σs _ _ _ kF kN (st.rec_to (r' := ⟨r.place, r.x, r.dx, r.rw, r.key, r.functor, r.birth, r.death, v2 - 1⟩) ⟨rfl, rfl, rfl, rfl⟩ (fun p hp _ h1 h2 => .tail _ (.tail _ (.tail _ (dl2 hp h1 h2)))) ⟨_, .tail _ (.tail _ (.tail _ (hSD2))), hso2⟩ st.gen ⟨_, by k_mem, recObj (by first | with_reducible assumption | assumption)⟩ ⟨_, by k_mem, rowObj rfl⟩) (by rw [hAB]; simp)
    · refine ⟨?_⟩
      try k_fold
      rename News _ _ _ _ => N'
      have hcut2 : Cut2 := ⟨⟩
      have N5 := news_add N' hx (news_add N' hdx (news_add N' hrw2 (news_drop N' [r.dx, r.rw])))
      have hSD2 := dl2 hSD (ne_role st.fx.2.2.2.1 (st.rrec r hr).2.1 (by simp)) (ne_role st.fx.2.2.2.1 (st.rrec r hr).2.2 (by simp))
      have hso2 := storeObj hso
      clear N'
      k_steps
      refine ⟨?_⟩
      refine leaveK_ (by k_asm) (by k_asm) ?_
      intro kF kN
      rw [hAB] at st
      exact ret (A ++ ⟨r.place, r.x, r.dx, r.rw, r.key, r.functor, r.birth, r.death, v2 - 1⟩ :: B') σs _ _ _ kF kN (st.rec_to (r' := ⟨r.place, r.x, r.dx, r.rw, r.key, r.functor, r.birth, r.death, v2 - 1⟩) ⟨rfl, rfl, rfl, rfl⟩ (fun p hp _ h1 h2 => .tail _ (.tail _ (.tail _ (dl2 hp h1 h2)))) ⟨_, .tail _ (.tail _ (.tail _ (hSD2))), hso2⟩ st.gen ⟨_, by k_mem, recObj (by first | with_reducible assumption | assumption)⟩ ⟨_, by k_mem, rowObj rfl⟩) (by rw [hAB]; simp)
    · refine ⟨?_⟩
      try k_fold
      rename News _ _ _ _ => N'
      have hcut2 : Cut2 := ⟨⟩
      have N5 := news_add N' hRD (news_add N' hRW (news_drop N' [X.RD, X.RW]))
      clear N'
      k_steps
      refine ⟨?_⟩
      refine leaveK_ (by k_asm) (by k_asm) ?_
      intro kF kN
      rw [hAB] at st
      exact ret (A ++ B') σs _ _ _ kF kN (st.pop (fun p hp h1 h2 => .tail _ (.tail _ (dl2 hp h1 h2))) ⟨_, by k_mem, by rw [← hAB]; with_reducible assumption⟩ ⟨_, by k_mem, by rw [← hAB]; with_reducible assumption⟩) (by rw [hAB]; simp)
end Mine

/-! LawUse -/
namespace Mine
set_option maxRecDepth 100000
theorem check_use {w : World} {p : Program} {loose : List Str} {mean : ExcName → Option Value} {mg mb : Str → Option Value}
  {dp un : Nat} {gd : Option (List Code)} {cn : Str} {cs : Scope} {a : Addr} {ccd : Value} {cl : List (Str × Addr)} {outer : List Env} {A₀ : Around} {base h₀ : Heap} {L : Addr} {m : Str → Option Value} {hp : Heap} {gn : Array GenState} {dr : Drawn} {tk0 : Nat} {os : OsState} {Q E : Value → Shared → Prop}
  {ρ : Nat → Role} {X : Fx} {own : List (Addr × Obj)} {len : Nat} {recs : List Rec} {σs : List Side} {gen nxt : Int} {news : List (Addr × Obj)}
  (B : Below A₀ base outer h₀) (F : Fr h₀ L hp m) (T : Top p loose mean mg mb h₀) (hk : cs.kind = .function)
  (hdp : dp + 60 < recursionLimit) (hun : un + 400 < cLine)
  (N : News h₀ L hp news) (st : St w ρ X own len recs σs gen nxt news)
  (ret : ∀ h' tk', Fr h₀ L h' m → News h₀ L h' news → Q (.bool (checkB recs gen σs)) ⟨h', gn, dr, tk', os⟩) :
  (hd.heap_39 w.params).In h₀ → wpAny (model Challenge.rw_no0154_01.row.prog w) (ktrTop dp un gd cn cs L a ccd cl outer) (call (.ref 175) [.ref X.S, .ref X.PRD]) Q E ⟨hp, gn, dr, tk0, os⟩ := by
  obtain ⟨so, hSD, hso⟩ := id st.sd
  obtain ⟨rdo, hRD, hrd⟩ := id st.rd
  obtain ⟨pro, hP, hPd⟩ := id st.prd
  exact check_spec B F T hk (by omega) hun N st.store hSD hso hRD hrd st.mods.1 (fun r hr => ⟨(st.hrs r hr).1, (st.hrs r hr).2.1⟩) hP hPd st.mods.2.2 (fun σ hσ => ⟨(st.side σ hσ).1, (st.side σ hσ).2.1⟩) st.len ret

theorem check_true {w : World} {p : Program} {loose : List Str} {mean : ExcName → Option Value} {mg mb : Str → Option Value}
  {dp un : Nat} {gd : Option (List Code)} {cn : Str} {cs : Scope} {a : Addr} {ccd : Value} {cl : List (Str × Addr)} {outer : List Env} {A₀ : Around} {base h₀ : Heap} {L : Addr} {m : Str → Option Value} {hp : Heap} {gn : Array GenState} {dr : Drawn} {tk0 : Nat} {os : OsState} {Q E : Value → Shared → Prop}
  {ρ : Nat → Role} {X : Fx} {own : List (Addr × Obj)} {len : Nat} {recs : List Rec} {σs : List Side} {gen nxt : Int} {news : List (Addr × Obj)}
  (B : Below A₀ base outer h₀) (F : Fr h₀ L hp m) (T : Top p loose mean mg mb h₀) (hk : cs.kind = .function)
  (hdp : dp + 60 < recursionLimit) (hun : un + 400 < cLine)
  (N : News h₀ L hp news) (st : St w ρ X own len recs σs gen nxt news) (bd : Bd recs σs gen nxt)
  (ret : ∀ h' tk', Fr h₀ L h' m → News h₀ L h' news → Q (.bool true) ⟨h', gn, dr, tk', os⟩) :
  (hd.heap_39 w.params).In h₀ → wpAny (model Challenge.rw_no0154_01.row.prog w) (ktrTop dp un gd cn cs L a ccd cl outer) (call (.ref 175) [.ref X.S, .ref X.PRD]) Q E ⟨hp, gn, dr, tk0, os⟩ :=
  check_use B F T hk hdp hun N st (bd.check.symm ▸ ret)

theorem lsound_use {tg : Tok} {w : World} {p : Program} {loose : List Str} {mean : ExcName → Option Value} {mg mb : Str → Option Value}
  {dp un : Nat} {gd : Option (List Code)} {cn : Str} {cs : Scope} {a : Addr} {ccd : Value} {cl : List (Str × Addr)} {outer : List Env} {A₀ : Around} {base h₀ : Heap} {L : Addr} {m : Str → Option Value} {hp : Heap} {gn : Array GenState} {dr : Drawn} {tk0 : Nat} {os : OsState} {Q E : Value → Shared → Prop}
  {ρ : Nat → Role} {X : Fx} {own : List (Addr × Obj)} {len : Nat} {recs : List Rec} {σs : List Side} {gen nxt : Int} {news : List (Addr × Obj)}
  (B : Below A₀ base outer h₀) (F : Fr h₀ L hp m) (T : Top p loose mean mg mb h₀) (hk : cs.kind = .function)
  (hdp : dp + 60 < recursionLimit) (hun : un + 400 < cLine)
  (N : News h₀ L hp news) (st : St w ρ X own len recs σs gen nxt news)
  (ret : ∀ h' tk', Fr h₀ L h' m → News h₀ L h' news → Q (.bool (checkB recs gen σs)) ⟨h', gn, dr, tk', os⟩) :
  (hd.heap_39 w.params).In h₀ → wpAny (model Challenge.rw_no0154_01.row.prog w) (ktrTop dp un gd cn cs L a ccd cl outer) (call (.ref 189) [.ref X.RW, .ref X.OWS, .int gen tg]) Q E ⟨hp, gn, dr, tk0, os⟩ := by
  obtain ⟨rwo, hRW, hrw⟩ := id st.rwd
  obtain ⟨on, hO⟩ := id st.ows
  exact lsound_spec B F T hk (by omega) hun N hRW hrw st.mods.2.1 (fun r hr => (st.hrs r hr).2.2) hO (fun σ hσ => (st.side σ hσ).2.2) st.len st.gen.2 st.gen.1 ret

theorem spoil_lit {w : World} {p : Program} {loose : List Str} {mean : ExcName → Option Value} {mg mb : Str → Option Value}
  {dp un : Nat} {gd : Option (List Code)} {cn : Str} {cs : Scope} {a : Addr} {ccd : Value} {cl : List (Str × Addr)} {outer : List Env} {A₀ : Around} {base h₀ : Heap} {L : Addr} {m : Str → Option Value} {hp : Heap} {gn : Array GenState} {dr : Drawn} {tk0 : Nat} {os : OsState} {Q E : Value → Shared → Prop}
  {ρ : Nat → Role} {X : Fx} {own : List (Addr × Obj)} {len : Nat} {recs : List Rec} {σs : List Side} {gen nxt : Int} {news : List (Addr × Obj)}
  (B : Below A₀ base outer h₀) (F : Fr h₀ L hp m) (T : Top p loose mean mg mb h₀) (hk : cs.kind = .function)
  (hdp : dp + 60 < recursionLimit) (hun : un + 400 < cLine)
  (N : News h₀ L hp news) (st : St w ρ X own len recs σs gen nxt news) (hrl : recs.length < 64)
  (ret : ∀ recs' σs' news' h' tk', Fr h₀ L h' m → News h₀ L h' news' → St w ρ X own len recs' σs' gen nxt news' → recs'.length ≤ recs.length → Q .none ⟨h', gn, dr, tk', os⟩) :
  (hd.heap_39 w.params).In h₀ → wpAny (model Challenge.rw_no0154_01.row.prog w) (ktrTop dp un gd cn cs L a ccd cl outer) (call (.ref 196) [.ref X.H, .ref X.S, .ref X.PRD, .ref X.RW, .ref X.OWS]) Q E ⟨hp, gn, dr, tk0, os⟩ :=
  spoil_spec B F T hk hdp hun N st hrl ret
end Mine

/-! LawAll -/
namespace Mine
set_option maxRecDepth 100000
set_option maxHeartbeats 8000000
theorem law_all : PySem.Challenge.rw_no0154_01.Holds := by
  exact Mine.hd (by
    k_go0
    w_top off
    k_with_none
    k_with "k_all" => first | with_reducible assumption | exact List.forall_mem_nil _ | ((with_reducible refine dropL_ne ?_); k_memK) | with_reducible exact all_ne_of_allLt (by assumption) | with_reducible exact all_ne_of_lt (by assumption) | exact List.forall_mem_cons.mpr ⟨by first | with_reducible assumption | exact Ne.symm (by with_reducible assumption) | exact Nat.ne_of_lt (by with_reducible assumption) | exact Nat.ne_of_gt (by with_reducible assumption) | exact Nat.ne_of_lt (And.left (by with_reducible assumption)) | exact Nat.ne_of_gt (And.left (by with_reducible assumption)) | exact Nat.ne_of_lt (And.left (And.right (by with_reducible assumption))) | exact Nat.ne_of_gt (And.left (And.right (by with_reducible assumption))) | exact Nat.ne_of_lt (And.left (And.right (And.right (by with_reducible assumption)))) | exact Nat.ne_of_gt (And.left (And.right (And.right (by with_reducible assumption)))) | exact Nat.ne_of_lt (And.left (And.right (And.right (And.right (by with_reducible assumption))))) | exact Nat.ne_of_gt (And.left (And.right (And.right (And.right (by with_reducible assumption))))) | exact Nat.ne_of_lt (And.left (And.right (And.right (And.right (And.right (by with_reducible assumption)))))) | exact Nat.ne_of_gt (And.left (And.right (And.right (And.right (And.right (by with_reducible assumption)))))) | exact Nat.ne_of_lt (And.left (And.right (And.right (And.right (And.right (And.right (by with_reducible assumption))))))) | exact Nat.ne_of_gt (And.left (And.right (And.right (And.right (And.right (And.right (by with_reducible assumption))))))) | exact Nat.ne_of_lt (And.left (And.right (And.right (And.right (And.right (And.right (And.right (by with_reducible assumption)))))))) | exact Nat.ne_of_gt (And.left (And.right (And.right (And.right (And.right (And.right (And.right (by with_reducible assumption)))))))) | k_ne, by k_all⟩
    k_with "k_updF" => first | exact UpdF.head (by k_all) | exact UpdF.tail (by first | with_reducible assumption | exact Ne.symm (by with_reducible assumption) | exact Nat.ne_of_lt (by with_reducible assumption) | exact Nat.ne_of_gt (by with_reducible assumption) | exact Nat.ne_of_lt (And.left (by with_reducible assumption)) | exact Nat.ne_of_gt (And.left (by with_reducible assumption)) | exact Nat.ne_of_lt (And.left (And.right (by with_reducible assumption))) | exact Nat.ne_of_gt (And.left (And.right (by with_reducible assumption))) | exact Nat.ne_of_lt (And.left (And.right (And.right (by with_reducible assumption)))) | exact Nat.ne_of_gt (And.left (And.right (And.right (by with_reducible assumption)))) | exact Nat.ne_of_lt (And.left (And.right (And.right (And.right (by with_reducible assumption))))) | exact Nat.ne_of_gt (And.left (And.right (And.right (And.right (by with_reducible assumption))))) | exact Nat.ne_of_lt (And.left (And.right (And.right (And.right (And.right (by with_reducible assumption)))))) | exact Nat.ne_of_gt (And.left (And.right (And.right (And.right (And.right (by with_reducible assumption)))))) | exact Nat.ne_of_lt (And.left (And.right (And.right (And.right (And.right (And.right (by with_reducible assumption))))))) | exact Nat.ne_of_gt (And.left (And.right (And.right (And.right (And.right (And.right (by with_reducible assumption))))))) | exact Nat.ne_of_lt (And.left (And.right (And.right (And.right (And.right (And.right (And.right (by with_reducible assumption)))))))) | exact Nat.ne_of_gt (And.left (And.right (And.right (And.right (And.right (And.right (And.right (by with_reducible assumption)))))))) | k_ne) (by k_updF)
    k_with "k_upd" => first | exact Upd.head (by k_all) | exact Upd.tail (by first | with_reducible assumption | exact Ne.symm (by with_reducible assumption) | exact Nat.ne_of_lt (by with_reducible assumption) | exact Nat.ne_of_gt (by with_reducible assumption) | exact Nat.ne_of_lt (And.left (by with_reducible assumption)) | exact Nat.ne_of_gt (And.left (by with_reducible assumption)) | exact Nat.ne_of_lt (And.left (And.right (by with_reducible assumption))) | exact Nat.ne_of_gt (And.left (And.right (by with_reducible assumption))) | exact Nat.ne_of_lt (And.left (And.right (And.right (by with_reducible assumption)))) | exact Nat.ne_of_gt (And.left (And.right (And.right (by with_reducible assumption)))) | exact Nat.ne_of_lt (And.left (And.right (And.right (And.right (by with_reducible assumption))))) | exact Nat.ne_of_gt (And.left (And.right (And.right (And.right (by with_reducible assumption))))) | exact Nat.ne_of_lt (And.left (And.right (And.right (And.right (And.right (by with_reducible assumption)))))) | exact Nat.ne_of_gt (And.left (And.right (And.right (And.right (And.right (by with_reducible assumption)))))) | exact Nat.ne_of_lt (And.left (And.right (And.right (And.right (And.right (And.right (by with_reducible assumption))))))) | exact Nat.ne_of_gt (And.left (And.right (And.right (And.right (And.right (And.right (by with_reducible assumption))))))) | exact Nat.ne_of_lt (And.left (And.right (And.right (And.right (And.right (And.right (And.right (by with_reducible assumption)))))))) | exact Nat.ne_of_gt (And.left (And.right (And.right (And.right (And.right (And.right (And.right (by with_reducible assumption)))))))) | k_ne) (by k_upd)
    k_with "getAttr ref" => k_dflt (refine get_opq (by k_asm) (by k_asm) (by k_asm) (by k_mem) (by k_mem) (by with_reducible assumption) (by k_is) (by k_is) (by k_is) (by k_is) (by k_get) (by k_handed) ?_)
    k_with "getMethod ref" => k_dflt (refine meth_opq (by k_asm) (by k_asm) (by k_asm) (by k_mem) (by k_mem) (by with_reducible assumption) (by k_is) (by k_is) (by k_is) (by k_get) ?_)
    k_with "setAttr ref" => k_dflt (refine set_opq (by k_asm) (by k_asm) (by k_asm) (by k_mem) (by k_updF) (by with_reducible assumption) (by k_is) (by k_is) (by k_is) (by k_is) (by k_get) (by k_put) (by exact Nat.le_of_ble_eq_true rfl) ?_; k_whole; intro h' o' he' F' N'; (try dsimp only at N'); (try k_sweep))
    k_with "subscriptTail" => ((with_reducible show wpAny _ _ (subscriptTail _ _ (Value.ref _) (Value.int _ _)) _ _ _); k_dflt (refine item_lst (by k_asm) (by first | with_reducible assumption | k_memK) (by assumption) (by omega) (by with_reducible assumption) ?_))
    k_with "compareOp Eq ref ref" => (k_dflt (refine dict_eq0 (by k_asm) (by first | with_reducible assumption | exact List.mem_cons_of_mem _ (by with_reducible assumption) | exact List.mem_cons_of_mem _ (List.mem_cons_of_mem _ (by with_reducible assumption)) | k_memK) (by with_reducible assumption) (by with_reducible assumption) (by first | with_reducible assumption | exact List.mem_cons_of_mem _ (by with_reducible assumption) | exact List.mem_cons_of_mem _ (List.mem_cons_of_mem _ (by with_reducible assumption)) | k_memK) (by with_reducible assumption) (by with_reducible assumption) (by ktr_units) ?_); try rw [List.length_map])
    k_with "compareOp NotEq ref ref" => (k_dflt (refine dict_ne0 (by k_asm) (by first | with_reducible assumption | exact List.mem_cons_of_mem _ (by with_reducible assumption) | exact List.mem_cons_of_mem _ (List.mem_cons_of_mem _ (by with_reducible assumption)) | k_memK) (by with_reducible assumption) (by with_reducible assumption) (by first | with_reducible assumption | exact List.mem_cons_of_mem _ (by with_reducible assumption) | exact List.mem_cons_of_mem _ (List.mem_cons_of_mem _ (by with_reducible assumption)) | k_memK) (by with_reducible assumption) (by with_reducible assumption) (by ktr_units) ?_); try rw [List.length_map])
    k_with "call ref" => ((with_reducible show wpAny _ _ (call (Value.ref 66) _) _ _ _); k_dflt (refine procctor_spec (by k_asm) (by k_asm) (by k_asm) (by exact rfl) (by ktr_room) (by k_asm) (fun x' dx' po' h' tk' F' N' hpo' l1 l2 => ?_) (by k_asm); (try k_lt l1); (try k_lt2 l2); (try k_sweep)))
    k_with "exec Assign" => ((fail_if_success (have hcut : CutDone := by assumption)); rename AllNe _ _ => hz; refine stop_here ?_)
    try k_fold
    k_steps
    k_with_none
    k_with "k_all" => first | with_reducible assumption | exact List.forall_mem_nil _ | ((with_reducible refine dropL_ne ?_); k_memK) | with_reducible exact all_ne_of_allLt (by assumption) | with_reducible exact all_ne_of_lt (by assumption) | exact List.forall_mem_cons.mpr ⟨by first | with_reducible assumption | exact Ne.symm (by with_reducible assumption) | exact Nat.ne_of_lt (by with_reducible assumption) | exact Nat.ne_of_gt (by with_reducible assumption) | exact Nat.ne_of_lt (And.left (by with_reducible assumption)) | exact Nat.ne_of_gt (And.left (by with_reducible assumption)) | exact Nat.ne_of_lt (And.left (And.right (by with_reducible assumption))) | exact Nat.ne_of_gt (And.left (And.right (by with_reducible assumption))) | exact Nat.ne_of_lt (And.left (And.right (And.right (by with_reducible assumption)))) | exact Nat.ne_of_gt (And.left (And.right (And.right (by with_reducible assumption)))) | exact Nat.ne_of_lt (And.left (And.right (And.right (And.right (by with_reducible assumption))))) | exact Nat.ne_of_gt (And.left (And.right (And.right (And.right (by with_reducible assumption))))) | exact Nat.ne_of_lt (And.left (And.right (And.right (And.right (And.right (by with_reducible assumption)))))) | exact Nat.ne_of_gt (And.left (And.right (And.right (And.right (And.right (by with_reducible assumption)))))) | exact Nat.ne_of_lt (And.left (And.right (And.right (And.right (And.right (And.right (by with_reducible assumption))))))) | exact Nat.ne_of_gt (And.left (And.right (And.right (And.right (And.right (And.right (by with_reducible assumption))))))) | exact Nat.ne_of_lt (And.left (And.right (And.right (And.right (And.right (And.right (And.right (by with_reducible assumption)))))))) | exact Nat.ne_of_gt (And.left (And.right (And.right (And.right (And.right (And.right (And.right (by with_reducible assumption)))))))) | k_ne, by k_all⟩
    k_with "k_updF" => first | exact UpdF.head (by k_all) | exact UpdF.tail (by first | with_reducible assumption | exact Ne.symm (by with_reducible assumption) | exact Nat.ne_of_lt (by with_reducible assumption) | exact Nat.ne_of_gt (by with_reducible assumption) | exact Nat.ne_of_lt (And.left (by with_reducible assumption)) | exact Nat.ne_of_gt (And.left (by with_reducible assumption)) | exact Nat.ne_of_lt (And.left (And.right (by with_reducible assumption))) | exact Nat.ne_of_gt (And.left (And.right (by with_reducible assumption))) | exact Nat.ne_of_lt (And.left (And.right (And.right (by with_reducible assumption)))) | exact Nat.ne_of_gt (And.left (And.right (And.right (by with_reducible assumption)))) | exact Nat.ne_of_lt (And.left (And.right (And.right (And.right (by with_reducible assumption))))) | exact Nat.ne_of_gt (And.left (And.right (And.right (And.right (by with_reducible assumption))))) | exact Nat.ne_of_lt (And.left (And.right (And.right (And.right (And.right (by with_reducible assumption)))))) | exact Nat.ne_of_gt (And.left (And.right (And.right (And.right (And.right (by with_reducible assumption)))))) | exact Nat.ne_of_lt (And.left (And.right (And.right (And.right (And.right (And.right (by with_reducible assumption))))))) | exact Nat.ne_of_gt (And.left (And.right (And.right (And.right (And.right (And.right (by with_reducible assumption))))))) | exact Nat.ne_of_lt (And.left (And.right (And.right (And.right (And.right (And.right (And.right (by with_reducible assumption)))))))) | exact Nat.ne_of_gt (And.left (And.right (And.right (And.right (And.right (And.right (And.right (by with_reducible assumption)))))))) | k_ne) (by k_updF)
    k_with "k_upd" => first | exact Upd.head (by k_all) | exact Upd.tail (by first | with_reducible assumption | exact Ne.symm (by with_reducible assumption) | exact Nat.ne_of_lt (by with_reducible assumption) | exact Nat.ne_of_gt (by with_reducible assumption) | exact Nat.ne_of_lt (And.left (by with_reducible assumption)) | exact Nat.ne_of_gt (And.left (by with_reducible assumption)) | exact Nat.ne_of_lt (And.left (And.right (by with_reducible assumption))) | exact Nat.ne_of_gt (And.left (And.right (by with_reducible assumption))) | exact Nat.ne_of_lt (And.left (And.right (And.right (by with_reducible assumption)))) | exact Nat.ne_of_gt (And.left (And.right (And.right (by with_reducible assumption)))) | exact Nat.ne_of_lt (And.left (And.right (And.right (And.right (by with_reducible assumption))))) | exact Nat.ne_of_gt (And.left (And.right (And.right (And.right (by with_reducible assumption))))) | exact Nat.ne_of_lt (And.left (And.right (And.right (And.right (And.right (by with_reducible assumption)))))) | exact Nat.ne_of_gt (And.left (And.right (And.right (And.right (And.right (by with_reducible assumption)))))) | exact Nat.ne_of_lt (And.left (And.right (And.right (And.right (And.right (And.right (by with_reducible assumption))))))) | exact Nat.ne_of_gt (And.left (And.right (And.right (And.right (And.right (And.right (by with_reducible assumption))))))) | exact Nat.ne_of_lt (And.left (And.right (And.right (And.right (And.right (And.right (And.right (by with_reducible assumption)))))))) | exact Nat.ne_of_gt (And.left (And.right (And.right (And.right (And.right (And.right (And.right (by with_reducible assumption)))))))) | k_ne) (by k_upd)
    k_with "getAttr ref" => k_dflt (refine get_opq (by k_asm) (by k_asm) (by k_asm) (by k_mem) (by k_mem) (by with_reducible assumption) (by k_is) (by k_is) (by k_is) (by k_is) (by k_get) (by k_handed) ?_)
    k_with "getMethod ref" => k_dflt (refine meth_opq (by k_asm) (by k_asm) (by k_asm) (by k_mem) (by k_mem) (by with_reducible assumption) (by k_is) (by k_is) (by k_is) (by k_get) ?_)
    k_with "setAttr ref" => k_dflt (refine set_opq (by k_asm) (by k_asm) (by k_asm) (by k_mem) (by k_updF) (by with_reducible assumption) (by k_is) (by k_is) (by k_is) (by k_is) (by k_get) (by k_put) (by exact Nat.le_of_ble_eq_true rfl) ?_; k_whole; intro h' o' he' F' N'; (try dsimp only at N'); (try k_sweep))
    k_with "subscriptTail" => ((with_reducible show wpAny _ _ (subscriptTail _ _ (Value.ref _) (Value.int _ _)) _ _ _); k_dflt (refine item_lst (by k_asm) (by first | with_reducible assumption | k_memK) (by assumption) (by omega) (by with_reducible assumption) ?_))
    k_with "call ref" => ((with_reducible show wpAny _ _ (call (Value.ref 182) _) _ _ _); k_dflt (refine pick_lit (by k_asm) (by k_asm) (by k_asm) (by exact rfl) (by ktr_room) (by ktr_units) (by k_asm) (by first | with_reducible assumption | exact List.mem_cons_of_mem _ (by with_reducible assumption) | exact List.mem_cons_of_mem _ (List.mem_cons_of_mem _ (by with_reducible assumption)) | k_memK) (by with_reducible assumption) (by first | with_reducible assumption | exact List.mem_cons_of_mem _ (by with_reducible assumption) | exact List.mem_cons_of_mem _ (List.mem_cons_of_mem _ (by with_reducible assumption)) | k_memK) (by with_reducible assumption) (by with_reducible assumption) (by first | decide | omega) (by first | decide | omega) (fun d t ho' news' h' tk' d1 d2 F' N' hH' hho' hkeep => ?_) (by k_asm)); (try dsimp only at F' N' ⊢); refine stop_here ?_)
    k_with "compareOp Eq ref ref" => (k_dflt (refine dict_eq0 (by k_asm) (by first | with_reducible assumption | exact List.mem_cons_of_mem _ (by with_reducible assumption) | exact List.mem_cons_of_mem _ (List.mem_cons_of_mem _ (by with_reducible assumption)) | k_memK) (by with_reducible assumption) (by with_reducible assumption) (by first | with_reducible assumption | exact List.mem_cons_of_mem _ (by with_reducible assumption) | exact List.mem_cons_of_mem _ (List.mem_cons_of_mem _ (by with_reducible assumption)) | k_memK) (by with_reducible assumption) (by with_reducible assumption) (by ktr_units) ?_); try rw [List.length_map])
    k_with "compareOp NotEq ref ref" => (k_dflt (refine dict_ne0 (by k_asm) (by first | with_reducible assumption | exact List.mem_cons_of_mem _ (by with_reducible assumption) | exact List.mem_cons_of_mem _ (List.mem_cons_of_mem _ (by with_reducible assumption)) | k_memK) (by with_reducible assumption) (by with_reducible assumption) (by first | with_reducible assumption | exact List.mem_cons_of_mem _ (by with_reducible assumption) | exact List.mem_cons_of_mem _ (List.mem_cons_of_mem _ (by with_reducible assumption)) | k_memK) (by with_reducible assumption) (by with_reducible assumption) (by ktr_units) ?_); try rw [List.length_map])
    k_with "call ref" => ((with_reducible show wpAny _ _ (call (Value.ref 66) _) _ _ _); k_dflt (refine procctor_spec (by k_asm) (by k_asm) (by k_asm) (by exact rfl) (by ktr_room) (by k_asm) (fun x' dx' po' h' tk' F' N' hpo' l1 l2 => ?_) (by k_asm); (try k_lt l1); (try k_lt2 l2); (try k_sweep)))
    k_with "exec For Name Call cons nil" => refine stop_here ?_
    refine ⟨?_⟩
    rename Obj.IsDictOf _ _ (intKeyPairs _) => hPR
    rename AllNe _ _ => hne
    rename Fr _ _ _ _ => F0
    have h63' : (List.take 63 ‹List Int›).length = min 63 (‹List Int› : List Int).length := by assumption
    refine' st0_use (len := (List.take 63 ‹List Int›).length) (by with_reducible assumption) ?zh1 ?zh2 ?zh3 ?zh4 ?zh5 ?zh6 ?zh7 ?zh8 ?zh9 ?zh10 ?zh11 ?zh12 ?zh13 ?zc1 ?zc2 ?zc3 ?zc4 ?zc5 ?zc6 ?zc7 ?zc8 ?zc9 ?zc10 ?zc11 ?zc12 ?zc13 ?zc14 ?zm1 ?zm2 ?zm3 F0 (by rfl) (by rfl) (by rfl) (by rfl) (by rfl) ?zk
    case zc3 => k_memK
    case zc4 => exact ⟨_, by k_memK, storeObj rfl⟩
    case zc5 => exact ⟨_, by k_memK, by with_reducible assumption⟩
    case zc7 => exact ⟨_, by k_memK⟩
    case zc8 => exact ⟨_, by k_memK, hPR⟩
    case zc9 => k_memK
    case zc12 => k_memK
    case zc10 => exact ⟨_, by k_memK, by apply_assumption⟩
    case zc13 => exact ⟨_, by k_memK, by apply_assumption⟩
    case zc11 => exact ⟨_, by k_memK, ownObj rfl⟩
    case zc14 => exact ⟨_, by k_memK, ownObj rfl⟩
    case zc6 => exact ⟨_, by k_memK, by with_reducible assumption⟩
    case zc1 => exact ⟨listOf #[.ref _, .int _ _, .int _ _, .int _ _] _, by k_memK, ⟨_, _, _, _, _, _, _, rfl, by decide, Int.natCast_nonneg _, by decide, by have := fmod_lo (List.take 63 ‹List Int›).sum (n := 100003) (by decide); omega⟩⟩
    case zc2 => exact ⟨listOf (List.toArray _) _, by k_memK, ⟨_, _, _, rfl, by with_reducible assumption, rfl, by omega⟩⟩
    case zh13 => refine ⟨?_, ?_, ?_, ?_, ?_, ?_, ?_, ?_, ?_, ?_, ?_, ?_, ?_⟩ <;> exact hne (_, _) (by k_memK)
    case zm2 => with_reducible assumption
    case zm1 => with_reducible assumption
    case zm3 => with_reducible assumption
    any_goals first | with_reducible assumption | exact And.left (by with_reducible assumption)
    clear F0 hPR h63' hne
    repeat (with_reducible rename _ ∧ _ => hz; clear hz)
    repeat (with_reducible rename (_ : Nat) < (_ : Nat) => hz; clear hz)
    repeat (with_reducible rename News _ _ _ (_ :: _) => hz; clear hz)
    intro ρ X σs news m0 F0 N st bd
    obtain ⟨ho, hH, hho⟩ := id st.hand
    obtain ⟨co, hC, hco⟩ := id st.cells
    have hCH : @Ne Addr _ _ := ne_role st.fx.2.1 st.fx.1 (by simp)
    k_steps
    refine ⟨?_⟩
    try k_fold
    replace st := st.pick (fun p hp h => hkeep p (by first | exact hp | exact .tail _ hp | exact .tail _ (.tail _ hp)) h) ⟨_, hH', hho'⟩
    clear hH hho hC hco hCH hkeep hH' hho'
    rename Int => v1
    rename 0 ≤ v1 => v1l
    rename v1 < _ => v1h
    obtain ⟨ho, hH, hho⟩ := id st.hand
    obtain ⟨co, hC, hco⟩ := id st.cells
    have hCH : @Ne Addr _ _ := ne_role st.fx.2.1 st.fx.1 (by simp)
    k_steps
    k_with_none
    k_with "k_all" => first | with_reducible assumption | exact List.forall_mem_nil _ | ((with_reducible refine dropL_ne ?_); k_memK) | with_reducible exact all_ne_of_allLt (by assumption) | with_reducible exact all_ne_of_lt (by assumption) | exact List.forall_mem_cons.mpr ⟨by first | with_reducible assumption | exact Ne.symm (by with_reducible assumption) | exact Nat.ne_of_lt (by with_reducible assumption) | exact Nat.ne_of_gt (by with_reducible assumption) | exact Nat.ne_of_lt (And.left (by with_reducible assumption)) | exact Nat.ne_of_gt (And.left (by with_reducible assumption)) | exact Nat.ne_of_lt (And.left (And.right (by with_reducible assumption))) | exact Nat.ne_of_gt (And.left (And.right (by with_reducible assumption))) | exact Nat.ne_of_lt (And.left (And.right (And.right (by with_reducible assumption)))) | exact Nat.ne_of_gt (And.left (And.right (And.right (by with_reducible assumption)))) | exact Nat.ne_of_lt (And.left (And.right (And.right (And.right (by with_reducible assumption))))) | exact Nat.ne_of_gt (And.left (And.right (And.right (And.right (by with_reducible assumption))))) | exact Nat.ne_of_lt (And.left (And.right (And.right (And.right (And.right (by with_reducible assumption)))))) | exact Nat.ne_of_gt (And.left (And.right (And.right (And.right (And.right (by with_reducible assumption)))))) | exact Nat.ne_of_lt (And.left (And.right (And.right (And.right (And.right (And.right (by with_reducible assumption))))))) | exact Nat.ne_of_gt (And.left (And.right (And.right (And.right (And.right (And.right (by with_reducible assumption))))))) | exact Nat.ne_of_lt (And.left (And.right (And.right (And.right (And.right (And.right (And.right (by with_reducible assumption)))))))) | exact Nat.ne_of_gt (And.left (And.right (And.right (And.right (And.right (And.right (And.right (by with_reducible assumption)))))))) | k_ne, by k_all⟩
    k_with "k_updF" => first | exact UpdF.head (by k_all) | exact UpdF.tail (by first | with_reducible assumption | exact Ne.symm (by with_reducible assumption) | exact Nat.ne_of_lt (by with_reducible assumption) | exact Nat.ne_of_gt (by with_reducible assumption) | exact Nat.ne_of_lt (And.left (by with_reducible assumption)) | exact Nat.ne_of_gt (And.left (by with_reducible assumption)) | exact Nat.ne_of_lt (And.left (And.right (by with_reducible assumption))) | exact Nat.ne_of_gt (And.left (And.right (by with_reducible assumption))) | exact Nat.ne_of_lt (And.left (And.right (And.right (by with_reducible assumption)))) | exact Nat.ne_of_gt (And.left (And.right (And.right (by with_reducible assumption)))) | exact Nat.ne_of_lt (And.left (And.right (And.right (And.right (by with_reducible assumption))))) | exact Nat.ne_of_gt (And.left (And.right (And.right (And.right (by with_reducible assumption))))) | exact Nat.ne_of_lt (And.left (And.right (And.right (And.right (And.right (by with_reducible assumption)))))) | exact Nat.ne_of_gt (And.left (And.right (And.right (And.right (And.right (by with_reducible assumption)))))) | exact Nat.ne_of_lt (And.left (And.right (And.right (And.right (And.right (And.right (by with_reducible assumption))))))) | exact Nat.ne_of_gt (And.left (And.right (And.right (And.right (And.right (And.right (by with_reducible assumption))))))) | exact Nat.ne_of_lt (And.left (And.right (And.right (And.right (And.right (And.right (And.right (by with_reducible assumption)))))))) | exact Nat.ne_of_gt (And.left (And.right (And.right (And.right (And.right (And.right (And.right (by with_reducible assumption)))))))) | k_ne) (by k_updF)
    k_with "k_upd" => first | exact Upd.head (by k_all) | exact Upd.tail (by first | with_reducible assumption | exact Ne.symm (by with_reducible assumption) | exact Nat.ne_of_lt (by with_reducible assumption) | exact Nat.ne_of_gt (by with_reducible assumption) | exact Nat.ne_of_lt (And.left (by with_reducible assumption)) | exact Nat.ne_of_gt (And.left (by with_reducible assumption)) | exact Nat.ne_of_lt (And.left (And.right (by with_reducible assumption))) | exact Nat.ne_of_gt (And.left (And.right (by with_reducible assumption))) | exact Nat.ne_of_lt (And.left (And.right (And.right (by with_reducible assumption)))) | exact Nat.ne_of_gt (And.left (And.right (And.right (by with_reducible assumption)))) | exact Nat.ne_of_lt (And.left (And.right (And.right (And.right (by with_reducible assumption))))) | exact Nat.ne_of_gt (And.left (And.right (And.right (And.right (by with_reducible assumption))))) | exact Nat.ne_of_lt (And.left (And.right (And.right (And.right (And.right (by with_reducible assumption)))))) | exact Nat.ne_of_gt (And.left (And.right (And.right (And.right (And.right (by with_reducible assumption)))))) | exact Nat.ne_of_lt (And.left (And.right (And.right (And.right (And.right (And.right (by with_reducible assumption))))))) | exact Nat.ne_of_gt (And.left (And.right (And.right (And.right (And.right (And.right (by with_reducible assumption))))))) | exact Nat.ne_of_lt (And.left (And.right (And.right (And.right (And.right (And.right (And.right (by with_reducible assumption)))))))) | exact Nat.ne_of_gt (And.left (And.right (And.right (And.right (And.right (And.right (And.right (by with_reducible assumption)))))))) | k_ne) (by k_upd)
    k_with "getAttr ref" => k_dflt (refine get_opq (by k_asm) (by k_asm) (by k_asm) (by k_mem) (by k_mem) (by with_reducible assumption) (by k_is) (by k_is) (by k_is) (by k_is) (by k_get) (by k_handed) ?_)
    k_with "getMethod ref" => k_dflt (refine meth_opq (by k_asm) (by k_asm) (by k_asm) (by k_mem) (by k_mem) (by with_reducible assumption) (by k_is) (by k_is) (by k_is) (by k_get) ?_)
    k_with "setAttr ref" => k_dflt (refine set_opq (by k_asm) (by k_asm) (by k_asm) (by k_mem) (by k_updF) (by with_reducible assumption) (by k_is) (by k_is) (by k_is) (by k_is) (by k_get) (by k_put) (by exact Nat.le_of_ble_eq_true rfl) ?_; k_whole; intro h' o' he' F' N'; (try dsimp only at N'); (try k_sweep))
    k_with "subscriptTail" => ((with_reducible show wpAny _ _ (subscriptTail _ _ (Value.ref _) (Value.int _ _)) _ _ _); k_dflt (refine item_lst (by k_asm) (by first | with_reducible assumption | k_memK) (by assumption) (by omega) (by with_reducible assumption) ?_))
    k_with "call ref" => ((with_reducible show wpAny _ _ (call (Value.ref 182) _) _ _ _); k_dflt (refine pick_lit (by k_asm) (by k_asm) (by k_asm) (by exact rfl) (by ktr_room) (by ktr_units) (by k_asm) (by first | with_reducible assumption | exact List.mem_cons_of_mem _ (by with_reducible assumption) | exact List.mem_cons_of_mem _ (List.mem_cons_of_mem _ (by with_reducible assumption)) | k_memK) (by with_reducible assumption) (by first | with_reducible assumption | exact List.mem_cons_of_mem _ (by with_reducible assumption) | exact List.mem_cons_of_mem _ (List.mem_cons_of_mem _ (by with_reducible assumption)) | k_memK) (by with_reducible assumption) (by with_reducible assumption) (by first | decide | omega) (by first | decide | omega) (fun d t ho' news' h' tk' d1 d2 F' N' hH' hho' hkeep => ?_) (by k_asm)); (try dsimp only at F' N' ⊢); refine stop_here ?_)
    k_with "compareOp Eq ref ref" => (k_dflt (refine dict_eq0 (by k_asm) (by first | with_reducible assumption | exact List.mem_cons_of_mem _ (by with_reducible assumption) | exact List.mem_cons_of_mem _ (List.mem_cons_of_mem _ (by with_reducible assumption)) | k_memK) (by with_reducible assumption) (by with_reducible assumption) (by first | with_reducible assumption | exact List.mem_cons_of_mem _ (by with_reducible assumption) | exact List.mem_cons_of_mem _ (List.mem_cons_of_mem _ (by with_reducible assumption)) | k_memK) (by with_reducible assumption) (by with_reducible assumption) (by ktr_units) ?_); try rw [List.length_map])
    k_with "compareOp NotEq ref ref" => (k_dflt (refine dict_ne0 (by k_asm) (by first | with_reducible assumption | exact List.mem_cons_of_mem _ (by with_reducible assumption) | exact List.mem_cons_of_mem _ (List.mem_cons_of_mem _ (by with_reducible assumption)) | k_memK) (by with_reducible assumption) (by with_reducible assumption) (by first | with_reducible assumption | exact List.mem_cons_of_mem _ (by with_reducible assumption) | exact List.mem_cons_of_mem _ (List.mem_cons_of_mem _ (by with_reducible assumption)) | k_memK) (by with_reducible assumption) (by with_reducible assumption) (by ktr_units) ?_); try rw [List.length_map])
    k_with "pyIter ref" => refine stop_here ?_
    refine ⟨?_⟩
    rename Fr _ _ _ _ => F0
    rename News _ _ _ _ => N0
    with_unfolding_all refine For_invVF F0 (by exact rfl) (by exact rfl) ?_
    try k_fold
    k_steps
    refine ⟨?_⟩
    try k_fold
    replace st := st.pick (fun p hp h => hkeep p (by first | exact hp | exact .tail _ hp | exact .tail _ (.tail _ hp)) h) ⟨_, hH', hho'⟩
    clear hH hho hC hco hCH hkeep hH' hho'
    rename Int => v2
    rename 0 ≤ v2 => v2l
    rename v2 < _ => v2h
    obtain ⟨ho, hH, hho⟩ := id st.hand
    obtain ⟨co, hC, hco⟩ := id st.cells
    have hCH : @Ne Addr _ _ := ne_role st.fx.2.1 st.fx.1 (by simp)
    k_steps
    refine ⟨?_⟩
    rename IsRange _ _ _ _ _ _ _ _ => hr
    rename Fr _ _ _ _ => F1
    rename News _ _ _ _ => N1
    refine bj_iter st bd (by rfl) hr (by omega) (by omega) F1 N1 (by rfl) (by rfl) (by rfl) (by rfl) (by rfl) (by rfl) (by rfl) ?_ ?_
    · clear hr F1 N1 st bd
      intro i tv m₁ nx h tk own ρ recs σs gen nxt tn hi hoff st bd hrl hgl c1 c2 c3 c4 c5 c6 c7 F₁ N₁
      k_with_none
      k_with "k_all" => first | with_reducible assumption | exact List.forall_mem_nil _ | ((with_reducible refine dropL_ne ?_); k_memK) | with_reducible exact all_ne_of_allLt (by assumption) | with_reducible exact all_ne_of_lt (by assumption) | exact List.forall_mem_cons.mpr ⟨by first | with_reducible assumption | exact Ne.symm (by with_reducible assumption) | exact Nat.ne_of_lt (by with_reducible assumption) | exact Nat.ne_of_gt (by with_reducible assumption) | exact Nat.ne_of_lt (And.left (by with_reducible assumption)) | exact Nat.ne_of_gt (And.left (by with_reducible assumption)) | exact Nat.ne_of_lt (And.left (And.right (by with_reducible assumption))) | exact Nat.ne_of_gt (And.left (And.right (by with_reducible assumption))) | exact Nat.ne_of_lt (And.left (And.right (And.right (by with_reducible assumption)))) | exact Nat.ne_of_gt (And.left (And.right (And.right (by with_reducible assumption)))) | exact Nat.ne_of_lt (And.left (And.right (And.right (And.right (by with_reducible assumption))))) | exact Nat.ne_of_gt (And.left (And.right (And.right (And.right (by with_reducible assumption))))) | exact Nat.ne_of_lt (And.left (And.right (And.right (And.right (And.right (by with_reducible assumption)))))) | exact Nat.ne_of_gt (And.left (And.right (And.right (And.right (And.right (by with_reducible assumption)))))) | exact Nat.ne_of_lt (And.left (And.right (And.right (And.right (And.right (And.right (by with_reducible assumption))))))) | exact Nat.ne_of_gt (And.left (And.right (And.right (And.right (And.right (And.right (by with_reducible assumption))))))) | exact Nat.ne_of_lt (And.left (And.right (And.right (And.right (And.right (And.right (And.right (by with_reducible assumption)))))))) | exact Nat.ne_of_gt (And.left (And.right (And.right (And.right (And.right (And.right (And.right (by with_reducible assumption)))))))) | k_ne, by k_all⟩
      k_with "k_updF" => first | exact UpdF.head (by k_all) | exact UpdF.tail (by first | with_reducible assumption | exact Ne.symm (by with_reducible assumption) | exact Nat.ne_of_lt (by with_reducible assumption) | exact Nat.ne_of_gt (by with_reducible assumption) | exact Nat.ne_of_lt (And.left (by with_reducible assumption)) | exact Nat.ne_of_gt (And.left (by with_reducible assumption)) | exact Nat.ne_of_lt (And.left (And.right (by with_reducible assumption))) | exact Nat.ne_of_gt (And.left (And.right (by with_reducible assumption))) | exact Nat.ne_of_lt (And.left (And.right (And.right (by with_reducible assumption)))) | exact Nat.ne_of_gt (And.left (And.right (And.right (by with_reducible assumption)))) | exact Nat.ne_of_lt (And.left (And.right (And.right (And.right (by with_reducible assumption))))) | exact Nat.ne_of_gt (And.left (And.right (And.right (And.right (by with_reducible assumption))))) | exact Nat.ne_of_lt (And.left (And.right (And.right (And.right (And.right (by with_reducible assumption)))))) | exact Nat.ne_of_gt (And.left (And.right (And.right (And.right (And.right (by with_reducible assumption)))))) | exact Nat.ne_of_lt (And.left (And.right (And.right (And.right (And.right (And.right (by with_reducible assumption))))))) | exact Nat.ne_of_gt (And.left (And.right (And.right (And.right (And.right (And.right (by with_reducible assumption))))))) | exact Nat.ne_of_lt (And.left (And.right (And.right (And.right (And.right (And.right (And.right (by with_reducible assumption)))))))) | exact Nat.ne_of_gt (And.left (And.right (And.right (And.right (And.right (And.right (And.right (by with_reducible assumption)))))))) | k_ne) (by k_updF)
      k_with "k_upd" => first | exact Upd.head (by k_all) | exact Upd.tail (by first | with_reducible assumption | exact Ne.symm (by with_reducible assumption) | exact Nat.ne_of_lt (by with_reducible assumption) | exact Nat.ne_of_gt (by with_reducible assumption) | exact Nat.ne_of_lt (And.left (by with_reducible assumption)) | exact Nat.ne_of_gt (And.left (by with_reducible assumption)) | exact Nat.ne_of_lt (And.left (And.right (by with_reducible assumption))) | exact Nat.ne_of_gt (And.left (And.right (by with_reducible assumption))) | exact Nat.ne_of_lt (And.left (And.right (And.right (by with_reducible assumption)))) | exact Nat.ne_of_gt (And.left (And.right (And.right (by with_reducible assumption)))) | exact Nat.ne_of_lt (And.left (And.right (And.right (And.right (by with_reducible assumption))))) | exact Nat.ne_of_gt (And.left (And.right (And.right (And.right (by with_reducible assumption))))) | exact Nat.ne_of_lt (And.left (And.right (And.right (And.right (And.right (by with_reducible assumption)))))) | exact Nat.ne_of_gt (And.left (And.right (And.right (And.right (And.right (by with_reducible assumption)))))) | exact Nat.ne_of_lt (And.left (And.right (And.right (And.right (And.right (And.right (by with_reducible assumption))))))) | exact Nat.ne_of_gt (And.left (And.right (And.right (And.right (And.right (And.right (by with_reducible assumption))))))) | exact Nat.ne_of_lt (And.left (And.right (And.right (And.right (And.right (And.right (And.right (by with_reducible assumption)))))))) | exact Nat.ne_of_gt (And.left (And.right (And.right (And.right (And.right (And.right (And.right (by with_reducible assumption)))))))) | k_ne) (by k_upd)
      k_with "getAttr ref" => k_dflt (refine get_opq (by k_asm) (by k_asm) (by k_asm) (by k_mem) (by k_mem) (by with_reducible assumption) (by k_is) (by k_is) (by k_is) (by k_is) (by k_get) (by k_handed) ?_)
      k_with "getMethod ref" => k_dflt (refine meth_opq (by k_asm) (by k_asm) (by k_asm) (by k_mem) (by k_mem) (by with_reducible assumption) (by k_is) (by k_is) (by k_is) (by k_get) ?_)
      k_with "setAttr ref" => k_dflt (refine set_opq (by k_asm) (by k_asm) (by k_asm) (by k_mem) (by k_updF) (by with_reducible assumption) (by k_is) (by k_is) (by k_is) (by k_is) (by k_get) (by k_put) (by exact Nat.le_of_ble_eq_true rfl) ?_; k_whole; intro h' o' he' F' N'; (try dsimp only at N'); (try k_sweep))
      k_with "subscriptTail" => ((with_reducible show wpAny _ _ (subscriptTail _ _ (Value.ref _) (Value.int _ _)) _ _ _); k_dflt (refine item_lst (by k_asm) (by first | with_reducible assumption | k_memK) (by assumption) (by omega) (by with_reducible assumption) ?_))
      k_with "call ref" => ((with_reducible show wpAny _ _ (call (Value.ref 182) _) _ _ _); k_dflt (refine pick_lit (by k_asm) (by k_asm) (by k_asm) (by exact rfl) (by ktr_room) (by ktr_units) (by k_asm) (by first | with_reducible assumption | exact List.mem_cons_of_mem _ (by with_reducible assumption) | exact List.mem_cons_of_mem _ (List.mem_cons_of_mem _ (by with_reducible assumption)) | k_memK) (by with_reducible assumption) (by first | with_reducible assumption | exact List.mem_cons_of_mem _ (by with_reducible assumption) | exact List.mem_cons_of_mem _ (List.mem_cons_of_mem _ (by with_reducible assumption)) | k_memK) (by with_reducible assumption) (by with_reducible assumption) (by first | decide | omega) (by first | decide | omega) (fun d t ho' news' h' tk' d1 d2 F' N' hH' hho' hkeep => ?_) (by k_asm)); (try dsimp only at F' N' ⊢); refine stop_here ?_)
      k_with "compareOp Eq ref ref" => (k_dflt (refine dict_eq0 (by k_asm) (by first | with_reducible assumption | exact List.mem_cons_of_mem _ (by with_reducible assumption) | exact List.mem_cons_of_mem _ (List.mem_cons_of_mem _ (by with_reducible assumption)) | k_memK) (by with_reducible assumption) (by with_reducible assumption) (by first | with_reducible assumption | exact List.mem_cons_of_mem _ (by with_reducible assumption) | exact List.mem_cons_of_mem _ (List.mem_cons_of_mem _ (by with_reducible assumption)) | k_memK) (by with_reducible assumption) (by with_reducible assumption) (by ktr_units) ?_); try rw [List.length_map])
      k_with "compareOp NotEq ref ref" => (k_dflt (refine dict_ne0 (by k_asm) (by first | with_reducible assumption | exact List.mem_cons_of_mem _ (by with_reducible assumption) | exact List.mem_cons_of_mem _ (List.mem_cons_of_mem _ (by with_reducible assumption)) | k_memK) (by with_reducible assumption) (by with_reducible assumption) (by first | with_reducible assumption | exact List.mem_cons_of_mem _ (by with_reducible assumption) | exact List.mem_cons_of_mem _ (List.mem_cons_of_mem _ (by with_reducible assumption)) | k_memK) (by with_reducible assumption) (by with_reducible assumption) (by ktr_units) ?_); try rw [List.length_map])
      k_with "isTrue BoolOp" => ((fail_if_success (have hcut : CutDone := by assumption)); refine stop_here ?_)
      have F₂ := fr7 F₁ c1 c2 c3 c4 c5 c6 c7
      replace st := st.reown hoff
      clear F₁ c1 c2 c3 c4 c5 c6 c7 hoff
      have hRWm := st.mods.2.1
      have hCH : @Ne Addr X.C X.H := ne_role st.fx.2.1 st.fx.1 (by simp)
      revert F₂ N₁ st
      generalize nx ++ own = news
      generalize offRole ρ (own.map (·.1)) = ρ'
      intro F₂ N₁ st
      obtain ⟨ho, hH, hho⟩ := id st.hand
      obtain ⟨co, hC, hco⟩ := id st.cells
      obtain ⟨rwo, hRW, hrw⟩ := id st.rwd
      try k_fold
      k_steps
      refine ⟨?_⟩
      try k_fold
      replace st := st.pick (fun p hp h => hkeep p (by first | exact hp | exact .tail _ hp | exact .tail _ (.tail _ hp)) h) ⟨_, hH', hho'⟩
      clear hH hho hC hco hRW hrw hkeep hH' hho'
      rename Int => v3
      rename 0 ≤ v3 => v3l
      rename v3 < _ => v3h
      obtain ⟨ho, hH, hho⟩ := id st.hand
      obtain ⟨co, hC, hco⟩ := id st.cells
      obtain ⟨rwo, hRW, hrw⟩ := id st.rwd
      k_steps
      refine ⟨?_⟩
      try k_fold
      replace st := st.pick (fun p hp h => hkeep p (by first | exact hp | exact .tail _ hp | exact .tail _ (.tail _ hp)) h) ⟨_, hH', hho'⟩
      clear hH hho hC hco hRW hrw hkeep hH' hho'
      rename Int => v4
      rename 0 ≤ v4 => v4l
      rename v4 < _ => v4h
      obtain ⟨ho, hH, hho⟩ := id st.hand
      obtain ⟨co, hC, hco⟩ := id st.cells
      obtain ⟨rwo, hRW, hrw⟩ := id st.rwd
      obtain ⟨σ, hσi⟩ : ∃ σ, σs[v4.toNat]? = some σ := ⟨_, List.getElem?_eq_getElem (by rw [st.two]; omega)⟩
      have hnv : nthV (σs.map fun σ => Value.ref σ.ow).toArray.toList v4.toNat = some (.ref σ.ow) := by rw [nthV_spec]; simp [hσi]
      have hσ := List.mem_of_getElem? hσi
      clear hσi
      obtain ⟨A, B', hAB⟩ := List.append_of_mem hσ
      obtain ⟨no, hOW⟩ := id st.ows
      k_steps
      refine ⟨?_⟩
      try k_fold
      rename Fr _ _ _ _ => Fc
      rename Shared => sh
      refine wpAny_mono (Q := CutR Fc sh news' (decide (v3 = 2 ∧ recs.length ≠ 0))) ?_ ?_ (fun _ _ e => e)
      · have hcut : CutDone := ⟨⟩
        by_cases hA : v3 = 2 ∧ recs.length ≠ 0
        · rw [decide_eq_true hA]
          obtain ⟨hA1, hA2⟩ := hA
          k_steps
          all_goals first | (exfalso; omega) | exact .mk (by k_asm) (by k_asm) (fun p hp => by first | exact hp | exact .tail _ hp)
        · rw [decide_eq_false hA]
          k_steps
          all_goals first | exact absurd ⟨by omega, by omega⟩ hA | exact .mk (by k_asm) (by k_asm) (fun p hp => by first | exact hp | exact .tail _ hp)
      rintro _ _ ⟨F', N2, hsub⟩
      rename List (Addr × Obj) => led
      replace st := st.mono hsub
      replace hH := hsub _ hH
      replace hC := hsub _ hC
      replace hRW := hsub _ hRW
      replace hOW := hsub _ hOW
      clear hsub Fc
      by_cases hA : v3 = 2 ∧ recs.length ≠ 0
      · rw [decide_eq_true hA]
        try dsimp only
        try k_fold
        k_with_none
        k_with "k_all" => first | with_reducible assumption | exact List.forall_mem_nil _ | ((with_reducible refine dropL_ne ?_); k_memK) | with_reducible exact all_ne_of_allLt (by assumption) | with_reducible exact all_ne_of_lt (by assumption) | exact List.forall_mem_cons.mpr ⟨by first | with_reducible assumption | exact Ne.symm (by with_reducible assumption) | exact Nat.ne_of_lt (by with_reducible assumption) | exact Nat.ne_of_gt (by with_reducible assumption) | exact Nat.ne_of_lt (And.left (by with_reducible assumption)) | exact Nat.ne_of_gt (And.left (by with_reducible assumption)) | exact Nat.ne_of_lt (And.left (And.right (by with_reducible assumption))) | exact Nat.ne_of_gt (And.left (And.right (by with_reducible assumption))) | exact Nat.ne_of_lt (And.left (And.right (And.right (by with_reducible assumption)))) | exact Nat.ne_of_gt (And.left (And.right (And.right (by with_reducible assumption)))) | exact Nat.ne_of_lt (And.left (And.right (And.right (And.right (by with_reducible assumption))))) | exact Nat.ne_of_gt (And.left (And.right (And.right (And.right (by with_reducible assumption))))) | exact Nat.ne_of_lt (And.left (And.right (And.right (And.right (And.right (by with_reducible assumption)))))) | exact Nat.ne_of_gt (And.left (And.right (And.right (And.right (And.right (by with_reducible assumption)))))) | exact Nat.ne_of_lt (And.left (And.right (And.right (And.right (And.right (And.right (by with_reducible assumption))))))) | exact Nat.ne_of_gt (And.left (And.right (And.right (And.right (And.right (And.right (by with_reducible assumption))))))) | exact Nat.ne_of_lt (And.left (And.right (And.right (And.right (And.right (And.right (And.right (by with_reducible assumption)))))))) | exact Nat.ne_of_gt (And.left (And.right (And.right (And.right (And.right (And.right (And.right (by with_reducible assumption)))))))) | k_ne, by k_all⟩
        k_with "k_updF" => first | exact UpdF.head (by k_all) | exact UpdF.tail (by first | with_reducible assumption | exact Ne.symm (by with_reducible assumption) | exact Nat.ne_of_lt (by with_reducible assumption) | exact Nat.ne_of_gt (by with_reducible assumption) | exact Nat.ne_of_lt (And.left (by with_reducible assumption)) | exact Nat.ne_of_gt (And.left (by with_reducible assumption)) | exact Nat.ne_of_lt (And.left (And.right (by with_reducible assumption))) | exact Nat.ne_of_gt (And.left (And.right (by with_reducible assumption))) | exact Nat.ne_of_lt (And.left (And.right (And.right (by with_reducible assumption)))) | exact Nat.ne_of_gt (And.left (And.right (And.right (by with_reducible assumption)))) | exact Nat.ne_of_lt (And.left (And.right (And.right (And.right (by with_reducible assumption))))) | exact Nat.ne_of_gt (And.left (And.right (And.right (And.right (by with_reducible assumption))))) | exact Nat.ne_of_lt (And.left (And.right (And.right (And.right (And.right (by with_reducible assumption)))))) | exact Nat.ne_of_gt (And.left (And.right (And.right (And.right (And.right (by with_reducible assumption)))))) | exact Nat.ne_of_lt (And.left (And.right (And.right (And.right (And.right (And.right (by with_reducible assumption))))))) | exact Nat.ne_of_gt (And.left (And.right (And.right (And.right (And.right (And.right (by with_reducible assumption))))))) | exact Nat.ne_of_lt (And.left (And.right (And.right (And.right (And.right (And.right (And.right (by with_reducible assumption)))))))) | exact Nat.ne_of_gt (And.left (And.right (And.right (And.right (And.right (And.right (And.right (by with_reducible assumption)))))))) | k_ne) (by k_updF)
        k_with "k_upd" => first | exact Upd.head (by k_all) | exact Upd.tail (by first | with_reducible assumption | exact Ne.symm (by with_reducible assumption) | exact Nat.ne_of_lt (by with_reducible assumption) | exact Nat.ne_of_gt (by with_reducible assumption) | exact Nat.ne_of_lt (And.left (by with_reducible assumption)) | exact Nat.ne_of_gt (And.left (by with_reducible assumption)) | exact Nat.ne_of_lt (And.left (And.right (by with_reducible assumption))) | exact Nat.ne_of_gt (And.left (And.right (by with_reducible assumption))) | exact Nat.ne_of_lt (And.left (And.right (And.right (by with_reducible assumption)))) | exact Nat.ne_of_gt (And.left (And.right (And.right (by with_reducible assumption)))) | exact Nat.ne_of_lt (And.left (And.right (And.right (And.right (by with_reducible assumption))))) | exact Nat.ne_of_gt (And.left (And.right (And.right (And.right (by with_reducible assumption))))) | exact Nat.ne_of_lt (And.left (And.right (And.right (And.right (And.right (by with_reducible assumption)))))) | exact Nat.ne_of_gt (And.left (And.right (And.right (And.right (And.right (by with_reducible assumption)))))) | exact Nat.ne_of_lt (And.left (And.right (And.right (And.right (And.right (And.right (by with_reducible assumption))))))) | exact Nat.ne_of_gt (And.left (And.right (And.right (And.right (And.right (And.right (by with_reducible assumption))))))) | exact Nat.ne_of_lt (And.left (And.right (And.right (And.right (And.right (And.right (And.right (by with_reducible assumption)))))))) | exact Nat.ne_of_gt (And.left (And.right (And.right (And.right (And.right (And.right (And.right (by with_reducible assumption)))))))) | k_ne) (by k_upd)
        k_with "getAttr ref" => k_dflt (refine get_opq (by k_asm) (by k_asm) (by k_asm) (by first | with_reducible assumption | k_memK | k_mem) (by first | with_reducible assumption | k_memK | k_mem) (by with_reducible assumption) (by k_is) (by k_is) (by k_is) (by k_is) (by k_get) (by k_handed) ?_)
        k_with "getMethod ref" => k_dflt (refine meth_opq (by k_asm) (by k_asm) (by k_asm) (by first | with_reducible assumption | k_memK | k_mem) (by first | with_reducible assumption | k_memK | k_mem) (by with_reducible assumption) (by k_is) (by k_is) (by k_is) (by k_get) ?_)
        k_with "subscriptTail" => ((with_reducible show wpAny _ _ (subscriptTail _ _ (Value.ref _) (Value.int _ _)) _ _ _); k_dflt (refine kda_item (knd := intKind _ _) (by k_asm) (by first | with_reducible assumption | k_memK | k_mem) (by with_reducible assumption) (intKind_is _ _ _ _) (by with_reducible assumption) ?_))
        k_with "getItem ref int" => k_dflt (refine kdt_getItem (knd := intKind _ _) (by k_asm) (by first | with_reducible assumption | k_memK | k_mem) (by with_reducible assumption) (intKind_is _ _ _ _) (by with_reducible assumption) ?_)
        k_with "subscriptTail" => ((with_reducible show wpAny _ _ (subscriptTail _ _ (Value.ref _) (Value.int _ _)) _ _ _); k_dflt (refine item_lst (by k_asm) (by first | with_reducible assumption | k_memK | k_mem) (by decide) (by decide) (by rfl) ?_))
        k_with "subscriptTail" => ((with_reducible show wpAny _ _ (subscriptTail _ _ (Value.ref _) (Value.int _ _)) _ _ _); k_dflt (refine item_lst (by k_asm) (by first | with_reducible assumption | k_memK) (by assumption) (by omega) (by with_reducible assumption) ?_))
        k_with "call ref" => ((with_reducible show wpAny _ _ (call (Value.ref 182) _) _ _ _); k_dflt (refine pick_lit (by k_asm) (by k_asm) (by k_asm) (by exact rfl) (by ktr_room) (by ktr_units) (by k_asm) (by first | with_reducible assumption | exact List.mem_cons_of_mem _ (by with_reducible assumption) | exact List.mem_cons_of_mem _ (List.mem_cons_of_mem _ (by with_reducible assumption)) | k_memK) (by with_reducible assumption) (by first | with_reducible assumption | exact List.mem_cons_of_mem _ (by with_reducible assumption) | exact List.mem_cons_of_mem _ (List.mem_cons_of_mem _ (by with_reducible assumption)) | k_memK) (by with_reducible assumption) (by with_reducible assumption) (by first | decide | omega) (by first | decide | omega) (fun d t ho' news' h' tk' d1 d2 F' N' hH' hho' hkeep => ?_) (by k_asm)); (try dsimp only at F' N' ⊢); refine stop_here ?_)
        k_with "call builtin:len" => (k_dflt (refine kda_len (knd := intKind _ _) (by k_asm) (by first | with_reducible assumption | exact List.mem_cons_of_mem _ (by with_reducible assumption) | exact List.mem_cons_of_mem _ (List.mem_cons_of_mem _ (by with_reducible assumption)) | k_memK) (by with_reducible assumption) (by with_reducible assumption) (by (try rw [List.length_map]); omega) ?_); try rw [List.length_map])
        k_with "compareOp Eq ref ref" => (k_dflt (refine dict_eq0 (by k_asm) (by first | with_reducible assumption | exact List.mem_cons_of_mem _ (by with_reducible assumption) | exact List.mem_cons_of_mem _ (List.mem_cons_of_mem _ (by with_reducible assumption)) | k_memK) (by with_reducible assumption) (by with_reducible assumption) (by first | with_reducible assumption | exact List.mem_cons_of_mem _ (by with_reducible assumption) | exact List.mem_cons_of_mem _ (List.mem_cons_of_mem _ (by with_reducible assumption)) | k_memK) (by with_reducible assumption) (by with_reducible assumption) (by ktr_units) ?_); try rw [List.length_map])
        k_with "compareOp NotEq ref ref" => (k_dflt (refine dict_ne0 (by k_asm) (by first | with_reducible assumption | exact List.mem_cons_of_mem _ (by with_reducible assumption) | exact List.mem_cons_of_mem _ (List.mem_cons_of_mem _ (by with_reducible assumption)) | k_memK) (by with_reducible assumption) (by with_reducible assumption) (by first | with_reducible assumption | exact List.mem_cons_of_mem _ (by with_reducible assumption) | exact List.mem_cons_of_mem _ (List.mem_cons_of_mem _ (by with_reducible assumption)) | k_memK) (by with_reducible assumption) (by with_reducible assumption) (by ktr_units) ?_); try rw [List.length_map])
        k_with "call builtin:sorted" => (k_dflt (refine sorted_lit (by exact rfl) (by k_asm) (by k_asm) (by first | with_reducible assumption | exact List.mem_cons_of_mem _ (by with_reducible assumption) | exact List.mem_cons_of_mem _ (List.mem_cons_of_mem _ (by with_reducible assumption)) | k_memK) (by with_reducible assumption) (by with_reducible assumption) (by (try rw [List.length_map]); omega) ?_); intro D h' tk vs ns c F' N' hlt hvs hnl hns; (try dsimp only at N'); (try k_sweep))
        k_with "call ref" => ((with_reducible show wpAny _ _ (call (Value.ref 147) _) _ _ _); k_dflt (refine erase_spec (by k_asm) (by k_asm) (by k_asm) (by exact rfl) (by ktr_room) (by k_asm) hS hSD ⟨_, hso⟩ hRD hrd st.mods.1 hvx hx hdx ⟨_, hro⟩ e1 e2 e3 e4 e5 e6 e7 (fun hd0 h' tk' F' N' => stop_here ?_) (fun hd0 so' ro' h' tk' newsE F' N' hSD' hso' hdx' hro' hkeep => stop_here ?_) (by k_asm)))
        have hcut : CutDone := ⟨⟩
        obtain ⟨hA1, hA2⟩ := hA
        have hlen := st.len
        k_steps
        have hM := hkeep _ (List.mem_cons_self ..) (Ne.symm (Nat.ne_of_lt (hlt _ hH)))
        refine ⟨?_⟩
        try k_fold
        replace st := st.pick (fun p hp h => hkeep p (by first | exact hp | exact .tail _ hp | exact .tail _ (.tail _ hp)) h) ⟨_, hH', hho'⟩
        clear hH hho hC hco hRW hrw hkeep hH' hho'
        rename Int => v5
        rename 0 ≤ v5 => v5l
        rename v5 < _ => v5h
        obtain ⟨ho, hH, hho⟩ := id st.hand
        obtain ⟨co, hC, hco⟩ := id st.cells
        obtain ⟨rwo, hRW, hrw⟩ := id st.rwd
        obtain ⟨r, hr, tkey, hkey⟩ := key_of hvs rfl hns v5l (by rw [hnl, List.length_map]; exact v5h)
        obtain ⟨R, S', hRS⟩ := List.append_of_mem hr
        have hS := st.store
        obtain ⟨so, hSD, τs, hso⟩ := id st.sd
        obtain ⟨rdo, hRD, hrd⟩ := id st.rd
        obtain ⟨hx, ⟨ro, hdx, τr, hro⟩, rwo', hrw2, τw, hrwo⟩ := st.hrs r hr
        subst hrwo
        obtain ⟨g1, g2, g3⟩ := st.rrec r hr
        obtain ⟨f1, f2, f3, f4, f5, f6, f7, f8⟩ := id st.fx
        have e1 : @Ne Addr X.S X.SD := ne_role f3 f4 (by simp)
        have e2 : @Ne Addr X.RD X.SD := ne_role f5 f4 (by simp)
        have e3 : @Ne Addr r.x X.SD := ne_role g1 f4 (by simp)
        have e4 : @Ne Addr r.x r.dx := ne_role g1 g2 (by simp)
        have e5 : @Ne Addr r.dx X.SD := ne_role g2 f4 (by simp)
        have e6 : @Ne Addr r.dx X.RD := ne_role g2 f5 (by simp)
        have e7 : @Ne Addr r.dx X.S := ne_role g2 f3 (by simp)
        have d1 : @Ne Addr X.RW X.SD := ne_role f6 f4 (by simp)
        have d2 : @Ne Addr X.RW r.dx := ne_role f6 g2 (by simp)
        have d3 : @Ne Addr X.RW r.rw := ne_role f6 g3 (by simp)
        have d4 : @Ne Addr r.rw X.SD := ne_role g3 f4 (by simp)
        have d5 : @Ne Addr r.rw r.dx := ne_role g3 g2 (by simp)
        have hvx := st.vx hr
        have hvr := st.vr hr
        k_steps
        · refine ⟨?_⟩
          try dsimp only at F' N' ⊢
          try k_fold
          k_steps
          rename Fr _ _ _ _ => Fz
          rename News _ _ _ _ => Nz
          exact bj_end Fz Nz st bd (by omega) (by omega) (by rfl) (by rfl) (by rfl) (by rfl) (by rfl) (by rfl) (by rfl)
        · refine ⟨?_⟩
          try dsimp only at F' N' ⊢
          try k_fold
          have hRW2 := hkeep _ hRW d1 d2
          have hrw3 := hkeep _ hrw2 d4 d5
          have N5 := news_add N' hRW2 (news_add N' hrw3 (news_drop N' [r.rw]))
          clear N'
          k_steps
          rename Fr _ _ _ _ => Fz
          rename News _ _ _ _ => Nz
          have hg0 := bd.gen0
          rw [hRS] at st bd hrl
          rw [List.length_append, List.length_cons] at hrl
          refine bj_end Fz Nz
            (st.rec_to (r' := ⟨r.place, r.x, r.dx, r.rw, r.key, r.functor, r.birth, gen + 1, r.next⟩) ⟨rfl, rfl, rfl, rfl⟩ (fun p hp h1 h2 h3 => .tail _ (.tail _ (mem_dropL.mpr ⟨hkeep p hp h1 h2, by simpa using h3⟩)))
              ⟨_, .tail _ (.tail _ (mem_dropL.mpr ⟨hSD', by simpa using Ne.symm d4⟩)), hso'⟩ ⟨by omega, by omega⟩ ⟨_, .tail _ (.tail _ (mem_dropL.mpr ⟨hdx', by simpa using Ne.symm d5⟩)), hro'⟩ ⟨_, by k_mem, rowObj rfl⟩)
            (bd.erase hd0) (by rw [List.length_append, List.length_cons]; omega) (by omega) (by rfl) (by rfl) (by rfl) (by rfl) (by rfl) (by rfl) (by rfl)
      · rw [decide_eq_false hA]
        try dsimp only
        try k_fold
        k_with_none
        k_with "k_all" => first | with_reducible assumption | exact List.forall_mem_nil _ | ((with_reducible refine dropL_ne ?_); k_memK) | with_reducible exact all_ne_of_allLt (by assumption) | with_reducible exact all_ne_of_lt (by assumption) | exact List.forall_mem_cons.mpr ⟨by first | with_reducible assumption | exact Ne.symm (by with_reducible assumption) | exact Nat.ne_of_lt (by with_reducible assumption) | exact Nat.ne_of_gt (by with_reducible assumption) | exact Nat.ne_of_lt (And.left (by with_reducible assumption)) | exact Nat.ne_of_gt (And.left (by with_reducible assumption)) | exact Nat.ne_of_lt (And.left (And.right (by with_reducible assumption))) | exact Nat.ne_of_gt (And.left (And.right (by with_reducible assumption))) | exact Nat.ne_of_lt (And.left (And.right (And.right (by with_reducible assumption)))) | exact Nat.ne_of_gt (And.left (And.right (And.right (by with_reducible assumption)))) | exact Nat.ne_of_lt (And.left (And.right (And.right (And.right (by with_reducible assumption))))) | exact Nat.ne_of_gt (And.left (And.right (And.right (And.right (by with_reducible assumption))))) | exact Nat.ne_of_lt (And.left (And.right (And.right (And.right (And.right (by with_reducible assumption)))))) | exact Nat.ne_of_gt (And.left (And.right (And.right (And.right (And.right (by with_reducible assumption)))))) | exact Nat.ne_of_lt (And.left (And.right (And.right (And.right (And.right (And.right (by with_reducible assumption))))))) | exact Nat.ne_of_gt (And.left (And.right (And.right (And.right (And.right (And.right (by with_reducible assumption))))))) | exact Nat.ne_of_lt (And.left (And.right (And.right (And.right (And.right (And.right (And.right (by with_reducible assumption)))))))) | exact Nat.ne_of_gt (And.left (And.right (And.right (And.right (And.right (And.right (And.right (by with_reducible assumption)))))))) | k_ne, by k_all⟩
        k_with "k_updF" => first | exact UpdF.head (by k_all) | exact UpdF.tail (by first | with_reducible assumption | exact Ne.symm (by with_reducible assumption) | exact Nat.ne_of_lt (by with_reducible assumption) | exact Nat.ne_of_gt (by with_reducible assumption) | exact Nat.ne_of_lt (And.left (by with_reducible assumption)) | exact Nat.ne_of_gt (And.left (by with_reducible assumption)) | exact Nat.ne_of_lt (And.left (And.right (by with_reducible assumption))) | exact Nat.ne_of_gt (And.left (And.right (by with_reducible assumption))) | exact Nat.ne_of_lt (And.left (And.right (And.right (by with_reducible assumption)))) | exact Nat.ne_of_gt (And.left (And.right (And.right (by with_reducible assumption)))) | exact Nat.ne_of_lt (And.left (And.right (And.right (And.right (by with_reducible assumption))))) | exact Nat.ne_of_gt (And.left (And.right (And.right (And.right (by with_reducible assumption))))) | exact Nat.ne_of_lt (And.left (And.right (And.right (And.right (And.right (by with_reducible assumption)))))) | exact Nat.ne_of_gt (And.left (And.right (And.right (And.right (And.right (by with_reducible assumption)))))) | exact Nat.ne_of_lt (And.left (And.right (And.right (And.right (And.right (And.right (by with_reducible assumption))))))) | exact Nat.ne_of_gt (And.left (And.right (And.right (And.right (And.right (And.right (by with_reducible assumption))))))) | exact Nat.ne_of_lt (And.left (And.right (And.right (And.right (And.right (And.right (And.right (by with_reducible assumption)))))))) | exact Nat.ne_of_gt (And.left (And.right (And.right (And.right (And.right (And.right (And.right (by with_reducible assumption)))))))) | k_ne) (by k_updF)
        k_with "k_upd" => first | exact Upd.head (by k_all) | exact Upd.tail (by first | with_reducible assumption | exact Ne.symm (by with_reducible assumption) | exact Nat.ne_of_lt (by with_reducible assumption) | exact Nat.ne_of_gt (by with_reducible assumption) | exact Nat.ne_of_lt (And.left (by with_reducible assumption)) | exact Nat.ne_of_gt (And.left (by with_reducible assumption)) | exact Nat.ne_of_lt (And.left (And.right (by with_reducible assumption))) | exact Nat.ne_of_gt (And.left (And.right (by with_reducible assumption))) | exact Nat.ne_of_lt (And.left (And.right (And.right (by with_reducible assumption)))) | exact Nat.ne_of_gt (And.left (And.right (And.right (by with_reducible assumption)))) | exact Nat.ne_of_lt (And.left (And.right (And.right (And.right (by with_reducible assumption))))) | exact Nat.ne_of_gt (And.left (And.right (And.right (And.right (by with_reducible assumption))))) | exact Nat.ne_of_lt (And.left (And.right (And.right (And.right (And.right (by with_reducible assumption)))))) | exact Nat.ne_of_gt (And.left (And.right (And.right (And.right (And.right (by with_reducible assumption)))))) | exact Nat.ne_of_lt (And.left (And.right (And.right (And.right (And.right (And.right (by with_reducible assumption))))))) | exact Nat.ne_of_gt (And.left (And.right (And.right (And.right (And.right (And.right (by with_reducible assumption))))))) | exact Nat.ne_of_lt (And.left (And.right (And.right (And.right (And.right (And.right (And.right (by with_reducible assumption)))))))) | exact Nat.ne_of_gt (And.left (And.right (And.right (And.right (And.right (And.right (And.right (by with_reducible assumption)))))))) | k_ne) (by k_upd)
        k_with "getAttr ref" => k_dflt (refine get_opq (by k_asm) (by k_asm) (by k_asm) (by first | with_reducible assumption | k_memK | k_mem) (by first | with_reducible assumption | k_memK | k_mem) (by with_reducible assumption) (by k_is) (by k_is) (by k_is) (by k_is) (by k_get) (by k_handed) ?_)
        k_with "getMethod ref" => k_dflt (refine meth_opq (by k_asm) (by k_asm) (by k_asm) (by first | with_reducible assumption | k_memK | k_mem) (by first | with_reducible assumption | k_memK | k_mem) (by with_reducible assumption) (by k_is) (by k_is) (by k_is) (by k_get) ?_)
        k_with "setItem ref int" => (k_dflt (refine kda_set (knd := intKind _ _) (by k_asm) (by k_asm) (by k_updF) (by with_reducible assumption) (intKind_is _ _ _ _) (by (try rw [List.length_map]); rw [sizeLine_eq]; omega) ?_); intro h' o' F' N' hd'; (try dsimp only at N'))
        k_with "subscriptTail" => ((with_reducible show wpAny _ _ (subscriptTail _ _ (Value.ref _) (Value.int _ _)) _ _ _); k_dflt (refine kda_item (knd := intKind _ _) (by k_asm) (by first | with_reducible assumption | k_memK | k_mem) (by with_reducible assumption) (intKind_is _ _ _ _) (by with_reducible assumption) ?_))
        k_with "getItem ref int" => k_dflt (refine kdt_getItem (knd := intKind _ _) (by k_asm) (by first | with_reducible assumption | k_memK | k_mem) (by with_reducible assumption) (intKind_is _ _ _ _) (by with_reducible assumption) ?_)
        k_with "subscriptTail" => ((with_reducible show wpAny _ _ (subscriptTail _ _ (Value.ref _) (Value.int _ _)) _ _ _); k_dflt (refine item_lst (by k_asm) (by first | with_reducible assumption | k_memK | k_mem) (by decide) (by decide) (by rfl) ?_))
        k_with "call ref" => ((with_reducible show wpAny _ _ (call (Value.ref 105) _) _ _ _); k_dflt (refine prepend_spec (by k_asm) (by k_asm) (by k_asm) (by exact rfl) (by ktr_room) (news_sub (l' := led) (by k_asm) (fun p hp => List.mem_cons_of_mem _ (List.mem_cons_of_mem _ hp))) hS hSD ⟨_, hso⟩ hRD hrd hnewx (by rw [List.length_map]; omega) hp1 hp2 ⟨_, hp3⟩ n1 n2 n3 n4 n5 n6 n7 n8 n9 (fun x dx ro' so' rdo' po' h' tk' newsP F' N' hx' hdx' hro' hSD' hso' hRD' hrd' hpd' hpo' hkeep hlt hlt2 => stop_here ?_) (by k_asm)))
        have hcut : CutDone := ⟨⟩
        have hlen := st.len
        have hg0 := bd.gen0
        obtain ⟨hp1, ⟨pdo, hp2, τp, hp3⟩, owo, ho1, τo, ho2⟩ := st.side σ hσ
        subst ho2
        obtain ⟨pro, hP, hPd⟩ := id st.prd
        have hvp := st.vp hσ
        have hS := st.store
        obtain ⟨so, hSD, τs, hso⟩ := id st.sd
        obtain ⟨rdo, hRD, hrd⟩ := id st.rd
        have hnewx := bd.freshx
        have hnewr := bd.freshr
        obtain ⟨g1, g2, g3⟩ := st.rside σ hσ
        obtain ⟨f1, f2, f3, f4, f5, f6, f7, f8⟩ := id st.fx
        have n1 : @Ne Addr X.S X.SD := ne_role f3 f4 (by simp)
        have n2 : @Ne Addr X.S X.RD := ne_role f3 f5 (by simp)
        have n3 : @Ne Addr X.SD X.RD := ne_role f4 f5 (by simp)
        have n4 : @Ne Addr σ.p X.SD := ne_role g1 f4 (by simp)
        have n5 : @Ne Addr σ.p X.RD := ne_role g1 f5 (by simp)
        have n6 : @Ne Addr σ.pd X.SD := ne_role g2 f4 (by simp)
        have n7 : @Ne Addr σ.pd X.RD := ne_role g2 f5 (by simp)
        have n8 : @Ne Addr X.S σ.pd := ne_role f3 g2 (by simp)
        have n9 : @Ne Addr σ.p σ.pd := ne_role g1 g2 (by simp)
        have d1 : @Ne Addr X.RW X.SD := ne_role f6 f4 (by simp)
        have d2 : @Ne Addr X.RW X.RD := ne_role f6 f5 (by simp)
        have d3 : @Ne Addr X.RW σ.pd := ne_role f6 g2 (by simp)
        have d4 : @Ne Addr X.RW σ.ow := ne_role f6 g3 (by simp)
        have d5 : @Ne Addr σ.ow X.SD := ne_role g3 f4 (by simp)
        have d6 : @Ne Addr σ.ow X.RD := ne_role g3 f5 (by simp)
        have d7 : @Ne Addr σ.ow σ.pd := ne_role g3 g2 (by simp)
        clear f1 f2 f3 f4 f5 f6 f7 f8
        by_cases hv : v3 = 1
        · skip
          subst hv
          k_steps
          refine ⟨?_⟩
          try dsimp only at F' N' ⊢
          try k_fold
          have b1 : X.RW < dx := hlt _ hRW
          have b2 : σ.ow < dx := hlt _ ho1
          have b3 : dx < x := hlt2
          have hRW2 := hkeep _ hRW d1 d2 d3
          have how2 := hkeep _ ho1 d5 d6 d7
          obtain ⟨τn, hro2⟩ := id hro'
          dsimp only at hro2
          have N5 := news_add N' hRW2 (news_add N' how2 (news_add N' hx' (news_add N' hdx' (news_drop N' [X.RW, σ.ow]))))
          clear N'
          k_steps
          all_goals (
            rename Fr _ _ _ _ => Fz
            rename News _ _ _ _ => Nz
            rename Obj.IsDictOf _ _ (stored _ _ _) => hdz
            rw [stored_new hnewr] at hdz
            rw [hAB] at st bd
            refine bj_end Fz Nz
              (st.add_same (n := ⟨nxt, x, dx, _, nxt, σ.f, gen + 1, -1, σ.first⟩) (σ' := ⟨σ.f, σ.ow, σ.p, σ.pd, σ.kind, nxt, if σ.first < 0 then nxt else σ.last⟩) ⟨rfl, rfl, rfl, rfl⟩ hlt hlt2 (by dsimp only; omega)
                (fun p hp h1 h2 h3 h4 h5 => .tail _ (.tail _ (.tail _ (.tail _ (.tail _ (dl2 (hkeep p hp h1 h2 h4) h3 h5)))))) ⟨_, .tail _ (.tail _ (.tail _ (.tail _ (.tail _ (dl2 hSD' (Ne.symm d1) (Ne.symm d5)))))), hso'⟩ (by omega)
                ⟨_, .tail _ (.tail _ (.tail _ (.tail _ (.tail _ (dl2 hRD' (Ne.symm d2) (Ne.symm d6)))))), hrd'⟩ ⟨_, by k_mem, hdz⟩ ⟨_, .tail _ (.tail _ (.tail _ (.tail _ (.tail _ (dl2 hpd' (Ne.symm d3) (Ne.symm d7)))))), hpo'⟩ ⟨_, by k_mem, ?_⟩ (by omega) (by k_mem) ⟨_, by k_mem, hro'⟩ ⟨_, by k_mem, rowObj rfl⟩)
              (bd.first (.inl rfl) rfl) (by rw [List.length_append, List.length_singleton]; omega) (by omega) (by rfl) (by rfl) (by rfl) (by rfl) (by rfl) (by rfl) (by rfl)
            first
              | (rename σ.first < 0 => hf; rw [if_pos hf]; exact ownObj rfl)
              | (rename ¬ σ.first < 0 => hf; rw [if_neg hf]; exact ownObj rfl))
        · skip
          by_cases hf : σ.first < 0
          · skip
            k_with_none
            k_with "k_all" => first | with_reducible assumption | exact List.forall_mem_nil _ | ((with_reducible refine dropL_ne ?_); k_memK) | with_reducible exact all_ne_of_allLt (by assumption) | with_reducible exact all_ne_of_lt (by assumption) | exact List.forall_mem_cons.mpr ⟨by first | with_reducible assumption | exact Ne.symm (by with_reducible assumption) | exact Nat.ne_of_lt (by with_reducible assumption) | exact Nat.ne_of_gt (by with_reducible assumption) | exact Nat.ne_of_lt (And.left (by with_reducible assumption)) | exact Nat.ne_of_gt (And.left (by with_reducible assumption)) | exact Nat.ne_of_lt (And.left (And.right (by with_reducible assumption))) | exact Nat.ne_of_gt (And.left (And.right (by with_reducible assumption))) | exact Nat.ne_of_lt (And.left (And.right (And.right (by with_reducible assumption)))) | exact Nat.ne_of_gt (And.left (And.right (And.right (by with_reducible assumption)))) | exact Nat.ne_of_lt (And.left (And.right (And.right (And.right (by with_reducible assumption))))) | exact Nat.ne_of_gt (And.left (And.right (And.right (And.right (by with_reducible assumption))))) | exact Nat.ne_of_lt (And.left (And.right (And.right (And.right (And.right (by with_reducible assumption)))))) | exact Nat.ne_of_gt (And.left (And.right (And.right (And.right (And.right (by with_reducible assumption)))))) | exact Nat.ne_of_lt (And.left (And.right (And.right (And.right (And.right (And.right (by with_reducible assumption))))))) | exact Nat.ne_of_gt (And.left (And.right (And.right (And.right (And.right (And.right (by with_reducible assumption))))))) | exact Nat.ne_of_lt (And.left (And.right (And.right (And.right (And.right (And.right (And.right (by with_reducible assumption)))))))) | exact Nat.ne_of_gt (And.left (And.right (And.right (And.right (And.right (And.right (And.right (by with_reducible assumption)))))))) | k_ne, by k_all⟩
            k_with "k_updF" => first | exact UpdF.head (by k_all) | exact UpdF.tail (by first | with_reducible assumption | exact Ne.symm (by with_reducible assumption) | exact Nat.ne_of_lt (by with_reducible assumption) | exact Nat.ne_of_gt (by with_reducible assumption) | exact Nat.ne_of_lt (And.left (by with_reducible assumption)) | exact Nat.ne_of_gt (And.left (by with_reducible assumption)) | exact Nat.ne_of_lt (And.left (And.right (by with_reducible assumption))) | exact Nat.ne_of_gt (And.left (And.right (by with_reducible assumption))) | exact Nat.ne_of_lt (And.left (And.right (And.right (by with_reducible assumption)))) | exact Nat.ne_of_gt (And.left (And.right (And.right (by with_reducible assumption)))) | exact Nat.ne_of_lt (And.left (And.right (And.right (And.right (by with_reducible assumption))))) | exact Nat.ne_of_gt (And.left (And.right (And.right (And.right (by with_reducible assumption))))) | exact Nat.ne_of_lt (And.left (And.right (And.right (And.right (And.right (by with_reducible assumption)))))) | exact Nat.ne_of_gt (And.left (And.right (And.right (And.right (And.right (by with_reducible assumption)))))) | exact Nat.ne_of_lt (And.left (And.right (And.right (And.right (And.right (And.right (by with_reducible assumption))))))) | exact Nat.ne_of_gt (And.left (And.right (And.right (And.right (And.right (And.right (by with_reducible assumption))))))) | exact Nat.ne_of_lt (And.left (And.right (And.right (And.right (And.right (And.right (And.right (by with_reducible assumption)))))))) | exact Nat.ne_of_gt (And.left (And.right (And.right (And.right (And.right (And.right (And.right (by with_reducible assumption)))))))) | k_ne) (by k_updF)
            k_with "k_upd" => first | exact Upd.head (by k_all) | exact Upd.tail (by first | with_reducible assumption | exact Ne.symm (by with_reducible assumption) | exact Nat.ne_of_lt (by with_reducible assumption) | exact Nat.ne_of_gt (by with_reducible assumption) | exact Nat.ne_of_lt (And.left (by with_reducible assumption)) | exact Nat.ne_of_gt (And.left (by with_reducible assumption)) | exact Nat.ne_of_lt (And.left (And.right (by with_reducible assumption))) | exact Nat.ne_of_gt (And.left (And.right (by with_reducible assumption))) | exact Nat.ne_of_lt (And.left (And.right (And.right (by with_reducible assumption)))) | exact Nat.ne_of_gt (And.left (And.right (And.right (by with_reducible assumption)))) | exact Nat.ne_of_lt (And.left (And.right (And.right (And.right (by with_reducible assumption))))) | exact Nat.ne_of_gt (And.left (And.right (And.right (And.right (by with_reducible assumption))))) | exact Nat.ne_of_lt (And.left (And.right (And.right (And.right (And.right (by with_reducible assumption)))))) | exact Nat.ne_of_gt (And.left (And.right (And.right (And.right (And.right (by with_reducible assumption)))))) | exact Nat.ne_of_lt (And.left (And.right (And.right (And.right (And.right (And.right (by with_reducible assumption))))))) | exact Nat.ne_of_gt (And.left (And.right (And.right (And.right (And.right (And.right (by with_reducible assumption))))))) | exact Nat.ne_of_lt (And.left (And.right (And.right (And.right (And.right (And.right (And.right (by with_reducible assumption)))))))) | exact Nat.ne_of_gt (And.left (And.right (And.right (And.right (And.right (And.right (And.right (by with_reducible assumption)))))))) | k_ne) (by k_upd)
            k_with "getAttr ref" => k_dflt (refine get_opq (by k_asm) (by k_asm) (by k_asm) (by first | with_reducible assumption | k_memK | k_mem) (by first | with_reducible assumption | k_memK | k_mem) (by with_reducible assumption) (by k_is) (by k_is) (by k_is) (by k_is) (by k_get) (by k_handed) ?_)
            k_with "getMethod ref" => k_dflt (refine meth_opq (by k_asm) (by k_asm) (by k_asm) (by first | with_reducible assumption | k_memK | k_mem) (by first | with_reducible assumption | k_memK | k_mem) (by with_reducible assumption) (by k_is) (by k_is) (by k_is) (by k_get) ?_)
            k_with "setItem ref int" => (k_dflt (refine kda_set (knd := intKind _ _) (by k_asm) (by k_asm) (by k_updF) (by with_reducible assumption) (intKind_is _ _ _ _) (by (try rw [List.length_map]); rw [sizeLine_eq]; omega) ?_); intro h' o' F' N' hd'; (try dsimp only at N'))
            k_with "subscriptTail" => ((with_reducible show wpAny _ _ (subscriptTail _ _ (Value.ref _) (Value.int _ _)) _ _ _); k_dflt (refine kda_item (knd := intKind _ _) (by k_asm) (by first | with_reducible assumption | k_memK | k_mem) (by with_reducible assumption) (intKind_is _ _ _ _) (by with_reducible assumption) ?_))
            k_with "getItem ref int" => k_dflt (refine kdt_getItem (knd := intKind _ _) (by k_asm) (by first | with_reducible assumption | k_memK | k_mem) (by with_reducible assumption) (intKind_is _ _ _ _) (by with_reducible assumption) ?_)
            k_with "subscriptTail" => ((with_reducible show wpAny _ _ (subscriptTail _ _ (Value.ref _) (Value.int _ _)) _ _ _); k_dflt (refine item_lst (by k_asm) (by first | with_reducible assumption | k_memK | k_mem) (by decide) (by decide) (by rfl) ?_))
            k_with "compareOp Eq int int" => (refine eq_int_no hv ?_)
            k_with "call ref" => ((with_reducible show wpAny _ _ (call (Value.ref 98) _) _ _ _); k_dflt (refine append_first (by k_asm) (by k_asm) (by k_asm) (by exact rfl) (by ktr_room) (news_sub (l' := led) (by k_asm) (fun p hp => List.mem_cons_of_mem _ (List.mem_cons_of_mem _ hp))) hS hSD ⟨_, hso⟩ hRD hrd hnewx (by rw [List.length_map]; omega) hp1 hp2 ⟨_, hp3⟩ n1 n2 n3 n4 n5 n6 n7 n8 n9 hf (fun x dx ro' so' rdo' po' h' tk' newsP F' N' hx' hdx' hro' hSD' hso' hRD' hrd' hpd' hpo' hkeep hlt hlt2 => stop_here ?_) (by k_asm)))
            k_steps
            refine ⟨?_⟩
            try dsimp only at F' N' ⊢
            try k_fold
            have b1 : X.RW < dx := hlt _ hRW
            have b2 : σ.ow < dx := hlt _ ho1
            have b3 : dx < x := hlt2
            have hRW2 := hkeep _ hRW d1 d2 d3
            have how2 := hkeep _ ho1 d5 d6 d7
            obtain ⟨τn, hro2⟩ := id hro'
            dsimp only at hro2
            have N5 := news_add N' hRW2 (news_add N' how2 (news_add N' hx' (news_add N' hdx' (news_drop N' [X.RW, σ.ow]))))
            clear N'
            k_steps
            rename Fr _ _ _ _ => Fz
            rename News _ _ _ _ => Nz
            rename Obj.IsDictOf _ _ (stored _ _ _) => hdz
            rw [stored_new hnewr] at hdz
            rw [hAB] at st bd
            exact bj_end Fz Nz
              (st.add_same (n := ⟨nxt, x, dx, _, nxt, σ.f, gen + 1, -1, -1⟩) (σ' := ⟨σ.f, σ.ow, σ.p, σ.pd, σ.kind, nxt, nxt⟩) ⟨rfl, rfl, rfl, rfl⟩ hlt hlt2 (by dsimp only; omega)
                (fun p hp h1 h2 h3 h4 h5 => .tail _ (.tail _ (.tail _ (.tail _ (.tail _ (dl2 (hkeep p hp h1 h2 h4) h3 h5)))))) ⟨_, .tail _ (.tail _ (.tail _ (.tail _ (.tail _ (dl2 hSD' (Ne.symm d1) (Ne.symm d5)))))), hso'⟩ (by omega)
                ⟨_, .tail _ (.tail _ (.tail _ (.tail _ (.tail _ (dl2 hRD' (Ne.symm d2) (Ne.symm d6)))))), hrd'⟩ ⟨_, by k_mem, hdz⟩ ⟨_, .tail _ (.tail _ (.tail _ (.tail _ (.tail _ (dl2 hpd' (Ne.symm d3) (Ne.symm d7)))))), hpo'⟩ ⟨_, by k_mem, ownObj rfl⟩ (by omega) (by k_mem) ⟨_, by k_mem, hro'⟩ ⟨_, by k_mem, rowObj rfl⟩)
              (bd.first (.inr ⟨by decide, hf⟩) (by rw [if_pos hf])) (by rw [List.length_append, List.length_singleton]; omega) (by omega) (by rfl) (by rfl) (by rfl) (by rfl) (by rfl) (by rfl) (by rfl)
          · skip
            k_with_none
            k_with "k_all" => first | with_reducible assumption | exact List.forall_mem_nil _ | ((with_reducible refine dropL_ne ?_); k_memK) | with_reducible exact all_ne_of_allLt (by assumption) | with_reducible exact all_ne_of_lt (by assumption) | exact List.forall_mem_cons.mpr ⟨by first | with_reducible assumption | exact Ne.symm (by with_reducible assumption) | exact Nat.ne_of_lt (by with_reducible assumption) | exact Nat.ne_of_gt (by with_reducible assumption) | exact Nat.ne_of_lt (And.left (by with_reducible assumption)) | exact Nat.ne_of_gt (And.left (by with_reducible assumption)) | exact Nat.ne_of_lt (And.left (And.right (by with_reducible assumption))) | exact Nat.ne_of_gt (And.left (And.right (by with_reducible assumption))) | exact Nat.ne_of_lt (And.left (And.right (And.right (by with_reducible assumption)))) | exact Nat.ne_of_gt (And.left (And.right (And.right (by with_reducible assumption)))) | exact Nat.ne_of_lt (And.left (And.right (And.right (And.right (by with_reducible assumption))))) | exact Nat.ne_of_gt (And.left (And.right (And.right (And.right (by with_reducible assumption))))) | exact Nat.ne_of_lt (And.left (And.right (And.right (And.right (And.right (by with_reducible assumption)))))) | exact Nat.ne_of_gt (And.left (And.right (And.right (And.right (And.right (by with_reducible assumption)))))) | exact Nat.ne_of_lt (And.left (And.right (And.right (And.right (And.right (And.right (by with_reducible assumption))))))) | exact Nat.ne_of_gt (And.left (And.right (And.right (And.right (And.right (And.right (by with_reducible assumption))))))) | exact Nat.ne_of_lt (And.left (And.right (And.right (And.right (And.right (And.right (And.right (by with_reducible assumption)))))))) | exact Nat.ne_of_gt (And.left (And.right (And.right (And.right (And.right (And.right (And.right (by with_reducible assumption)))))))) | k_ne, by k_all⟩
            k_with "k_updF" => first | exact UpdF.head (by k_all) | exact UpdF.tail (by first | with_reducible assumption | exact Ne.symm (by with_reducible assumption) | exact Nat.ne_of_lt (by with_reducible assumption) | exact Nat.ne_of_gt (by with_reducible assumption) | exact Nat.ne_of_lt (And.left (by with_reducible assumption)) | exact Nat.ne_of_gt (And.left (by with_reducible assumption)) | exact Nat.ne_of_lt (And.left (And.right (by with_reducible assumption))) | exact Nat.ne_of_gt (And.left (And.right (by with_reducible assumption))) | exact Nat.ne_of_lt (And.left (And.right (And.right (by with_reducible assumption)))) | exact Nat.ne_of_gt (And.left (And.right (And.right (by with_reducible assumption)))) | exact Nat.ne_of_lt (And.left (And.right (And.right (And.right (by with_reducible assumption))))) | exact Nat.ne_of_gt (And.left (And.right (And.right (And.right (by with_reducible assumption))))) | exact Nat.ne_of_lt (And.left (And.right (And.right (And.right (And.right (by with_reducible assumption)))))) | exact Nat.ne_of_gt (And.left (And.right (And.right (And.right (And.right (by with_reducible assumption)))))) | exact Nat.ne_of_lt (And.left (And.right (And.right (And.right (And.right (And.right (by with_reducible assumption))))))) | exact Nat.ne_of_gt (And.left (And.right (And.right (And.right (And.right (And.right (by with_reducible assumption))))))) | exact Nat.ne_of_lt (And.left (And.right (And.right (And.right (And.right (And.right (And.right (by with_reducible assumption)))))))) | exact Nat.ne_of_gt (And.left (And.right (And.right (And.right (And.right (And.right (And.right (by with_reducible assumption)))))))) | k_ne) (by k_updF)
            k_with "k_upd" => first | exact Upd.head (by k_all) | exact Upd.tail (by first | with_reducible assumption | exact Ne.symm (by with_reducible assumption) | exact Nat.ne_of_lt (by with_reducible assumption) | exact Nat.ne_of_gt (by with_reducible assumption) | exact Nat.ne_of_lt (And.left (by with_reducible assumption)) | exact Nat.ne_of_gt (And.left (by with_reducible assumption)) | exact Nat.ne_of_lt (And.left (And.right (by with_reducible assumption))) | exact Nat.ne_of_gt (And.left (And.right (by with_reducible assumption))) | exact Nat.ne_of_lt (And.left (And.right (And.right (by with_reducible assumption)))) | exact Nat.ne_of_gt (And.left (And.right (And.right (by with_reducible assumption)))) | exact Nat.ne_of_lt (And.left (And.right (And.right (And.right (by with_reducible assumption))))) | exact Nat.ne_of_gt (And.left (And.right (And.right (And.right (by with_reducible assumption))))) | exact Nat.ne_of_lt (And.left (And.right (And.right (And.right (And.right (by with_reducible assumption)))))) | exact Nat.ne_of_gt (And.left (And.right (And.right (And.right (And.right (by with_reducible assumption)))))) | exact Nat.ne_of_lt (And.left (And.right (And.right (And.right (And.right (And.right (by with_reducible assumption))))))) | exact Nat.ne_of_gt (And.left (And.right (And.right (And.right (And.right (And.right (by with_reducible assumption))))))) | exact Nat.ne_of_lt (And.left (And.right (And.right (And.right (And.right (And.right (And.right (by with_reducible assumption)))))))) | exact Nat.ne_of_gt (And.left (And.right (And.right (And.right (And.right (And.right (And.right (by with_reducible assumption)))))))) | k_ne) (by k_upd)
            k_with "getAttr ref" => k_dflt (refine get_opq (by k_asm) (by k_asm) (by k_asm) (by first | with_reducible assumption | k_memK | k_mem) (by first | with_reducible assumption | k_memK | k_mem) (by with_reducible assumption) (by k_is) (by k_is) (by k_is) (by k_is) (by k_get) (by k_handed) ?_)
            k_with "getMethod ref" => k_dflt (refine meth_opq (by k_asm) (by k_asm) (by k_asm) (by first | with_reducible assumption | k_memK | k_mem) (by first | with_reducible assumption | k_memK | k_mem) (by with_reducible assumption) (by k_is) (by k_is) (by k_is) (by k_get) ?_)
            k_with "setItem ref int" => (k_dflt (refine kda_set (knd := intKind _ _) (by k_asm) (by k_asm) (by k_updF) (by with_reducible assumption) (intKind_is _ _ _ _) (by (try rw [List.length_map]); rw [sizeLine_eq]; omega) ?_); intro h' o' F' N' hd'; (try dsimp only at N'))
            k_with "subscriptTail" => ((with_reducible show wpAny _ _ (subscriptTail _ _ (Value.ref _) (Value.int _ _)) _ _ _); k_dflt (refine kda_item (knd := intKind _ _) (by k_asm) (by first | with_reducible assumption | k_memK | k_mem) (by with_reducible assumption) (intKind_is _ _ _ _) (by with_reducible exact hvst _) ?_))
            k_with "subscriptTail" => ((with_reducible show wpAny _ _ (subscriptTail _ _ (Value.ref _) (Value.int _ _)) _ _ _); k_dflt (refine kda_item (knd := intKind _ _) (by k_asm) (by first | with_reducible assumption | k_memK | k_mem) (by with_reducible assumption) (intKind_is _ _ _ _) (by with_reducible assumption) ?_))
            k_with "getItem ref int" => k_dflt (refine kdt_getItem (knd := intKind _ _) (by k_asm) (by first | with_reducible assumption | k_memK | k_mem) (by with_reducible assumption) (intKind_is _ _ _ _) (by with_reducible assumption) ?_)
            k_with "subscriptTail" => ((with_reducible show wpAny _ _ (subscriptTail _ _ (Value.ref _) (Value.int _ _)) _ _ _); k_dflt (refine item_lst (by k_asm) (by first | with_reducible assumption | k_memK | k_mem) (by decide) (by decide) (by rfl) ?_))
            k_with "compareOp Eq int int" => (refine eq_int_no hv ?_)
            k_with "call ref" => ((with_reducible show wpAny _ _ (call (Value.ref 98) _) _ _ _); k_dflt (refine append_more (by k_asm) (by k_asm) (by k_asm) (by exact rfl) (by ktr_room) (news_sub (l' := led) (by k_asm) (fun p hp => List.mem_cons_of_mem _ (List.mem_cons_of_mem _ hp))) hS hSD ⟨_, hso⟩ hRD hrd hnewx (by rw [List.length_map]; omega) hp1 hp2 ⟨_, hp3⟩ n1 n2 n3 n4 n5 n6 n7 n8 n9 hf hvl hrx hrdx hrro e1 e2 e3 e4 e5 e6 e7 e8 e9 n2 (fun x dx ro' so' rdo' po' rro' h' tk' newsP F' N' hx' hdx' hro' hSD' hso' hRD' hrd' hpd' hpo' hrdx' hrro' hkeep hlt hlt2 => stop_here ?_) (by k_asm)))
            obtain ⟨r, hr, hrl1, hrf⟩ := bd.last hσ hf
            obtain ⟨hrx, ⟨rro, hrdx, hrro⟩, rwr, hrrw, τw, hrwo⟩ := st.hrs r hr
            subst hrwo
            have hvl := st.vx hr
            have hvlr := st.vr hr
            rw [hrl1] at hvl hvlr
            have hvst := fun v => valueAt_stored (v := v) hnewr hvlr
            obtain ⟨s1, s2, s3⟩ := st.rrec r hr
            obtain ⟨g1, g2, g3⟩ := st.rside σ hσ
            obtain ⟨f1, f2, f3, f4, f5, f6, f7, f8⟩ := id st.fx
            have e1 : @Ne Addr r.x X.SD := ne_role s1 f4 (by simp)
            have e2 : @Ne Addr r.x X.RD := ne_role s1 f5 (by simp)
            have e3 : @Ne Addr r.x σ.pd := ne_role s1 g2 (by simp)
            have e4 : @Ne Addr r.x r.dx := ne_role s1 s2 (by simp)
            have e5 : @Ne Addr r.dx X.SD := ne_role s2 f4 (by simp)
            have e6 : @Ne Addr r.dx X.RD := ne_role s2 f5 (by simp)
            have e7 : @Ne Addr r.dx σ.pd := ne_role s2 g2 (by simp)
            have e8 : @Ne Addr r.dx σ.p := ne_role s2 g1 (by simp)
            have e9 : @Ne Addr r.dx X.S := ne_role s2 f3 (by simp)
            have w1 : @Ne Addr r.rw X.SD := ne_role s3 f4 (by simp)
            have w2 : @Ne Addr r.rw X.RD := ne_role s3 f5 (by simp)
            have w3 : @Ne Addr r.rw σ.pd := ne_role s3 g2 (by simp)
            have w4 : @Ne Addr r.rw r.dx := ne_role s3 s2 (by simp)
            have w5 : @Ne Addr r.rw X.RW := ne_role s3 f6 (by simp)
            have w6 : @Ne Addr r.rw σ.ow := ne_role s3 g3 (by simp)
            have w7 : @Ne Addr r.dx X.RW := ne_role s2 f6 (by simp)
            have w8 : @Ne Addr r.dx σ.ow := ne_role s2 g3 (by simp)
            clear f1 f2 f3 f4 f5 f6 f7 f8 g1 g2 g3 s1 s2 s3
            k_steps
            refine ⟨?_⟩
            try dsimp only at F' N' ⊢
            try k_fold
            have b1 : X.RW < dx := hlt _ hRW
            have b2 : σ.ow < dx := hlt _ ho1
            have b3 : dx < x := hlt2
            have b4 : r.rw < dx := hlt _ hrrw
            have hRW2 := hkeep _ hRW d1 d2 d3 (Ne.symm w7)
            have how2 := hkeep _ ho1 d5 d6 d7 (Ne.symm w8)
            have hrrw2 := hkeep _ hrrw w1 w2 w3 w4
            obtain ⟨τn, hro2⟩ := id hro'
            dsimp only at hro2
            have N5 := news_add N' hRW2 (news_add N' how2 (news_add N' hx' (news_add N' hdx' (news_add N' hrrw2 (news_drop N' [X.RW, σ.ow, r.rw])))))
            clear N'
            k_steps
            rename Fr _ _ _ _ => Fz
            rename News _ _ _ _ => Nz
            rename Obj.IsDictOf _ _ (stored _ _ _) => hdz
            rw [stored_new hnewr] at hdz
            obtain ⟨R, S', hRS⟩ := List.append_of_mem hr
            rw [hAB, hRS] at st bd
            rw [hRS] at hrl hlen hdz hrd'
            rw [List.length_append, List.length_cons] at hrl hlen
            exact bj_end Fz Nz
              (st.add_link (n := ⟨nxt, x, dx, _, nxt, σ.f, gen + 1, -1, -1⟩) (σ' := ⟨σ.f, σ.ow, σ.p, σ.pd, σ.kind, σ.first, nxt⟩) (r' := ⟨r.place, r.x, r.dx, r.rw, r.key, r.functor, r.birth, r.death, nxt⟩) ⟨rfl, rfl, rfl, rfl⟩ ⟨rfl, rfl, rfl, rfl⟩ hlt hlt2 (by dsimp only; omega)
                (fun p hp h1 h2 h3 h4 h5 h6 h7 => .tail _ (.tail _ (.tail _ (.tail _ (.tail _ (.tail _ (dl3 (hkeep p hp h1 h2 h4 h6) h3 h5 h7))))))) ⟨_, .tail _ (.tail _ (.tail _ (.tail _ (.tail _ (.tail _ (dl3 hSD' (Ne.symm d1) (Ne.symm d5) (Ne.symm w1))))))), hso'⟩ (by omega)
                ⟨_, .tail _ (.tail _ (.tail _ (.tail _ (.tail _ (.tail _ (dl3 hRD' (Ne.symm d2) (Ne.symm d6) (Ne.symm w2))))))), hrd'⟩ ⟨_, by k_mem, hdz⟩ ⟨_, .tail _ (.tail _ (.tail _ (.tail _ (.tail _ (.tail _ (dl3 hpd' (Ne.symm d3) (Ne.symm d7) (Ne.symm w3))))))), hpo'⟩ ⟨_, by k_mem, ownObj rfl⟩ (by rw [List.length_append, List.length_cons]; omega)
                ⟨_, .tail _ (.tail _ (.tail _ (.tail _ (.tail _ (.tail _ (dl3 hrdx' w7 w8 (Ne.symm w4))))))), hrro'⟩ ⟨_, by k_mem, rowObj rfl⟩ (by k_mem) ⟨_, by k_mem, hro'⟩ ⟨_, by k_mem, rowObj rfl⟩)
              (bd.more hf hrl1 hrf rfl) (by rw [List.length_append, List.length_append, List.length_cons, List.length_singleton]; omega) (by omega) (by rfl) (by rfl) (by rfl) (by rfl) (by rfl) (by rfl) (by rfl)
    · clear hr F1 N1 st bd
      intro m₁ nx h tk ρ recs σs gen nxt tn st bd hrl hgl c1 c2 c3 c4 c5 c6 c7 F₁ N₁
      k_with_none
      k_with "k_all" => first | with_reducible assumption | exact List.forall_mem_nil _ | ((with_reducible refine dropL_ne ?_); k_memK) | with_reducible exact all_ne_of_allLt (by assumption) | with_reducible exact all_ne_of_lt (by assumption) | exact List.forall_mem_cons.mpr ⟨by first | with_reducible assumption | exact Ne.symm (by with_reducible assumption) | exact Nat.ne_of_lt (by with_reducible assumption) | exact Nat.ne_of_gt (by with_reducible assumption) | exact Nat.ne_of_lt (And.left (by with_reducible assumption)) | exact Nat.ne_of_gt (And.left (by with_reducible assumption)) | exact Nat.ne_of_lt (And.left (And.right (by with_reducible assumption))) | exact Nat.ne_of_gt (And.left (And.right (by with_reducible assumption))) | exact Nat.ne_of_lt (And.left (And.right (And.right (by with_reducible assumption)))) | exact Nat.ne_of_gt (And.left (And.right (And.right (by with_reducible assumption)))) | exact Nat.ne_of_lt (And.left (And.right (And.right (And.right (by with_reducible assumption))))) | exact Nat.ne_of_gt (And.left (And.right (And.right (And.right (by with_reducible assumption))))) | exact Nat.ne_of_lt (And.left (And.right (And.right (And.right (And.right (by with_reducible assumption)))))) | exact Nat.ne_of_gt (And.left (And.right (And.right (And.right (And.right (by with_reducible assumption)))))) | exact Nat.ne_of_lt (And.left (And.right (And.right (And.right (And.right (And.right (by with_reducible assumption))))))) | exact Nat.ne_of_gt (And.left (And.right (And.right (And.right (And.right (And.right (by with_reducible assumption))))))) | exact Nat.ne_of_lt (And.left (And.right (And.right (And.right (And.right (And.right (And.right (by with_reducible assumption)))))))) | exact Nat.ne_of_gt (And.left (And.right (And.right (And.right (And.right (And.right (And.right (by with_reducible assumption)))))))) | k_ne, by k_all⟩
      k_with "k_updF" => first | exact UpdF.head (by k_all) | exact UpdF.tail (by first | with_reducible assumption | exact Ne.symm (by with_reducible assumption) | exact Nat.ne_of_lt (by with_reducible assumption) | exact Nat.ne_of_gt (by with_reducible assumption) | exact Nat.ne_of_lt (And.left (by with_reducible assumption)) | exact Nat.ne_of_gt (And.left (by with_reducible assumption)) | exact Nat.ne_of_lt (And.left (And.right (by with_reducible assumption))) | exact Nat.ne_of_gt (And.left (And.right (by with_reducible assumption))) | exact Nat.ne_of_lt (And.left (And.right (And.right (by with_reducible assumption)))) | exact Nat.ne_of_gt (And.left (And.right (And.right (by with_reducible assumption)))) | exact Nat.ne_of_lt (And.left (And.right (And.right (And.right (by with_reducible assumption))))) | exact Nat.ne_of_gt (And.left (And.right (And.right (And.right (by with_reducible assumption))))) | exact Nat.ne_of_lt (And.left (And.right (And.right (And.right (And.right (by with_reducible assumption)))))) | exact Nat.ne_of_gt (And.left (And.right (And.right (And.right (And.right (by with_reducible assumption)))))) | exact Nat.ne_of_lt (And.left (And.right (And.right (And.right (And.right (And.right (by with_reducible assumption))))))) | exact Nat.ne_of_gt (And.left (And.right (And.right (And.right (And.right (And.right (by with_reducible assumption))))))) | exact Nat.ne_of_lt (And.left (And.right (And.right (And.right (And.right (And.right (And.right (by with_reducible assumption)))))))) | exact Nat.ne_of_gt (And.left (And.right (And.right (And.right (And.right (And.right (And.right (by with_reducible assumption)))))))) | k_ne) (by k_updF)
      k_with "k_upd" => first | exact Upd.head (by k_all) | exact Upd.tail (by first | with_reducible assumption | exact Ne.symm (by with_reducible assumption) | exact Nat.ne_of_lt (by with_reducible assumption) | exact Nat.ne_of_gt (by with_reducible assumption) | exact Nat.ne_of_lt (And.left (by with_reducible assumption)) | exact Nat.ne_of_gt (And.left (by with_reducible assumption)) | exact Nat.ne_of_lt (And.left (And.right (by with_reducible assumption))) | exact Nat.ne_of_gt (And.left (And.right (by with_reducible assumption))) | exact Nat.ne_of_lt (And.left (And.right (And.right (by with_reducible assumption)))) | exact Nat.ne_of_gt (And.left (And.right (And.right (by with_reducible assumption)))) | exact Nat.ne_of_lt (And.left (And.right (And.right (And.right (by with_reducible assumption))))) | exact Nat.ne_of_gt (And.left (And.right (And.right (And.right (by with_reducible assumption))))) | exact Nat.ne_of_lt (And.left (And.right (And.right (And.right (And.right (by with_reducible assumption)))))) | exact Nat.ne_of_gt (And.left (And.right (And.right (And.right (And.right (by with_reducible assumption)))))) | exact Nat.ne_of_lt (And.left (And.right (And.right (And.right (And.right (And.right (by with_reducible assumption))))))) | exact Nat.ne_of_gt (And.left (And.right (And.right (And.right (And.right (And.right (by with_reducible assumption))))))) | exact Nat.ne_of_lt (And.left (And.right (And.right (And.right (And.right (And.right (And.right (by with_reducible assumption)))))))) | exact Nat.ne_of_gt (And.left (And.right (And.right (And.right (And.right (And.right (And.right (by with_reducible assumption)))))))) | k_ne) (by k_upd)
      k_with "call ref" => ((with_reducible show wpAny _ _ (call (Value.ref 175) _) _ _ _); k_dflt (refine check_true (by k_asm) (by k_asm) (by k_asm) (by exact rfl) (by ktr_room) (by ktr_units) (by k_asm) st bd (fun h' tk' F' N' => ?_) (by k_asm)))
      k_with "exec For Name Call cons nil" => refine stop_here ?_
      k_with "pyIter ref" => refine stop_here ?_
      have F₂ := fr7d F₁ c1 c2 c3 c4 c5 c6 c7
      clear F₁ c1 c2 c3 c4 c5 c6 c7
      replace v1h : v1 < 1000 := by omega
      try k_fold
      k_steps
      refine ⟨?_⟩
      rename Fr _ _ _ _ => F0
      rename News _ _ _ _ => N0
      with_unfolding_all refine For_invVF F0 (by exact rfl) (by exact rfl) ?_
      try k_fold
      k_steps
      refine ⟨?_⟩
      rename IsRange _ _ _ _ _ _ _ _ => hr
      rename Fr _ _ _ _ => F1
      rename News _ _ _ _ => N1
      refine sj_iter st (by omega) (by rfl) hr (by omega) (by omega) F1 N1 (by rfl) (by rfl) (by rfl) (by rfl) (by rfl) (by rfl) ?_ ?_
      · skip
        k_with "call ref" => ((with_reducible show wpAny _ _ (call (Value.ref 196) _) _ _ _); k_dflt (refine spoil_lit (by k_asm) (by k_asm) (by k_asm) (by exact rfl) (by ktr_room) (by ktr_units) (by k_asm) st hrl (fun recs' σs' news' h' tk' F' N' st' hl => stop_here ?_) (by k_asm)))
        clear hr F1 N1 st bd hrl hgl
        intro i tv m₁ nx h tk own ρ recs σs nxt hoff st hrl c1 c2 c3 c4 c5 c6 F₁ N₁
        have F₂ := fr6 F₁ c1 c2 c3 c4 c5 c6
        replace st := st.reown hoff
        clear F₁ c1 c2 c3 c4 c5 c6 hoff
        revert F₂ N₁ st
        generalize nx ++ own = news
        generalize offRole ρ (own.map (·.1)) = ρ'
        intro F₂ N₁ st
        try k_fold
        k_steps
        refine ⟨?_⟩
        try dsimp only at F' N' ⊢
        k_steps
        rename Fr _ _ _ _ => Fz
        rename News _ _ _ _ => Nz
        exact sj_end Fz Nz st' (by omega) (by rfl) (by rfl) (by rfl) (by rfl) (by rfl) (by rfl)
      · skip
        k_with "call ref" => ((with_reducible show wpAny _ _ (call (Value.ref 175) _) _ _ _); k_dflt (refine check_use (by k_asm) (by k_asm) (by k_asm) (by exact rfl) (by ktr_room) (by ktr_units) (by k_asm) st (fun h' tk' F' N' => ?_) (by k_asm)))
        k_with "call ref" => ((with_reducible show wpAny _ _ (call (Value.ref 189) _) _ _ _); k_dflt (refine lsound_use (by k_asm) (by k_asm) (by k_asm) (by exact rfl) (by ktr_room) (by ktr_units) (by k_asm) st (fun h' tk' F' N' => ?_) (by k_asm)))
        clear hr F1 N1 st bd hrl hgl
        intro m₁ nx h tk ρ recs σs nxt st hrl c1 c2 c3 c4 c5 c6 F₁ N₁
        have F₂ := fr6d F₁ c1 c2 c3 c4 c5 c6
        clear F₁ c1 c2 c3 c4 c5 c6
        try k_fold
        k_steps)
end Mine
end
theorem PySem.Challenge.cw_no0154_01_holds : PySem.Challenge.rw_no0154_01.Holds := by
  exact Mine.law_all
