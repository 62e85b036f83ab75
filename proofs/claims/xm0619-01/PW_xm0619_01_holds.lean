import PyProof.Rows.All
import Wide.All
import OpenK.AllK
import Wide.FinOn
import PySem.Challenge.RW_xm0619_01
set_option Elab.async false
set_option compiler.extract_closed false
open PySem PySem.W PyProof.Rows
namespace Mine
section
set_option maxRecDepth 100000
set_option maxHeartbeats 8000000
/-- the looks at the law -/
theorem said : PySem.Challenge.rw_xm0619_01.wellSaid = true := by
  rw [Fast.te9446332074065402090]
  kernel_rfl
-- the top's run is shown at once by the kernel, over the library's quick twins (the pieces of «open_top» cost 8 MB of compiled text)
local macro_rules | `(tactic| refine $e) => `(tactic| (refine' $e; try (focus (intro w; (with_reducible show Option.map _ (openEnds _ _ _ _) = _); unfold openEnds fencedOpening topFrom; rw [Fast.te10274390034422433532, Fast.te1435165496053646825, Fast.te14289696077712309145, Fast.te14082659384304107361, Fast.te14364793385576792824, Fast.te4187177175401517315, Fast.te5923862056798008813]; kernel_rfl))))
local macro_rules | `(tactic| o_law) => `(tactic| refine' holds_law said fun _ => ?_)
open_top hd for PySem.Challenge.rw_xm0619_01
theorem walk_off : True := by
  w_top off
  trivial
end
section
theorem neAll {led : List (Addr × Obj)} {a b : Nat} {o : Obj} (h : ∀ p ∈ led, p.1 < b) (m : (a, o) ∈ led) : a ≠ b := Nat.ne_of_lt (h _ m)
theorem neAll' {led : List (Addr × Obj)} {a b : Nat} {o : Obj} (h : ∀ p ∈ led, p.1 < b) (m : (a, o) ∈ led) : b ≠ a := Nat.ne_of_gt (h _ m)
theorem neTwo {led : List (Addr × Obj)} {a b c : Nat} {o : Obj} (l : c < b) (h : ∀ p ∈ led, p.1 < c) (m : (a, o) ∈ led) : a ≠ b := Nat.ne_of_lt (Nat.lt_trans (h _ m) l)
theorem neTwo' {led : List (Addr × Obj)} {a b c : Nat} {o : Obj} (l : c < b) (h : ∀ p ∈ led, p.1 < c) (m : (a, o) ∈ led) : b ≠ a := Nat.ne_of_gt (Nat.lt_trans (h _ m) l)
theorem neL {led : List (Addr × Obj)} {a b : Nat} {o : Obj} (h : ∀ p ∈ led, p.1 ≠ b) (m : (a, o) ∈ led) : a ≠ b := h _ m
theorem neL' {led : List (Addr × Obj)} {a b : Nat} {o : Obj} (h : ∀ p ∈ led, p.1 ≠ b) (m : (a, o) ∈ led) : b ≠ a := Ne.symm (h _ m)
theorem rm0 {d a n : Nat} (h : a + n < recursionLimit) (e : d = a) : d < recursionLimit := by subst e; exact Nat.lt_of_le_of_lt (Nat.le_add_right _ _) h
theorem rm1 {d a n : Nat} {x : Nat} (h : a + n < recursionLimit) (e : d = a) (b : Nat.ble (x) n = true) : d + x < recursionLimit := by subst e; have b := Nat.le_of_ble_eq_true b; omega
theorem rm2 {d a n : Nat} {x y : Nat} (h : a + n < recursionLimit) (e : d = a) (b : Nat.ble (x + y) n = true) : d + x + y < recursionLimit := by subst e; have b := Nat.le_of_ble_eq_true b; omega
theorem rm3 {d a n : Nat} {x y z : Nat} (h : a + n < recursionLimit) (e : d = a) (b : Nat.ble (x + y + z) n = true) : d + x + y + z < recursionLimit := by subst e; have b := Nat.le_of_ble_eq_true b; omega
theorem un0 {d a n : Nat} (h : a + n < cLine) (e : d = a) : d < cLine := by subst e; exact Nat.lt_of_le_of_lt (Nat.le_add_right _ _) h
theorem un1 {d a n : Nat} {x : Nat} (h : a + n < cLine) (e : d = a) (b : Nat.ble (x) n = true) : d + x < cLine := by subst e; have b := Nat.le_of_ble_eq_true b; omega
theorem un2 {d a n : Nat} {x y : Nat} (h : a + n < cLine) (e : d = a) (b : Nat.ble (x + y) n = true) : d + x + y < cLine := by subst e; have b := Nat.le_of_ble_eq_true b; omega
theorem un3 {d a n : Nat} {x y z : Nat} (h : a + n < cLine) (e : d = a) (b : Nat.ble (x + y + z) n = true) : d + x + y + z < cLine := by subst e; have b := Nat.le_of_ble_eq_true b; omega
local macro_rules | `(tactic| k_lt $h) => `(tactic| ((have hA9 := $h); (replace $h := allLt_of $h); dsimp only [AllLt] at $h:ident))
local macro_rules | `(tactic| k_ne) => `(tactic| (refine neN ?_; (try dsimp only); first | (with_reducible assumption) | (exact Ne.symm (by with_reducible assumption)) | exact Nat.ne_of_lt (by with_reducible assumption) | exact Nat.ne_of_gt (by with_reducible assumption) | exact neAll (by with_reducible assumption) (by k_mem) | exact neAll' (by with_reducible assumption) (by k_mem) | exact neL (by with_reducible assumption) (by k_mem) | exact neL' (by with_reducible assumption) (by k_mem) | exact neTwo (by with_reducible assumption) (by with_reducible assumption) (by k_mem) | exact neTwo' (by with_reducible assumption) (by with_reducible assumption) (by k_mem) | omega))
local macro_rules | `(tactic| ktr_room) => `(tactic| first | exact rm2 (by assumption) rfl (by exact rfl) | exact rm1 (by assumption) rfl (by exact rfl) | exact rm3 (by assumption) rfl (by exact rfl) | exact rm0 (by assumption) rfl)
local macro_rules | `(tactic| ktr_units) => `(tactic| first | exact un2 (by assumption) rfl (by exact rfl) | exact un1 (by assumption) rfl (by exact rfl) | exact un3 (by assumption) rfl (by exact rfl) | exact un0 (by assumption) rfl)
section
section
set_option maxRecDepth 100000
set_option maxHeartbeats 8000000
noncomputable abbrev PG : Program := PySem.Challenge.rw_xm0619_01.row.prog

/-- everything of h₁ but two objects stands in h -/
noncomputable def Rig (h₁ : Heap) (d an : Addr) (h : Heap) : Prop := ∀ b o, h₁.get? b = some o → b ≠ d → b ≠ an → h.get? b = some o
theorem Rig.refl (h : Heap) (d an : Addr) : Rig h d an h := fun _ _ e _ _ => e
theorem Rig.fr {h₁ g h : Heap} {d an L : Addr} {m : Str → Option Value} (R : Rig h₁ d an g) (F : Fr g L h m) : Rig h₁ d an h := fun b o e h1 h2 => F.keep b o (R b o e h1 h2)
theorem Rig.sub {h₁ h g : Heap} {d an : Addr} {o1 o2 : Obj} (R : Rig h₁ d an h) (G : GSub h g ([(d, o1), (an, o2)].map (·.1))) : Rig h₁ d an g :=
  fun b o e h1 h2 => G b o (R b o e h1 h2) (by simp [h1, h2])
theorem Rig.trans {h₁ h₂ h₃ : Heap} {d an : Addr} (R : Rig h₁ d an h₂) (S : Rig h₂ d an h₃) : Rig h₁ d an h₃ := fun b o e h1 h2 => S b o (R b o e h1 h2) h1 h2
theorem Rig.of {h g h' : Heap} {d an L : Addr} {o1 o2 : Obj} {m : Str → Option Value} (G : GSub h g ([(d, o1), (an, o2)].map (·.1))) (F : Fr g L h' m) : Rig h d an h' := ((Rig.refl h d an).sub G).fr F

/-- the entries of a ledger that are neither of the two stand behind a call that turns the two alone -/
theorem news_rig {h₀ h h' : Heap} {L d an : Addr} {o1 o2 : Obj} {led rest : List (Addr × Obj)} (N : News h₀ L h led) (R : Rig h d an h') (N2 : News h₀ L h' [(d, o1), (an, o2)])
    (hr : ∀ p ∈ rest, p ∈ led ∧ p.1 ≠ d ∧ p.1 ≠ an) : News h₀ L h' ((d, o1) :: (an, o2) :: rest) := by
  intro p hp
  rcases List.mem_cons.mp hp with rfl | hp
  · exact N2 _ (.head _)
  rcases List.mem_cons.mp hp with rfl | hp
  · exact N2 _ (.tail _ (.head _))
  obtain ⟨h1, h2, h3⟩ := hr p hp
  have n := N p h1
  exact ⟨R _ _ n.1 h2 h3, n.2⟩
theorem news_sub2 {h₀ h : Heap} {L d an : Addr} {o1 o2 : Obj} {led : List (Addr × Obj)} (N : News h₀ L h led) (h1 : (d, o1) ∈ led) (h2 : (an, o2) ∈ led) : News h₀ L h [(d, o1), (an, o2)] := by
  intro p hp
  rcases List.mem_cons.mp hp with rfl | hp
  · exact N _ h1
  · rw [List.mem_singleton.mp hp]; exact N _ h2

theorem news_upd2 {h₀ h h' : Heap} {L d an : Addr} {o1 o2 o1' o2' : Obj} {led : List (Addr × Obj)} {g1 g2 : Obj → List (Addr × Obj)} (N : News h₀ L h led) (U1 : UpdF d o1 led g1) (U2 : UpdF an o2 (g1 o1') g2)
    (R : Rig h d an h') (N2 : News h₀ L h' [(d, o1'), (an, o2')]) : News h₀ L h' (g2 o2') := by
  obtain ⟨pre, post, rfl, hg, a, b⟩ := U1.split
  obtain ⟨pre', post', e', hg', a', b'⟩ := U2.split
  rw [hg] at e'
  intro p hp
  rw [hg'] at hp
  have h1 := N2 (d, o1') (.head _)
  have h2 := N2 (an, o2') (.tail _ (.head _))
  have old : ∀ q : Addr × Obj, q ∈ pre ++ (d, o1') :: post → q.1 ≠ an → h'.get? q.1 = some q.2 ∧ q.1 ≠ L ∧ h₀.get? q.1 = none := by
    intro q hq hn
    rcases List.mem_append.mp hq with hq | hq
    · have n := N q (List.mem_append_left _ hq)
      exact ⟨R _ _ n.1 (a q hq) hn, n.2⟩
    · rcases List.mem_cons.mp hq with rfl | hq
      · exact h1
      · have n := N q (List.mem_append_right _ (.tail _ hq))
        exact ⟨R _ _ n.1 (b q hq) hn, n.2⟩
  rcases List.mem_append.mp hp with hp | hp
  · exact old p (by rw [e']; exact List.mem_append_left _ hp) (a' p hp)
  · rcases List.mem_cons.mp hp with rfl | hp
    · exact h2
    · exact old p (by rw [e']; exact List.mem_append_right _ (.tail _ hp)) (b' p hp)

theorem fresh_of {h g h' : Heap} {d an L b : Addr} {o o1 o2 : Obj} {news : List (Addr × Obj)} (G : GSub h g ([(d, o1), (an, o2)].map (·.1))) (N : News g L h' news) (hm : (b, o) ∈ news) (h1 : b ≠ d) (h2 : b ≠ an) : h.get? b = none := by
  cases e : h.get? b with
  | none => rfl
  | some x =>
    have := (N _ hm).2.2
    rw [G b x e (by simp [h1, h2])] at this
    cases this
noncomputable def AllNe (d : Addr) : List (Addr × Obj) → Prop
  | [] => True
  | p :: r => @Ne Nat p.1 d ∧ AllNe d r
theorem allNe_of {h₀ h : Heap} {L d : Addr} : ∀ {news : List (Addr × Obj)}, News h₀ L h news → h.get? d = none → AllNe d news
  | [], _, _ => trivial
  | p :: r, N, e => ⟨(fun q => by have z := (N p (.head _)).1; rw [show p.1 = d from q, e] at z; exact nomatch z), allNe_of (fun q hq => N q (.tail _ hq)) e⟩

/-- the dict of the things: at the keys fi .. fi + n - 1 the ints f k -/
noncomputable def LieObj (w : World) (o : Obj) (fi : Int) (n : Nat) (f : Int → Int) : Prop :=
  ∃ kvs : List (Int × Value), o.IsDictOf (intKind PG w) kvs ∧ kvs.length ≤ 64 ∧ ∀ k, fi ≤ k → k < fi + n → ∃ t, valueAt kvs k = some (.int (f k) t)

theorem valueAt_map (kvs : List (Int × Value)) (k : Int) (v : Value) (j : Int) :
    valueAt (kvs.map fun kv => if kv.1 = k then (kv.1, v) else kv) j = if j = k then (valueAt kvs j).map (fun _ => v) else valueAt kvs j := by
  induction kvs with
  | nil => by_cases e : j = k <;> simp [e, valueAt]
  | cons kv r ih =>
    unfold valueAt at ih ⊢
    simp only [List.map_cons, List.find?_cons]
    by_cases h1 : kv.1 = k
    · simp only [h1, if_true]
      by_cases e : j = k
      · subst e; simp
      · have : ¬ k = j := fun q => e q.symm
        simp only [this, decide_false, if_neg e] at ih ⊢
        exact ih
    · simp only [if_neg h1]
      by_cases e2 : kv.1 = j
      · have : ¬ j = k := fun q => h1 (e2.trans q)
        simp [e2, this]
      · simp only [e2, decide_false]
        exact ih
theorem mem_of_valueAt {kvs : List (Int × Value)} {k : Int} {v : Value} (h : valueAt kvs k = some v) : kvs.any (fun kv => decide (kv.1 = k)) = true := by
  unfold valueAt at h
  cases e : kvs.find? (fun kv => decide (kv.1 = k)) with
  | none => rw [e] at h; cases h
  | some p => exact List.any_eq_true.mpr ⟨p, List.mem_of_find?_eq_some e, by simpa using List.find?_some e⟩

/-- f with one place turned -/
noncomputable def put (f : Int → Int) (k v : Int) : Int → Int := fun j => if j = k then v else f j

section
variable {w : World} {A : Around} {E : Value → Shared → Prop} {s : Shared} {h₀ : Heap} {L d : Addr} {m : Str → Option Value} {news news' : List (Addr × Obj)} {o : Obj} {fi : Int} {n : Nat} {f : Int → Int}

theorem lie_item {value slice : Expr} {k : Int} {t : Tok} {Q : Value → Shared → Prop} (N : News h₀ L s.heap news) (hm : (d, o) ∈ news) (hl : LieObj w o fi n f) (h1 : fi ≤ k) (h2 : k < fi + n)
    (h : ∀ t', Q (.int (f k) t') { s with toks := s.toks + 1 })
    (hs : subscripted slice false (.ref d) (.int k t) = operate [.ref d, .int k t] (getItem (.ref d) (.int k t)) := by with_unfolding_all rfl) :
    wpAny (model PG w) A (subscriptTail value slice (.ref d) (.int k t)) Q E s := by
  obtain ⟨kvs, hd, _, hv⟩ := hl
  obtain ⟨t', e⟩ := hv k h1 h2
  have hm := (Heap.dictOf_iff.mpr ⟨o, (N _ hm).1, hd⟩ : s.heap.DictOf (intKind PG w) d kvs).mapOf
  exact tail_any hm.typeIs slot_dict_getitem.lookup (wpAny_getItem_of (intKind_is _ _ _ _) hm e (h t')) hs

theorem lie_store {k v : Int} {t u : Tok} {g : Obj → List (Addr × Obj)} {Q : Unit → Shared → Prop} (F : Fr h₀ L s.heap m) (N : News h₀ L s.heap news) (U : UpdF d o news g) (hl : LieObj w o fi n f) (h1 : fi ≤ k) (h2 : k < fi + n)
    (h : ∀ h' o', Fr h₀ L h' m → News h₀ L h' (g o') → LieObj w o' fi n (put f k v) → Q () { s with heap := h', toks := s.toks + 1 }) :
    wpAny (model PG w) A (setItem (.ref d) (.int k t) (.int v u)) Q E s := by
  obtain ⟨kvs, hd, hz, hv⟩ := hl
  obtain ⟨t', e⟩ := hv k h1 h2
  refine kda_set F N U hd (intKind_is _ _ _ _) (by rw [sizeLine_eq]; omega) fun h' o' F' N' hd' => h h' o' F' N' ⟨_, hd', ?_, fun j hj1 hj2 => ?_⟩
  · unfold stored; rw [if_pos (mem_of_valueAt e)]; simpa using hz
  · unfold stored; rw [if_pos (mem_of_valueAt e), valueAt_map]
    by_cases ej : j = k
    · subst ej
      exact ⟨u, by simp [put, e]⟩
    · obtain ⟨tj, eq⟩ := hv j hj1 hj2
      exact ⟨tj, by simp [put, ej, eq]⟩
end
end
end
section
section
set_option maxRecDepth 100000
set_option maxHeartbeats 8000000
local macro_rules | `(tactic| k_all) => `(tactic| with_reducible assumption)
theorem pick_spec {w : World} {p : Program} {loose : List Str} {mean : ExcName → Option Value} {mg mb : Str → Option Value}
    {dp un : Nat} {gd : Option (List Code)} {cn : Str} {cs : Scope} {a : Addr} {ccd : Value} {cl : List (Str × Addr)} {outer : List Env} {A₀ : Around} {base h₀ : Heap} {L : Addr} {m : Str → Option Value} {s : Shared} {Q E : Value → Shared → Prop}
    {dk l : Addr} {ws : List Value} {ns : List Int} {t many : Int} {tt tm : Tok} {n c : Nat} {rest : List (Addr × Obj)}
    (B : Below A₀ base outer h₀) (F : Fr h₀ L s.heap m) (X : (Mine.hd.heap_1 w.params).In h₀) (T : Top p loose mean mg mb h₀) (hk : cs.kind = .function)
    (N : News h₀ L s.heap ((dk, W.listOf #[.ref l, .int t tt] n) :: (l, W.listOf ws.toArray c) :: rest))
    (hI : IntsAre ws ns) (hn : ns.length ≤ 9) (h1 : @LT.lt Nat _ l dk) (hr : ∀ p ∈ rest, p.1 ≠ dk) (t0 : 0 ≤ t) (t8 : t ≤ 8) (m0 : 0 < many) (m1 : many ≤ 10000)
    (hd : dp + 1 < recursionLimit) (hu : un + 8 < cLine)
    (hret : ∀ r tr h' tk' n' tt', 0 ≤ r → r < many → Fr h₀ L h' m → News h₀ L h' ((dk, W.listOf #[.ref l, .int (t + 1) tt'] n') :: (l, W.listOf ws.toArray c) :: rest) → Q (.int r tr) { s with heap := h', toks := tk' }) :
    wpAny (model PySem.Challenge.rw_xm0619_01.row.prog w) (ktrTop dp un gd cn cs L a ccd cl outer) (call (.ref 104) [.ref dk, .int many tm]) Q E s := by
  revert X; k_fill; intro X
  refine wpAny_call ?_
  k_dflt ktr_enter
  k_steps
  all_goals exact hret _ _ _ _ n _ (Int.fmod_nonneg_of_pos _ m0) (Int.fmod_lt_of_pos _ m0) (by k_asm) (by k_asm)
end
end
section
section
set_option maxRecDepth 100000
set_option maxHeartbeats 8000000
/-- a Quicksort object with its five functions, as it stands in h₁ apart from the two things that turn -/
structure Rigd (h₁ : Heap) (d an q fr fw fc fh fp : Addr) where
  qd : Addr
  es : List DictEntry
  n : Nat
  atq : h₁.get? q = some (instObj 93 qd)
  atd : h₁.get? qd = some (W.dictOf es n)
  get : getL (Str.ofString "get") es = some (some (.ref fr))
  put : getL (Str.ofString "put") es = some (some (.ref fw))
  less : getL (Str.ofString "less") es = some (some (.ref fc))
  hold : getL (Str.ofString "hold") es = some (some (.ref fh))
  drop : getL (Str.ofString "drop") es = some (some (.ref fp))
  two : getL (Str.ofString "order_two") es = some none
  mid : getL (Str.ofString "order_middle") es = some none
  up : getL (Str.ofString "go_up") es = some none
  down : getL (Str.ofString "go_down") es = some none
  part : getL (Str.ofString "part") es = some none
  fnr : FnAt fr h₁
  fnw : FnAt fw h₁
  fnc : FnAt fc h₁
  fnh : FnAt fh h₁
  fnp : FnAt fp h₁
  ne : ∀ b ∈ [q, qd, fr, fw, fc, fh, fp], b ≠ d ∧ b ≠ an

theorem fnAt_rig {h₁ h : Heap} {d an f : Addr} (X : FnAt f h₁) (R : Rig h₁ d an h) (n : f ≠ d ∧ f ≠ an) : FnAt f h :=
  let ⟨oc, od, fd, sl, e⟩ := X; ⟨oc, od, fd, sl, R _ _ e n.1 n.2⟩
section
variable {h₁ h : Heap} {d an q fr fw fc fh fp : Addr}
theorem Rigd.inst (D : Rigd h₁ d an q fr fw fc fh fp) (R : Rig h₁ d an h) : InstAt h q (instObj 93 D.qd) 93 (some (W.dictOf D.es D.n)) :=
  ⟨R _ _ D.atq (D.ne q (by simp)).1 (D.ne q (by simp)).2, rfl, rfl, R _ _ D.atd (D.ne D.qd (by simp)).1 (D.ne D.qd (by simp)).2⟩
theorem Rigd.fr_ (D : Rigd h₁ d an q fr fw fc fh fp) (R : Rig h₁ d an h) : FnAt fr h := fnAt_rig D.fnr R (D.ne fr (by simp))
theorem Rigd.fw_ (D : Rigd h₁ d an q fr fw fc fh fp) (R : Rig h₁ d an h) : FnAt fw h := fnAt_rig D.fnw R (D.ne fw (by simp))
theorem Rigd.fc_ (D : Rigd h₁ d an q fr fw fc fh fp) (R : Rig h₁ d an h) : FnAt fc h := fnAt_rig D.fnc R (D.ne fc (by simp))
theorem Rigd.fh_ (D : Rigd h₁ d an q fr fw fc fh fp) (R : Rig h₁ d an h) : FnAt fh h := fnAt_rig D.fnh R (D.ne fh (by simp))
theorem Rigd.fp_ (D : Rigd h₁ d an q fr fw fc fh fp) (R : Rig h₁ d an h) : FnAt fp h := fnAt_rig D.fnp R (D.ne fp (by simp))
end

section
variable {prog : Program} {w : World} {A : Around} {E : Value → Shared → Prop} {s : Shared} {K : Frag} {x C : Addr} {ox : Obj} {es : List DictEntry} {n : Nat} {name : Str} {v : Value}
/-- a function that the object's own dict holds: no self goes with it -/
theorem method_own {pl : Sem Bool} {Q : Value × List Value → Shared → Prop} (X : K.In s.heap) (I : InstAt s.heap x ox C (some (W.dictOf es n))) (hl : getL name es = some (some v)) (hg : plainGet K C name = true) (hh : hasDictIn K C = true)
    (ha : findIn K (.ref C) name = some none) (hv : handedIn v = true) (h : Q (v, []) { s with toks := s.toks + 1 }) : wpAny (model prog w) A (getMethod (.ref x) name pl) Q E s := by
  have hcan := PySem.F.canon_object_ga
  unfold getMethod specialOf
  refine wpAny_bind (wpAny_bind (I.type.here ((looks_findIn X (plainGet_of hg).1).here ?_)))
  dsimp only
  rw [hcan, if_neg (by decide)]
  refine wpAny_bind (wpAny_bind (I.type.here ((looks_findIn X (plainGet_of hg).2).here ?_)))
  refine wpAny_bind (wpAny_bind (I.type.here ((looks_findIn X ha).here ?_)))
  exact wpAny_bind (get_value X I (plainGet_of hg).1 (findObj_own hh ha rfl hl) hv (wpAny_pure h))
/-- a method of the class that the object's dict does not hide -/
theorem method_cls {pl : Sem Bool} {Q : Value × List Value → Shared → Prop} {f : Addr} (X : K.In s.heap) (I : InstAt s.heap x ox C (some (W.dictOf es n))) (hl : getL name es = some none) (hg : plainGet K C name = true)
    (hf : findIn K (.ref C) name = some (some (.ref f))) (ht : isFn K (.ref f) = true) (h : Q (.ref f, [.ref x]) s) : wpAny (model prog w) A (getMethod (.ref x) name pl) Q E s :=
  method_fn X I (plainGet_of hg).1 (plainGet_of hg).2 hf (beq_iff_eq.mp ht) (by show (lookIn name (W.dictOf es n)).map _ = _; rw [lookIn_dict, hl]; rfl) h
end

noncomputable def b2i (b : Bool) : Int := if b then 1 else 0

/-- what the five functions do, said of any caller -/
noncomputable abbrev AskFn (w : World) (p : Program) (loose : List Str) (mean : ExcName → Option Value) (mg mb : Str → Option Value) (h₁ : Heap) (d an : Addr) (f : Addr) (args : List Value) (od oa : Obj) (P : Prop) (B : Obj → Obj → Prop) (r : Value → Prop) : Prop :=
  ∀ (dp un : Nat) (gd : Option (List Code)) (cn : Str) (cs : Scope) (a : Addr) (ccd : Value) (cl : List (Str × Addr)) (outer : List Env) (A₀ : Around) (base h₀ : Heap) (L : Addr) (m : Str → Option Value) (s : Shared) (Q E : Value → Shared → Prop),
    Below A₀ base outer h₀ → Fr h₀ L s.heap m → (Mine.hd.heap_1 w.params).In h₀ → Top p loose mean mg mb h₀ → cs.kind = .function → Rig h₁ d an s.heap → News h₀ L s.heap [(d, od), (an, oa)] → P →
    dp + 2 < recursionLimit → un + 16 < cLine →
    (∀ v od' oa' h' tk', r v → B od' oa' → Fr h₀ L h' m → News h₀ L h' [(d, od'), (an, oa')] → Rig s.heap d an h' → Q v { s with heap := h', toks := tk' }) →
    wpAny (model PG w) (ktrTop dp un gd cn cs L a ccd cl outer) (call (.ref f) args) Q E s

structure Fns (w : World) (p : Program) (loose : List Str) (mean : ExcName → Option Value) (mg mb : Str → Option Value) (h₁ : Heap) (d an : Addr) (fi : Int) (n : Nat) (lt : Int → Int → Bool) (fr fw fc fh fp : Addr) : Prop where
  get : ∀ (k : Int) (t : Tok) (od oa : Obj) (f : Int → Int), AskFn w p loose mean mg mb h₁ d an fr [.int k t] od oa (LieObj w od fi n f ∧ fi ≤ k ∧ k < fi + n) (fun od' oa' => od' = od ∧ oa' = oa) (fun v => ∃ t', v = .int (f k) t')
  put : ∀ (k v : Int) (t u : Tok) (od oa : Obj) (f : Int → Int), AskFn w p loose mean mg mb h₁ d an fw [.int k t, .int v u] od oa (LieObj w od fi n f ∧ fi ≤ k ∧ k < fi + n) (fun od' oa' => LieObj w od' fi n (Mine.put f k v) ∧ oa' = oa) (fun v => v = .none)
  less : ∀ (x y : Int) (t u : Tok) (od : Obj) (ws : List Value) (as : List Int) (c : Nat), AskFn w p loose mean mg mb h₁ d an fc [.int x t, .int y u] od (W.listOf ws.toArray c) (IntsAre ws as ∧ as.length ≤ 100) (fun od' oa' => od' = od ∧ ∃ ws' c', oa' = W.listOf ws'.toArray c' ∧ IntsAre ws' (as ++ [b2i (lt x y)])) (fun v => v = .bool (lt x y))
  hold : ∀ (v : Value) (od oa : Obj), AskFn w p loose mean mg mb h₁ d an fh [v] od oa True (fun od' oa' => od' = od ∧ oa' = oa) (fun v => v = .none)
  drop : ∀ (od oa : Obj), AskFn w p loose mean mg mb h₁ d an fp [] od oa True (fun od' oa' => od' = od ∧ oa' = oa) (fun v => v = .none)
end
end
section
section
set_option maxRecDepth 100000
set_option maxHeartbeats 8000000
theorem news_same {h₀ h h' : Heap} {L d an : Addr} {o1 o2 : Obj} {led : List (Addr × Obj)} (N : News h₀ L h led) (m1 : (d, o1) ∈ led) (m2 : (an, o2) ∈ led) (R : Rig h d an h') (N2 : News h₀ L h' [(d, o1), (an, o2)]) : News h₀ L h' led := by
  intro p hp
  have n := N p hp
  by_cases h1 : p.1 = d
  · have e : p = (d, o1) := Prod.ext h1 (by have x := n.1; rw [h1, (N _ m1).1] at x; exact (Option.some.inj x).symm)
    rw [e]; exact N2 _ (.head _)
  · by_cases h2 : p.1 = an
    · have e : p = (an, o2) := Prod.ext h2 (by have x := n.1; rw [h2, (N _ m2).1] at x; exact (Option.some.inj x).symm)
      rw [e]; exact N2 _ (.tail _ (.head _))
    · exact ⟨R _ _ n.1 h1 h2, n.2⟩
theorem news_updA {h₀ h h' : Heap} {L d an : Addr} {o1 o2 o2' : Obj} {led : List (Addr × Obj)} {g : Obj → List (Addr × Obj)} (N : News h₀ L h led) (m1 : (d, o1) ∈ led) (U : UpdF an o2 led g)
    (R : Rig h d an h') (N2 : News h₀ L h' [(d, o1), (an, o2')]) : News h₀ L h' (g o2') := by
  obtain ⟨pre, post, rfl, hg, a, b⟩ := U.split
  intro p hp
  rw [hg] at hp
  have old : p ∈ pre ++ (an, o2) :: post → p.1 ≠ an → h'.get? p.1 = some p.2 ∧ p.1 ≠ L ∧ h₀.get? p.1 = none := by
    intro hq hn
    have n := N p hq
    by_cases h1 : p.1 = d
    · have e : p = (d, o1) := Prod.ext h1 (by have x := n.1; rw [h1, (N _ m1).1] at x; exact (Option.some.inj x).symm)
      rw [e]; exact N2 _ (.head _)
    · exact ⟨R _ _ n.1 h1 hn, n.2⟩
  rcases List.mem_append.mp hp with hp | hp
  · exact old (List.mem_append_left _ hp) (a p hp)
  · rcases List.mem_cons.mp hp with rfl | hp
    · exact N2 _ (.tail _ (.head _))
    · exact old (List.mem_append_right _ (.tail _ hp)) (b p hp)
theorem news_updD {h₀ h h' : Heap} {L d an : Addr} {o1 o2 o1' : Obj} {led : List (Addr × Obj)} {g : Obj → List (Addr × Obj)} (N : News h₀ L h led) (m2 : (an, o2) ∈ led) (U : UpdF d o1 led g)
    (R : Rig h d an h') (N2 : News h₀ L h' [(d, o1'), (an, o2)]) : News h₀ L h' (g o1') := by
  obtain ⟨pre, post, rfl, hg, a, b⟩ := U.split
  intro p hp
  rw [hg] at hp
  have old : p ∈ pre ++ (d, o1) :: post → p.1 ≠ d → h'.get? p.1 = some p.2 ∧ p.1 ≠ L ∧ h₀.get? p.1 = none := by
    intro hq hn
    have n := N p hq
    by_cases h1 : p.1 = an
    · have e : p = (an, o2) := Prod.ext h1 (by have x := n.1; rw [h1, (N _ m2).1] at x; exact (Option.some.inj x).symm)
      rw [e]; exact N2 _ (.tail _ (.head _))
    · exact ⟨R _ _ n.1 hn h1, n.2⟩
  rcases List.mem_append.mp hp with hp | hp
  · exact old (List.mem_append_left _ hp) (a p hp)
  · rcases List.mem_cons.mp hp with rfl | hp
    · exact N2 _ (.head _)
    · exact old (List.mem_append_right _ (.tail _ hp)) (b p hp)
theorem updF_mem {b : Addr} {o : Obj} {led : List (Addr × Obj)} {g : Obj → List (Addr × Obj)} (U : UpdF b o led g) : (b, o) ∈ led := by
  obtain ⟨pre, post, rfl, _⟩ := U.split
  exact List.mem_append_right _ (.head _)
theorem fget {w : World} {p : Program} {loose : List Str} {mean : ExcName → Option Value} {mg mb : Str → Option Value}
    {dp un : Nat} {gd : Option (List Code)} {cn : Str} {cs : Scope} {a : Addr} {ccd : Value} {cl : List (Str × Addr)} {outer : List Env} {A₀ : Around} {base h₀ : Heap} {L : Addr} {m : Str → Option Value} {s : Shared} {Q E : Value → Shared → Prop}
    {h₁ : Heap} {d an fr fw fc fh fp : Addr} {fi : Int} {n : Nat} {lt : Int → Int → Bool} {led : List (Addr × Obj)} {od oa : Obj} {f : Int → Int} {k x : Int} {t : Tok}
    (Fn : Fns w p loose mean mg mb h₁ d an fi n lt fr fw fc fh fp)
    (B : Below A₀ base outer h₀) (F : Fr h₀ L s.heap m) (X : (Mine.hd.heap_1 w.params).In h₀) (T : Top p loose mean mg mb h₀) (hk : cs.kind = .function)
    (R : Rig h₁ d an s.heap) (N : News h₀ L s.heap led) (m1 : (d, od) ∈ led) (m2 : (an, oa) ∈ led) (hL : LieObj w od fi n f) (hx : f k = x) (l1 : fi ≤ k) (l2 : k < fi + n) (hd : dp + 2 < recursionLimit) (hu : un + 16 < cLine)
    (hret : ∀ t' h' tk', Fr h₀ L h' m → News h₀ L h' led → Q (.int x t') { s with heap := h', toks := tk' }) :
    wpAny (model PG w) (ktrTop dp un gd cn cs L a ccd cl outer) (call (.ref fr) [.int k t]) Q E s := by
  refine (Fn.get k t od oa f) _ _ _ _ _ _ _ _ _ _ _ _ _ _ _ _ _ B F X T hk R (news_sub2 N m1 m2) ⟨hL, l1, l2⟩ hd hu ?_
  rintro v od' oa' h' tk' ⟨t', rfl⟩ ⟨rfl, rfl⟩ F9 N9 R9
  subst hx; exact hret _ _ _ F9 (news_same N m1 m2 R9 N9)
theorem fput {w : World} {p : Program} {loose : List Str} {mean : ExcName → Option Value} {mg mb : Str → Option Value}
    {dp un : Nat} {gd : Option (List Code)} {cn : Str} {cs : Scope} {a : Addr} {ccd : Value} {cl : List (Str × Addr)} {outer : List Env} {A₀ : Around} {base h₀ : Heap} {L : Addr} {m : Str → Option Value} {s : Shared} {Q E : Value → Shared → Prop}
    {h₁ : Heap} {d an fr fw fc fh fp : Addr} {fi : Int} {n : Nat} {lt : Int → Int → Bool} {led : List (Addr × Obj)} {od oa : Obj} {f f' : Int → Int} {k v : Int} {t u : Tok} {g : Obj → List (Addr × Obj)}
    (Fn : Fns w p loose mean mg mb h₁ d an fi n lt fr fw fc fh fp)
    (B : Below A₀ base outer h₀) (F : Fr h₀ L s.heap m) (X : (Mine.hd.heap_1 w.params).In h₀) (T : Top p loose mean mg mb h₀) (hk : cs.kind = .function)
    (R : Rig h₁ d an s.heap) (N : News h₀ L s.heap led) (m2 : (an, oa) ∈ led) (U : UpdF d od led g) (hL : LieObj w od fi n f) (hp : ∀ o, LieObj w o fi n (put f k v) → LieObj w o fi n f') (l1 : fi ≤ k) (l2 : k < fi + n) (hd : dp + 2 < recursionLimit) (hu : un + 16 < cLine)
    (hret : ∀ od' h' tk', LieObj w od' fi n f' → Fr h₀ L h' m → News h₀ L h' (g od') → Q .none { s with heap := h', toks := tk' }) :
    wpAny (model PG w) (ktrTop dp un gd cn cs L a ccd cl outer) (call (.ref fw) [.int k t, .int v u]) Q E s := by
  refine (Fn.put k v t u od oa f) _ _ _ _ _ _ _ _ _ _ _ _ _ _ _ _ _ B F X T hk R (news_sub2 N (updF_mem U) m2) ⟨hL, l1, l2⟩ hd hu ?_
  rintro v' od' oa' h' tk' rfl ⟨hL9, rfl⟩ F9 N9 R9
  exact hret _ _ _ (hp _ hL9) F9 (news_updD N m2 U R9 N9)
theorem fless {w : World} {p : Program} {loose : List Str} {mean : ExcName → Option Value} {mg mb : Str → Option Value}
    {dp un : Nat} {gd : Option (List Code)} {cn : Str} {cs : Scope} {a : Addr} {ccd : Value} {cl : List (Str × Addr)} {outer : List Env} {A₀ : Around} {base h₀ : Heap} {L : Addr} {m : Str → Option Value} {s : Shared} {Q E : Value → Shared → Prop}
    {h₁ : Heap} {d an fr fw fc fh fp : Addr} {fi : Int} {n : Nat} {lt : Int → Int → Bool} {led : List (Addr × Obj)} {od : Obj} {x y : Int} {t u : Tok} {ws : List Value} {as : List Int} {c : Nat} {g : Obj → List (Addr × Obj)}
    (Fn : Fns w p loose mean mg mb h₁ d an fi n lt fr fw fc fh fp)
    (B : Below A₀ base outer h₀) (F : Fr h₀ L s.heap m) (X : (Mine.hd.heap_1 w.params).In h₀) (T : Top p loose mean mg mb h₀) (hk : cs.kind = .function)
    (R : Rig h₁ d an s.heap) (N : News h₀ L s.heap led) (m1 : (d, od) ∈ led) (U : UpdF an (W.listOf ws.toArray c) led g) (hI : IntsAre ws as) (hz : as.length ≤ 100) (hd : dp + 2 < recursionLimit) (hu : un + 16 < cLine)
    (hret : ∀ ws' c' h' tk', IntsAre ws' (as ++ [b2i (lt x y)]) → Fr h₀ L h' m → News h₀ L h' (g (W.listOf ws'.toArray c')) → Q (.bool (lt x y)) { s with heap := h', toks := tk' }) :
    wpAny (model PG w) (ktrTop dp un gd cn cs L a ccd cl outer) (call (.ref fc) [.int x t, .int y u]) Q E s := by
  refine (Fn.less x y t u od ws as c) _ _ _ _ _ _ _ _ _ _ _ _ _ _ _ _ _ B F X T hk R (news_sub2 N m1 (updF_mem U)) ⟨hI, hz⟩ hd hu ?_
  rintro v od' oa' h' tk' rfl ⟨rfl, ws', c', rfl, hI9⟩ F9 N9 R9
  exact hret _ _ _ _ hI9 F9 (news_updA N m1 U R9 N9)
theorem fhold {w : World} {p : Program} {loose : List Str} {mean : ExcName → Option Value} {mg mb : Str → Option Value}
    {dp un : Nat} {gd : Option (List Code)} {cn : Str} {cs : Scope} {a : Addr} {ccd : Value} {cl : List (Str × Addr)} {outer : List Env} {A₀ : Around} {base h₀ : Heap} {L : Addr} {m : Str → Option Value} {s : Shared} {Q E : Value → Shared → Prop}
    {h₁ : Heap} {d an fr fw fc fh fp : Addr} {fi : Int} {n : Nat} {lt : Int → Int → Bool} {led : List (Addr × Obj)} {od oa : Obj} {v : Value}
    (Fn : Fns w p loose mean mg mb h₁ d an fi n lt fr fw fc fh fp)
    (B : Below A₀ base outer h₀) (F : Fr h₀ L s.heap m) (X : (Mine.hd.heap_1 w.params).In h₀) (T : Top p loose mean mg mb h₀) (hk : cs.kind = .function)
    (R : Rig h₁ d an s.heap) (N : News h₀ L s.heap led) (m1 : (d, od) ∈ led) (m2 : (an, oa) ∈ led) (hd : dp + 2 < recursionLimit) (hu : un + 16 < cLine)
    (hret : ∀ h' tk', Fr h₀ L h' m → News h₀ L h' led → Q .none { s with heap := h', toks := tk' }) :
    wpAny (model PG w) (ktrTop dp un gd cn cs L a ccd cl outer) (call (.ref fh) [v]) Q E s := by
  refine (Fn.hold v od oa) _ _ _ _ _ _ _ _ _ _ _ _ _ _ _ _ _ B F X T hk R (news_sub2 N m1 m2) trivial hd hu ?_
  rintro v' od' oa' h' tk' rfl ⟨rfl, rfl⟩ F9 N9 R9
  exact hret _ _ F9 (news_same N m1 m2 R9 N9)
theorem fdrop {w : World} {p : Program} {loose : List Str} {mean : ExcName → Option Value} {mg mb : Str → Option Value}
    {dp un : Nat} {gd : Option (List Code)} {cn : Str} {cs : Scope} {a : Addr} {ccd : Value} {cl : List (Str × Addr)} {outer : List Env} {A₀ : Around} {base h₀ : Heap} {L : Addr} {m : Str → Option Value} {s : Shared} {Q E : Value → Shared → Prop}
    {h₁ : Heap} {d an fr fw fc fh fp : Addr} {fi : Int} {n : Nat} {lt : Int → Int → Bool} {led : List (Addr × Obj)} {od oa : Obj}
    (Fn : Fns w p loose mean mg mb h₁ d an fi n lt fr fw fc fh fp)
    (B : Below A₀ base outer h₀) (F : Fr h₀ L s.heap m) (X : (Mine.hd.heap_1 w.params).In h₀) (T : Top p loose mean mg mb h₀) (hk : cs.kind = .function)
    (R : Rig h₁ d an s.heap) (N : News h₀ L s.heap led) (m1 : (d, od) ∈ led) (m2 : (an, oa) ∈ led) (hd : dp + 2 < recursionLimit) (hu : un + 16 < cLine)
    (hret : ∀ h' tk', Fr h₀ L h' m → News h₀ L h' led → Q .none { s with heap := h', toks := tk' }) :
    wpAny (model PG w) (ktrTop dp un gd cn cs L a ccd cl outer) (call (.ref fp) []) Q E s := by
  refine (Fn.drop od oa) _ _ _ _ _ _ _ _ _ _ _ _ _ _ _ _ _ B F X T hk R (news_sub2 N m1 m2) trivial hd hu ?_
  rintro v od' oa' h' tk' rfl ⟨rfl, rfl⟩ F9 N9 R9
  exact hret _ _ F9 (news_same N m1 m2 R9 N9)
/-- four places side by side -/
noncomputable def V (fi a b c e : Int) : Int → Int := fun j => if j = fi then a else if j = fi + 1 then b else if j = fi + 2 then c else e
theorem V0 {fi a b c e k : Int} (h : k = fi) : V fi a b c e k = a := by simp [V, h]
theorem V1 {fi a b c e k : Int} (h : k = fi + 1) : V fi a b c e k = b := by unfold V; rw [if_neg (by omega), if_pos h]
theorem V2 {fi a b c e k : Int} (h : k = fi + 2) : V fi a b c e k = c := by unfold V; rw [if_neg (by omega), if_neg (by omega), if_pos h]
theorem V3 {fi a b c e k : Int} (h : k = fi + 3) : V fi a b c e k = e := by unfold V; rw [if_neg (by omega), if_neg (by omega), if_neg (by omega)]
theorem LieObj.congr {w : World} {o : Obj} {fi : Int} {n : Nat} {f g : Int → Int} (h : LieObj w o fi n f) (e : ∀ k, fi ≤ k → k < fi + n → f k = g k) : LieObj w o fi n g := by
  obtain ⟨kvs, h1, h2, h3⟩ := h
  exact ⟨kvs, h1, h2, fun k l1 l2 => by rw [← e k l1 l2]; exact h3 k l1 l2⟩
theorem putV0 {fi a b c e k v : Int} (h : k = fi) : put (V fi a b c e) k v = V fi v b c e := by
  funext j; unfold put V; subst h; by_cases h0 : j = k <;> simp [h0]
theorem putV1 {fi a b c e k v : Int} (h : k = fi + 1) : put (V fi a b c e) k v = V fi a v c e := by
  funext j; unfold put V; subst h; by_cases h0 : j = fi
  · subst h0; rw [if_neg (by omega)]; simp
  · by_cases h1 : j = fi + 1
    · rw [if_pos h1, if_neg h0, if_pos h1]
    · rw [if_neg h1, if_neg h0, if_neg h0, if_neg h1, if_neg h1]
theorem putV2 {fi a b c e k v : Int} (h : k = fi + 2) : put (V fi a b c e) k v = V fi a b v e := by
  funext j; unfold put V; subst h; by_cases h0 : j = fi
  · subst h0; rw [if_neg (by omega)]; simp
  · by_cases h1 : j = fi + 1
    · subst h1; rw [if_neg (by omega)]; simp
    · by_cases h2 : j = fi + 2
      · rw [if_pos h2, if_neg h0, if_neg h1, if_pos h2]
      · rw [if_neg h2, if_neg h0, if_neg h1, if_neg h2, if_neg h0, if_neg h1, if_neg h2]
theorem lie_put3 {w : World} {o : Obj} {fi a b c e k v : Int} {n : Nat} (hn : n ≤ 4) (hk : k = fi + 3) (h : LieObj w o fi n (put (V fi a b c e) k v)) : LieObj w o fi n (V fi a b c v) :=
  h.congr fun j l1 l2 => by
    unfold put V
    by_cases h0 : j = fi
    · subst h0; rw [if_neg (by omega)]; simp
    · by_cases h1 : j = fi + 1
      · subst h1; rw [if_neg (by omega)]; simp
      · by_cases h2 : j = fi + 2
        · subst h2; rw [if_neg (by omega)]; simp
        · rw [if_pos (by omega), if_neg h0, if_neg h1, if_neg h2]
theorem lv0 {w : World} {fi a b c e k v : Int} {n : Nat} (h : k = fi) (o : Obj) (x : LieObj w o fi n (put (V fi a b c e) k v)) : LieObj w o fi n (V fi v b c e) := putV0 h ▸ x
theorem lv1 {w : World} {fi a b c e k v : Int} {n : Nat} (h : k = fi + 1) (o : Obj) (x : LieObj w o fi n (put (V fi a b c e) k v)) : LieObj w o fi n (V fi a v c e) := putV1 h ▸ x
theorem lv2 {w : World} {fi a b c e k v : Int} {n : Nat} (h : k = fi + 2) (o : Obj) (x : LieObj w o fi n (put (V fi a b c e) k v)) : LieObj w o fi n (V fi a b v e) := putV2 h ▸ x
theorem lv3 {w : World} {fi a b c e k v : Int} {n : Nat} (h : k = fi + 3) (hn : n ≤ 4) (o : Obj) (x : LieObj w o fi n (put (V fi a b c e) k v)) : LieObj w o fi n (V fi a b c v) := lie_put3 hn h x
/-- an own function of the object's dict, by name -/
theorem own_of {w : World} {prog : Program} {A : Around} {E : Value → Shared → Prop} {s : Shared} {K : Frag} {h₁ : Heap} {d an q fr fw fc fh fp : Addr} {name : Str} {v : Value} {pl : Sem Bool} {Q : Value × List Value → Shared → Prop}
    (X : K.In s.heap) (D : Rigd h₁ d an q fr fw fc fh fp) (R : Rig h₁ d an s.heap) (hl : getL name D.es = some (some v)) (hg : plainGet K 93 name = true) (hh : hasDictIn K 93 = true)
    (ha : findIn K (.ref 93) name = some none) (hv : handedIn v = true) (h : Q (v, []) { s with toks := s.toks + 1 }) : wpAny (model prog w) A (getMethod (.ref q) name pl) Q E s :=
  method_own X (D.inst R) hl hg hh ha hv h
theorem cls_of {w : World} {prog : Program} {A : Around} {E : Value → Shared → Prop} {s : Shared} {K : Frag} {h₁ : Heap} {d an q fr fw fc fh fp : Addr} {name : Str} {pl : Sem Bool} {Q : Value × List Value → Shared → Prop} {f : Addr}
    (X : K.In s.heap) (D : Rigd h₁ d an q fr fw fc fh fp) (R : Rig h₁ d an s.heap) (hl : getL name D.es = some none) (hg : plainGet K 93 name = true)
    (hf : findIn K (.ref 93) name = some (some (.ref f))) (ht : isFn K (.ref f) = true) (h : Q (.ref f, [.ref q]) s) : wpAny (model prog w) A (getMethod (.ref q) name pl) Q E s :=
  method_cls X (D.inst R) hl hg hf ht h
end
end
section
local macro_rules | `(tactic| k_room) => `(tactic| ktr_room)
section
set_option maxRecDepth 100000
set_option maxHeartbeats 8000000
local macro_rules | `(tactic| walk_at "getMethod ref") => `(tactic| (k_here; k_dflt (first
  | (refine' own_of (by k_in) (by assumption) (by exact Rig.fr (by assumption) (by k_asm)) (by first | exact Rigd.get _ | exact Rigd.put _ | exact Rigd.less _ | exact Rigd.hold _ | exact Rigd.drop _) (by k_is) (by k_is) (by k_is) (by rfl) ?_; k_whole)
  | (refine' cls_of (by k_in) (by assumption) (by exact Rig.fr (by assumption) (by k_asm)) (by first | exact Rigd.two _ | exact Rigd.mid _ | exact Rigd.up _ | exact Rigd.down _ | exact Rigd.part _) (by k_is) (by k_is) (by k_is) ?_; k_whole))))
local macro_rules | `(tactic| walk_at "FnAt") => `(tactic| (k_dflt (first | exact Rigd.fr_ (by assumption) (Rig.fr (by assumption) (by k_asm)) | exact Rigd.fw_ (by assumption) (Rig.fr (by assumption) (by k_asm)) | exact Rigd.fc_ (by assumption) (Rig.fr (by assumption) (by k_asm)) | exact Rigd.fh_ (by assumption) (Rig.fr (by assumption) (by k_asm)) | exact Rigd.fp_ (by assumption) (Rig.fr (by assumption) (by k_asm)))))
local macro_rules | `(tactic| walk_at "callWith ref") => `(tactic| (k_here; k_dflt (first
  | (refine' callWith_F ?k1 ?_; (case k1 => walk_at "FnAt"); k_whole)
  | (refine' callWith_F0 ?k1 ?_; (case k1 => walk_at "FnAt"); k_whole; try dsimp only [List.nil_append, List.cons_append]))))
local macro_rules | `(tactic| walk_at "And") => `(tactic| ((with_reducible show FnAt _ _ ∧ _); refine ⟨by walk_at "FnAt", ?_⟩; try dsimp only [List.nil_append, List.cons_append]))
local macro_rules | `(tactic| walk_at "call ref") => `(tactic| (k_here; k_dflt ((first
  | (refine' fget (by assumption) (by k_asm) (by k_asm) (by k_asm) (by k_asm) (by first | exact rfl | assumption) (by exact Rig.fr (by assumption) (by k_asm)) (by k_asm) (by k_mem) (by k_mem) (by with_reducible assumption) (by first | exact V0 (by omega) | exact V1 (by omega) | exact V2 (by omega) | exact V3 (by omega) | exact rfl) (by omega) (by omega) (by ktr_room) (by ktr_units) ?_; k_whole; intro t9 h9 tk9 F9 N9)
  | (refine' fput (by assumption) (by k_asm) (by k_asm) (by k_asm) (by k_asm) (by first | exact rfl | assumption) (by exact Rig.fr (by assumption) (by k_asm)) (by k_asm) (by k_mem) (by k_updF) (by with_reducible assumption) (by first | exact lv0 (by omega) | exact lv1 (by omega) | exact lv2 (by omega) | exact lv3 (by omega) (by omega) | exact fun _ h => h) (by omega) (by omega) (by ktr_room) (by ktr_units) ?_; k_whole; intro od9 h9 tk9 hL9 F9 N9)
  | (refine' fless (by assumption) (by k_asm) (by k_asm) (by k_asm) (by k_asm) (by first | exact rfl | assumption) (by exact Rig.fr (by assumption) (by k_asm)) (by k_asm) (by k_mem) (by k_updF) (by with_reducible assumption) (by ((try simp only [List.length_append, List.length_cons, List.length_nil]); omega)) (by ktr_room) (by ktr_units) ?_; k_whole; intro ws9 c9 h9 tk9 hI9 F9 N9)
  | (refine' fhold (by assumption) (by k_asm) (by k_asm) (by k_asm) (by k_asm) (by first | exact rfl | assumption) (by exact Rig.fr (by assumption) (by k_asm)) (by k_asm) (by k_mem) (by k_mem) (by ktr_room) (by ktr_units) ?_; k_whole; intro h9 tk9 F9 N9)
  | (refine' fdrop (by assumption) (by k_asm) (by k_asm) (by k_asm) (by k_asm) (by first | exact rfl | assumption) (by exact Rig.fr (by assumption) (by k_asm)) (by k_asm) (by k_mem) (by k_mem) (by ktr_room) (by ktr_units) ?_; k_whole; intro h9 tk9 F9 N9)); (try k_sweep); (try dsimp only))))
theorem filled2 : Mine.hd.heap_1 = Mine.hd.heap_1 ∧ PySem.Challenge.rw_xm0619_01 = PySem.Challenge.rw_xm0619_01 := by k_fill; exact ⟨rfl, rfl⟩
theorem two_spec {w : World} {p : Program} {loose : List Str} {mean : ExcName → Option Value} {mg mb : Str → Option Value}
    {dp un : Nat} {gd : Option (List Code)} {cn : Str} {cs : Scope} {a : Addr} {ccd : Value} {cl : List (Str × Addr)} {outer : List Env} {A₀ : Around} {base h₀ : Heap} {L : Addr} {m : Str → Option Value} {s : Shared} {Q E : Value → Shared → Prop}
    {h₁ : Heap} {d an q fr fw fc fh fp : Addr} {fi : Int} {n : Nat} {lt : Int → Int → Bool} {od : Obj} {ws : List Value} {as : List Int} {c : Nat} {f : Int → Int} {lo hi : Int} {t1 t2 : Tok}
    (Fn : Fns w p loose mean mg mb h₁ d an fi n lt fr fw fc fh fp) (D : Rigd h₁ d an q fr fw fc fh fp)
    (B : Below A₀ base outer h₀) (F : Fr h₀ L s.heap m) (X : (Mine.hd.heap_1 w.params).In h₀) (T : Top p loose mean mg mb h₀) (hk : cs.kind = .function)
    (R : Rig h₁ d an s.heap) (N : News h₀ L s.heap [(d, od), (an, W.listOf ws.toArray c)]) (hL : LieObj w od fi n f) (hI : IntsAre ws as) (hz : as.length ≤ 90)
    (l1 : fi ≤ lo) (l2 : lo < fi + n) (l3 : fi ≤ hi) (l4 : hi < fi + n) (hda : @LT.lt Nat _ d an) (hd : dp + 4 < recursionLimit) (hu : un + 32 < cLine)
    (hret : ∀ od' ws' c' h' tk' f' as', (lt (f hi) (f lo) = true ∧ f' = put (put f lo (f hi)) hi (f lo) ∧ as' = as ++ [1] ∨ lt (f hi) (f lo) = false ∧ f' = f ∧ as' = as ++ [0]) → LieObj w od' fi n f' → IntsAre ws' as' →
      Fr h₀ L h' m → News h₀ L h' [(d, od'), (an, W.listOf ws'.toArray c')] → Rig s.heap d an h' → Q .none { s with heap := h', toks := tk' }) :
    wpAny (model PG w) (ktrTop dp un gd cn cs L a ccd cl outer) (call (.ref 55) [.ref q, .int lo t1, .int hi t2]) Q E s := by
  refine wpAny_call ?_
  k_dflt (refine' code_defG ?k1 ?k2 ?k3 ?k4 ?k5 ?kA ?kF ?kK ?k6 ?k7 ?k8 ?k9 ?kB ?_ ?c2 ?c3 ?c4 ?c5; (case kA => exact rfl); (case kF => exact rfl); (case kK => assumption); (case k1 => k_asm); (case k2 => k_asm); (case k3 => k_asm); (case k4 => k_asm); (case k5 => k_asm); (case k6 => k_is); (case k7 => k_is); (case k8 => ktr_room); (case k9 => exact BindsTo.of_eq rfl); (case c5 => decide); (case kB => exact locs rfl); (case c2 => exact rfl); (case c3 => exact rfl); (case c4 => exact rfl); k_whole; intro g' L' h' FG' F' N' B' X' T' G'; (try dsimp only); (try k_fold))
  have RG := R.sub G'
  k_steps
  all_goals refine hret _ _ _ _ _ _ _ ?_ (by with_reducible assumption) (by with_reducible assumption) (by k_asm) (news_sub2 (by k_asm) (by k_mem) (by k_mem)) (Rig.of (by assumption) (by k_asm))
  · exact Or.inl ⟨by assumption, rfl, by simp_all [b2i]⟩
  · exact Or.inr ⟨by simp_all, rfl, by simp_all [b2i]⟩
section
set_option maxRecDepth 100000
set_option maxHeartbeats 8000000
theorem WhlIf_decided : True := trivial
local macro_rules | `(tactic| walk_at "exec While") => `(tactic| (k_here; k_dflt (refine whl_start 4 ?_)))
local macro_rules | `(tactic| walk_at "WhlIf") => `(tactic| first | (refine WhlIf.yes (by assumption) ?_) | (refine WhlIf.no (by assumption) ?_))
theorem mid_spec {w : World} {p : Program} {loose : List Str} {mean : ExcName → Option Value} {mg mb : Str → Option Value}
    {dp un : Nat} {gd : Option (List Code)} {cn : Str} {cs : Scope} {a : Addr} {ccd : Value} {cl : List (Str × Addr)} {outer : List Env} {A₀ : Around} {base h₀ : Heap} {L : Addr} {m : Str → Option Value} {s : Shared} {Q E : Value → Shared → Prop}
    {h₁ : Heap} {d an q fr fw fc fh fp : Addr} {fi : Int} {n : Nat} {lt : Int → Int → Bool} {od : Obj} {ws : List Value} {as : List Int} {c : Nat} {f : Int → Int} {lo mi hi : Int} {t1 t2 t3 : Tok}
    (Fn : Fns w p loose mean mg mb h₁ d an fi n lt fr fw fc fh fp) (D : Rigd h₁ d an q fr fw fc fh fp)
    (B : Below A₀ base outer h₀) (F : Fr h₀ L s.heap m) (X : (Mine.hd.heap_1 w.params).In h₀) (T : Top p loose mean mg mb h₀) (hk : cs.kind = .function)
    (R : Rig h₁ d an s.heap) (N : News h₀ L s.heap [(d, od), (an, W.listOf ws.toArray c)]) (hL : LieObj w od fi n f) (hI : IntsAre ws as) (hz : as.length ≤ 90) (hda : @LT.lt Nat _ d an)
    (l1 : fi ≤ lo) (l2 : lo < fi + n) (l3 : fi ≤ mi) (l4 : mi < fi + n) (l5 : fi ≤ hi) (l6 : hi < fi + n) (hd : dp + 4 < recursionLimit) (hu : un + 32 < cLine)
    (hret : ∀ od' ws' c' h' tk' f' as' , (lt (f mi) (f lo) = true ∧ f' = put (put f mi (f lo)) lo (f mi) ∧ as' = as ++ [1] ∨ lt (f mi) (f lo) = false ∧ lt (f hi) (f mi) = true ∧ f' = put (put f mi (f hi)) hi (f mi) ∧ as' = as ++ [0, 1] ∨ lt (f mi) (f lo) = false ∧ lt (f hi) (f mi) = false ∧ f' = f ∧ as' = as ++ [0, 0]) → LieObj w od' fi n f' → IntsAre ws' as' →
      Fr h₀ L h' m → News h₀ L h' [(d, od'), (an, W.listOf ws'.toArray c')] → Rig s.heap d an h' → Q .none { s with heap := h', toks := tk' }) :
    wpAny (model PG w) (ktrTop dp un gd cn cs L a ccd cl outer) (call (.ref 62) [.ref q, .int lo t1, .int mi t2, .int hi t3]) Q E s := by
  refine wpAny_call ?_
  k_dflt (refine' code_defG ?k1 ?k2 ?k3 ?k4 ?k5 ?kA ?kF ?kK ?k6 ?k7 ?k8 ?k9 ?kB ?_ ?c2 ?c3 ?c4 ?c5; (case kA => exact rfl); (case kF => exact rfl); (case kK => assumption); (case k1 => k_asm); (case k2 => k_asm); (case k3 => k_asm); (case k4 => k_asm); (case k5 => k_asm); (case k6 => k_is); (case k7 => k_is); (case k8 => ktr_room); (case k9 => exact BindsTo.of_eq rfl); (case c5 => decide); (case kB => exact locs rfl); (case c2 => exact rfl); (case c3 => exact rfl); (case c4 => exact rfl); k_whole; intro g' L' h' FG' F' N' B' X' T' G'; (try dsimp only); (try k_fold))
  have RG := R.sub G'
  k_steps
  all_goals refine hret _ _ _ _ _ _ _ ?_ (by with_reducible assumption) (by with_reducible assumption) (by k_asm) (news_sub2 (by k_asm) (by k_mem) (by k_mem)) (Rig.of (by assumption) (by k_asm))
  · exact Or.inl ⟨by assumption, rfl, by simp_all [b2i]⟩
  · exact Or.inr (Or.inl ⟨by simp_all, by assumption, rfl, by simp_all [b2i]⟩)
  · exact Or.inr (Or.inr ⟨by simp_all, by simp_all, rfl, by simp_all [b2i]⟩)
theorem up_spec {w : World} {p : Program} {loose : List Str} {mean : ExcName → Option Value} {mg mb : Str → Option Value}
    {dp un : Nat} {gd : Option (List Code)} {cn : Str} {cs : Scope} {a : Addr} {ccd : Value} {cl : List (Str × Addr)} {outer : List Env} {A₀ : Around} {base h₀ : Heap} {L : Addr} {m : Str → Option Value} {s : Shared} {Q E : Value → Shared → Prop}
    {h₁ : Heap} {d an q fr fw fc fh fp : Addr} {fi : Int} {n : Nat} {lt : Int → Int → Bool} {od : Obj} {ws : List Value} {as : List Int} {c : Nat} {f : Int → Int} {pv at_ hi : Int} {t1 t2 t3 : Tok}
    (Fn : Fns w p loose mean mg mb h₁ d an fi n lt fr fw fc fh fp) (D : Rigd h₁ d an q fr fw fc fh fp)
    (B : Below A₀ base outer h₀) (F : Fr h₀ L s.heap m) (X : (Mine.hd.heap_1 w.params).In h₀) (T : Top p loose mean mg mb h₀) (hk : cs.kind = .function)
    (R : Rig h₁ d an s.heap) (N : News h₀ L s.heap [(d, od), (an, W.listOf ws.toArray c)]) (hL : LieObj w od fi n f) (hI : IntsAre ws as) (hz : as.length ≤ 90) (hda : @LT.lt Nat _ d an)
    (l1 : fi ≤ at_ + 1) (l2 : at_ + 1 < fi + n)
    (hs : lt (f (at_ + 1)) pv = false ∨ lt (f (at_ + 1)) pv = true ∧ lt (f (at_ + 1 + 1)) pv = false ∧ at_ + 1 ≤ hi ∧ at_ + 1 + 1 < fi + n) (hd : dp + 4 < recursionLimit) (hu : un + 32 < cLine)
    (hret : ∀ od' ws' c' h' tk' f' as' (T_ : Addr) (k : Int) (t t' : Tok), (f' = f ∧ (lt (f (at_ + 1)) pv = false ∧ k = at_ + 1 ∧ as' = as ++ [0] ∨ lt (f (at_ + 1)) pv = true ∧ k = at_ + 1 + 1 ∧ as' = as ++ [1, 0])) → LieObj w od' fi n f' → IntsAre ws' as' →
      Fr h₀ L h' m → News h₀ L h' [(T_, { cls := .type "tuple", data := .seq #[.int k t, .int (f k) t'] }), (d, od'), (an, W.listOf ws'.toArray c')] → Rig s.heap d an h' → s.heap.get? T_ = none → Q (.ref T_) { s with heap := h', toks := tk' }) :
    wpAny (model PG w) (ktrTop dp un gd cn cs L a ccd cl outer) (call (.ref 69) [.ref q, .int pv t1, .int at_ t2, .int hi t3]) Q E s := by
  refine wpAny_call ?_
  k_dflt (refine' code_defG ?k1 ?k2 ?k3 ?k4 ?k5 ?kA ?kF ?kK ?k6 ?k7 ?k8 ?k9 ?kB ?_ ?c2 ?c3 ?c4 ?c5; (case kA => exact rfl); (case kF => exact rfl); (case kK => assumption); (case k1 => k_asm); (case k2 => k_asm); (case k3 => k_asm); (case k4 => k_asm); (case k5 => k_asm); (case k6 => k_is); (case k7 => k_is); (case k8 => ktr_room); (case k9 => exact BindsTo.of_eq rfl); (case c5 => decide); (case kB => exact locs rfl); (case c2 => exact rfl); (case c3 => exact rfl); (case c4 => exact rfl); k_whole; intro g' L' h' FG' F' N' B' X' T' G'; (try dsimp only); (try k_fold))
  have RG := R.sub G'
  rcases hs with hs | ⟨hs, hs2, hs3, hs4⟩
  all_goals k_steps
  all_goals refine hret _ _ _ _ _ _ _ _ _ _ _ ⟨rfl, ?_⟩ (by with_reducible assumption) (by with_reducible assumption) (by k_asm) (by k_asm) (Rig.of (by assumption) (by k_asm)) (fresh_of (by assumption) (by assumption) (by k_mem) (by k_ne) (by k_ne))
  · exact Or.inl ⟨hs, rfl, by simp [b2i, hs]⟩
  · exact Or.inr ⟨hs, rfl, by simp [b2i, hs, hs2]⟩
theorem down_spec {w : World} {p : Program} {loose : List Str} {mean : ExcName → Option Value} {mg mb : Str → Option Value}
    {dp un : Nat} {gd : Option (List Code)} {cn : Str} {cs : Scope} {a : Addr} {ccd : Value} {cl : List (Str × Addr)} {outer : List Env} {A₀ : Around} {base h₀ : Heap} {L : Addr} {m : Str → Option Value} {s : Shared} {Q E : Value → Shared → Prop}
    {h₁ : Heap} {d an q fr fw fc fh fp : Addr} {fi : Int} {n : Nat} {lt : Int → Int → Bool} {od : Obj} {ws : List Value} {as : List Int} {c : Nat} {f : Int → Int} {pv at_ lo : Int} {t1 t2 t3 : Tok}
    (Fn : Fns w p loose mean mg mb h₁ d an fi n lt fr fw fc fh fp) (D : Rigd h₁ d an q fr fw fc fh fp)
    (B : Below A₀ base outer h₀) (F : Fr h₀ L s.heap m) (X : (Mine.hd.heap_1 w.params).In h₀) (T : Top p loose mean mg mb h₀) (hk : cs.kind = .function)
    (R : Rig h₁ d an s.heap) (N : News h₀ L s.heap [(d, od), (an, W.listOf ws.toArray c)]) (hL : LieObj w od fi n f) (hI : IntsAre ws as) (hz : as.length ≤ 90) (hda : @LT.lt Nat _ d an)
    (l1 : fi ≤ at_ - 1) (l2 : at_ - 1 < fi + n)
    (hs : lt pv (f (at_ - 1)) = false ∨ lt pv (f (at_ - 1)) = true ∧ lt pv (f (at_ - 1 - 1)) = false ∧ lo ≤ at_ - 1 ∧ fi ≤ at_ - 1 - 1) (hd : dp + 4 < recursionLimit) (hu : un + 32 < cLine)
    (hret : ∀ od' ws' c' h' tk' f' as' (T_ : Addr) (k : Int) (t t' : Tok), (f' = f ∧ (lt pv (f (at_ - 1)) = false ∧ k = at_ - 1 ∧ as' = as ++ [0] ∨ lt pv (f (at_ - 1)) = true ∧ k = at_ - 1 - 1 ∧ as' = as ++ [1, 0])) → LieObj w od' fi n f' → IntsAre ws' as' →
      Fr h₀ L h' m → News h₀ L h' [(T_, { cls := .type "tuple", data := .seq #[.int k t, .int (f k) t'] }), (d, od'), (an, W.listOf ws'.toArray c')] → Rig s.heap d an h' → s.heap.get? T_ = none → Q (.ref T_) { s with heap := h', toks := tk' }) :
    wpAny (model PG w) (ktrTop dp un gd cn cs L a ccd cl outer) (call (.ref 76) [.ref q, .int pv t1, .int at_ t2, .int lo t3]) Q E s := by
  refine wpAny_call ?_
  k_dflt (refine' code_defG ?k1 ?k2 ?k3 ?k4 ?k5 ?kA ?kF ?kK ?k6 ?k7 ?k8 ?k9 ?kB ?_ ?c2 ?c3 ?c4 ?c5; (case kA => exact rfl); (case kF => exact rfl); (case kK => assumption); (case k1 => k_asm); (case k2 => k_asm); (case k3 => k_asm); (case k4 => k_asm); (case k5 => k_asm); (case k6 => k_is); (case k7 => k_is); (case k8 => ktr_room); (case k9 => exact BindsTo.of_eq rfl); (case c5 => decide); (case kB => exact locs rfl); (case c2 => exact rfl); (case c3 => exact rfl); (case c4 => exact rfl); k_whole; intro g' L' h' FG' F' N' B' X' T' G'; (try dsimp only); (try k_fold))
  have RG := R.sub G'
  rcases hs with hs | ⟨hs, hs2, hs3, hs4⟩
  all_goals k_steps
  all_goals refine hret _ _ _ _ _ _ _ _ _ _ _ ⟨rfl, ?_⟩ (by with_reducible assumption) (by with_reducible assumption) (by k_asm) (by k_asm) (Rig.of (by assumption) (by k_asm)) (fresh_of (by assumption) (by assumption) (by k_mem) (by k_ne) (by k_ne))
  · exact Or.inl ⟨hs, rfl, by simp [b2i, hs]⟩
  · exact Or.inr ⟨hs, rfl, by simp [b2i, hs, hs2]⟩
end
section
set_option maxRecDepth 100000
set_option maxHeartbeats 8000000
noncomputable def Two (lt : Int → Int → Bool) (x y x' y' : Int) (l : List Int) : Prop :=
  lt y x = true ∧ x' = y ∧ y' = x ∧ l = [1] ∨ lt y x = false ∧ x' = x ∧ y' = y ∧ l = [0]
noncomputable def Mid (lt : Int → Int → Bool) (x m y x' m' y' : Int) (l : List Int) : Prop :=
  lt m x = true ∧ x' = m ∧ m' = x ∧ y' = y ∧ l = [1] ∨ lt m x = false ∧ lt y m = true ∧ x' = x ∧ m' = y ∧ y' = m ∧ l = [0, 1] ∨ lt m x = false ∧ lt y m = false ∧ x' = x ∧ m' = m ∧ y' = y ∧ l = [0, 0]
/-- two places hold x and y, and F says what stands when they hold others -/
structure TwoAt (w : World) (fi : Int) (n : Nat) (f : Int → Int) (lo hi x y : Int) (F : Int → Int → Int → Int) : Prop where
  a : f lo = x
  b : f hi = y
  t : ∀ o, LieObj w o fi n (put (put f lo y) hi x) → LieObj w o fi n (F y x)
  i : F x y = f
  l : fi ≤ lo ∧ lo < fi + n ∧ fi ≤ hi ∧ hi < fi + n
structure MidAt (w : World) (fi : Int) (n : Nat) (f : Int → Int) (lo mi hi x m y : Int) (F : Int → Int → Int → Int → Int) : Prop where
  a : f lo = x
  b : f mi = m
  c : f hi = y
  t : ∀ o, LieObj w o fi n (put (put f mi x) lo m) → LieObj w o fi n (F m x y)
  u : ∀ o, LieObj w o fi n (put (put f mi y) hi m) → LieObj w o fi n (F x y m)
  i : F x m y = f
  l : (fi ≤ lo ∧ lo < fi + n) ∧ (fi ≤ mi ∧ mi < fi + n) ∧ fi ≤ hi ∧ hi < fi + n
section
variable {w : World} {fi : Int} {n : Nat} {a b c e lo mi hi : Int}
theorem t01 (h1 : lo = fi) (h2 : hi = fi + 1) (hn : 1 < n) : TwoAt w fi n (V fi a b c e) lo hi a b (fun x y => V fi x y c e) :=
  ⟨V0 h1, V1 h2, fun o h => by rw [putV0 h1, putV1 h2] at h; exact h, rfl, by omega⟩
theorem t23 (h1 : lo = fi + 2) (h2 : hi = fi + 3) (hn : 3 < n) (hn4 : n ≤ 4) : TwoAt w fi n (V fi a b c e) lo hi c e (fun x y => V fi a b x y) :=
  ⟨V2 h1, V3 h2, fun o h => by rw [putV2 h1] at h; exact lie_put3 hn4 h2 h, rfl, by omega⟩
theorem t02 (h1 : lo = fi) (h2 : hi = fi + 2) (hn : 2 < n) : TwoAt w fi n (V fi a b c e) lo hi a c (fun x y => V fi x b y e) :=
  ⟨V0 h1, V2 h2, fun o h => by rw [putV0 h1, putV2 h2] at h; exact h, rfl, by omega⟩
theorem t03 (h1 : lo = fi) (h2 : hi = fi + 3) (hn : 3 < n) (hn4 : n ≤ 4) : TwoAt w fi n (V fi a b c e) lo hi a e (fun x y => V fi x b c y) :=
  ⟨V0 h1, V3 h2, fun o h => by rw [putV0 h1] at h; exact lie_put3 hn4 h2 h, rfl, by omega⟩
theorem m012 (h1 : lo = fi) (h2 : mi = fi + 1) (h3 : hi = fi + 2) (hn : 2 < n) : MidAt w fi n (V fi a b c e) lo mi hi a b c (fun x m y => V fi x m y e) :=
  ⟨V0 h1, V1 h2, V2 h3, fun o h => by rw [putV1 h2, putV0 h1] at h; exact h, fun o h => by rw [putV1 h2, putV2 h3] at h; exact h, rfl, by omega⟩
theorem m013 (h1 : lo = fi) (h2 : mi = fi + 1) (h3 : hi = fi + 3) (hn : 3 < n) (hn4 : n ≤ 4) : MidAt w fi n (V fi a b c e) lo mi hi a b e (fun x m y => V fi x m c y) :=
  ⟨V0 h1, V1 h2, V3 h3, fun o h => by rw [putV1 h2, putV0 h1] at h; exact h, fun o h => by rw [putV1 h2] at h; exact lie_put3 hn4 h3 h, rfl, by omega⟩
end
theorem twoV {w : World} {p : Program} {loose : List Str} {mean : ExcName → Option Value} {mg mb : Str → Option Value}
    {dp un : Nat} {gd : Option (List Code)} {cn : Str} {cs : Scope} {a : Addr} {ccd : Value} {cl : List (Str × Addr)} {outer : List Env} {A₀ : Around} {base h₀ : Heap} {L : Addr} {m : Str → Option Value} {s : Shared} {Q E : Value → Shared → Prop}
    {h₁ : Heap} {d an q fr fw fc fh fp : Addr} {fi : Int} {n : Nat} {lt : Int → Int → Bool} {od : Obj} {ws : List Value} {as : List Int} {c : Nat} {f : Int → Int} {led : List (Addr × Obj)} {g1 : Obj → List (Addr × Obj)} {g2 : Obj → Obj → List (Addr × Obj)} {lo hi x y : Int} {t1 t2 : Tok} {G : Int → Int → Int → Int}
    (Fn : Fns w p loose mean mg mb h₁ d an fi n lt fr fw fc fh fp)
    (B : Below A₀ base outer h₀) (F : Fr h₀ L s.heap m) (X : (Mine.hd.heap_1 w.params).In h₀) (T : Top p loose mean mg mb h₀) (hk : cs.kind = .function)
    (R : Rig h₁ d an s.heap) (N : News h₀ L s.heap led) (D : Rigd h₁ d an q fr fw fc fh fp) (m2 : (an, W.listOf ws.toArray c) ∈ led) (U1 : UpdF d od led g1) (U2 : ∀ o, UpdF an (W.listOf ws.toArray c) (g1 o) (g2 o))
    (hL : LieObj w od fi n f) (hI : IntsAre ws as) (hz : as.length ≤ 90) (hda : @LT.lt Nat _ d an) (A : TwoAt w fi n f lo hi x y G) (hd : dp + 4 < recursionLimit) (hu : un + 32 < cLine)
    (hret : ∀ od' ws' c' h' tk' x' y' l, Two lt x y x' y' l → l.length = 1 → LieObj w od' fi n (G x' y') → IntsAre ws' (as ++ l) → Fr h₀ L h' m → News h₀ L h' (g2 od' (W.listOf ws'.toArray c')) → Q .none { s with heap := h', toks := tk' }) :
    wpAny (model PG w) (ktrTop dp un gd cn cs L a ccd cl outer) (call (.ref 55) [.ref q, .int lo t1, .int hi t2]) Q E s := by
  refine two_spec Fn D B F X T hk R (news_sub2 N (updF_mem U1) m2) hL hI hz A.l.1 A.l.2.1 A.l.2.2.1 A.l.2.2.2 hda hd hu ?_
  rintro od' ws' c' h' tk' f' as' hc hL9 hI9 F9 N9 R9
  have N8 := news_upd2 N U1 (U2 _) R9 N9
  rw [A.a, A.b] at hc
  rcases hc with ⟨g, rfl, rfl⟩ | ⟨g, rfl, rfl⟩
  · exact hret _ _ _ _ _ _ _ _ (.inl ⟨g, rfl, rfl, rfl⟩) rfl (A.t _ hL9) hI9 F9 N8
  · exact hret _ _ _ _ _ _ _ _ (.inr ⟨g, rfl, rfl, rfl⟩) rfl (by rw [A.i]; exact hL9) hI9 F9 N8
theorem midV {w : World} {p : Program} {loose : List Str} {mean : ExcName → Option Value} {mg mb : Str → Option Value}
    {dp un : Nat} {gd : Option (List Code)} {cn : Str} {cs : Scope} {a : Addr} {ccd : Value} {cl : List (Str × Addr)} {outer : List Env} {A₀ : Around} {base h₀ : Heap} {L : Addr} {m : Str → Option Value} {s : Shared} {Q E : Value → Shared → Prop}
    {h₁ : Heap} {d an q fr fw fc fh fp : Addr} {fi : Int} {n : Nat} {lt : Int → Int → Bool} {od : Obj} {ws : List Value} {as : List Int} {c : Nat} {f : Int → Int} {led : List (Addr × Obj)} {g1 : Obj → List (Addr × Obj)} {g2 : Obj → Obj → List (Addr × Obj)} {lo mi hi x k y : Int} {t1 t2 t3 : Tok} {G : Int → Int → Int → Int → Int}
    (Fn : Fns w p loose mean mg mb h₁ d an fi n lt fr fw fc fh fp)
    (B : Below A₀ base outer h₀) (F : Fr h₀ L s.heap m) (X : (Mine.hd.heap_1 w.params).In h₀) (T : Top p loose mean mg mb h₀) (hk : cs.kind = .function)
    (R : Rig h₁ d an s.heap) (N : News h₀ L s.heap led) (D : Rigd h₁ d an q fr fw fc fh fp) (m2 : (an, W.listOf ws.toArray c) ∈ led) (U1 : UpdF d od led g1) (U2 : ∀ o, UpdF an (W.listOf ws.toArray c) (g1 o) (g2 o))
    (hL : LieObj w od fi n f) (hI : IntsAre ws as) (hz : as.length ≤ 90) (hda : @LT.lt Nat _ d an) (A : MidAt w fi n f lo mi hi x k y G) (hd : dp + 4 < recursionLimit) (hu : un + 32 < cLine)
    (hret : ∀ od' ws' c' h' tk' x' k' y' l, Mid lt x k y x' k' y' l → l.length ≤ 2 → LieObj w od' fi n (G x' k' y') → IntsAre ws' (as ++ l) → Fr h₀ L h' m → News h₀ L h' (g2 od' (W.listOf ws'.toArray c')) → Q .none { s with heap := h', toks := tk' }) :
    wpAny (model PG w) (ktrTop dp un gd cn cs L a ccd cl outer) (call (.ref 62) [.ref q, .int lo t1, .int mi t2, .int hi t3]) Q E s := by
  refine mid_spec Fn D B F X T hk R (news_sub2 N (updF_mem U1) m2) hL hI hz hda A.l.1.1 A.l.1.2 A.l.2.1.1 A.l.2.1.2 A.l.2.2.1 A.l.2.2.2 hd hu ?_
  rintro od' ws' c' h' tk' f' as' hc hL9 hI9 F9 N9 R9
  have N8 := news_upd2 N U1 (U2 _) R9 N9
  rw [A.a, A.b, A.c] at hc
  rcases hc with ⟨g, rfl, rfl⟩ | ⟨g0, g, rfl, rfl⟩ | ⟨g0, g, rfl, rfl⟩
  · exact hret _ _ _ _ _ _ _ _ _ (.inl ⟨g, rfl, rfl, rfl, rfl⟩) (by decide) (A.t _ hL9) hI9 F9 N8
  · exact hret _ _ _ _ _ _ _ _ _ (.inr (.inl ⟨g0, g, rfl, rfl, rfl, rfl⟩)) (by decide) (A.u _ hL9) hI9 F9 N8
  · exact hret _ _ _ _ _ _ _ _ _ (.inr (.inr ⟨g0, g, rfl, rfl, rfl, rfl⟩)) (by decide) (by rw [A.i]; exact hL9) hI9 F9 N8
theorem news_add {h₀ h : Heap} {L b : Addr} {o : Obj} {l led : List (Addr × Obj)} (N9 : News h₀ L h ((b, o) :: l)) (N : News h₀ L h led) : News h₀ L h ((b, o) :: led) := fun p hp => by
  rcases List.mem_cons.mp hp with rfl | hp
  · exact N9 _ (.head _)
  · exact N p hp
theorem news_tl {h₀ h : Heap} {L : Addr} {q : Addr × Obj} {l : List (Addr × Obj)} (N : News h₀ L h (q :: l)) : News h₀ L h l := fun p hp => N p (.tail _ hp)
theorem led_ne {h₀ h : Heap} {L b : Addr} {led : List (Addr × Obj)} (N : News h₀ L h led) (e : h.get? b = none) : ∀ p ∈ led, p.1 ≠ b := fun p hp q => by
  have x := (N p hp).1
  rw [q, e] at x; cases x
/-- the first place upwards whose thing is not less than the pivot -/
structure UpAt (lt : Int → Int → Bool) (fi : Int) (n : Nat) (f : Int → Int) (pv at_ hi k x : Int) (l : List Int) : Prop where
  s : lt (f (at_ + 1)) pv = false ∧ k = at_ + 1 ∧ l = [0] ∨ lt (f (at_ + 1)) pv = true ∧ lt (f (at_ + 1 + 1)) pv = false ∧ at_ + 1 ≤ hi ∧ k = at_ + 1 + 1 ∧ l = [1, 0]
  v : f k = x
  l1 : fi ≤ at_ + 1
  l2 : k < fi + n
structure DownAt (lt : Int → Int → Bool) (fi : Int) (n : Nat) (f : Int → Int) (pv at_ lo k x : Int) (l : List Int) : Prop where
  s : lt pv (f (at_ - 1)) = false ∧ k = at_ - 1 ∧ l = [0] ∨ lt pv (f (at_ - 1)) = true ∧ lt pv (f (at_ - 1 - 1)) = false ∧ lo ≤ at_ - 1 ∧ k = at_ - 1 - 1 ∧ l = [1, 0]
  v : f k = x
  l1 : fi ≤ k
  l2 : at_ - 1 < fi + n
section
variable {fi : Int} {n : Nat} {a b c e pv at_ bd : Int} {lt : Int → Int → Bool}
theorem uA (h1 : at_ = fi) (h2 : bd = fi + 3) (g1 : lt b pv = true) (g2 : lt c pv = false) (hn : n = 4) : UpAt lt fi n (V fi a b c e) pv at_ bd (fi + 2) c [1, 0] :=
  ⟨.inr ⟨by rw [V1 (by omega)]; exact g1, by rw [V2 (by omega)]; exact g2, by omega, by omega, rfl⟩, V2 rfl, by omega, by omega⟩
theorem uB (h1 : at_ = fi) (g1 : lt b pv = false) (hn : n = 4) : UpAt lt fi n (V fi a b c e) pv at_ bd (fi + 1) b [0] :=
  ⟨.inl ⟨by rw [V1 (by omega)]; exact g1, by omega, rfl⟩, V1 rfl, by omega, by omega⟩
theorem dA (h1 : at_ = fi + 2) (g1 : lt pv b = false) (hn : n = 4) : DownAt lt fi n (V fi a b c e) pv at_ bd (fi + 1) b [0] :=
  ⟨.inl ⟨by rw [V1 (by omega)]; exact g1, by omega, rfl⟩, V1 rfl, by omega, by omega⟩
theorem dB (h1 : at_ = fi + 2) (h2 : bd = fi) (g1 : lt pv b = true) (g2 : lt pv a = false) (hn : n = 4) : DownAt lt fi n (V fi a b c e) pv at_ bd fi a [1, 0] :=
  ⟨.inr ⟨by rw [V1 (by omega)]; exact g1, by rw [V0 (by omega)]; exact g2, by omega, by omega, rfl⟩, V0 rfl, by omega, by omega⟩
end
theorem upV {w : World} {p : Program} {loose : List Str} {mean : ExcName → Option Value} {mg mb : Str → Option Value}
    {dp un : Nat} {gd : Option (List Code)} {cn : Str} {cs : Scope} {a : Addr} {ccd : Value} {cl : List (Str × Addr)} {outer : List Env} {A₀ : Around} {base h₀ : Heap} {L : Addr} {m : Str → Option Value} {s : Shared} {Q E : Value → Shared → Prop}
    {h₁ : Heap} {d an q fr fw fc fh fp : Addr} {fi : Int} {n : Nat} {lt : Int → Int → Bool} {od : Obj} {ws : List Value} {as : List Int} {c : Nat} {f : Int → Int} {led : List (Addr × Obj)} {g1 : Obj → List (Addr × Obj)} {g2 : Obj → Obj → List (Addr × Obj)} {pv at_ bd k x : Int} {l : List Int} {t1 t2 t3 : Tok}
    (Fn : Fns w p loose mean mg mb h₁ d an fi n lt fr fw fc fh fp)
    (B : Below A₀ base outer h₀) (F : Fr h₀ L s.heap m) (X : (Mine.hd.heap_1 w.params).In h₀) (T : Top p loose mean mg mb h₀) (hk : cs.kind = .function)
    (R : Rig h₁ d an s.heap) (N : News h₀ L s.heap led) (D : Rigd h₁ d an q fr fw fc fh fp) (m2 : (an, W.listOf ws.toArray c) ∈ led) (U1 : UpdF d od led g1) (U2 : ∀ o, UpdF an (W.listOf ws.toArray c) (g1 o) (g2 o))
    (hL : LieObj w od fi n f) (hI : IntsAre ws as) (hz : as.length ≤ 90) (hda : @LT.lt Nat _ d an) (A : UpAt lt fi n f pv at_ bd k x l) (hd : dp + 4 < recursionLimit) (hu : un + 32 < cLine)
    (hret : ∀ od' ws' c' h' tk' (T_ : Addr) (t t' : Tok), LieObj w od' fi n f → IntsAre ws' (as ++ l) → Fr h₀ L h' m → News h₀ L h' ((T_, { cls := .type "tuple", data := .seq #[.int k t, .int x t'] }) :: g2 od' (W.listOf ws'.toArray c')) →
      (∀ p ∈ led, p.1 ≠ T_) → Q (.ref T_) { s with heap := h', toks := tk' }) :
    wpAny (model PG w) (ktrTop dp un gd cn cs L a ccd cl outer) (call (.ref 69) [.ref q, .int pv t1, .int at_ t2, .int bd t3]) Q E s := by
  have hs := A.s; have hv := A.v; have l1 := A.l1; have l2 := A.l2
  refine up_spec Fn D B F X T hk R (news_sub2 N (updF_mem U1) m2) hL hI hz hda (by omega) (by omega) (by rcases hs with ⟨x1, x2, _⟩ | ⟨x1, x2, x3, x4, _⟩; exact .inl x1; exact .inr ⟨x1, x2, x3, by omega⟩) hd hu ?_
  rintro od' ws' c' h' tk' f' as' T_ k9 t t' ⟨rfl, hc⟩ hL9 hI9 F9 N9 R9 e9
  have e : k9 = k ∧ as' = as ++ l := by
    rcases hs with ⟨x1, x2, x3⟩ | ⟨x1, x2, x3, x4, x5⟩ <;> rcases hc with ⟨y1, y2, y3⟩ | ⟨y1, y2, y3⟩
    · exact ⟨by omega, by rw [x3]; exact y3⟩
    · rw [x1] at y1; cases y1
    · rw [x1] at y1; cases y1
    · exact ⟨by omega, by rw [x5]; exact y3⟩
  obtain ⟨rfl, rfl⟩ := e
  rw [hv] at N9
  exact hret _ _ _ _ _ _ _ _ hL9 hI9 F9 (news_add N9 (news_upd2 N U1 (U2 _) R9 (news_tl N9))) (led_ne N e9)
theorem downV {w : World} {p : Program} {loose : List Str} {mean : ExcName → Option Value} {mg mb : Str → Option Value}
    {dp un : Nat} {gd : Option (List Code)} {cn : Str} {cs : Scope} {a : Addr} {ccd : Value} {cl : List (Str × Addr)} {outer : List Env} {A₀ : Around} {base h₀ : Heap} {L : Addr} {m : Str → Option Value} {s : Shared} {Q E : Value → Shared → Prop}
    {h₁ : Heap} {d an q fr fw fc fh fp : Addr} {fi : Int} {n : Nat} {lt : Int → Int → Bool} {od : Obj} {ws : List Value} {as : List Int} {c : Nat} {f : Int → Int} {led : List (Addr × Obj)} {g1 : Obj → List (Addr × Obj)} {g2 : Obj → Obj → List (Addr × Obj)} {pv at_ bd k x : Int} {l : List Int} {t1 t2 t3 : Tok}
    (Fn : Fns w p loose mean mg mb h₁ d an fi n lt fr fw fc fh fp)
    (B : Below A₀ base outer h₀) (F : Fr h₀ L s.heap m) (X : (Mine.hd.heap_1 w.params).In h₀) (T : Top p loose mean mg mb h₀) (hk : cs.kind = .function)
    (R : Rig h₁ d an s.heap) (N : News h₀ L s.heap led) (D : Rigd h₁ d an q fr fw fc fh fp) (m2 : (an, W.listOf ws.toArray c) ∈ led) (U1 : UpdF d od led g1) (U2 : ∀ o, UpdF an (W.listOf ws.toArray c) (g1 o) (g2 o))
    (hL : LieObj w od fi n f) (hI : IntsAre ws as) (hz : as.length ≤ 90) (hda : @LT.lt Nat _ d an) (A : DownAt lt fi n f pv at_ bd k x l) (hd : dp + 4 < recursionLimit) (hu : un + 32 < cLine)
    (hret : ∀ od' ws' c' h' tk' (T_ : Addr) (t t' : Tok), LieObj w od' fi n f → IntsAre ws' (as ++ l) → Fr h₀ L h' m → News h₀ L h' ((T_, { cls := .type "tuple", data := .seq #[.int k t, .int x t'] }) :: g2 od' (W.listOf ws'.toArray c')) →
      (∀ p ∈ led, p.1 ≠ T_) → Q (.ref T_) { s with heap := h', toks := tk' }) :
    wpAny (model PG w) (ktrTop dp un gd cn cs L a ccd cl outer) (call (.ref 76) [.ref q, .int pv t1, .int at_ t2, .int bd t3]) Q E s := by
  have hs := A.s; have hv := A.v; have l1 := A.l1; have l2 := A.l2
  refine down_spec Fn D B F X T hk R (news_sub2 N (updF_mem U1) m2) hL hI hz hda (by omega) (by omega) (by rcases hs with ⟨x1, x2, _⟩ | ⟨x1, x2, x3, x4, _⟩; exact .inl x1; exact .inr ⟨x1, x2, x3, by omega⟩) hd hu ?_
  rintro od' ws' c' h' tk' f' as' T_ k9 t t' ⟨rfl, hc⟩ hL9 hI9 F9 N9 R9 e9
  have e : k9 = k ∧ as' = as ++ l := by
    rcases hs with ⟨x1, x2, x3⟩ | ⟨x1, x2, x3, x4, x5⟩ <;> rcases hc with ⟨y1, y2, y3⟩ | ⟨y1, y2, y3⟩
    · exact ⟨by omega, by rw [x3]; exact y3⟩
    · rw [x1] at y1; cases y1
    · rw [x1] at y1; cases y1
    · exact ⟨by omega, by rw [x5]; exact y3⟩
  obtain ⟨rfl, rfl⟩ := e
  rw [hv] at N9
  exact hret _ _ _ _ _ _ _ _ hL9 hI9 F9 (news_add N9 (news_upd2 N U1 (U2 _) R9 (news_tl N9))) (led_ne N e9)
end
section
set_option maxRecDepth 100000
set_option maxHeartbeats 8000000
local macro_rules | `(tactic| walk_at "call ref") => `(tactic| (k_here; k_dflt ((first
  | (refine' upV (by assumption) (by k_asm) (by k_asm) (by k_asm) (by k_asm) (by first | exact rfl | assumption) (by exact Rig.fr (by assumption) (by k_asm)) (by k_asm) (by assumption) (by k_mem) (by k_updF) (fun _ => by k_updF) (by with_reducible assumption) (by with_reducible assumption) (by ((try simp only [List.length_append, List.length_cons, List.length_nil]); omega)) (by with_reducible assumption) (by first | exact uA (by omega) (by omega) (by assumption) (by assumption) (by omega) | exact uB (by omega) (by assumption) (by omega)) (by ktr_room) (by ktr_units) ?_; k_whole)
  | (refine' downV (by assumption) (by k_asm) (by k_asm) (by k_asm) (by k_asm) (by first | exact rfl | assumption) (by exact Rig.fr (by assumption) (by k_asm)) (by k_asm) (by assumption) (by k_mem) (by k_updF) (fun _ => by k_updF) (by with_reducible assumption) (by with_reducible assumption) (by ((try simp only [List.length_append, List.length_cons, List.length_nil]); omega)) (by with_reducible assumption) (by first | exact dA (by omega) (by assumption) (by omega) | exact dB (by omega) (by omega) (by assumption) (by assumption) (by omega)) (by ktr_room) (by ktr_units) ?_; k_whole)); intro od9 ws9 c9 h9 tk9 T9 t9 u9 hL9 hI9 F9 N9 l9; (try k_sweep); (try dsimp only))))
theorem fdiv_as {prog : Program} {w : World} {A : Around} {E : Value → Shared → Prop} {s : Shared} {x z : Int} {t u : Tok} {Q : Value → Shared → Prop} (h : x.fdiv 2 = z) (hq : Q (.int z s.toks) { s with toks := s.toks + 1 }) :
    wpAny (model prog w) A (binaryOp .FloorDiv (.int x t) (.int 2 u)) Q E s := by
  subst h
  exact floordiv_int (by decide) hq (Or.inl (PyProof.noPylong_of_log2 (by decide +kernel)))
theorem ints_as {ws : List Value} {l l' : List Int} (h : IntsAre ws l) (e : l = l') : IntsAre ws l' := e ▸ h
local macro_rules | `(tactic| walk_at "exec While") => `(tactic| (k_here; k_dflt (refine whl_start 4 ?_)))
local macro_rules | `(tactic| walk_at "WhlIf") => `(tactic| first | (refine WhlIf.yes (by assumption) ?_) | (refine WhlIf.no (by assumption) ?_) | (refine WhlIf.yes (by with_unfolding_all rfl) ?_))
local macro_rules | `(tactic| walk_at "binaryOp FloorDiv int int") => `(tactic| (k_dflt (refine' fdiv_as (by assumption) ?_; )))
theorem partA {w : World} {p : Program} {loose : List Str} {mean : ExcName → Option Value} {mg mb : Str → Option Value}
    {dp un : Nat} {gd : Option (List Code)} {cn : Str} {cs : Scope} {a : Addr} {ccd : Value} {cl : List (Str × Addr)} {outer : List Env} {A₀ : Around} {base h₀ : Heap} {L : Addr} {m : Str → Option Value} {s : Shared} {Q E : Value → Shared → Prop}
    {h₁ : Heap} {d an q fr fw fc fh fp : Addr} {fi : Int} {n : Nat} {lt : Int → Int → Bool} {od : Obj} {ws : List Value} {as : List Int} {c : Nat} {a0 b0 c0 e0 : Int} {lo hi : Int} {t1 t2 : Tok}
    (Fn : Fns w p loose mean mg mb h₁ d an fi n lt fr fw fc fh fp) (D : Rigd h₁ d an q fr fw fc fh fp)
    (B : Below A₀ base outer h₀) (F : Fr h₀ L s.heap m) (X : (Mine.hd.heap_1 w.params).In h₀) (T : Top p loose mean mg mb h₀) (hk : cs.kind = .function)
    (R : Rig h₁ d an s.heap) (N : News h₀ L s.heap [(d, od), (an, W.listOf ws.toArray c)]) (hL : LieObj w od fi n (V fi a0 b0 c0 e0)) (hI : IntsAre ws as) (hz : as.length ≤ 80) (hda : @LT.lt Nat _ d an)
    (h1 : lo = fi) (h2 : hi = fi + 3) (g1 : lt c0 b0 = true) (g2 : lt b0 c0 = false) (g3 : lt b0 b0 = false) (hn : n = 4) (hd : dp + 6 < recursionLimit) (hu : un + 64 < cLine)
    (hret : ∀ od' ws' c' h' tk' (t : Tok), LieObj w od' fi n (V fi a0 c0 b0 e0) → IntsAre ws' (as ++ [1, 0, 0]) →
      Fr h₀ L h' m → News h₀ L h' [(d, od'), (an, W.listOf ws'.toArray c')] → Rig s.heap d an h' → Q (.int (fi + 2) t) { s with heap := h', toks := tk' }) :
    wpAny (model PG w) (ktrTop dp un gd cn cs L a ccd cl outer) (call (.ref 83) [.ref q, .int lo t1, .int hi t2]) Q E s := by
  have hm : (lo + hi).fdiv 2 = fi + 1 := by rw [Int.fdiv_eq_ediv_of_nonneg _ (by decide)]; omega
  refine wpAny_call ?_
  k_dflt (refine' code_defG ?k1 ?k2 ?k3 ?k4 ?k5 ?kA ?kF ?kK ?k6 ?k7 ?k8 ?k9 ?kB ?_ ?c2 ?c3 ?c4 ?c5; (case kA => exact rfl); (case kF => exact rfl); (case kK => assumption); (case k1 => k_asm); (case k2 => k_asm); (case k3 => k_asm); (case k4 => k_asm); (case k5 => k_asm); (case k6 => k_is); (case k7 => k_is); (case k8 => ktr_room); (case k9 => exact BindsTo.of_eq rfl); (case c5 => decide); (case kB => exact locs rfl); (case c2 => exact rfl); (case c3 => exact rfl); (case c4 => exact rfl); k_whole; intro g' L' h' FG' F' N' B' X' T' G'; (try dsimp only); (try k_fold))
  have RG := R.sub G'
  k_steps
  all_goals exact hret _ _ _ _ _ _ (by with_reducible assumption) (ints_as (by with_reducible assumption) (by simp)) (by k_asm) (news_sub2 (by k_asm) (by k_mem) (by k_mem)) (Rig.of (by assumption) (by k_asm))
theorem partB {w : World} {p : Program} {loose : List Str} {mean : ExcName → Option Value} {mg mb : Str → Option Value}
    {dp un : Nat} {gd : Option (List Code)} {cn : Str} {cs : Scope} {a : Addr} {ccd : Value} {cl : List (Str × Addr)} {outer : List Env} {A₀ : Around} {base h₀ : Heap} {L : Addr} {m : Str → Option Value} {s : Shared} {Q E : Value → Shared → Prop}
    {h₁ : Heap} {d an q fr fw fc fh fp : Addr} {fi : Int} {n : Nat} {lt : Int → Int → Bool} {od : Obj} {ws : List Value} {as : List Int} {c : Nat} {a0 b0 c0 e0 : Int} {lo hi : Int} {t1 t2 : Tok}
    (Fn : Fns w p loose mean mg mb h₁ d an fi n lt fr fw fc fh fp) (D : Rigd h₁ d an q fr fw fc fh fp)
    (B : Below A₀ base outer h₀) (F : Fr h₀ L s.heap m) (X : (Mine.hd.heap_1 w.params).In h₀) (T : Top p loose mean mg mb h₀) (hk : cs.kind = .function)
    (R : Rig h₁ d an s.heap) (N : News h₀ L s.heap [(d, od), (an, W.listOf ws.toArray c)]) (hL : LieObj w od fi n (V fi a0 b0 c0 e0)) (hI : IntsAre ws as) (hz : as.length ≤ 80) (hda : @LT.lt Nat _ d an)
    (h1 : lo = fi) (h2 : hi = fi + 3) (g1 : lt c0 b0 = false) (g2 : lt b0 c0 = true) (g3 : lt b0 a0 = false) (hn : n = 4) (hd : dp + 6 < recursionLimit) (hu : un + 64 < cLine)
    (hret : ∀ od' ws' c' h' tk' (t : Tok), LieObj w od' fi n (V fi a0 b0 c0 e0) → IntsAre ws' (as ++ [0, 1, 0]) →
      Fr h₀ L h' m → News h₀ L h' [(d, od'), (an, W.listOf ws'.toArray c')] → Rig s.heap d an h' → Q (.int (fi + 1) t) { s with heap := h', toks := tk' }) :
    wpAny (model PG w) (ktrTop dp un gd cn cs L a ccd cl outer) (call (.ref 83) [.ref q, .int lo t1, .int hi t2]) Q E s := by
  have hm : (lo + hi).fdiv 2 = fi + 1 := by rw [Int.fdiv_eq_ediv_of_nonneg _ (by decide)]; omega
  refine wpAny_call ?_
  k_dflt (refine' code_defG ?k1 ?k2 ?k3 ?k4 ?k5 ?kA ?kF ?kK ?k6 ?k7 ?k8 ?k9 ?kB ?_ ?c2 ?c3 ?c4 ?c5; (case kA => exact rfl); (case kF => exact rfl); (case kK => assumption); (case k1 => k_asm); (case k2 => k_asm); (case k3 => k_asm); (case k4 => k_asm); (case k5 => k_asm); (case k6 => k_is); (case k7 => k_is); (case k8 => ktr_room); (case k9 => exact BindsTo.of_eq rfl); (case c5 => decide); (case kB => exact locs rfl); (case c2 => exact rfl); (case c3 => exact rfl); (case c4 => exact rfl); k_whole; intro g' L' h' FG' F' N' B' X' T' G'; (try dsimp only); (try k_fold))
  have RG := R.sub G'
  k_steps
  all_goals exact hret _ _ _ _ _ _ (by with_reducible assumption) (ints_as (by with_reducible assumption) (by simp)) (by k_asm) (news_sub2 (by k_asm) (by k_mem) (by k_mem)) (Rig.of (by assumption) (by k_asm))
end
section
set_option maxRecDepth 100000
set_option maxHeartbeats 8000000
structure Ord (lt : Int → Int → Bool) : Prop where
  irr : ∀ x, lt x x = false
  asym : ∀ x y, lt x y = true → lt y x = false
  tot : ∀ x y, x ≠ y → lt x y = true ∨ lt y x = true
noncomputable def PartOk (lt : Int → Int → Bool) (a b c : Int) : Prop := lt b a = false ∧ c ≠ b
theorem part_ok {lt : Int → Int → Bool} (O : Ord lt) {a b c e a1 e1 a2 b2 e2 : Int} {l1 l2 : List Int} (h3 : Mid lt a1 b e1 a2 b2 e2 l2) (h2 : Two lt a e a1 e1 l1) (hca : c ≠ a) (hcb : c ≠ b) (hce : c ≠ e) : PartOk lt a2 b2 c := by
  rcases h2 with ⟨p1, rfl, rfl, _⟩ | ⟨p1, rfl, rfl, _⟩ <;> rcases h3 with ⟨q1, rfl, rfl, rfl, _⟩ | ⟨q1, q2, rfl, rfl, rfl, _⟩ | ⟨q1, q2, rfl, rfl, rfl, _⟩
  · exact ⟨O.asym _ _ q1, hce⟩
  · exact ⟨O.asym _ _ p1, hca⟩
  · exact ⟨q1, hcb⟩
  · exact ⟨O.asym _ _ q1, hca⟩
  · exact ⟨p1, hce⟩
  · exact ⟨q1, hcb⟩
theorem partV {w : World} {p : Program} {loose : List Str} {mean : ExcName → Option Value} {mg mb : Str → Option Value}
    {dp un : Nat} {gd : Option (List Code)} {cn : Str} {cs : Scope} {a : Addr} {ccd : Value} {cl : List (Str × Addr)} {outer : List Env} {A₀ : Around} {base h₀ : Heap} {L : Addr} {m : Str → Option Value} {s : Shared} {Q E : Value → Shared → Prop}
    {h₁ : Heap} {d an q fr fw fc fh fp : Addr} {fi : Int} {n : Nat} {lt : Int → Int → Bool} {od : Obj} {ws : List Value} {as : List Int} {c : Nat} {a0 b0 c0 e0 : Int} {led : List (Addr × Obj)} {g1 : Obj → List (Addr × Obj)} {g2 : Obj → Obj → List (Addr × Obj)} {lo hi : Int} {t1 t2 : Tok} (O : Ord lt)
    (Fn : Fns w p loose mean mg mb h₁ d an fi n lt fr fw fc fh fp)
    (B : Below A₀ base outer h₀) (F : Fr h₀ L s.heap m) (X : (Mine.hd.heap_1 w.params).In h₀) (T : Top p loose mean mg mb h₀) (hk : cs.kind = .function)
    (R : Rig h₁ d an s.heap) (N : News h₀ L s.heap led) (D : Rigd h₁ d an q fr fw fc fh fp) (m2 : (an, W.listOf ws.toArray c) ∈ led) (U1 : UpdF d od led g1) (U2 : ∀ o, UpdF an (W.listOf ws.toArray c) (g1 o) (g2 o))
    (hL : LieObj w od fi n (V fi a0 b0 c0 e0)) (hI : IntsAre ws as) (hz : as.length ≤ 80) (hda : @LT.lt Nat _ d an) (h1 : lo = fi) (h2 : hi = fi + 3) (hp : PartOk lt a0 b0 c0) (hn : n = 4) (hd : dp + 6 < recursionLimit) (hu : un + 64 < cLine)
    (hr1 : ∀ od' ws' c' h' tk' (t : Tok), lt c0 b0 = true → LieObj w od' fi n (V fi a0 c0 b0 e0) → IntsAre ws' (as ++ [1, 0, 0]) → Fr h₀ L h' m → News h₀ L h' (g2 od' (W.listOf ws'.toArray c')) → Q (.int (fi + 2) t) { s with heap := h', toks := tk' })
    (hr2 : ∀ od' ws' c' h' tk' (t : Tok), lt c0 b0 = false → LieObj w od' fi n (V fi a0 b0 c0 e0) → IntsAre ws' (as ++ [0, 1, 0]) → Fr h₀ L h' m → News h₀ L h' (g2 od' (W.listOf ws'.toArray c')) → Q (.int (fi + 1) t) { s with heap := h', toks := tk' }) :
    wpAny (model PG w) (ktrTop dp un gd cn cs L a ccd cl outer) (call (.ref 83) [.ref q, .int lo t1, .int hi t2]) Q E s := by
  cases g1 : lt c0 b0 with
  | true => exact partA Fn D B F X T hk R (news_sub2 N (updF_mem U1) m2) hL hI hz hda h1 h2 g1 (O.asym _ _ g1) (O.irr _) hn hd hu fun od' ws' c' h' tk' t hL9 hI9 F9 N9 R9 => hr1 _ _ _ _ _ _ g1 hL9 hI9 F9 (news_upd2 N U1 (U2 _) R9 N9)
  | false => exact partB Fn D B F X T hk R (news_sub2 N (updF_mem U1) m2) hL hI hz hda h1 h2 g1 ((O.tot _ _ hp.2).resolve_left (by rw [g1]; simp)) hp.1 hn hd hu fun od' ws' c' h' tk' t hL9 hI9 F9 N9 R9 => hr2 _ _ _ _ _ _ g1 hL9 hI9 F9 (news_upd2 N U1 (U2 _) R9 N9)
noncomputable def Sort4 (lt : Int → Int → Bool) (a b c e a' b' c' e' : Int) (l : List Int) : Prop := ∃ a1 e1 l1 a2 b2 e2 l2, Two lt a e a1 e1 l1 ∧ Mid lt a1 b e1 a2 b2 e2 l2 ∧
  ((lt c b2 = true ∧ ∃ b3 l4, Two lt a2 c a' b3 l4 ∧ b' = b3 ∧ c' = b2 ∧ e' = e2 ∧ l = l1 ++ l2 ++ [1, 0, 0] ++ l4) ∨
   (lt c b2 = false ∧ ∃ c3 l4, Two lt c e2 c3 e' l4 ∧ a' = a2 ∧ b' = b2 ∧ c' = c3 ∧ l = l1 ++ l2 ++ [0, 1, 0] ++ l4))
noncomputable def Sort3 (lt : Int → Int → Bool) (a b c a' b' c' : Int) (l : List Int) : Prop := ∃ a1 c1 l1 l2, Two lt a c a1 c1 l1 ∧ Mid lt a1 b c1 a' b' c' l2 ∧ l = l1 ++ l2
local macro_rules | `(tactic| walk_at "call ref") => `(tactic| (k_here; k_dflt ((first
  | (refine' twoV (by assumption) (by k_asm) (by k_asm) (by k_asm) (by k_asm) (by first | exact rfl | assumption) (by exact Rig.fr (by assumption) (by k_asm)) (by k_asm) (by assumption) (by k_mem) (by k_updF) (fun _ => by k_updF) (by with_reducible assumption) (by with_reducible assumption) (by ((try simp only [List.length_append, List.length_cons, List.length_nil]); omega)) (by with_reducible assumption) (by first | exact t01 (by omega) (by omega) (by omega) | exact t23 (by omega) (by omega) (by omega) (by omega) | exact t02 (by omega) (by omega) (by omega) | exact t03 (by omega) (by omega) (by omega) (by omega)) (by ktr_room) (by ktr_units) ?_; k_whole; intro od9 ws9 c9 h9 tk9 x9 y9 l9 hc9 z9 hL9 hI9 F9 N9)
  | (refine' midV (by assumption) (by k_asm) (by k_asm) (by k_asm) (by k_asm) (by first | exact rfl | assumption) (by exact Rig.fr (by assumption) (by k_asm)) (by k_asm) (by assumption) (by k_mem) (by k_updF) (fun _ => by k_updF) (by with_reducible assumption) (by with_reducible assumption) (by ((try simp only [List.length_append, List.length_cons, List.length_nil]); omega)) (by with_reducible assumption) (by first | exact m012 (by omega) (by omega) (by omega) (by omega) | exact m013 (by omega) (by omega) (by omega) (by omega) (by omega)) (by ktr_room) (by ktr_units) ?_; k_whole; intro od9 ws9 c9 h9 tk9 x9 m9 y9 l9 hc9 z9 hL9 hI9 F9 N9)
  | (refine' partV (by assumption) (by assumption) (by k_asm) (by k_asm) (by k_asm) (by k_asm) (by first | exact rfl | assumption) (by exact Rig.fr (by assumption) (by k_asm)) (by k_asm) (by assumption) (by k_mem) (by k_updF) (fun _ => by k_updF) (by with_reducible assumption) (by with_reducible assumption) (by ((try simp only [List.length_append, List.length_cons, List.length_nil]); omega)) (by with_reducible assumption) (by omega) (by omega) (by exact part_ok (by assumption) (by assumption) (by assumption) (by assumption) (by assumption) (by assumption)) (by omega) (by ktr_room) (by ktr_units) ?_ ?_; k_whole <;> intro od9 ws9 c9 h9 tk9 t9 hp9 hL9 hI9 F9 N9)); (try k_sweep); (try dsimp only))))
local macro_rules | `(tactic| walk_at "exec While") => `(tactic| (k_here; k_dflt (refine whl_start 6 ?_)))
local macro_rules | `(tactic| walk_at "binaryOp FloorDiv int int") => `(tactic| (k_dflt (refine' fdiv_as (by assumption) ?_; )))
theorem sort4_spec {w : World} {p : Program} {loose : List Str} {mean : ExcName → Option Value} {mg mb : Str → Option Value}
    {dp un : Nat} {gd : Option (List Code)} {cn : Str} {cs : Scope} {a : Addr} {ccd : Value} {cl : List (Str × Addr)} {outer : List Env} {A₀ : Around} {base h₀ : Heap} {L : Addr} {m : Str → Option Value} {s : Shared} {Q E : Value → Shared → Prop}
    {h₁ : Heap} {d an q fr fw fc fh fp : Addr} {fi : Int} {n : Nat} {lt : Int → Int → Bool} {od : Obj} {ws : List Value} {as : List Int} {c : Nat} {a0 b0 c0 e0 : Int} {lo hi : Int} {t1 t2 : Tok} (O : Ord lt)
    (Fn : Fns w p loose mean mg mb h₁ d an fi n lt fr fw fc fh fp) (D : Rigd h₁ d an q fr fw fc fh fp)
    (B : Below A₀ base outer h₀) (F : Fr h₀ L s.heap m) (X : (Mine.hd.heap_1 w.params).In h₀) (T : Top p loose mean mg mb h₀) (hk : cs.kind = .function)
    (R : Rig h₁ d an s.heap) (N : News h₀ L s.heap [(d, od), (an, W.listOf ws.toArray c)]) (hL : LieObj w od fi n (V fi a0 b0 c0 e0)) (hI : IntsAre ws as) (hz : as.length ≤ 50) (hda : @LT.lt Nat _ d an)
    (h1 : lo = fi) (h2 : hi = fi + 3) (hca : c0 ≠ a0) (hcb : c0 ≠ b0) (hce : c0 ≠ e0) (hn : n = 4) (hd : dp + 10 < recursionLimit) (hu : un + 100 < cLine)
    (hret : ∀ od' ws' c' h' tk' (a' b' x' e' : Int) (l : List Int), Sort4 lt a0 b0 c0 e0 a' b' x' e' l → LieObj w od' fi n (V fi a' b' x' e') → IntsAre ws' (as ++ l) →
      Fr h₀ L h' m → News h₀ L h' [(d, od'), (an, W.listOf ws'.toArray c')] → Rig s.heap d an h' → Q .none { s with heap := h', toks := tk' }) :
    wpAny (model PG w) (ktrTop dp un gd cn cs L a ccd cl outer) (call (.ref 90) [.ref q, .int lo t1, .int hi t2]) Q E s := by
  have hm : (lo + hi).fdiv 2 = fi + 1 := by rw [Int.fdiv_eq_ediv_of_nonneg _ (by decide)]; omega
  refine wpAny_call ?_
  k_dflt (refine' code_defG ?k1 ?k2 ?k3 ?k4 ?k5 ?kA ?kF ?kK ?k6 ?k7 ?k8 ?k9 ?kB ?_ ?c2 ?c3 ?c4 ?c5; (case kA => exact rfl); (case kF => exact rfl); (case kK => assumption); (case k1 => k_asm); (case k2 => k_asm); (case k3 => k_asm); (case k4 => k_asm); (case k5 => k_asm); (case k6 => k_is); (case k7 => k_is); (case k8 => ktr_room); (case k9 => exact BindsTo.of_eq rfl); (case c5 => decide); (case kB => exact locs rfl); (case c2 => exact rfl); (case c3 => exact rfl); (case c4 => exact rfl); k_whole; intro g' L' h' FG' F' N' B' X' T' G'; (try dsimp only); (try k_fold))
  have RG := R.sub G'
  k_steps
  · refine' hret _ _ _ _ _ _ _ _ _ (_ ++ _ ++ [1, 0, 0] ++ _) ⟨_, _, _, _, _, _, _, ?c1, ?c2, .inl ⟨?c3, _, _, ?c4, rfl, rfl, rfl, rfl⟩⟩ ?hL (ints_as ?hI ?e) (by k_asm) ?hN (Rig.of (by assumption) (by k_asm))
    (case hL => with_reducible assumption); (case c4 => with_reducible assumption); (case c2 => with_reducible assumption); (case c1 => with_reducible assumption); (case c3 => with_reducible assumption); (case hI => with_reducible assumption); (case e => simp); (case hN => exact news_sub2 (by k_asm) (by k_mem) (by k_mem))
  · refine' hret _ _ _ _ _ _ _ _ _ (_ ++ _ ++ [0, 1, 0] ++ _) ⟨_, _, _, _, _, _, _, ?c1, ?c2, .inr ⟨?c3, _, _, ?c4, rfl, rfl, rfl, rfl⟩⟩ ?hL (ints_as ?hI ?e) (by k_asm) ?hN (Rig.of (by assumption) (by k_asm))
    (case hL => with_reducible assumption); (case c4 => with_reducible assumption); (case c2 => with_reducible assumption); (case c1 => with_reducible assumption); (case c3 => with_reducible assumption); (case hI => with_reducible assumption); (case e => simp); (case hN => exact news_sub2 (by k_asm) (by k_mem) (by k_mem))
theorem sort3_spec {w : World} {p : Program} {loose : List Str} {mean : ExcName → Option Value} {mg mb : Str → Option Value}
    {dp un : Nat} {gd : Option (List Code)} {cn : Str} {cs : Scope} {a : Addr} {ccd : Value} {cl : List (Str × Addr)} {outer : List Env} {A₀ : Around} {base h₀ : Heap} {L : Addr} {m : Str → Option Value} {s : Shared} {Q E : Value → Shared → Prop}
    {h₁ : Heap} {d an q fr fw fc fh fp : Addr} {fi : Int} {n : Nat} {lt : Int → Int → Bool} {od : Obj} {ws : List Value} {as : List Int} {c : Nat} {a0 b0 c0 e0 : Int} {lo hi : Int} {t1 t2 : Tok}
    (Fn : Fns w p loose mean mg mb h₁ d an fi n lt fr fw fc fh fp) (D : Rigd h₁ d an q fr fw fc fh fp)
    (B : Below A₀ base outer h₀) (F : Fr h₀ L s.heap m) (X : (Mine.hd.heap_1 w.params).In h₀) (T : Top p loose mean mg mb h₀) (hk : cs.kind = .function)
    (R : Rig h₁ d an s.heap) (N : News h₀ L s.heap [(d, od), (an, W.listOf ws.toArray c)]) (hL : LieObj w od fi n (V fi a0 b0 c0 e0)) (hI : IntsAre ws as) (hz : as.length ≤ 50) (hda : @LT.lt Nat _ d an)
    (h1 : lo = fi) (h2 : hi = fi + 2) (hn : n = 3) (hd : dp + 10 < recursionLimit) (hu : un + 100 < cLine)
    (hret : ∀ od' ws' c' h' tk' (a' b' x' : Int) (l : List Int), Sort3 lt a0 b0 c0 a' b' x' l → LieObj w od' fi n (V fi a' b' x' e0) → IntsAre ws' (as ++ l) →
      Fr h₀ L h' m → News h₀ L h' [(d, od'), (an, W.listOf ws'.toArray c')] → Rig s.heap d an h' → Q .none { s with heap := h', toks := tk' }) :
    wpAny (model PG w) (ktrTop dp un gd cn cs L a ccd cl outer) (call (.ref 90) [.ref q, .int lo t1, .int hi t2]) Q E s := by
  have hm : (lo + hi).fdiv 2 = fi + 1 := by rw [Int.fdiv_eq_ediv_of_nonneg _ (by decide)]; omega
  refine wpAny_call ?_
  k_dflt (refine' code_defG ?k1 ?k2 ?k3 ?k4 ?k5 ?kA ?kF ?kK ?k6 ?k7 ?k8 ?k9 ?kB ?_ ?c2 ?c3 ?c4 ?c5; (case kA => exact rfl); (case kF => exact rfl); (case kK => assumption); (case k1 => k_asm); (case k2 => k_asm); (case k3 => k_asm); (case k4 => k_asm); (case k5 => k_asm); (case k6 => k_is); (case k7 => k_is); (case k8 => ktr_room); (case k9 => exact BindsTo.of_eq rfl); (case c5 => decide); (case kB => exact locs rfl); (case c2 => exact rfl); (case c3 => exact rfl); (case c4 => exact rfl); k_whole; intro g' L' h' FG' F' N' B' X' T' G'; (try dsimp only); (try k_fold))
  have RG := R.sub G'
  k_steps
  refine' hret _ _ _ _ _ _ _ _ (_ ++ _) ⟨_, _, _, _, ?c1, ?c2, rfl⟩ ?hL (ints_as ?hI ?e) (by k_asm) ?hN (Rig.of (by assumption) (by k_asm))
  (case hL => with_reducible assumption); (case c2 => with_reducible assumption); (case c1 => with_reducible assumption); (case hI => with_reducible assumption); (case e => simp); (case hN => exact news_sub2 (by k_asm) (by k_mem) (by k_mem))
end
end
section
section
set_option maxRecDepth 100000
set_option maxHeartbeats 8000000
noncomputable def nm : Stmt → Str | .FunctionDef n .. => n | _ => Str.empty
noncomputable def prm : Stmt → Arguments | .FunctionDef _ a .. => a | _ => default
noncomputable def bdy : Stmt → List Stmt | .FunctionDef _ _ b .. => b | _ => []
noncomputable def scp : Stmt → Scope | .FunctionDef _ _ _ _ _ _ s .. => s | _ => default
noncomputable def askedBody : List Stmt := bdy (PG.main.body.getD 6 default)
noncomputable def readDef : Stmt := askedBody.getD 2 default
noncomputable def writeDef : Stmt := askedBody.getD 3 default
noncomputable def aheadDef : Stmt := askedBody.getD 4 default

/-- a def made in a call, as it stands in h₁ -/
structure Clos (h₁ : Heap) (d an f : Addr) (df : Stmt) (clos : List (Str × Addr)) : Prop where
  out : ∃ qual doc pm c' ctv, h₁.get? f = some (fnMade (nm df) qual (prm df) (bdy df) (scp df) clos doc pm c' ctv) ∧ h₁.CodeRec (.ref c') qual ∧ f ≠ d ∧ f ≠ an ∧ c' ≠ d ∧ c' ≠ an
noncomputable def CellIs (h : Heap) (c : Addr) (v : Value) : Prop := ∃ o, h.get? c = some o ∧ o.data = .cell (some v)
theorem CellIs.rig {h₁ h : Heap} {d an c : Addr} {v : Value} (x : CellIs h₁ c v) (R : Rig h₁ d an h) (n : c ≠ d ∧ c ≠ an) : CellIs h c v :=
  let ⟨o, e, r⟩ := x; ⟨o, R _ _ e n.1 n.2, r⟩
theorem codeRec_rig {h₁ h : Heap} {d an c' : Addr} {q : Str} (x : h₁.CodeRec (.ref c') q) (R : Rig h₁ d an h) (n1 : c' ≠ d) (n2 : c' ≠ an) : h.CodeRec (.ref c') q := by
  obtain ⟨c, o, vs, t, e, g, r⟩ := x
  cases e
  exact ⟨c', o, vs, t, rfl, R _ _ g n1 n2, r⟩

section
variable {prog : Program} {w : World} {A A₀ : Around} {s : Shared} {K : Frag} {L : Addr} {h₀ base : Heap} {m mg mb : Str → Option Value} {news : List (Addr × Obj)} {p : Program} {loose : List Str} {mean : ExcName → Option Value}
/-- the way into a def that a call has made; what is not of the ledger stands in the new frame's ground -/
theorem enter_clos {env : Env} {outer : List Env} {R : Result → Shared → Prop} {fd : FuncData} {body : List Stmt} {oc : Value} {od : Option Addr} {sl : Array (Option Value)} {f : Addr} {args : Args} {binds : List (Str × Value)}
    (B : Below A₀ base outer h₀) (F : Fr h₀ L s.heap m) (X₀ : K.In h₀) (N : News h₀ L s.heap news) (T : Top p loose mean mg mb h₀) (hA : A.frames = some (env :: outer)) (hf : env.frame = some L) (hke : env.scope.kind = .function)
    (ho : s.heap.get? f = some ⟨oc, od, .func fd, sl⟩) (hcd : s.heap.CodeRec fd.code fd.qualname) (hb : fd.body = .stmts body) (hroom : A.depth < recursionLimit)
    (hbind : BindsTo s fd args binds) (hloc : ∀ y ∈ binds, fd.scope.names.lookup y.1 = some .local) (hcell : ∀ x ∈ fd.scope.names, x.2 ≠ .cell)
    (h : ∀ g L' h₁, Fr h₀ L g m → Fr g L' h₁ (fun y => binds.reverse.lookup y) → News g L' h₁ news → Below A base (env :: outer) g → K.In g → Top p loose mean mg mb g → GSub s.heap g (news.map (·.1)) →
      wpAny (model prog w) (A.deeper (callEnv fd L' f)) (execs body (callEnv fd L' f))
        (fun fl s' => LeaveK h₀ L m g R (match fl with | .ret v => v | _ => .none) s')
        (fun e s' => wpAny (model prog w) (A.deeper (callEnv fd L' f)) (leaving (callEnv fd L' f) e) (fun _ s'' => R (.error e) s'') (fun e' s'' => R (.error e') s'') s')
        { s with heap := h₁, toks := s.toks + binds.length })
    (hco : fd.scope.isCoroutine = false) (hgen : fd.scope.isGenerator = false) (hk : fd.scope.kind = .function) : codeAny (model prog w) A (.call (.ref f) args) R s := by
  obtain ⟨FG, BG, st, lv⟩ := groundX (R := R) B F N hA hf hke
  refine codeAny_call_def (fd := fd) (body := body) (binds := binds) hroom ho rfl (T.nolimit.keeps F.keep) hcd hb hbind hcell hloc (fun h₁ hns hk₁ => ?_) hco hgen hk
  refine wpAny_mono (h _ s.heap.objs.size h₁ FG ⟨hns, fun b o e => hk₁ b o (of_hideAll _ e), Nat.le_of_eq (hideAll_size _ _)⟩ (fun q hq => ?_) BG (X₀.keeps st) (T.keeps st) fun b o e n => hideAll_get _ e n) (fun fl s' hl => lv _ _ hl) fun _ _ y => y
  exact ⟨hk₁ _ _ (N q hq).1, Nat.ne_of_lt (Heap.lt_size (N q hq).1), hideAll_none _ (List.mem_map_of_mem hq)⟩
end
section
variable {M : Model} {A : Around} {E : Value → Shared → Prop} {s : Shared} {h₀ : Heap} {L a : Addr} {m : Str → Option Value} {cn : Str} {cs : Scope} {ccd : Value} {cl : List (Str × Addr)} {x : Str} {pos : Pos} {v : Value} {Q : Value → Shared → Prop} {c : Addr}
theorem name_cell (F : Fr h₀ L s.heap m) (hc : cl.lookup x = some c) (hv : CellIs h₀ c v) (h : Q v s)
    (hk : cs.kind = .function) (hx : (envX cn cs L a ccd cl).kindOf x = some .free) (hb : (x == ("__debug__" : Str)) = false) (hn : (x == ("__classdict__" : Str)) = false) :
    wpAny M A (eval (.Name x pos) (envX cn cs L a ccd cl)) Q E s := by
  obtain ⟨o, e, hd⟩ := hv
  exact wpAny_Name (wpAny_loadName_free hk hx hc ⟨o, F.keep _ _ e, hd⟩ h hn) hb
end
local macro_rules | `(tactic| walk_at "eval Name") => `(tactic| (k_here; k_dflt (refine' name_cell (by k_asm) (by assumption) (by assumption) ?_ (by rfl) (by rfl) (by decide) (by decide); k_whole)))
local macro_rules | `(tactic| walk_at "subscriptTail") => `(tactic| (k_here; (with_reducible show wpAny _ _ (subscriptTail _ _ (Value.ref _) (Value.int _ _)) _ _ _); k_dflt (refine' lie_item (by k_asm) (by k_mem) (by with_reducible assumption) (by omega) (by omega) ?_ (by with_unfolding_all rfl); k_whole); intro t9; (try dsimp only)))
theorem read_fn {w : World} {p : Program} {loose : List Str} {mean : ExcName → Option Value} {mg mb : Str → Option Value} {h₁ : Heap} {d an fr cc ca cb : Addr} {fi : Int} {n : Nat} {clos : List (Str × Addr)}
    (H : Clos h₁ d an fr readDef clos) (hl : clos.lookup (Str.ofString "lie") = some cc) (hc : CellIs h₁ cc (.ref d)) (nc : cc ≠ d ∧ cc ≠ an) (k : Int) (t : Tok) (od oa : Obj) (f : Int → Int) :
    AskFn w p loose mean mg mb h₁ d an fr [.int k t] od oa (LieObj w od fi n f ∧ fi ≤ k ∧ k < fi + n) (fun od' oa' => od' = od ∧ oa' = oa) (fun v => ∃ t', v = .int (f k) t') := by
  intro dp un gd cn cs a ccd cl outer A₀ base h₀ L m s Q E B F X T hk R N hP hd hu hret
  obtain ⟨hL, l1, l2⟩ := hP
  obtain ⟨qual, doc, pm, c', ctv, ho, hcd, n1, n2, n3, n4⟩ := H.out
  have hb : bdy readDef = [_] := rfl
  refine wpAny_call ?_
  k_dflt (refine' enter_clos B F X N T ?kA ?kF ?kK (R _ _ ho n1 n2) (codeRec_rig hcd R n3 n4) (congrArg FuncBody.stmts hb) ?k8 ?k9 ?kB ?kC ?_ ?c2 ?c3 ?c4; (case kA => exact rfl); (case kF => exact rfl); (case kK => assumption); (case k8 => ktr_room); (case k9 => exact BindsTo.of_eq rfl); (case kB => exact locs rfl); (case kC => (show ∀ x ∈ (scp readDef).names, _; decide +kernel)); (case c2 => exact rfl); (case c3 => exact rfl); (case c4 => exact rfl); k_whole; intro g' L' h' FG' F' N' B' X' T' G'; (try dsimp only); (try k_fold))
  have hc' := hc.rig (R.sub G') nc
  k_steps
  all_goals exact hret _ _ _ _ _ ⟨_, rfl⟩ ⟨rfl, rfl⟩ (by k_asm) (by k_asm) (Rig.of (by assumption) (by k_asm))
local macro_rules | `(tactic| walk_at "setItem ref int") => `(tactic| (k_here; (with_reducible show wpAny _ _ (setItem (Value.ref _) (Value.int _ _) (Value.int _ _)) _ _ _); k_dflt (refine' lie_store (by k_asm) (by k_asm) (by k_updF) (by with_reducible assumption) (by omega) (by omega) ?_; k_whole); intro h9 o9 F9 N9 hL9; (try dsimp only at N9)))
theorem write_fn {w : World} {p : Program} {loose : List Str} {mean : ExcName → Option Value} {mg mb : Str → Option Value} {h₁ : Heap} {d an fr cc ca cb : Addr} {fi : Int} {n : Nat} {clos : List (Str × Addr)} (hda : @LT.lt Nat _ d an)
    (H : Clos h₁ d an fr writeDef clos) (hl : clos.lookup (Str.ofString "lie") = some cc) (hc : CellIs h₁ cc (.ref d)) (nc : cc ≠ d ∧ cc ≠ an) (k v : Int) (t u : Tok) (od oa : Obj) (f : Int → Int) :
    AskFn w p loose mean mg mb h₁ d an fr [.int k t, .int v u] od oa (LieObj w od fi n f ∧ fi ≤ k ∧ k < fi + n) (fun od' oa' => LieObj w od' fi n (Mine.put f k v) ∧ oa' = oa) (fun v => v = .none) := by
  intro dp un gd cn cs a ccd cl outer A₀ base h₀ L m s Q E B F X T hk R N hP hd hu hret
  obtain ⟨hL, l1, l2⟩ := hP
  obtain ⟨qual, doc, pm, c', ctv, ho, hcd, n1, n2, n3, n4⟩ := H.out
  have hb : bdy writeDef = [_] := rfl
  refine wpAny_call ?_
  k_dflt (refine' enter_clos B F X N T ?kA ?kF ?kK (R _ _ ho n1 n2) (codeRec_rig hcd R n3 n4) (congrArg FuncBody.stmts hb) ?k8 ?k9 ?kB ?kC ?_ ?c2 ?c3 ?c4; (case kA => exact rfl); (case kF => exact rfl); (case kK => assumption); (case k8 => ktr_room); (case k9 => exact BindsTo.of_eq rfl); (case kB => exact locs rfl); (case kC => (show ∀ x ∈ (scp writeDef).names, _; decide +kernel)); (case c2 => exact rfl); (case c3 => exact rfl); (case c4 => exact rfl); k_whole; intro g' L' h' FG' F' N' B' X' T' G'; (try dsimp only); (try k_fold))
  have hc' := hc.rig (R.sub G') nc
  k_steps
  all_goals exact hret _ _ _ _ _ rfl ⟨by with_reducible assumption, rfl⟩ (by k_asm) (by k_asm) (Rig.of (by assumption) (by k_asm))
theorem b2i_eq (b : Bool) : ((if b = true then (1 : Int) else 0) == 1) = b := by cases b <;> rfl
noncomputable def ltOf (dn : Bool) (x y : Int) : Bool := if dn then decide (y < x) else decide (x < y)
theorem ahead_fn {w : World} {p : Program} {loose : List Str} {mean : ExcName → Option Value} {mg mb : Str → Option Value} {h₁ : Heap} {d an fr cc ca cb : Addr} {fi : Int} {n : Nat} {clos : List (Str × Addr)} {dn : Bool} (hda : @LT.lt Nat _ d an)
    (H : Clos h₁ d an fr aheadDef clos) (hl : clos.lookup (Str.ofString "answers") = some ca) (hc : CellIs h₁ ca (.ref an)) (nc : ca ≠ d ∧ ca ≠ an)
    (hl2 : clos.lookup (Str.ofString "is_down") = some cb) (hc2 : CellIs h₁ cb (.bool dn)) (nc2 : cb ≠ d ∧ cb ≠ an) (x y : Int) (t u : Tok) (od : Obj) (ws : List Value) (as : List Int) (c : Nat) :
    AskFn w p loose mean mg mb h₁ d an fr [.int x t, .int y u] od (W.listOf ws.toArray c) (IntsAre ws as ∧ as.length ≤ 100) (fun od' oa' => od' = od ∧ ∃ ws' c', oa' = W.listOf ws'.toArray c' ∧ IntsAre ws' (as ++ [b2i (ltOf dn x y)])) (fun v => v = .bool (ltOf dn x y)) := by
  intro dp un gd cn cs a ccd cl outer A₀ base h₀ L m s Q E B F X T hk R N hP hd hu hret
  obtain ⟨hI, hz⟩ := hP
  obtain ⟨qual, doc, pm, c', ctv, ho, hcd, n1, n2, n3, n4⟩ := H.out
  have hb : bdy aheadDef = [_, _] := rfl
  refine wpAny_call ?_
  k_dflt (refine' enter_clos B F X N T ?kA ?kF ?kK (R _ _ ho n1 n2) (codeRec_rig hcd R n3 n4) (congrArg FuncBody.stmts hb) ?k8 ?k9 ?kB ?kC ?_ ?c2 ?c3 ?c4; (case kA => exact rfl); (case kF => exact rfl); (case kK => assumption); (case k8 => ktr_room); (case k9 => exact BindsTo.of_eq rfl); (case kB => exact locs rfl); (case kC => (show ∀ x ∈ (scp aheadDef).names, _; decide +kernel)); (case c2 => exact rfl); (case c3 => exact rfl); (case c4 => exact rfl); k_whole; intro g' L' h' FG' F' N' B' X' T' G'; (try dsimp only); (try k_fold))
  have hc' := hc.rig (R.sub G') nc
  have hc2' := hc2.rig (R.sub G') nc2
  cases dn
  all_goals k_steps
  all_goals (refine' hret _ _ _ _ _ ?e ⟨rfl, _, _, rfl, ?i⟩ ?f ?n ?r; (case f => k_asm); (case n => k_asm); (case r => exact Rig.of (by assumption) (by k_asm)); (case e => exact congrArg Value.bool (b2i_eq _)); (case i => exact hI.append (.cons _ _ .nil)))
noncomputable def lamAt (i : Nat) : Expr := match askedBody.getD 5 default with
  | .Expr (.Call (.Attribute (.Call _ as _ _) _ _) _ _ _) _ => as.getD i default
  | _ => default
noncomputable def lprm : Expr → Arguments | .Lambda a _ _ _ => a | _ => default
noncomputable def lbdy : Expr → Expr | .Lambda _ b _ _ => b | _ => default
noncomputable def lscp : Expr → Scope | .Lambda _ _ s _ => s | _ => default
structure ClosL (h₁ : Heap) (d an f : Addr) (df : Expr) (clos : List (Str × Addr)) : Prop where
  out : ∃ name qual pm c' ctv, h₁.get? f = some (kla_obj name qual (lprm df) (lbdy df) (lscp df) clos pm c' ctv) ∧ h₁.CodeRec (.ref c') qual ∧ f ≠ d ∧ f ≠ an ∧ c' ≠ d ∧ c' ≠ an
section
variable {prog : Program} {w : World} {A A₀ : Around} {s : Shared} {K : Frag} {L : Addr} {h₀ base : Heap} {m mg mb : Str → Option Value} {news : List (Addr × Obj)} {p : Program} {loose : List Str} {mean : ExcName → Option Value}
theorem enter_lam {env : Env} {outer : List Env} {R : Result → Shared → Prop} {name qual : Str} {params : Arguments} {body : Expr} {scope : Scope} {cl : List (Str × Addr)} {pm ctv : Value} {c' f : Addr} {args : Args} {binds : List (Str × Value)}
    (B : Below A₀ base outer h₀) (F : Fr h₀ L s.heap m) (X₀ : K.In h₀) (N : News h₀ L s.heap news) (T : Top p loose mean mg mb h₀) (hA : A.frames = some (env :: outer)) (hf : env.frame = some L) (hke : env.scope.kind = .function)
    (ho : s.heap.get? f = some (kla_obj name qual params body scope cl pm c' ctv)) (hcd : s.heap.CodeRec (.ref c') qual) (hroom : A.depth < recursionLimit)
    (hbind : bindArgs (kla_fn name qual params body scope cl pm (.ref c') ctv) args = pure binds) (hloc : ∀ y ∈ binds, scope.names.lookup y.1 = some .local) (hcell : ∀ x ∈ scope.names, x.2 ≠ .cell)
    (h : ∀ g L' h₁, Fr h₀ L g m → Fr g L' h₁ (fun y => binds.reverse.lookup y) → News g L' h₁ news → Below A base (env :: outer) g → K.In g → Top p loose mean mg mb g → GSub s.heap g (news.map (·.1)) →
      wpAny (model prog w) (A.deeper (envX qual scope L' f (.ref c') cl)) (eval body (envX qual scope L' f (.ref c') cl))
        (fun v s' => LeaveK h₀ L m g R v s')
        (fun e s' => wpAny (model prog w) (A.deeper (envX qual scope L' f (.ref c') cl)) (leaving (envX qual scope L' f (.ref c') cl) e) (fun _ s'' => R (.error e) s'') (fun e' s'' => R (.error e') s'') s')
        { s with heap := h₁, toks := s.toks + binds.length })
    (hco : scope.isCoroutine = false) (hgen : scope.isGenerator = false) (hk : scope.kind = .function) : codeAny (model prog w) A (.call (.ref f) args) R s := by
  obtain ⟨FG, BG, st, lv⟩ := groundX (R := R) B F N hA hf hke
  refine kla_callFunE hroom ho rfl hco hgen rfl hcd ?_
  rw [hbind]
  refine wpAny_pure (wpAny_newFunctionEnv hcell hloc (fun h₁ hns hsb => ⟨((T.nolimit).keeps F.keep).fresh _ hsb, ?_⟩) hk)
  have hk₁ : ∀ b o, s.heap.get? b = some o → h₁.get? b = some o := fun b o e => hsb.extBut b o (Nat.ne_of_lt (Heap.lt_size e)) (Heap.get?_push_of_some _ e)
  show codeAny _ _ (.expr body (envX qual scope s.heap.objs.size f (.ref c') cl)) _ _
  refine kla_codeExpr (wpAny_mono (h _ s.heap.objs.size h₁ FG ⟨hns, fun b o e => hk₁ b o (of_hideAll _ e), Nat.le_of_eq (hideAll_size _ _)⟩ (fun q hq => ?_) BG (X₀.keeps st) (T.keeps st) fun b o e n => hideAll_get _ e n) (fun v s' hl => lv _ _ hl) fun _ _ y => y)
  exact ⟨hk₁ _ _ (N q hq).1, Nat.ne_of_lt (Heap.lt_size (N q hq).1), hideAll_none _ (List.mem_map_of_mem hq)⟩
end
theorem hold_fn {w : World} {p : Program} {loose : List Str} {mean : ExcName → Option Value} {mg mb : Str → Option Value} {h₁ : Heap} {d an fr : Addr} {clos : List (Str × Addr)}
    (H : ClosL h₁ d an fr (lamAt 3) clos) (v : Value) (od oa : Obj) : AskFn w p loose mean mg mb h₁ d an fr [v] od oa True (fun od' oa' => od' = od ∧ oa' = oa) (fun v => v = .none) := by
  intro dp un gd cn cs a ccd cl outer A₀ base h₀ L m s Q E B F X T hk R N hP hd hu hret
  obtain ⟨name, qual, pm, c', ctv, ho, hcd, n1, n2, n3, n4⟩ := H.out
  have hb : lbdy (lamAt 3) = Expr.Constant _ _ _ := rfl
  rw [hb] at ho
  refine wpAny_call ?_
  k_dflt (refine' enter_lam B F X N T ?kA ?kF ?kK (R _ _ ho n1 n2) (codeRec_rig hcd R n3 n4) ?k8 ?k9 ?kB ?kC ?_ ?c2 ?c3 ?c4; (case kA => exact rfl); (case kF => exact rfl); (case kK => assumption); (case k8 => ktr_room); (case k9 => exact rfl); (case kB => exact locs rfl); (case kC => decide +kernel); (case c2 => exact rfl); (case c3 => exact rfl); (case c4 => exact rfl); k_whole; intro g' L' h' FG' F' N' B' X' T' G'; (try dsimp only); (try k_fold))
  k_steps
  all_goals exact hret _ _ _ _ _ rfl ⟨rfl, rfl⟩ (by k_asm) (by k_asm) (Rig.of (by assumption) (by k_asm))
theorem drop_fn {w : World} {p : Program} {loose : List Str} {mean : ExcName → Option Value} {mg mb : Str → Option Value} {h₁ : Heap} {d an fr : Addr} {clos : List (Str × Addr)}
    (H : ClosL h₁ d an fr (lamAt 4) clos) (od oa : Obj) : AskFn w p loose mean mg mb h₁ d an fr [] od oa True (fun od' oa' => od' = od ∧ oa' = oa) (fun v => v = .none) := by
  intro dp un gd cn cs a ccd cl outer A₀ base h₀ L m s Q E B F X T hk R N hP hd hu hret
  obtain ⟨name, qual, pm, c', ctv, ho, hcd, n1, n2, n3, n4⟩ := H.out
  have hb : lbdy (lamAt 4) = Expr.Constant _ _ _ := rfl
  rw [hb] at ho
  refine wpAny_call ?_
  k_dflt (refine' enter_lam B F X N T ?kA ?kF ?kK (R _ _ ho n1 n2) (codeRec_rig hcd R n3 n4) ?k8 ?k9 ?kB ?kC ?_ ?c2 ?c3 ?c4; (case kA => exact rfl); (case kF => exact rfl); (case kK => assumption); (case k8 => ktr_room); (case k9 => exact rfl); (case kB => exact locs rfl); (case kC => decide +kernel); (case c2 => exact rfl); (case c3 => exact rfl); (case c4 => exact rfl); k_whole; intro g' L' h' FG' F' N' B' X' T' G'; (try dsimp only); (try k_fold))
  k_steps
  all_goals exact hret _ _ _ _ _ rfl ⟨rfl, rfl⟩ (by k_asm) (by k_asm) (Rig.of (by assumption) (by k_asm))
end
end
section
section
set_option maxRecDepth 100000
set_option maxHeartbeats 8000000
theorem news_keepG {h₀ h g h' : Heap} {L L' : Addr} {m' : Str → Option Value} {news rest : List (Addr × Obj)} (N : News h₀ L h rest) (G : GSub h g (news.map (·.1))) (F : Fr g L' h' m') (hn : ∀ p ∈ rest, p.1 ∉ news.map (·.1)) : News h₀ L h' rest :=
  fun p hp => ⟨F.keep _ _ (G _ _ (N p hp).1 (hn p hp)), (N p hp).2⟩
theorem news_two {h₀ h : Heap} {L : Addr} {q1 q2 : Addr × Obj} {rest : List (Addr × Obj)} (N : News h₀ L h [q1, q2]) (M : News h₀ L h rest) : News h₀ L h (q1 :: q2 :: rest) := fun p hp => by
  rcases List.mem_cons.mp hp with rfl | hp
  · exact N _ (.head _)
  rcases List.mem_cons.mp hp with rfl | hp
  · exact N _ (.tail _ (.head _))
  exact M _ hp
theorem new_spec {w : World} {p : Program} {loose : List Str} {mean : ExcName → Option Value} {mg mb : Str → Option Value}
    {dp un : Nat} {gd : Option (List Code)} {cn : Str} {cs : Scope} {a : Addr} {ccd : Value} {cl : List (Str × Addr)} {outer : List Env} {A₀ : Around} {base h₀ : Heap} {L : Addr} {m : Str → Option Value} {s : Shared} {Q E : Value → Shared → Prop}
    {fr fw fc fh fp : Addr} {rest : List (Addr × Obj)}
    (B : Below A₀ base outer h₀) (F : Fr h₀ L s.heap m) (X : (Mine.hd.heap_1 w.params).In h₀) (T : Top p loose mean mg mb h₀) (hk : cs.kind = .function)
    (N : News h₀ L s.heap rest) (hd : dp + 4 < recursionLimit) (hu : un + 32 < cLine)
    (hret : ∀ q qd es n h' tk', getL (Str.ofString "get") es = some (some (.ref fr)) → getL (Str.ofString "put") es = some (some (.ref fw)) → getL (Str.ofString "less") es = some (some (.ref fc)) → getL (Str.ofString "hold") es = some (some (.ref fh)) → getL (Str.ofString "drop") es = some (some (.ref fp)) →
      getL (Str.ofString "order_two") es = some none → getL (Str.ofString "order_middle") es = some none → getL (Str.ofString "go_up") es = some none → getL (Str.ofString "go_down") es = some none → getL (Str.ofString "part") es = some none → getL (Str.ofString "sort") es = some none →
      Fr h₀ L h' m → News h₀ L h' ((q, instObj 93 qd) :: (qd, W.dictOf es n) :: rest) → (∀ p ∈ rest, p.1 < qd) → qd < q → Q (.ref q) { s with heap := h', toks := tk' }) :
    wpAny (model PG w) (ktrTop dp un gd cn cs L a ccd cl outer) (call (.ref 93) [.ref fr, .ref fw, .ref fc, .ref fh, .ref fp]) Q E s := by
  k_dflt (refine' call_cls F X N ?k4 ?k5 ?k6 ?_; (case k4 => k_is); (case k5 => k_is); (case k6 => k_is); k_whole)
  intro x d h1 F1 N1 l1 l2
  have N2 : News h₀ L h1 [(x, instObj 93 d), (d, W.dictOf [] 0)] := fun p hp => N1 p (by rcases List.mem_cons.mp hp with rfl | hp; exact .head _; rw [List.mem_singleton.mp hp]; exact .tail _ (.head _))
  have l3 := ltN l2
  have N3 : News h₀ L h1 rest := fun p hp => N1 p (.tail _ (.tail _ hp))
  clear N1 N
  k_dflt (refine' code_defG B F1 X N2 T ?kA ?kF ?kK ?k6 ?k7 ?k8 ?k9 ?kB ?_ ?c2 ?c3 ?c4 ?c5; (case kA => exact rfl); (case kF => exact rfl); (case kK => assumption); (case k6 => k_is); (case k7 => k_is); (case k8 => ktr_room); (case k9 => exact BindsTo.of_eq rfl); (case c5 => decide); (case kB => exact locs rfl); (case c2 => exact rfl); (case c3 => exact rfl); (case c4 => exact rfl); k_whole; intro g' L' h' FG' F' N' B' X' T' G'; (try dsimp only); (try k_fold))
  k_steps
  have hn : ∀ p ∈ rest, p.1 ∉ [(x, instObj 93 d), (d, W.dictOf [] 0)].map (·.1) := fun p hp q => by
    have z := ltN (l1 p hp)
    rcases List.mem_cons.mp q with e | q
    · rw [e] at z; exact absurd z (Nat.not_lt.mpr (Nat.le_of_lt l3))
    · rw [List.mem_singleton.mp q] at z; exact absurd z (Nat.lt_irrefl _)
  refine' hret x d _ _ _ _ ?b1 ?b2 ?b3 ?b4 ?b5 ?b6 ?b7 ?b8 ?b9 ?b10 ?b11 ?f ?n l1 l2
  (case f => k_asm); (case n => exact news_two (by k_asm) (news_keepG N3 G' (by k_asm) hn))
  all_goals k_get
end
end
section
section
set_option maxRecDepth 100000
set_option maxHeartbeats 8000000
noncomputable def SortN (lt : Int → Int → Bool) (n : Nat) (a b c e a' b' c' e' : Int) (l : List Int) : Prop :=
  n = 4 ∧ Sort4 lt a b c e a' b' c' e' l ∨ n = 3 ∧ Sort3 lt a b c a' b' c' l ∧ e' = e
theorem sortN_spec {w : World} {p : Program} {loose : List Str} {mean : ExcName → Option Value} {mg mb : Str → Option Value}
    {dp un : Nat} {gd : Option (List Code)} {cn : Str} {cs : Scope} {a : Addr} {ccd : Value} {cl : List (Str × Addr)} {outer : List Env} {A₀ : Around} {base h₀ : Heap} {L : Addr} {m : Str → Option Value} {s : Shared} {Q E : Value → Shared → Prop}
    {h₁ : Heap} {d an q fr fw fc fh fp : Addr} {fi : Int} {n : Nat} {lt : Int → Int → Bool} {od : Obj} {ws : List Value} {as : List Int} {c : Nat} {a0 b0 c0 e0 : Int} {lo hi : Int} {t1 t2 : Tok} (O : Ord lt)
    (Fn : Fns w p loose mean mg mb h₁ d an fi n lt fr fw fc fh fp) (D : Rigd h₁ d an q fr fw fc fh fp)
    (B : Below A₀ base outer h₀) (F : Fr h₀ L s.heap m) (X : (Mine.hd.heap_1 w.params).In h₀) (T : Top p loose mean mg mb h₀) (hk : cs.kind = .function)
    (R : Rig h₁ d an s.heap) (N : News h₀ L s.heap [(d, od), (an, W.listOf ws.toArray c)]) (hL : LieObj w od fi n (V fi a0 b0 c0 e0)) (hI : IntsAre ws as) (hz : as.length ≤ 50) (hda : @LT.lt Nat _ d an)
    (h1 : lo = fi) (h2 : hi = fi + n - 1) (hn : n = 4 ∧ c0 ≠ a0 ∧ c0 ≠ b0 ∧ c0 ≠ e0 ∨ n = 3) (hd : dp + 10 < recursionLimit) (hu : un + 100 < cLine)
    (hret : ∀ od' ws' c' h' tk' (a' b' x' e' : Int) (l : List Int), SortN lt n a0 b0 c0 e0 a' b' x' e' l → LieObj w od' fi n (V fi a' b' x' e') → IntsAre ws' (as ++ l) →
      Fr h₀ L h' m → News h₀ L h' [(d, od'), (an, W.listOf ws'.toArray c')] → Rig s.heap d an h' → Q .none { s with heap := h', toks := tk' }) :
    wpAny (model PG w) (ktrTop dp un gd cn cs L a ccd cl outer) (call (.ref 90) [.ref q, .int lo t1, .int hi t2]) Q E s := by
  rcases hn with ⟨hn, g1, g2, g3⟩ | hn
  · exact sort4_spec O Fn D B F X T hk R N hL hI hz hda h1 (by omega) g1 g2 g3 hn hd hu fun od' ws' c' h' tk' a' b' x' e' l hc => hret od' ws' c' h' tk' a' b' x' e' l (.inl ⟨hn, hc⟩)
  · exact sort3_spec Fn D B F X T hk R N hL hI hz hda h1 (by omega) hn hd hu fun od' ws' c' h' tk' a' b' x' l hc => hret od' ws' c' h' tk' a' b' x' e0 l (.inr ⟨hn, hc, rfl⟩)
theorem ord_of (dn : Bool) : Ord (ltOf dn) := by
  refine ⟨fun x => ?_, fun x y h => ?_, fun x y h => ?_⟩ <;> cases dn <;> simp only [ltOf, Bool.false_eq_true, if_false, if_true, decide_eq_true_eq, decide_eq_false_iff_not] at * <;> omega
theorem fns_of {w : World} {p : Program} {loose : List Str} {mean : ExcName → Option Value} {mg mb : Str → Option Value} {h₁ : Heap} {d an fr fw fc fh fp cc ca cb : Addr} {fi : Int} {n : Nat} {dn : Bool} {k1 k2 k3 k4 k5 : List (Str × Addr)} (hda : @LT.lt Nat _ d an)
    (H1 : Clos h₁ d an fr readDef k1) (l1 : k1.lookup (Str.ofString "lie") = some cc) (H2 : Clos h₁ d an fw writeDef k2) (l2 : k2.lookup (Str.ofString "lie") = some cc) (hc : CellIs h₁ cc (.ref d)) (nc : cc ≠ d ∧ cc ≠ an)
    (H3 : Clos h₁ d an fc aheadDef k3) (l3 : k3.lookup (Str.ofString "answers") = some ca) (hca : CellIs h₁ ca (.ref an)) (nca : ca ≠ d ∧ ca ≠ an) (l4 : k3.lookup (Str.ofString "is_down") = some cb) (hcb : CellIs h₁ cb (.bool dn)) (ncb : cb ≠ d ∧ cb ≠ an)
    (H4 : ClosL h₁ d an fh (lamAt 3) k4) (H5 : ClosL h₁ d an fp (lamAt 4) k5) : Fns w p loose mean mg mb h₁ d an fi n (ltOf dn) fr fw fc fh fp where
  get := fun k t od oa f => read_fn (ca := ca) (cb := cb) H1 l1 hc nc k t od oa f
  put := fun k v t u od oa f => write_fn (ca := ca) (cb := cb) hda H2 l2 hc nc k v t u od oa f
  less := fun x y t u od ws as c => ahead_fn (fi := fi) (n := n) (cc := cc) hda H3 l3 hca nca l4 hcb ncb x y t u od ws as c
  hold := fun v od oa => hold_fn H4 v od oa
  drop := fun od oa => drop_fn H5 od oa
theorem asked_sort {w : World} {p : Program} {loose : List Str} {mean : ExcName → Option Value} {mg mb : Str → Option Value}
    {dp un : Nat} {gd : Option (List Code)} {cn : Str} {cs : Scope} {a : Addr} {ccd : Value} {cl : List (Str × Addr)} {outer : List Env} {A₀ : Around} {base h₀ : Heap} {L : Addr} {m : Str → Option Value} {s : Shared} {Q E : Value → Shared → Prop}
    {d an q fr fw fc fh fp : Addr} {fi : Int} {n : Nat} {od : Obj}   {a0 b0 c0 e0 : Int} {lo hi : Int} {t1 t2 : Tok} {dn : Bool} {led : List (Addr × Obj)} {k0 nn : Nat} {qd cc ca cb z1 z2 z3 z4 z5 : Addr} {es : List DictEntry} {oc oca ocb : Obj}
    {q1 q2 q3 q4 q5 n4 n5 : Str} {k1 k2 k3 k4 k5 : List (Str × Addr)} {x1 x2 x3 y1 y2 y3 y4 y5 u1 u2 u3 u4 u5 : Value}
    (B : Below A₀ base outer h₀) (F : Fr h₀ L s.heap m) (X : (Mine.hd.heap_1 w.params).In h₀) (T : Top p loose mean mg mb h₀) (hk : cs.kind = .function) (N : News h₀ L s.heap led)
    (mq : (q, instObj 93 qd) ∈ led) (mqd : (qd, W.dictOf es nn) ∈ led)
    (b1 : getL (Str.ofString "get") es = some (some (.ref fr))) (b2 : getL (Str.ofString "put") es = some (some (.ref fw))) (b3 : getL (Str.ofString "less") es = some (some (.ref fc))) (b4 : getL (Str.ofString "hold") es = some (some (.ref fh))) (b5 : getL (Str.ofString "drop") es = some (some (.ref fp)))
    (b6 : getL (Str.ofString "order_two") es = some none) (b7 : getL (Str.ofString "order_middle") es = some none) (b8 : getL (Str.ofString "go_up") es = some none) (b9 : getL (Str.ofString "go_down") es = some none) (b10 : getL (Str.ofString "part") es = some none)
    (m1 : (fr, fnMade (nm readDef) q1 (prm readDef) (bdy readDef) (scp readDef) k1 x1 y1 z1 u1) ∈ led) (r1 : s.heap.CodeRec (.ref z1) q1)
    (m2 : (fw, fnMade (nm writeDef) q2 (prm writeDef) (bdy writeDef) (scp writeDef) k2 x2 y2 z2 u2) ∈ led) (r2 : s.heap.CodeRec (.ref z2) q2)
    (m3 : (fc, fnMade (nm aheadDef) q3 (prm aheadDef) (bdy aheadDef) (scp aheadDef) k3 x3 y3 z3 u3) ∈ led) (r3 : s.heap.CodeRec (.ref z3) q3)
    (m4 : (fh, kla_obj n4 q4 (lprm (lamAt 3)) (lbdy (lamAt 3)) (lscp (lamAt 3)) k4 y4 z4 u4) ∈ led) (r4 : s.heap.CodeRec (.ref z4) q4)
    (m5 : (fp, kla_obj n5 q5 (lprm (lamAt 4)) (lbdy (lamAt 4)) (lscp (lamAt 4)) k5 y5 z5 u5) ∈ led) (r5 : s.heap.CodeRec (.ref z5) q5)
    (e1 : k1.lookup (Str.ofString "lie") = some cc) (e2 : k2.lookup (Str.ofString "lie") = some cc) (e3 : k3.lookup (Str.ofString "answers") = some ca) (e4 : k3.lookup (Str.ofString "is_down") = some cb)
    (mc : (cc, oc) ∈ led) (hcc : oc.data = .cell (some (.ref d))) (mca : (ca, oca) ∈ led) (hca : oca.data = .cell (some (.ref an))) (mcb : (cb, ocb) ∈ led) (hcb : ocb.data = .cell (some (.bool dn)))
    (md : (d, od) ∈ led) (ma : (an, W.listOf #[] k0) ∈ led) (hda : @LT.lt Nat _ d an)
    (ne : ∀ b ∈ [q, qd, fr, fw, fc, fh, fp, cc, ca, cb, z1, z2, z3, z4, z5], @Ne Nat b d ∧ @Ne Nat b an)
    (hL : LieObj w od fi n (V fi a0 b0 c0 e0)) (h1 : lo = fi) (h2 : hi = fi + n - 1) (hn : n = 4 ∧ c0 ≠ a0 ∧ c0 ≠ b0 ∧ c0 ≠ e0 ∨ n = 3) (hd : dp + 10 < recursionLimit) (hu : un + 100 < cLine)
    (hret : ∀ od' ws' c' h' tk' (a' b' x' e' : Int) (l : List Int), SortN (ltOf dn) n a0 b0 c0 e0 a' b' x' e' l → LieObj w od' fi n (V fi a' b' x' e') → IntsAre ws' l →
      Fr h₀ L h' m → News h₀ L h' [(d, od'), (an, W.listOf ws'.toArray c')] → Rig s.heap d an h' → Q .none { s with heap := h', toks := tk' }) :
    wpAny (model PG w) (ktrTop dp un gd cn cs L a ccd cl outer) (call (.ref 90) [.ref q, .int lo t1, .int hi t2]) Q E s := by
  have N2 : News h₀ L s.heap [(d, od), (an, W.listOf ([] : List Value).toArray k0)] := news_sub2 N md ma
  have D : Rigd s.heap d an q fr fw fc fh fp := ⟨qd, es, nn, (N _ mq).1, (N _ mqd).1, b1, b2, b3, b4, b5, b6, b7, b8, b9, b10, FnAt.of N m1, FnAt.of N m2, FnAt.of N m3, FnAt.of N m4, FnAt.of N m5, fun b hb => ne b (by
    simp only [List.mem_cons, List.not_mem_nil, or_false] at hb ⊢
    rcases hb with rfl | rfl | rfl | rfl | rfl | rfl | rfl <;> simp)⟩
  have nz : ∀ b ∈ [q, qd, fr, fw, fc, fh, fp, cc, ca, cb, z1, z2, z3, z4, z5], b ≠ d ∧ b ≠ an := ne
  have Fn : Fns w p loose mean mg mb s.heap d an fi n (ltOf dn) fr fw fc fh fp := fns_of hda
    ⟨⟨q1, x1, y1, z1, u1, (N _ m1).1, r1, (nz fr (by first | k_mem | simp)).1, (nz fr (by first | k_mem | simp)).2, (nz z1 (by first | k_mem | simp)).1, (nz z1 (by first | k_mem | simp)).2⟩⟩ e1
    ⟨⟨q2, x2, y2, z2, u2, (N _ m2).1, r2, (nz fw (by first | k_mem | simp)).1, (nz fw (by first | k_mem | simp)).2, (nz z2 (by first | k_mem | simp)).1, (nz z2 (by first | k_mem | simp)).2⟩⟩ e2 ⟨oc, (N _ mc).1, hcc⟩ (nz cc (by first | k_mem | simp))
    ⟨⟨q3, x3, y3, z3, u3, (N _ m3).1, r3, (nz fc (by first | k_mem | simp)).1, (nz fc (by first | k_mem | simp)).2, (nz z3 (by first | k_mem | simp)).1, (nz z3 (by first | k_mem | simp)).2⟩⟩ e3 ⟨oca, (N _ mca).1, hca⟩ (nz ca (by first | k_mem | simp)) e4 ⟨ocb, (N _ mcb).1, hcb⟩ (nz cb (by first | k_mem | simp))
    ⟨⟨n4, q4, y4, z4, u4, (N _ m4).1, r4, (nz fh (by first | k_mem | simp)).1, (nz fh (by first | k_mem | simp)).2, (nz z4 (by first | k_mem | simp)).1, (nz z4 (by first | k_mem | simp)).2⟩⟩
    ⟨⟨n5, q5, y5, z5, u5, (N _ m5).1, r5, (nz fp (by first | k_mem | simp)).1, (nz fp (by first | k_mem | simp)).2, (nz z5 (by first | k_mem | simp)).1, (nz z5 (by first | k_mem | simp)).2⟩⟩
  exact sortN_spec (ord_of dn) Fn D B F X T hk (Rig.refl _ _ _) N2 hL .nil (by first | k_mem | simp) hda h1 h2 hn hd hu fun od' ws' c' h' tk' a' b' x' e' l hc hL9 hI9 => hret od' ws' c' h' tk' a' b' x' e' l hc hL9 (by simpa using hI9)
end
end
section
set_option maxRecDepth 100000
set_option maxHeartbeats 8000000
theorem up1 {a b : Nat} (h : a < b) : a < b + 1 := Nat.lt_succ_of_lt h
theorem base_ne {L' th d an : Nat} (l0 : @LT.lt Nat _ 111 L') (l1 : @Ne Nat 111 th) (l2 : @LT.lt Nat _ th L') (l3 : @LT.lt Nat _ (L' + 1 + 1 + 1 + 1) d) (l4 : @LT.lt Nat _ d an) :
    (th ≠ 111 ∧ d ≠ 111 ∧ an ≠ 111 ∧ L' + 1 ≠ 111 ∧ L' + 1 + 1 ≠ 111 ∧ L' + 1 + 1 + 1 ≠ 111 ∧ L' + 1 + 1 + 1 + 1 ≠ 111) ∧ (th ≠ d ∧ L' + 1 ≠ d ∧ L' + 1 + 1 ≠ d ∧ L' + 1 + 1 + 1 ≠ d ∧ L' + 1 + 1 + 1 + 1 ≠ d) ∧ th ≠ an ∧ L' + 1 ≠ an ∧ L' + 1 + 1 ≠ an ∧ L' + 1 + 1 + 1 ≠ an ∧ L' + 1 + 1 + 1 + 1 ≠ an ∧ d ≠ an :=
  have q := Nat.lt_trans (up1 (up1 (up1 (up1 l0)))) l3
  have t := Nat.lt_trans (up1 (up1 (up1 (up1 l2)))) l3
  have p4 : @LT.lt Nat _ (L' + 1 + 1 + 1) d := Nat.lt_trans (Nat.lt_succ_self _) l3
  have p3 : @LT.lt Nat _ (L' + 1 + 1) d := Nat.lt_trans (Nat.lt_succ_self _) p4
  have p2 : @LT.lt Nat _ (L' + 1) d := Nat.lt_trans (Nat.lt_succ_self _) p3
  ⟨⟨Ne.symm l1, Nat.ne_of_gt q, Nat.ne_of_gt (Nat.lt_trans q l4), Nat.ne_of_gt (up1 l0), Nat.ne_of_gt (up1 (up1 l0)), Nat.ne_of_gt (up1 (up1 (up1 l0))), Nat.ne_of_gt (up1 (up1 (up1 (up1 l0))))⟩,
   ⟨Nat.ne_of_lt t, Nat.ne_of_lt p2, Nat.ne_of_lt p3, Nat.ne_of_lt p4, Nat.ne_of_lt l3⟩, Nat.ne_of_lt (Nat.lt_trans t l4), Nat.ne_of_lt (Nat.lt_trans p2 l4), Nat.ne_of_lt (Nat.lt_trans p3 l4), Nat.ne_of_lt (Nat.lt_trans p4 l4), Nat.ne_of_lt (Nat.lt_trans l3 l4), Nat.ne_of_lt l4⟩
theorem rng_lt {fi k : Int} {n : Nat} (h : k < 0 + (((n : Int) - 0).toNat : Int)) : fi + k < fi + n := by omega
noncomputable def askedDef : Stmt := PG.main.body.getD 6 default
noncomputable abbrev envA (L' : Addr) : Env := envOfC (Str.ofString "_law_asked") (scp askedDef) L' 114 (.ref 113)
local macro_rules | `(tactic| walk_at "subscriptTail") => `(tactic| (k_here; (with_reducible show wpAny _ _ (subscriptTail _ _ (Value.ref _) (Value.int _ _)) _ _ _); k_dflt (refine' lie_item (by k_asm) (by k_mem) (by with_reducible assumption) (by exact Int.le_add_of_nonneg_right (by assumption)) (by exact rng_lt (by assumption)) ?_ (by with_unfolding_all rfl); k_whole); intro t9; (try dsimp only)))
local macro_rules | `(tactic| allgen_close_more) => `(tactic| exact codeRec_news (by k_asm) (by k_mem) (by assumption) (by assumption))
local macro_rules | `(tactic| allgen_close2_more) => `(tactic| ((repeat' (first | exact List.forall_mem_nil _ | refine List.forall_mem_cons.mpr ⟨?_, ?_⟩ | refine And.intro ?_ ?_ | k_ne))))
local macro_rules | `(tactic| walk_at "call ref") => `(tactic| (k_here; k_dflt (refine' new_spec (by k_asm) (by k_asm) (by k_asm) (by k_asm) (by first | exact rfl | assumption) (by k_asm) (by ktr_room) (by ktr_units) ?_; k_whole; intro q9 qd9 es9 n9 h9 tk9 b1 b2 b3 b4 b5 b6 b7 b8 b9 b10 b11 F9 N9 l8 l9; (try k_lt l8); (try k_lt2 l9); (try k_sweep))))
local macro_rules | `(tactic| walk_at "call ref") => `(tactic| (k_here; k_dflt (with_reducible (show wpAny _ _ (call (Value.ref 90) _) _ _ _)); k_dflt (refine' asked_sort (by k_asm) (by k_asm) (by k_asm) (by k_asm) (by first | exact rfl | assumption) (by k_asm) (by k_mem) (by k_mem) (by assumption) (by assumption) (by assumption) (by assumption) (by assumption) (by assumption) (by assumption) (by assumption) (by assumption) (by assumption) (by k_mem) (by allgen_close_more) (by k_mem) (by allgen_close_more) (by k_mem) (by allgen_close_more) (by k_mem) (by allgen_close_more) (by k_mem) (by allgen_close_more) (by rfl) (by rfl) (by rfl) (by rfl) (by k_mem) (by assumption) (by k_mem) (by assumption) (by k_mem) (by assumption) (by k_mem) (by k_mem) (by assumption) (by allgen_close2_more) (by assumption) (by first | rfl | omega) (by first | rfl | omega) (by assumption) (by ktr_room) (by ktr_units) ?_; k_whole; intro od9 ws9 c9 h9 tk9 a9 b9 x9 e9 l9 hS9 hL9 hI9 F9 N9 R9; (replace N9 := news_upd2 (by k_asm) (by k_updF) (by k_updF) R9 N9); clear R9; (try dsimp only at N9); (try k_sweep))))
local macro_rules | `(tactic| walk_at "getMethod ref") => `(tactic| (k_here; k_dflt (refine' method_cls (by k_in) (InstAt.of_news (by k_asm) (by k_mem) (by k_mem)) (by assumption) (by k_is) (by k_is) (by k_is) ?_; k_whole)))
theorem News.sub {h₀ h : Heap} {L : Addr} {all led : List (Addr × Obj)} (N : News h₀ L h all) (hs : ∀ p ∈ led, p ∈ all) : News h₀ L h led := fun p hp => N p (hs p hp)
noncomputable def posD : Stmt → Pos
  | .FunctionDef _ _ _ _ _ _ _ _ _ p => p
  | _ => default
noncomputable def posL : Expr → Pos
  | .Lambda _ _ _ p => p
  | _ => default
noncomputable abbrev qn (L' : Addr) (x : Str) : Str := qualnameIn (envA L') x x
noncomputable abbrev ql (L' : Addr) : Str := (envA L').qual ++ Str.ofString "<lambda>"
structure Codes (h : Heap) (L' : Addr) (tb : Array Value) (z1 z2 z3 z4 z5 : Addr) : Prop where
  tr : TriplesOk tb.toList
  k1 : codeAmong (posD readDef) tb.toList = some (.ref z1)
  k2 : codeAmong (posD writeDef) tb.toList = some (.ref z2)
  k3 : codeAmong (posD aheadDef) tb.toList = some (.ref z3)
  k4 : codeAmong (posL (lamAt 3)) tb.toList = some (.ref z4)
  k5 : codeAmong (posL (lamAt 4)) tb.toList = some (.ref z5)
  r1 : h.CodeRec (.ref z1) (qn L' (nm readDef))
  r2 : h.CodeRec (.ref z2) (qn L' (nm writeDef))
  r3 : h.CodeRec (.ref z3) (qn L' (nm aheadDef))
  r4 : h.CodeRec (.ref z4) (ql L')
  r5 : h.CodeRec (.ref z5) (ql L')
  ne : ∀ b ∈ [z1, z2, z3, z4, z5], @Ne Nat b 111
structure CodesL (led : List (Addr × Obj)) (tb : Array Value) (z1 z2 z3 z4 z5 : Addr) : Prop where
  tr : TriplesOk tb.toList
  k1 : codeAmong (posD readDef) tb.toList = some (.ref z1)
  k2 : codeAmong (posD writeDef) tb.toList = some (.ref z2)
  k3 : codeAmong (posD aheadDef) tb.toList = some (.ref z3)
  k4 : codeAmong (posL (lamAt 3)) tb.toList = some (.ref z4)
  k5 : codeAmong (posL (lamAt 4)) tb.toList = some (.ref z5)
  r1 : ∃ o vs t, (z1, o) ∈ led ∧ o.data = .fields vs ∧ vs[1]? = some (.str (qn 0 (nm readDef)) t)
  r2 : ∃ o vs t, (z2, o) ∈ led ∧ o.data = .fields vs ∧ vs[1]? = some (.str (qn 0 (nm writeDef)) t)
  r3 : ∃ o vs t, (z3, o) ∈ led ∧ o.data = .fields vs ∧ vs[1]? = some (.str (qn 0 (nm aheadDef)) t)
  r4 : ∃ o vs t, (z4, o) ∈ led ∧ o.data = .fields vs ∧ vs[1]? = some (.str (ql 0) t)
  r5 : ∃ o vs t, (z5, o) ∈ led ∧ o.data = .fields vs ∧ vs[1]? = some (.str (ql 0) t)
  ne : ∀ b ∈ [z1, z2, z3, z4, z5], @Ne Nat b 111
theorem codeRec_led {h₀ h : Heap} {L z : Addr} {led all : List (Addr × Obj)} {q : Str} (r : ∃ o vs t, (z, o) ∈ led ∧ o.data = .fields vs ∧ vs[1]? = some (.str q t)) (N : News h₀ L h all) (sub : ∀ p ∈ led, p ∈ all) : h.CodeRec (.ref z) q := by
  obtain ⟨o, vs, t, hm, hd, hv⟩ := r
  exact codeRec_news N (sub _ hm) hd hv
theorem CodesL.at {h₀ h : Heap} {L : Addr} {led all : List (Addr × Obj)} {tb : Array Value} {z1 z2 z3 z4 z5 : Addr} (K : CodesL led tb z1 z2 z3 z4 z5) (N : News h₀ L h all) (sub : ∀ p ∈ led, p ∈ all) : Codes h 0 tb z1 z2 z3 z4 z5 :=
  ⟨K.tr, K.k1, K.k2, K.k3, K.k4, K.k5, codeRec_led K.r1 N sub, codeRec_led K.r2 N sub, codeRec_led K.r3 N sub, codeRec_led K.r4 N sub, codeRec_led K.r5 N sub, K.ne⟩
noncomputable abbrev tupO (a b : Addr) : Obj := { cls := Value.type "tuple", data := Data.seq #[Value.ref a, Value.ref b] }
theorem asked2F {w : World} {p : Program} {loose : List Str} {mean : ExcName → Option Value} {mg mb : Str → Option Value}
    {dp un : Nat} {gd : Option (List Code)} {cn : Str} {cs : Scope} {a : Addr} {ccd : Value} {cl : List (Str × Addr)} {outer : List Env} {base h₀ g : Heap} {L L' : Addr} {m m₁ : Str → Option Value} {s : Shared} {R : Result → Shared → Prop}
    {th d an : Addr} {its : Array Value} {od o1 o2 o3 o4 : Obj} {a0 b0 c0 e0 fi : Int} {tf : Tok} {dn : Bool} {n0 n : Nat} 
    (B : Below (ktrTop dp un gd cn cs L a ccd cl outer) base (envX cn cs L a ccd cl :: outer) g) (X : (Mine.hd.heap_1 w.params).In g) (T : Top p loose mean mg mb g) (hk : cs.kind = .function) (C : CodeHd base 113 111)
    (F : Fr g L' s.heap (fun y => if y = Str.ofString "things" then some (.ref th) else m₁ y))
    (N : News g L' s.heap [(an, W.listOf #[] 0), (d, od), (L' + 1 + 1 + 1 + 1, o4), (L' + 1 + 1 + 1, o3), (L' + 1 + 1, o2), (L' + 1, o1), (th, W.listOf its n0), (111, tabObj #[])])
    (c1 : o1.data = .cell (some (.int fi tf))) (c2 : o2.data = .cell (some (.bool dn))) (c3 : o3.data = .cell (some (.ref an))) (c4 : o4.data = .cell (some (.ref d)))
    (hL : LieObj w od fi n (V fi a0 b0 c0 e0)) (hits : its.size = n) (hn : n = 4 ∧ c0 ≠ a0 ∧ c0 ≠ b0 ∧ c0 ≠ e0 ∨ n = 3)
    (l0 : @LT.lt Nat _ 111 L') (l1 : @Ne Nat 111 th) (l2 : @LT.lt Nat _ th L') (l3 : @LT.lt Nat _ (L' + 1 + 1 + 1 + 1) d) (l4 : @LT.lt Nat _ d an)
    (hd : dp + 16 < recursionLimit) (hu : un + 160 < cLine)
    (hret : ∀ T_ S_ ys ws c h' tk' m' (a' b' x' e' : Int) (l : List Int) tb' z1 z2 z3 z4 z5 cl, SortN (ltOf dn) n a0 b0 c0 e0 a' b' x' e' l → IntsAre ys ((rangeKs 0 ((n : Int) - 0).toNat).map fun k => V fi a' b' x' e' (fi + k)) → IntsAre ws l → CodesL cl tb' z1 z2 z3 z4 z5 → News h₀ L h' cl → (∀ p ∈ cl, @LT.lt Nat _ L' p.1) →
      Fr h₀ L h' m → Fr g L' h' m' → News h₀ L h' [(T_, tupO S_ an), (S_, LCg.lst ys), (an, W.listOf ws.toArray c), (111, tabObj tb')] → R (.ok (.ret (.ref T_))) { s with heap := h', toks := tk' }) :
    wpAny (model PG w) ((ktrTop dp un gd cn cs L a ccd cl outer).deeper (envA L')) (execs (askedBody.drop 2) (envA L')) (fun fl s' => LeaveK h₀ L m g R (match fl with | .ret v => v | _ => .none) s')
      (fun e s' => wpAny (model PG w) ((ktrTop dp un gd cn cs L a ccd cl outer).deeper (envA L')) (leaving (envA L') e) (fun _ s'' => R (.error e) s'') (fun e' s'' => R (.error e') s'') s') s := by
  have hn4 : n ≤ 4 := by rcases hn with h | h; exact Nat.le_of_eq h.1; exact h ▸ by decide
  have hb : askedBody.drop 2 = [_, _, _, _, _] := rfl
  rw [hb]
  have B9 := base_ne l0 l1 l2 l3 l4
  have := B9.1.1
  have := B9.1.2.1
  have := B9.1.2.2.1
  have := B9.1.2.2.2.1
  have := B9.1.2.2.2.2.1
  have := B9.1.2.2.2.2.2.1
  have := B9.1.2.2.2.2.2.2
  have := B9.2.1.1
  have := B9.2.1.2.1
  have := B9.2.1.2.2.1
  have := B9.2.1.2.2.2.1
  have := B9.2.1.2.2.2.2
  have := B9.2.2.1
  have := B9.2.2.2.1
  have := B9.2.2.2.2.1
  have := B9.2.2.2.2.2.1
  have := B9.2.2.2.2.2.2.1
  have := B9.2.2.2.2.2.2.2
  (try k_unmd); k_fold
  k_steps
  show LeaveK h₀ L m g R (.ref _) _
  refine leaveK_ (by k_asm) (by k_asm) ?_
  intro kF kN
  refine' hret _ _ _ _ _ _ _ _ _ _ _ _ _ _ ?z1 ?z2 ?z3 ?z4 ?z5 [(?z1, ?o1), (?z2, ?o2), (?z3, ?o3), (?z4, ?o4), (?z5, ?o5)] (by assumption) (by assumption) (by assumption) ⟨?tr, ?h1, ?h2, ?h3, ?h4, ?h5, ?r1, ?r2, ?r3, ?r4, ?r5, ?ne⟩ ?nn ?lt kF (by k_asm) (News.sub kN (by lcg_sub))
  case tr => kn_triples
  case h1 => (conv => lhs; arg 1; whnf); simp [codeAmong, rawInt]; rfl
  case h2 => (conv => lhs; arg 1; whnf); simp [codeAmong, rawInt]; rfl
  case h3 => (conv => lhs; arg 1; whnf); simp [codeAmong, rawInt]; rfl
  case h4 => (conv => lhs; arg 1; whnf); simp [codeAmong, rawInt]; rfl
  case h5 => (conv => lhs; arg 1; whnf); simp [codeAmong, rawInt]; rfl
  case nn => exact News.sub kN (by lcg_sub)
  case r1 => exact ⟨_, _, _, (.head _), by assumption, by assumption⟩
  case r2 => exact ⟨_, _, _, (.tail _ (.head _)), by assumption, by assumption⟩
  case r3 => exact ⟨_, _, _, (.tail _ (.tail _ (.head _))), by assumption, by assumption⟩
  case r4 => exact ⟨_, _, _, (.tail _ (.tail _ (.tail _ (.head _)))), by assumption, by assumption⟩
  case r5 => exact ⟨_, _, _, (.tail _ (.tail _ (.tail _ (.tail _ (.head _))))), by assumption, by assumption⟩
  case ne => (repeat' (first | exact List.forall_mem_nil _ | refine List.forall_mem_cons.mpr ⟨?_, ?_⟩ | refine And.intro ?_ ?_ | k_ne))
  case lt => repeat' (first | exact List.forall_mem_nil _ | refine List.forall_mem_cons.mpr ⟨?_, ?_⟩ | ((try dsimp only); omega))
section
set_option maxRecDepth 100000
set_option maxHeartbeats 8000000
local macro_rules | `(tactic| allgen_close_more) => `(tactic| exact Heap.CodeRec.keeps (by assumption) (Fr.keep (by k_asm)))
local macro_rules | `(tactic| kn_triples) => `(tactic| assumption)
local macro_rules | `(tactic| kn_among) => `(tactic| fail)
local macro_rules | `(tactic| kn_hit) => `(tactic| with_reducible assumption)
theorem codeRec_ne {h₀ h : Heap} {L d z : Addr} {o : Obj} {q : Str} {led : List (Addr × Obj)} (r : h₀.CodeRec (.ref z) q) (N : News h₀ L h led) (hm : (d, o) ∈ led) : @Ne Nat z d := fun e => by
  obtain ⟨c, oc, vs, t, e2, hc, -⟩ := r
  cases e2
  have := (N _ hm).2.2
  rw [show d = z from e.symm, hc] at this
  cases this
theorem Codes.keeps {h h' : Heap} {L' : Addr} {tb : Array Value} {z1 z2 z3 z4 z5 : Addr} (K : Codes h L' tb z1 z2 z3 z4 z5) (k : ∀ b o, h.get? b = some o → h'.get? b = some o) : Codes h' L' tb z1 z2 z3 z4 z5 :=
  ⟨K.tr, K.k1, K.k2, K.k3, K.k4, K.k5, K.r1.keeps k, K.r2.keeps k, K.r3.keeps k, K.r4.keeps k, K.r5.keeps k, K.ne⟩
theorem asked2L {w : World} {p : Program} {loose : List Str} {mean : ExcName → Option Value} {mg mb : Str → Option Value}
    {dp un : Nat} {gd : Option (List Code)} {cn : Str} {cs : Scope} {a : Addr} {ccd : Value} {cl : List (Str × Addr)} {outer : List Env} {base h₀ g : Heap} {L L' : Addr} {m m₁ : Str → Option Value} {s : Shared} {R : Result → Shared → Prop}
    {th d an : Addr} {its : Array Value} {od o1 o2 o3 o4 : Obj} {a0 b0 c0 e0 fi : Int} {tf : Tok} {dn : Bool} {n0 n : Nat} {tb : Array Value} {z1 z2 z3 z4 z5 : Addr}
    (B : Below (ktrTop dp un gd cn cs L a ccd cl outer) base (envX cn cs L a ccd cl :: outer) g) (X : (Mine.hd.heap_1 w.params).In g) (T : Top p loose mean mg mb g) (hk : cs.kind = .function) (C : CodeHd base 113 111)
    (F : Fr g L' s.heap (fun y => if y = Str.ofString "things" then some (.ref th) else m₁ y))
    (N : News g L' s.heap [(an, W.listOf #[] 0), (d, od), (L' + 1 + 1 + 1 + 1, o4), (L' + 1 + 1 + 1, o3), (L' + 1 + 1, o2), (L' + 1, o1), (th, W.listOf its n0), (111, tabObj tb)])
    (K : Codes g L' tb z1 z2 z3 z4 z5)
    (c1 : o1.data = .cell (some (.int fi tf))) (c2 : o2.data = .cell (some (.bool dn))) (c3 : o3.data = .cell (some (.ref an))) (c4 : o4.data = .cell (some (.ref d)))
    (hL : LieObj w od fi n (V fi a0 b0 c0 e0)) (hits : its.size = n) (hn : n = 4 ∧ c0 ≠ a0 ∧ c0 ≠ b0 ∧ c0 ≠ e0 ∨ n = 3)
    (l0 : @LT.lt Nat _ 111 L') (l1 : @Ne Nat 111 th) (l2 : @LT.lt Nat _ th L') (l3 : @LT.lt Nat _ (L' + 1 + 1 + 1 + 1) d) (l4 : @LT.lt Nat _ d an)
    (hd : dp + 16 < recursionLimit) (hu : un + 160 < cLine)
    (hret : ∀ T_ S_ ys ws c h' tk' m' (a' b' x' e' : Int) (l : List Int), SortN (ltOf dn) n a0 b0 c0 e0 a' b' x' e' l → IntsAre ys ((rangeKs 0 ((n : Int) - 0).toNat).map fun k => V fi a' b' x' e' (fi + k)) → IntsAre ws l →
      Fr h₀ L h' m → Fr g L' h' m' → News h₀ L h' [(T_, tupO S_ an), (S_, LCg.lst ys), (an, W.listOf ws.toArray c), (111, tabObj tb)] → R (.ok (.ret (.ref T_))) { s with heap := h', toks := tk' }) :
    wpAny (model PG w) ((ktrTop dp un gd cn cs L a ccd cl outer).deeper (envA L')) (execs (askedBody.drop 2) (envA L')) (fun fl s' => LeaveK h₀ L m g R (match fl with | .ret v => v | _ => .none) s')
      (fun e s' => wpAny (model PG w) ((ktrTop dp un gd cn cs L a ccd cl outer).deeper (envA L')) (leaving (envA L') e) (fun _ s'' => R (.error e) s'') (fun e' s'' => R (.error e') s'') s') s := by
  have hn4 : n ≤ 4 := by rcases hn with h | h; exact Nat.le_of_eq h.1; exact h ▸ by decide
  have hb : askedBody.drop 2 = [_, _, _, _, _] := rfl
  rw [hb]
  have B9 := base_ne l0 l1 l2 l3 l4
  have := B9.1.1
  have := B9.1.2.1
  have := B9.1.2.2.1
  have := B9.1.2.2.2.1
  have := B9.1.2.2.2.2.1
  have := B9.1.2.2.2.2.2.1
  have := B9.1.2.2.2.2.2.2
  have := B9.2.1.1
  have := B9.2.1.2.1
  have := B9.2.1.2.2.1
  have := B9.2.1.2.2.2.1
  have := B9.2.1.2.2.2.2
  have := B9.2.2.1
  have := B9.2.2.2.1
  have := B9.2.2.2.2.1
  have := B9.2.2.2.2.2.1
  have := B9.2.2.2.2.2.2.1
  have := B9.2.2.2.2.2.2.2
  have r1 := K.r1
  have k1 := K.k1
  conv at k1 => lhs; arg 1; whnf
  have zd1 := codeRec_ne r1 N (.tail _ (.head _))
  have za1 := codeRec_ne r1 N (.head _)
  have r2 := K.r2
  have k2 := K.k2
  conv at k2 => lhs; arg 1; whnf
  have zd2 := codeRec_ne r2 N (.tail _ (.head _))
  have za2 := codeRec_ne r2 N (.head _)
  have r3 := K.r3
  have k3 := K.k3
  conv at k3 => lhs; arg 1; whnf
  have zd3 := codeRec_ne r3 N (.tail _ (.head _))
  have za3 := codeRec_ne r3 N (.head _)
  have r4 := K.r4
  have k4 := K.k4
  conv at k4 => lhs; arg 1; whnf
  have zd4 := codeRec_ne r4 N (.tail _ (.head _))
  have za4 := codeRec_ne r4 N (.head _)
  have r5 := K.r5
  have k5 := K.k5
  conv at k5 => lhs; arg 1; whnf
  have zd5 := codeRec_ne r5 N (.tail _ (.head _))
  have za5 := codeRec_ne r5 N (.head _)
  have ktr := K.tr
  (try k_unmd); k_fold
  k_steps
  show LeaveK h₀ L m g R (.ref _) _
  refine leaveK_ (by k_asm) (by k_asm) ?_
  intro kF kN
  exact hret _ _ _ _ _ _ _ _ _ _ _ _ _ (by assumption) (by assumption) (by assumption) kF (by k_asm) (News.sub kN (by lcg_sub))
end
end
section
section
set_option maxRecDepth 100000
set_option maxHeartbeats 3000000
section
variable {prog : Program} {w : World} {A A₀ : Around} {s : Shared} {K : Frag} {L : Addr} {h₀ base : Heap} {m mg mb : Str → Option Value} {news : List (Addr × Obj)} {p : Program} {loose : List Str} {mean : ExcName → Option Value}
/-- the way into a def with cells; what is not of the ledger stands in the new frame's ground -/
theorem code_defCG {env : Env} {outer : List Env} {R : Result → Shared → Prop} {name qual : Str} {params : Arguments} {body : List Stmt} {scope : Scope} {dV kV doc pm cdv ct oc : Value} {an od : Option Addr} {osl : Array (Option Value)} {f : Addr} {args : Args} {binds : List (Str × Value)}
    (B : Below A₀ base outer h₀) (F : Fr h₀ L s.heap m) (X₀ : K.In h₀) (N : News h₀ L s.heap news) (T : Top p loose mean mg mb h₀) (hA : A.frames = some (env :: outer)) (hf : env.frame = some L) (hke : env.scope.kind = .function)
    (ho : K.lookup f = some ⟨oc, od, .func (fnOf name qual params body scope dV kV doc pm an cdv ct), osl⟩) (hcd : codeIn K cdv qual = true) (hroom : A.depth < recursionLimit)
    (hbind : BindsTo s (fnOf name qual params body scope dV kV doc pm an cdv ct) args binds) (hkind : (binds.all fun y => scope.names.lookup y.1 == some .local || scope.names.lookup y.1 == some .cell) = true)
    (hnd : ((cellsFrom 0 scope.names []).map (·.1)).Nodup)
    (h : ∀ g L' h₁ tk cells, Fr h₀ L g m → Fr g L' h₁ (bindL (envOfC qual scope L' f cdv).kindOf binds fun _ => none) → News g L' h₁ (cells ++ news) →
      CellsAre (bindC (envOfC qual scope L' f cdv).kindOf binds fun _ => none) (cellsFrom (L' + 1) scope.names []) cells → Below A base (env :: outer) g → K.In g → Top p loose mean mg mb g → (∀ p ∈ news, p.1 < L') → GSub s.heap g (news.map (·.1)) → (∀ b o, s.heap.get? b = some o → @LT.lt Nat _ b L') →
      wpAny (model prog w) (A.deeper (envOfC qual scope L' f cdv)) (execs body (envOfC qual scope L' f cdv))
        (fun fl s' => LeaveK h₀ L m g R (match fl with | .ret v => v | _ => .none) s')
        (fun e s' => wpAny (model prog w) (A.deeper (envOfC qual scope L' f cdv)) (leaving (envOfC qual scope L' f cdv) e) (fun _ s'' => R (.error e) s'') (fun e' s'' => R (.error e') s'') s')
        { s with heap := h₁, toks := tk })
    (hco : scope.isCoroutine = false) (hgen : scope.isGenerator = false) (hk : scope.kind = .function) : codeAny (model prog w) A (.call (.ref f) args) R s := by
  obtain ⟨FG, BG, st, lv⟩ := groundX (R := R) B F N hA hf hke
  refine codeAny_call_function hroom ((X₀.keeps F.keep) _ _ ho) rfl hco hgen rfl (codeRec_of (X₀.keeps F.keep) hcd) (hbind _ _ _ _ ?_)
  refine wpAny_newFunctionEnv_cells hk (kindsX hkind _) fun env' he s' x => ?_
  subst he
  refine ⟨(T.nolimit.keeps F.keep).keeps x.toInCall.keep, codeAny_func ?_⟩
  obtain ⟨h₁, tk, rfl, _⟩ := x.done
  have hk₁ := x.toInCall.keep
  obtain ⟨cells, NC, Y⟩ := Cl.news (h₀ := s.heap) (Nat.le_refl _) fun n c hm => ⟨x.cell n c (lookup_of_mem_nodup (cellsFrom_names scope.names 0 (s.heap.objs.size + 1) [] [] rfl ▸ hnd) hm), x.above n c hm⟩
  refine wpAny_mono (h _ s.heap.objs.size h₁ tk cells FG ⟨x.toInCall.ns, fun b o e => hk₁ b o (of_hideAll _ e), Nat.le_of_eq (hideAll_size _ _)⟩ (fun p hp => ?_) Y BG (X₀.keeps st) (T.keeps st) (fun p hp => Heap.lt_size (N p hp).1) (fun b o e n => hideAll_get _ e n) (fun b o e => Heap.lt_size e)) (fun fl s' hl => lv _ _ hl) fun _ _ y => y
  rcases List.mem_append.mp hp with hp | hp
  · refine ⟨(NC p hp).1, (NC p hp).2.1, ?_⟩
    cases q : (hideAll s.heap (news.map (·.1))).get? p.1 with
    | none => rfl
    | some o => have := of_hideAll _ q; rw [(NC p hp).2.2] at this; cases this
  · exact ⟨hk₁ _ _ (N p hp).1, Nat.ne_of_lt (Heap.lt_size (N p hp).1), hideAll_none _ (List.mem_map_of_mem hp)⟩
end
theorem valueAt_stored (kvs : List (Int × Value)) (k : Int) (v : Value) (j : Int) : valueAt (stored kvs k v) j = if j = k then some v else valueAt kvs j := by
  unfold stored
  split
  · next hk =>
    rw [valueAt_map]
    by_cases e : j = k
    · subst e
      obtain ⟨p, hp, e⟩ := List.any_eq_true.mp hk
      have : ∃ x, valueAt kvs j = some x := by
        unfold valueAt
        cases q : kvs.find? (fun kv => decide (kv.1 = j)) with
        | none => exact absurd e (List.find?_eq_none.mp q p hp)
        | some x => exact ⟨x.2, rfl⟩
      obtain ⟨x, hx⟩ := this
      simp [hx]
    · simp [e]
  · next hk =>
    unfold valueAt
    rw [List.find?_append]
    by_cases e : j = k
    · subst e
      have : kvs.find? (fun kv => decide (kv.1 = j)) = none := List.find?_eq_none.mpr fun p hp q => hk (List.any_eq_true.mpr ⟨p, hp, q⟩)
      rw [this]; simp
    · have : ¬ k = j := fun q => e q.symm
      cases kvs.find? (fun kv => decide (kv.1 = j)) <;> simp [e, this]
theorem length_stored (kvs : List (Int × Value)) (k : Int) (v : Value) : (stored kvs k v).length ≤ kvs.length + 1 := by
  unfold stored; split <;> simp
theorem valueAt_nil (j : Int) : valueAt [] j = none := rfl
theorem lie4 {w : World} {o : Obj} {fi k0 k1 k2 k3 : Int} {v0 v1 v2 v3 : Int} {t0 t1 t2 t3 : Tok} (h : o.IsDictOf (intKind PG w) (stored (stored (stored (stored [] k0 (.int v0 t0)) k1 (.int v1 t1)) k2 (.int v2 t2)) k3 (.int v3 t3)))
    (e0 : k0 = fi + 0) (e1 : k1 = fi + 1) (e2 : k2 = fi + 2) (e3 : k3 = fi + 3) : LieObj w o fi 4 (V fi v0 v1 v2 v3) := by
  subst e0 e1 e2 e3
  refine ⟨_, h, ?_, fun k h1 h2 => ?_⟩
  · have a1 := length_stored (stored (stored (stored [] (fi + 0) (.int v0 t0)) (fi + 1) (.int v1 t1)) (fi + 2) (.int v2 t2)) (fi + 3) (.int v3 t3)
    have a2 := length_stored (stored (stored [] (fi + 0) (.int v0 t0)) (fi + 1) (.int v1 t1)) (fi + 2) (.int v2 t2)
    have a3 := length_stored (stored [] (fi + 0) (.int v0 t0)) (fi + 1) (.int v1 t1)
    have a4 := length_stored [] (fi + 0) (.int v0 t0)
    simp only [List.length_nil] at a4
    omega
  · simp only [valueAt_stored, valueAt_nil]
    unfold V
    by_cases q3 : k = fi + 3
    · exact ⟨t3, by subst q3; simp (config := {decide := true}) <;> omega⟩
    by_cases q2 : k = fi + 2
    · exact ⟨t2, by subst q2; simp (config := {decide := true}) <;> omega⟩
    by_cases q1 : k = fi + 1
    · exact ⟨t1, by subst q1; simp (config := {decide := true}) <;> omega⟩
    have q0 : k = fi := by omega
    exact ⟨t0, by first | rw [if_neg q3, if_neg q2, if_neg q1, if_pos (by omega), if_pos q0] | rw [if_neg q2, if_neg q1, if_pos (by omega), if_pos q0]⟩
theorem lie3 {w : World} {o : Obj} {fi k0 k1 k2 : Int} {v0 v1 v2 : Int} {t0 t1 t2 : Tok} (h : o.IsDictOf (intKind PG w) (stored (stored (stored [] k0 (.int v0 t0)) k1 (.int v1 t1)) k2 (.int v2 t2)))
    (e0 : k0 = fi + 0) (e1 : k1 = fi + 1) (e2 : k2 = fi + 2) : LieObj w o fi 3 (V fi v0 v1 v2 v2) := by
  subst e0 e1 e2
  refine ⟨_, h, ?_, fun k h1 h2 => ?_⟩
  · have a2 := length_stored (stored (stored [] (fi + 0) (.int v0 t0)) (fi + 1) (.int v1 t1)) (fi + 2) (.int v2 t2)
    have a3 := length_stored (stored [] (fi + 0) (.int v0 t0)) (fi + 1) (.int v1 t1)
    have a4 := length_stored [] (fi + 0) (.int v0 t0)
    simp only [List.length_nil] at a4
    omega
  · simp only [valueAt_stored, valueAt_nil]
    unfold V
    by_cases q2 : k = fi + 2
    · exact ⟨t2, by subst q2; simp (config := {decide := true}) <;> omega⟩
    by_cases q1 : k = fi + 1
    · exact ⟨t1, by subst q1; simp (config := {decide := true}) <;> omega⟩
    have q0 : k = fi := by omega
    exact ⟨t0, by first | rw [if_neg q3, if_neg q2, if_neg q1, if_pos (by omega), if_pos q0] | rw [if_neg q2, if_neg q1, if_pos (by omega), if_pos q0]⟩
theorem fr_at {g h : Heap} {L' : Addr} {m : Str → Option Value} {x : Str} {v : Value} (F : Fr g L' h m) (e : m x = some v) : Fr g L' h (fun y => if y = x then some v else m y) := by
  have : (fun y => if y = x then some v else m y) = m := by
    funext y
    by_cases q : y = x
    · subst q; simp [e]
    · simp [q]
  rw [this]; exact F
theorem asked1_4 {w : World} {p : Program} {loose : List Str} {mean : ExcName → Option Value} {mg mb : Str → Option Value}
    {dp un : Nat} {gd : Option (List Code)} {cn : Str} {cs : Scope} {a : Addr} {ccd : Value} {cl : List (Str × Addr)} {outer : List Env} {A₀ : Around} {base h₀ : Heap} {L : Addr} {m : Str → Option Value} {s : Shared} {R : Result → Shared → Prop}
    {th : Addr} {v0 v1 v2 v3 fi : Int} {t0 t1 t2 t3 tf : Tok} {dn : Bool} {n0 : Nat} {tb : Array Value}
    (B : Below A₀ base outer h₀) (F : Fr h₀ L s.heap m) (X : (Mine.hd.heap_1 w.params).In h₀) (T : Top p loose mean mg mb h₀) (hk : cs.kind = .function)
    (N : News h₀ L s.heap [(th, W.listOf #[.int v0 t0, .int v1 t1, .int v2 t2, .int v3 t3] n0), (111, tabObj tb)])
    (h1 : @Ne Nat 111 th) (hd : dp + 16 < recursionLimit) (hu : un + 160 < cLine)
    (H : ∀ g L' h₁ tk (m₁ : Str → Option Value) d an od o1 o2 o3 o4, Fr h₀ L g m → Below (ktrTop dp un gd cn cs L a ccd cl outer) base (envX cn cs L a ccd cl :: outer) g → (Mine.hd.heap_1 w.params).In g → Top p loose mean mg mb g → GSub s.heap g [th, 111] → (∀ b o, s.heap.get? b = some o → @LT.lt Nat _ b L') → @LT.lt Nat _ 111 L' → @LT.lt Nat _ th L' →
      Fr g L' h₁ (fun y => if y = Str.ofString "things" then some (.ref th) else m₁ y) →
      News g L' h₁ [(an, W.listOf #[] 0), (d, od), (L' + 1 + 1 + 1 + 1, o4), (L' + 1 + 1 + 1, o3), (L' + 1 + 1, o2), (L' + 1, o1), (th, W.listOf #[.int v0 t0, .int v1 t1, .int v2 t2, .int v3 t3] n0), (111, tabObj tb)] →
      o1.data = .cell (some (.int fi tf)) → o2.data = .cell (some (.bool dn)) → o3.data = .cell (some (.ref an)) → o4.data = .cell (some (.ref d)) →
      LieObj w od fi 4 (V fi v0 v1 v2 v3) → @LT.lt Nat _ (L' + 1 + 1 + 1 + 1) d → @LT.lt Nat _ d an →
      wpAny (model PG w) ((ktrTop dp un gd cn cs L a ccd cl outer).deeper (envA L')) (execs (askedBody.drop 2) (envA L')) (fun fl s' => LeaveK h₀ L m g R (match fl with | .ret v => v | _ => .none) s')
        (fun e s' => wpAny (model PG w) ((ktrTop dp un gd cn cs L a ccd cl outer).deeper (envA L')) (leaving (envA L') e) (fun _ s'' => R (.error e) s'') (fun e' s'' => R (.error e') s'') s') { s with heap := h₁, toks := tk }) :
    codeAny (model PG w) (ktrTop dp un gd cn cs L a ccd cl outer) (.call (.ref 114) ⟨[.ref th, .int fi tf, .bool dn], []⟩) R s := by
  have hb : askedBody.drop 2 = [_, _, _, _, _] := rfl
  rw [hb] at H
  k_dflt (refine' code_defCG ?k1 ?k2 ?k3 ?k4 ?k5 ?kA ?kF ?kK ?k6 ?k7 ?k8 ?k9 ?kB ?kD ?_ ?c2 ?c3 ?c4; (case kA => exact rfl); (case kF => exact rfl); (case kK => assumption); (case k1 => k_asm); (case k2 => k_asm); (case k3 => k_asm); (case k4 => k_asm); (case k5 => k_asm); (case k6 => k_is); (case k7 => k_is); (case k8 => ktr_room); (case k9 => exact BindsTo.of_eq rfl); (case kB => exact rfl); (case kD => decide +kernel); (case c2 => exact rfl); (case c3 => exact rfl); (case c4 => exact rfl); k_whole; intro g' L' h' tk' cells' FG' F' N' Y' B' X' T' l1 G' Z'; (try k_lt l1); k_cells Y'; (try simp only [List.cons_append, List.nil_append] at N'); (try dsimp only); (try k_lift B'); (try k_fold))
  repeat ((fail_if_success (with_reducible show wpAny _ _ (execs (Stmt.FunctionDef _ _ _ _ _ _ _ _ _ _ :: _) _) _ _ _)); (first | (k_unfold; (try dsimp only)) | (k_end; wrow_close) | walk1 | (dsimp only; walk1) | (leave1; walk_say "STEP leave1"; try dsimp only) | fail "no step"))
  refine' H _ _ _ _ _ _ _ _ _ _ _ _ FG' B' X' T' G' Z' l1.2.1 l1.1 (fr_at ?f ?e) ?n ?c1 ?c2 ?c3 ?c4 (lie4 ?h ?e0 ?e1 ?e2 ?e3) ?l1 ?l2
  (case h => assumption)
  (case f => k_asm)
  (case e => rfl)
  (case n => exact News.sub (by k_asm) (by lcg_sub))
  (case c1 => assumption)
  (case c2 => assumption)
  (case c3 => assumption)
  (case c4 => assumption)
  (case e0 => rfl)
  (case e1 => rfl)
  (case e2 => rfl)
  (case e3 => rfl)
  (case l1 => omega)
  (case l2 => omega)
theorem asked1_3 {w : World} {p : Program} {loose : List Str} {mean : ExcName → Option Value} {mg mb : Str → Option Value}
    {dp un : Nat} {gd : Option (List Code)} {cn : Str} {cs : Scope} {a : Addr} {ccd : Value} {cl : List (Str × Addr)} {outer : List Env} {A₀ : Around} {base h₀ : Heap} {L : Addr} {m : Str → Option Value} {s : Shared} {R : Result → Shared → Prop}
    {th : Addr} {v0 v1 v2 fi : Int} {t0 t1 t2 tf : Tok} {dn : Bool} {n0 : Nat} {tb : Array Value}
    (B : Below A₀ base outer h₀) (F : Fr h₀ L s.heap m) (X : (Mine.hd.heap_1 w.params).In h₀) (T : Top p loose mean mg mb h₀) (hk : cs.kind = .function)
    (N : News h₀ L s.heap [(th, W.listOf #[.int v0 t0, .int v1 t1, .int v2 t2] n0), (111, tabObj tb)])
    (h1 : @Ne Nat 111 th) (hd : dp + 16 < recursionLimit) (hu : un + 160 < cLine)
    (H : ∀ g L' h₁ tk (m₁ : Str → Option Value) d an od o1 o2 o3 o4, Fr h₀ L g m → Below (ktrTop dp un gd cn cs L a ccd cl outer) base (envX cn cs L a ccd cl :: outer) g → (Mine.hd.heap_1 w.params).In g → Top p loose mean mg mb g → GSub s.heap g [th, 111] → (∀ b o, s.heap.get? b = some o → @LT.lt Nat _ b L') → @LT.lt Nat _ 111 L' → @LT.lt Nat _ th L' →
      Fr g L' h₁ (fun y => if y = Str.ofString "things" then some (.ref th) else m₁ y) →
      News g L' h₁ [(an, W.listOf #[] 0), (d, od), (L' + 1 + 1 + 1 + 1, o4), (L' + 1 + 1 + 1, o3), (L' + 1 + 1, o2), (L' + 1, o1), (th, W.listOf #[.int v0 t0, .int v1 t1, .int v2 t2] n0), (111, tabObj tb)] →
      o1.data = .cell (some (.int fi tf)) → o2.data = .cell (some (.bool dn)) → o3.data = .cell (some (.ref an)) → o4.data = .cell (some (.ref d)) →
      LieObj w od fi 3 (V fi v0 v1 v2 v2) → @LT.lt Nat _ (L' + 1 + 1 + 1 + 1) d → @LT.lt Nat _ d an →
      wpAny (model PG w) ((ktrTop dp un gd cn cs L a ccd cl outer).deeper (envA L')) (execs (askedBody.drop 2) (envA L')) (fun fl s' => LeaveK h₀ L m g R (match fl with | .ret v => v | _ => .none) s')
        (fun e s' => wpAny (model PG w) ((ktrTop dp un gd cn cs L a ccd cl outer).deeper (envA L')) (leaving (envA L') e) (fun _ s'' => R (.error e) s'') (fun e' s'' => R (.error e') s'') s') { s with heap := h₁, toks := tk }) :
    codeAny (model PG w) (ktrTop dp un gd cn cs L a ccd cl outer) (.call (.ref 114) ⟨[.ref th, .int fi tf, .bool dn], []⟩) R s := by
  have hb : askedBody.drop 2 = [_, _, _, _, _] := rfl
  rw [hb] at H
  k_dflt (refine' code_defCG ?k1 ?k2 ?k3 ?k4 ?k5 ?kA ?kF ?kK ?k6 ?k7 ?k8 ?k9 ?kB ?kD ?_ ?c2 ?c3 ?c4; (case kA => exact rfl); (case kF => exact rfl); (case kK => assumption); (case k1 => k_asm); (case k2 => k_asm); (case k3 => k_asm); (case k4 => k_asm); (case k5 => k_asm); (case k6 => k_is); (case k7 => k_is); (case k8 => ktr_room); (case k9 => exact BindsTo.of_eq rfl); (case kB => exact rfl); (case kD => decide +kernel); (case c2 => exact rfl); (case c3 => exact rfl); (case c4 => exact rfl); k_whole; intro g' L' h' tk' cells' FG' F' N' Y' B' X' T' l1 G' Z'; (try k_lt l1); k_cells Y'; (try simp only [List.cons_append, List.nil_append] at N'); (try dsimp only); (try k_lift B'); (try k_fold))
  repeat ((fail_if_success (with_reducible show wpAny _ _ (execs (Stmt.FunctionDef _ _ _ _ _ _ _ _ _ _ :: _) _) _ _ _)); (first | (k_unfold; (try dsimp only)) | (k_end; wrow_close) | walk1 | (dsimp only; walk1) | (leave1; walk_say "STEP leave1"; try dsimp only) | fail "no step"))
  refine' H _ _ _ _ _ _ _ _ _ _ _ _ FG' B' X' T' G' Z' l1.2.1 l1.1 (fr_at ?f ?e) ?n ?c1 ?c2 ?c3 ?c4 (lie3 ?h ?e0 ?e1 ?e2) ?l1 ?l2
  (case h => assumption)
  (case f => k_asm)
  (case e => rfl)
  (case n => exact News.sub (by k_asm) (by lcg_sub))
  (case c1 => assumption)
  (case c2 => assumption)
  (case c3 => assumption)
  (case c4 => assumption)
  (case e0 => rfl)
  (case e1 => rfl)
  (case e2 => rfl)
  (case l1 => omega)
  (case l2 => omega)
end
end
section
section
set_option maxRecDepth 100000
set_option maxHeartbeats 3000000
theorem Codes.to {h : Heap} {L' L'' : Addr} {tb : Array Value} {z1 z2 z3 z4 z5 : Addr} (K : Codes h L' tb z1 z2 z3 z4 z5) : Codes h L'' tb z1 z2 z3 z4 z5 :=
  ⟨K.tr, K.k1, K.k2, K.k3, K.k4, K.k5, K.r1, K.r2, K.r3, K.r4, K.r5, K.ne⟩
theorem codeRec_sub {h g : Heap} {z : Addr} {q : Str} {bs : List Addr} (r : h.CodeRec (.ref z) q) (G : GSub h g bs) (n : z ∉ bs) : g.CodeRec (.ref z) q := by
  obtain ⟨c, o, vs, t, e, hc, x⟩ := r
  cases e
  exact ⟨z, o, vs, t, rfl, G _ _ hc n, x⟩
theorem Codes.sub {h g : Heap} {L' th : Addr} {tb : Array Value} {z1 z2 z3 z4 z5 : Addr} (K : Codes h L' tb z1 z2 z3 z4 z5) (G : GSub h g [th, 111]) (n : ∀ b ∈ [z1, z2, z3, z4, z5], b ≠ th) : Codes g L' tb z1 z2 z3 z4 z5 := by
  have nn : ∀ b ∈ [z1, z2, z3, z4, z5], b ∉ [th, 111] := fun b hb q => by
    rcases List.mem_cons.mp q with q | q
    · exact n b hb q
    · exact K.ne b hb (List.mem_singleton.mp q)
  exact ⟨K.tr, K.k1, K.k2, K.k3, K.k4, K.k5, codeRec_sub K.r1 G (nn _ (by simp)), codeRec_sub K.r2 G (nn _ (by simp)), codeRec_sub K.r3 G (nn _ (by simp)), codeRec_sub K.r4 G (nn _ (by simp)), codeRec_sub K.r5 G (nn _ (by simp)), K.ne⟩
noncomputable def vals (n : Nat) (a b c e : Int) : List Int := if n = 4 then [a, b, c, e] else [a, b, c]
theorem vals_of {n : Nat} (hn : n = 4 ∨ n = 3) (fi a b c e : Int) : (rangeKs 0 ((n : Int) - 0).toNat).map (fun k => V fi a b c e (fi + k)) = vals n a b c e := by
  rcases hn with rfl | rfl
  · show [V fi a b c e (fi + (0 + 0)), V fi a b c e (fi + (0 + 1)), V fi a b c e (fi + (0 + 2)), V fi a b c e (fi + (0 + 3))] = _
    rw [V0 (by omega), V1 (by omega), V2 (by omega), V3 (by omega)]; rfl
  · show [V fi a b c e (fi + (0 + 0)), V fi a b c e (fi + (0 + 1)), V fi a b c e (fi + (0 + 2))] = _
    rw [V0 (by omega), V1 (by omega), V2 (by omega)]; rfl
/-- what a first call of _law_asked hands on -/
noncomputable def AskedF (Q : Value → Shared → Prop) (s : Shared) (h₀ : Heap) (L : Addr) (m : Str → Option Value) (th : Addr) (dn : Bool) (n : Nat) (a0 b0 c0 e0 : Int) : Prop :=
  ∀ T_ S_ an ys ws c h' tk' (a' b' x' e' : Int) (l : List Int) tb' z1 z2 z3 z4 z5 cl, SortN (ltOf dn) n a0 b0 c0 e0 a' b' x' e' l → IntsAre ys (vals n a' b' x' e') → IntsAre ws l → CodesL cl tb' z1 z2 z3 z4 z5 → News h₀ L h' cl → (∀ p ∈ cl, ∀ b o, s.heap.get? b = some o → @LT.lt Nat _ b p.1) →
    Fr h₀ L h' m → (∀ b o, s.heap.get? b = some o → b ≠ th → b ≠ 111 → h'.get? b = some o) → (∀ b o, s.heap.get? b = some o → @LT.lt Nat _ b an) →
    News h₀ L h' [(T_, tupO S_ an), (S_, LCg.lst ys), (an, W.listOf ws.toArray c), (111, tabObj tb')] → Q (.ref T_) { s with heap := h', toks := tk' }
/-- what a later call hands on -/
noncomputable def AskedL (Q : Value → Shared → Prop) (s : Shared) (h₀ : Heap) (L : Addr) (m : Str → Option Value) (th : Addr) (dn : Bool) (n : Nat) (a0 b0 c0 e0 : Int) (tb : Array Value) : Prop :=
  ∀ T_ S_ an ys ws c h' tk' (a' b' x' e' : Int) (l : List Int), SortN (ltOf dn) n a0 b0 c0 e0 a' b' x' e' l → IntsAre ys (vals n a' b' x' e') → IntsAre ws l →
    Fr h₀ L h' m → (∀ b o, s.heap.get? b = some o → b ≠ th → b ≠ 111 → h'.get? b = some o) → (∀ b o, s.heap.get? b = some o → @LT.lt Nat _ b an) →
    News h₀ L h' [(T_, tupO S_ an), (S_, LCg.lst ys), (an, W.listOf ws.toArray c), (111, tabObj tb)] → Q (.ref T_) { s with heap := h', toks := tk' }
theorem asked4F {w : World} {p : Program} {loose : List Str} {mean : ExcName → Option Value} {mg mb : Str → Option Value}
    {dp un : Nat} {gd : Option (List Code)} {cn : Str} {cs : Scope} {a : Addr} {ccd : Value} {cl : List (Str × Addr)} {outer : List Env} {A₀ : Around} {base h₀ : Heap} {L : Addr} {m : Str → Option Value} {s : Shared} {Q E : Value → Shared → Prop}
    {th : Addr} {v0 v1 v2 v3 fi : Int} {t0 t1 t2 t3 tf : Tok} {dn : Bool} {n0 : Nat} 
    (B : Below A₀ base outer h₀) (F : Fr h₀ L s.heap m) (X : (Mine.hd.heap_1 w.params).In h₀) (T : Top p loose mean mg mb h₀) (hk : cs.kind = .function) (C : CodeHd base 113 111)
    (N : News h₀ L s.heap [(th, W.listOf #[.int v0 t0, .int v1 t1, .int v2 t2, .int v3 t3] n0), (111, tabObj #[])]) (hne : v2 ≠ v0 ∧ v2 ≠ v1 ∧ v2 ≠ v3) 
    (h1 : @Ne Nat 111 th) (hd : dp + 16 < recursionLimit) (hu : un + 160 < cLine)
    (hret : AskedF Q s h₀ L m th dn 4 v0 v1 v2 v3) :
    wpAny (model PG w) (ktrTop dp un gd cn cs L a ccd cl outer) (call (.ref 114) [.ref th, .int fi tf, .bool dn]) Q E s := by
  refine wpAny_call ?_
  refine asked1_4 B F X T hk N h1 hd hu fun g L' h₁ tk m₁ d an od o1 o2 o3 o4 FG B' X' T' G sz lt0 lt F' N' c1 c2 c3 c4 hL l3 l4 => ?_
  refine asked2F B' X' T' hk C F' N' c1 c2 c3 c4 hL rfl (.inl ⟨rfl, hne⟩) lt0 h1 lt l3 l4 hd hu ?_
  intro T_ S_ ys ws c h' tk' m' a' b' x' e' l tb' y1 y2 y3 y4 y5 cl hS hys hws K NC lc F1 F2 N1
  refine hret T_ S_ an ys ws c h' tk' a' b' x' e' l tb' y1 y2 y3 y4 y5 cl hS ?_ hws K NC (fun p hp b o e => Nat.lt_trans (sz b o e) (lc p hp)) F1 (fun b o e n1 n2 => F2.keep _ _ (G _ _ e ?_)) (fun b o e => ?_) N1
  · rw [← vals_of (by simp) fi]; exact hys
  · simp only [List.mem_cons, List.not_mem_nil, or_false, not_or]; exact ⟨n1, n2⟩
  · have := sz b o e; omega
theorem asked4L {w : World} {p : Program} {loose : List Str} {mean : ExcName → Option Value} {mg mb : Str → Option Value}
    {dp un : Nat} {gd : Option (List Code)} {cn : Str} {cs : Scope} {a : Addr} {ccd : Value} {cl : List (Str × Addr)} {outer : List Env} {A₀ : Around} {base h₀ : Heap} {L : Addr} {m : Str → Option Value} {s : Shared} {Q E : Value → Shared → Prop}
    {th : Addr} {v0 v1 v2 v3 fi : Int} {t0 t1 t2 t3 tf : Tok} {dn : Bool} {n0 : Nat} {tb : Array Value} {z1 z2 z3 z4 z5 : Addr}
    (B : Below A₀ base outer h₀) (F : Fr h₀ L s.heap m) (X : (Mine.hd.heap_1 w.params).In h₀) (T : Top p loose mean mg mb h₀) (hk : cs.kind = .function) (C : CodeHd base 113 111)
    (N : News h₀ L s.heap [(th, W.listOf #[.int v0 t0, .int v1 t1, .int v2 t2, .int v3 t3] n0), (111, tabObj tb)]) (K : Codes s.heap 0 tb z1 z2 z3 z4 z5) (nz : ∀ b ∈ [z1, z2, z3, z4, z5], b ≠ th) (hne : v2 ≠ v0 ∧ v2 ≠ v1 ∧ v2 ≠ v3) 
    (h1 : @Ne Nat 111 th) (hd : dp + 16 < recursionLimit) (hu : un + 160 < cLine)
    (hret : AskedL Q s h₀ L m th dn 4 v0 v1 v2 v3 tb) :
    wpAny (model PG w) (ktrTop dp un gd cn cs L a ccd cl outer) (call (.ref 114) [.ref th, .int fi tf, .bool dn]) Q E s := by
  refine wpAny_call ?_
  refine asked1_4 B F X T hk N h1 hd hu fun g L' h₁ tk m₁ d an od o1 o2 o3 o4 FG B' X' T' G sz lt0 lt F' N' c1 c2 c3 c4 hL l3 l4 => ?_
  refine asked2L B' X' T' hk C F' N' (K.sub G nz).to c1 c2 c3 c4 hL rfl (.inl ⟨rfl, hne⟩) lt0 h1 lt l3 l4 hd hu ?_
  intro T_ S_ ys ws c h' tk' m' a' b' x' e' l hS hys hws F1 F2 N1
  refine hret T_ S_ an ys ws c h' tk' a' b' x' e' l hS ?_ hws F1 (fun b o e n1 n2 => F2.keep _ _ (G _ _ e ?_)) (fun b o e => ?_) N1
  · rw [← vals_of (by simp) fi]; exact hys
  · simp only [List.mem_cons, List.not_mem_nil, or_false, not_or]; exact ⟨n1, n2⟩
  · have := sz b o e; omega
theorem asked3F {w : World} {p : Program} {loose : List Str} {mean : ExcName → Option Value} {mg mb : Str → Option Value}
    {dp un : Nat} {gd : Option (List Code)} {cn : Str} {cs : Scope} {a : Addr} {ccd : Value} {cl : List (Str × Addr)} {outer : List Env} {A₀ : Around} {base h₀ : Heap} {L : Addr} {m : Str → Option Value} {s : Shared} {Q E : Value → Shared → Prop}
    {th : Addr} {v0 v1 v2 fi : Int} {t0 t1 t2 tf : Tok} {dn : Bool} {n0 : Nat} 
    (B : Below A₀ base outer h₀) (F : Fr h₀ L s.heap m) (X : (Mine.hd.heap_1 w.params).In h₀) (T : Top p loose mean mg mb h₀) (hk : cs.kind = .function) (C : CodeHd base 113 111)
    (N : News h₀ L s.heap [(th, W.listOf #[.int v0 t0, .int v1 t1, .int v2 t2] n0), (111, tabObj #[])]) 
    (h1 : @Ne Nat 111 th) (hd : dp + 16 < recursionLimit) (hu : un + 160 < cLine)
    (hret : AskedF Q s h₀ L m th dn 3 v0 v1 v2 v2) :
    wpAny (model PG w) (ktrTop dp un gd cn cs L a ccd cl outer) (call (.ref 114) [.ref th, .int fi tf, .bool dn]) Q E s := by
  refine wpAny_call ?_
  refine asked1_3 B F X T hk N h1 hd hu fun g L' h₁ tk m₁ d an od o1 o2 o3 o4 FG B' X' T' G sz lt0 lt F' N' c1 c2 c3 c4 hL l3 l4 => ?_
  refine asked2F B' X' T' hk C F' N' c1 c2 c3 c4 hL rfl (.inr rfl) lt0 h1 lt l3 l4 hd hu ?_
  intro T_ S_ ys ws c h' tk' m' a' b' x' e' l tb' y1 y2 y3 y4 y5 cl hS hys hws K NC lc F1 F2 N1
  refine hret T_ S_ an ys ws c h' tk' a' b' x' e' l tb' y1 y2 y3 y4 y5 cl hS ?_ hws K NC (fun p hp b o e => Nat.lt_trans (sz b o e) (lc p hp)) F1 (fun b o e n1 n2 => F2.keep _ _ (G _ _ e ?_)) (fun b o e => ?_) N1
  · rw [← vals_of (by simp) fi]; exact hys
  · simp only [List.mem_cons, List.not_mem_nil, or_false, not_or]; exact ⟨n1, n2⟩
  · have := sz b o e; omega
theorem asked3L {w : World} {p : Program} {loose : List Str} {mean : ExcName → Option Value} {mg mb : Str → Option Value}
    {dp un : Nat} {gd : Option (List Code)} {cn : Str} {cs : Scope} {a : Addr} {ccd : Value} {cl : List (Str × Addr)} {outer : List Env} {A₀ : Around} {base h₀ : Heap} {L : Addr} {m : Str → Option Value} {s : Shared} {Q E : Value → Shared → Prop}
    {th : Addr} {v0 v1 v2 fi : Int} {t0 t1 t2 tf : Tok} {dn : Bool} {n0 : Nat} {tb : Array Value} {z1 z2 z3 z4 z5 : Addr}
    (B : Below A₀ base outer h₀) (F : Fr h₀ L s.heap m) (X : (Mine.hd.heap_1 w.params).In h₀) (T : Top p loose mean mg mb h₀) (hk : cs.kind = .function) (C : CodeHd base 113 111)
    (N : News h₀ L s.heap [(th, W.listOf #[.int v0 t0, .int v1 t1, .int v2 t2] n0), (111, tabObj tb)]) (K : Codes s.heap 0 tb z1 z2 z3 z4 z5) (nz : ∀ b ∈ [z1, z2, z3, z4, z5], b ≠ th) 
    (h1 : @Ne Nat 111 th) (hd : dp + 16 < recursionLimit) (hu : un + 160 < cLine)
    (hret : AskedL Q s h₀ L m th dn 3 v0 v1 v2 v2 tb) :
    wpAny (model PG w) (ktrTop dp un gd cn cs L a ccd cl outer) (call (.ref 114) [.ref th, .int fi tf, .bool dn]) Q E s := by
  refine wpAny_call ?_
  refine asked1_3 B F X T hk N h1 hd hu fun g L' h₁ tk m₁ d an od o1 o2 o3 o4 FG B' X' T' G sz lt0 lt F' N' c1 c2 c3 c4 hL l3 l4 => ?_
  refine asked2L B' X' T' hk C F' N' (K.sub G nz).to c1 c2 c3 c4 hL rfl (.inr rfl) lt0 h1 lt l3 l4 hd hu ?_
  intro T_ S_ ys ws c h' tk' m' a' b' x' e' l hS hys hws F1 F2 N1
  refine hret T_ S_ an ys ws c h' tk' a' b' x' e' l hS ?_ hws F1 (fun b o e n1 n2 => F2.keep _ _ (G _ _ e ?_)) (fun b o e => ?_) N1
  · rw [← vals_of (by simp) fi]; exact hys
  · simp only [List.mem_cons, List.not_mem_nil, or_false, not_or]; exact ⟨n1, n2⟩
  · have := sz b o e; omega
end
end
section
section
set_option maxRecDepth 100000
set_option maxHeartbeats 3000000
/-- what a call hands on, be it the first or a later one -/
noncomputable def AskedU (Q : Value → Shared → Prop) (s : Shared) (h₀ : Heap) (L : Addr) (m : Str → Option Value) (th : Addr) (dn : Bool) (n : Nat) (a0 b0 c0 e0 : Int) (tb : Array Value) : Prop :=
  ∀ T_ S_ an ys ws c h' tk' (a' b' x' e' : Int) (l : List Int) tb' cl, SortN (ltOf dn) n a0 b0 c0 e0 a' b' x' e' l → IntsAre ys (vals n a' b' x' e') → IntsAre ws l → ((∃ z1 z2 z3 z4 z5, CodesL cl tb' z1 z2 z3 z4 z5) ∨ tb' = tb ∧ tb ≠ #[]) → News h₀ L h' cl → (∀ p ∈ cl, ∀ b o, s.heap.get? b = some o → @LT.lt Nat _ b p.1) →
    Fr h₀ L h' m → (∀ b o, s.heap.get? b = some o → b ≠ th → b ≠ 111 → h'.get? b = some o) → (∀ b o, s.heap.get? b = some o → @LT.lt Nat _ b an) →
    News h₀ L h' [(T_, tupO S_ an), (S_, LCg.lst ys), (an, W.listOf ws.toArray c), (111, tabObj tb')] → Q (.ref T_) { s with heap := h', toks := tk' }
theorem codesL_ne {cl : List (Addr × Obj)} {tb : Array Value} {z1 z2 z3 z4 z5 : Addr} (K : CodesL cl tb z1 z2 z3 z4 z5) : tb ≠ #[] := fun e => by
  subst e; have := K.k1; exact nomatch this
theorem news_nil {h₀ h : Heap} {L : Addr} : News h₀ L h [] := fun _ h => nomatch h
theorem asked4U {w : World} {p : Program} {loose : List Str} {mean : ExcName → Option Value} {mg mb : Str → Option Value}
    {dp un : Nat} {gd : Option (List Code)} {cn : Str} {cs : Scope} {a : Addr} {ccd : Value} {cl : List (Str × Addr)} {outer : List Env} {A₀ : Around} {base h₀ : Heap} {L : Addr} {m : Str → Option Value} {s : Shared} {Q E : Value → Shared → Prop}
    {th : Addr} {v0 v1 v2 v3 fi : Int} {t0 t1 t2 t3 tf : Tok} {dn : Bool} {n0 : Nat} {tb : Array Value} 
    (B : Below A₀ base outer h₀) (F : Fr h₀ L s.heap m) (X : (Mine.hd.heap_1 w.params).In h₀) (T : Top p loose mean mg mb h₀) (hk : cs.kind = .function) (C : CodeHd base 113 111)
    (N : News h₀ L s.heap [(th, W.listOf #[.int v0 t0, .int v1 t1, .int v2 t2, .int v3 t3] n0), (111, tabObj tb)]) (hne : v2 ≠ v0 ∧ v2 ≠ v1 ∧ v2 ≠ v3) 
    (h1 : @Ne Nat 111 th) (hd : dp + 16 < recursionLimit) (hu : un + 160 < cLine)
    (HK : tb = #[] ∨ tb ≠ #[] ∧ ∃ z1 z2 z3 z4 z5, Codes s.heap 0 tb z1 z2 z3 z4 z5 ∧ ∀ b ∈ [z1, z2, z3, z4, z5], b ≠ th)
    (hret : AskedU Q s h₀ L m th dn 4 v0 v1 v2 v3 tb) :
    wpAny (model PG w) (ktrTop dp un gd cn cs L a ccd cl outer) (call (.ref 114) [.ref th, .int fi tf, .bool dn]) Q E s := by
  rcases HK with rfl | ⟨hz, z1, z2, z3, z4, z5, K, nz⟩
  · exact asked4F B F X T hk C N hne h1 hd hu fun T_ S_ an ys ws c h' tk' a' b' x' e' l tb' y1 y2 y3 y4 y5 cl hS hys hws K NC lc F1 KP AF N1 => hret T_ S_ an ys ws c h' tk' a' b' x' e' l tb' cl hS hys hws (.inl ⟨_, _, _, _, _, K⟩) NC lc F1 KP AF N1
  · exact asked4L B F X T hk C N K nz hne h1 hd hu fun T_ S_ an ys ws c h' tk' a' b' x' e' l hS hys hws F1 KP AF N1 => hret T_ S_ an ys ws c h' tk' a' b' x' e' l tb [] hS hys hws (.inr ⟨rfl, hz⟩) news_nil (fun _ h => nomatch h) F1 KP AF N1
theorem asked3U {w : World} {p : Program} {loose : List Str} {mean : ExcName → Option Value} {mg mb : Str → Option Value}
    {dp un : Nat} {gd : Option (List Code)} {cn : Str} {cs : Scope} {a : Addr} {ccd : Value} {cl : List (Str × Addr)} {outer : List Env} {A₀ : Around} {base h₀ : Heap} {L : Addr} {m : Str → Option Value} {s : Shared} {Q E : Value → Shared → Prop}
    {th : Addr} {v0 v1 v2 fi : Int} {t0 t1 t2 tf : Tok} {dn : Bool} {n0 : Nat} {tb : Array Value} 
    (B : Below A₀ base outer h₀) (F : Fr h₀ L s.heap m) (X : (Mine.hd.heap_1 w.params).In h₀) (T : Top p loose mean mg mb h₀) (hk : cs.kind = .function) (C : CodeHd base 113 111)
    (N : News h₀ L s.heap [(th, W.listOf #[.int v0 t0, .int v1 t1, .int v2 t2] n0), (111, tabObj tb)]) 
    (h1 : @Ne Nat 111 th) (hd : dp + 16 < recursionLimit) (hu : un + 160 < cLine)
    (HK : tb = #[] ∨ tb ≠ #[] ∧ ∃ z1 z2 z3 z4 z5, Codes s.heap 0 tb z1 z2 z3 z4 z5 ∧ ∀ b ∈ [z1, z2, z3, z4, z5], b ≠ th)
    (hret : AskedU Q s h₀ L m th dn 3 v0 v1 v2 v2 tb) :
    wpAny (model PG w) (ktrTop dp un gd cn cs L a ccd cl outer) (call (.ref 114) [.ref th, .int fi tf, .bool dn]) Q E s := by
  rcases HK with rfl | ⟨hz, z1, z2, z3, z4, z5, K, nz⟩
  · exact asked3F B F X T hk C N h1 hd hu fun T_ S_ an ys ws c h' tk' a' b' x' e' l tb' y1 y2 y3 y4 y5 cl hS hys hws K NC lc F1 KP AF N1 => hret T_ S_ an ys ws c h' tk' a' b' x' e' l tb' cl hS hys hws (.inl ⟨_, _, _, _, _, K⟩) NC lc F1 KP AF N1
  · exact asked3L B F X T hk C N K nz h1 hd hu fun T_ S_ an ys ws c h' tk' a' b' x' e' l hS hys hws F1 KP AF N1 => hret T_ S_ an ys ws c h' tk' a' b' x' e' l tb [] hS hys hws (.inr ⟨rfl, hz⟩) news_nil (fun _ h => nomatch h) F1 KP AF N1
end
end
section
section
set_option maxRecDepth 100000
noncomputable def twoF (lt : Int → Int → Bool) (x y : Int) : Int × Int × List Int := if lt y x then (y, x, [1]) else (x, y, [0])
noncomputable def midF (lt : Int → Int → Bool) (x m y : Int) : Int × Int × Int × List Int := if lt m x then (m, x, y, [1]) else if lt y m then (x, y, m, [0, 1]) else (x, m, y, [0, 0])
noncomputable def sort3F (lt : Int → Int → Bool) (a b c : Int) : List Int × List Int :=
  let p := twoF lt a c
  let q := midF lt p.1 b p.2.1
  ([q.1, q.2.1, q.2.2.1], p.2.2 ++ q.2.2.2)
noncomputable def sort4F (lt : Int → Int → Bool) (a b c e : Int) : List Int × List Int :=
  let p := twoF lt a e
  let q := midF lt p.1 b p.2.1
  if lt c q.2.1 then
    let r := twoF lt q.1 c
    ([r.1, r.2.1, q.2.1, q.2.2.1], p.2.2 ++ q.2.2.2 ++ [1, 0, 0] ++ r.2.2)
  else
    let r := twoF lt c q.2.2.1
    ([q.1, q.2.1, r.1, r.2.1], p.2.2 ++ q.2.2.2 ++ [0, 1, 0] ++ r.2.2)
theorem twoF_of {lt : Int → Int → Bool} {x y x' y' : Int} {l : List Int} (h : Two lt x y x' y' l) : twoF lt x y = (x', y', l) := by
  rcases h with ⟨h, rfl, rfl, rfl⟩ | ⟨h, rfl, rfl, rfl⟩ <;> simp [twoF, h]
theorem midF_of {lt : Int → Int → Bool} {x m y x' m' y' : Int} {l : List Int} (h : Mid lt x m y x' m' y' l) : midF lt x m y = (x', m', y', l) := by
  rcases h with ⟨h, rfl, rfl, rfl, rfl⟩ | ⟨h, h2, rfl, rfl, rfl, rfl⟩ | ⟨h, h2, rfl, rfl, rfl, rfl⟩ <;> simp [midF, *]
theorem sort3F_of {lt : Int → Int → Bool} {a b c a' b' c' : Int} {l : List Int} (h : Sort3 lt a b c a' b' c' l) : sort3F lt a b c = ([a', b', c'], l) := by
  obtain ⟨a1, c1, l1, l2, h1, h2, rfl⟩ := h
  simp [sort3F, twoF_of h1, midF_of h2]
theorem sort4F_of {lt : Int → Int → Bool} {a b c e a' b' c' e' : Int} {l : List Int} (h : Sort4 lt a b c e a' b' c' e' l) : sort4F lt a b c e = ([a', b', c', e'], l) := by
  obtain ⟨a1, e1, l1, a2, b2, e2, l2, h1, h2, h3⟩ := h
  rcases h3 with ⟨h3, b3, l4, h4, rfl, rfl, rfl, rfl⟩ | ⟨h3, c3, l4, h4, rfl, rfl, rfl, rfl⟩ <;> simp [sort4F, twoF_of h1, midF_of h2, h3, twoF_of h4]
noncomputable def sortF (lt : Int → Int → Bool) (n : Nat) (a b c e : Int) : List Int × List Int := if n = 4 then sort4F lt a b c e else sort3F lt a b c
theorem sortF_of {lt : Int → Int → Bool} {n : Nat} {a b c e a' b' c' e' : Int} {l : List Int} (h : SortN lt n a b c e a' b' c' e' l) : sortF lt n a b c e = (vals n a' b' c' e', l) := by
  rcases h with ⟨rfl, h⟩ | ⟨rfl, h, _⟩
  · simp [sortF, vals, sort4F_of h]
  · simp [sortF, vals, sort3F_of h]
section
variable (lt lt' : Int → Int → Bool) (φ : Int → Int) (hl : ∀ x y, lt (φ x) (φ y) = lt' x y)
include hl
theorem twoF_map (x y : Int) : twoF lt (φ x) (φ y) = ((φ (twoF lt' x y).1), (φ (twoF lt' x y).2.1), (twoF lt' x y).2.2) := by
  unfold twoF; rw [hl]; cases lt' y x <;> rfl
theorem midF_map (x m y : Int) : midF lt (φ x) (φ m) (φ y) = ((φ (midF lt' x m y).1), (φ (midF lt' x m y).2.1), (φ (midF lt' x m y).2.2.1), (midF lt' x m y).2.2.2) := by
  unfold midF; rw [hl, hl]; cases lt' m x <;> cases lt' y m <;> rfl
theorem sort3F_map (a b c : Int) : sort3F lt (φ a) (φ b) (φ c) = ((sort3F lt' a b c).1.map φ, (sort3F lt' a b c).2) := by
  simp only [sort3F, twoF_map lt lt' φ hl, midF_map lt lt' φ hl, List.map_cons, List.map_nil]
theorem sort4F_map (a b c e : Int) : sort4F lt (φ a) (φ b) (φ c) (φ e) = ((sort4F lt' a b c e).1.map φ, (sort4F lt' a b c e).2) := by
  simp only [sort4F, twoF_map lt lt' φ hl, midF_map lt lt' φ hl, hl]
  split <;> rfl
end
/-- the numbers by their ranks -/
noncomputable def rank (n0 n1 n2 n3 : Int) (i : Int) : Int := if i ≤ 0 then n0 + i else if i = 1 then n1 else if i = 2 then n2 else n3 + (i - 3)
section
variable {n0 n1 n2 n3 : Int}
theorem rank_a {x : Int} (h : x ≤ 0) : rank n0 n1 n2 n3 x = n0 + x := if_pos h
theorem rank_b {x : Int} (h : ¬ x ≤ 2) : rank n0 n1 n2 n3 x = n3 + (x - 3) := by
  unfold rank; rw [if_neg (by omega), if_neg (by omega), if_neg (by omega)]
theorem rank_step (h1 : n0 < n1) (h2 : n1 < n2) (h3 : n2 < n3) (x : Int) : rank n0 n1 n2 n3 x < rank n0 n1 n2 n3 (x + 1) := by
  by_cases a : x + 1 ≤ 0
  · rw [rank_a a, rank_a (by omega)]; exact Int.add_lt_add_left (Int.lt_succ x) n0
  by_cases b : x ≤ 2
  · have c : x = 0 ∨ x = 1 ∨ x = 2 := by omega
    rcases c with rfl | rfl | rfl
    · show n0 + 0 < n1; rw [Int.add_zero]; exact h1
    · exact h2
    · show n2 < n3 + 0; rw [Int.add_zero]; exact h3
  · rw [rank_b b, rank_b (by omega)]; exact Int.add_lt_add_left (Int.sub_lt_sub_right (Int.lt_succ x) 3) n3
theorem rank_up (h1 : n0 < n1) (h2 : n1 < n2) (h3 : n2 < n3) (x : Int) : ∀ k : Nat, rank n0 n1 n2 n3 x < rank n0 n1 n2 n3 (x + (k + 1 : Nat))
  | 0 => rank_step h1 h2 h3 x
  | k + 1 => Int.lt_trans (rank_up h1 h2 h3 x k) (by have := rank_step h1 h2 h3 (x + (k + 1 : Nat)); rw [Int.add_assoc] at this; exact this)
theorem rank_mono (h1 : n0 < n1) (h2 : n1 < n2) (h3 : n2 < n3) {x y : Int} (h : x < y) : rank n0 n1 n2 n3 x < rank n0 n1 n2 n3 y := by
  have := rank_up h1 h2 h3 x (y - x - 1).toNat
  rwa [show x + (((y - x - 1).toNat + 1 : Nat) : Int) = y by omega] at this
theorem rank_lt (h1 : n0 < n1) (h2 : n1 < n2) (h3 : n2 < n3) (dn : Bool) (x y : Int) : ltOf dn (rank n0 n1 n2 n3 x) (rank n0 n1 n2 n3 y) = ltOf dn x y := by
  have key : ∀ x y : Int, rank n0 n1 n2 n3 x < rank n0 n1 n2 n3 y ↔ x < y := fun x y => ⟨fun h => by
    rcases Int.lt_trichotomy x y with g | rfl | g
    · exact g
    · exact absurd h (Int.lt_irrefl _)
    · exact absurd h (Int.lt_asymm (rank_mono h1 h2 h3 g)), rank_mono h1 h2 h3⟩
  cases dn <;> simp only [ltOf, Bool.false_eq_true, if_false, if_true, key]
end
/-- the arrangements, in the order in which they are put -/
noncomputable def arrF : Nat → List (List Int)
  | 0 => [[]]
  | k + 1 => (arrF k).flatMap fun row => (List.range (k + 1)).map fun i => row.take i ++ [(k : Int)] ++ row.drop i
noncomputable def at4 (row : List Int) (i : Nat) : Int := row.getD i 0
/-- what an arrangement is answered -/
noncomputable def ansF (dn : Bool) (n : Nat) (row : List Int) : List Int := (sortF (ltOf dn) n (at4 row 0) (at4 row 1) (at4 row 2) (at4 row 3)).2
noncomputable def numsF (dn : Bool) (n : Nat) (n0 n1 n2 n3 : Int) : List Int := if n = 4 then (if dn then [n3, n2, n1, n0] else [n0, n1, n2, n3]) else (if dn then [n2, n1, n0] else [n0, n1, n2])
theorem arr4_sorted : ∀ dn : Bool, ∀ row ∈ arrF 4, (sortF (ltOf dn) 4 (at4 row 0) (at4 row 1) (at4 row 2) (at4 row 3)).1 = numsF dn 4 0 1 2 3 := by decide
theorem arr3_sorted : ∀ dn : Bool, ∀ row ∈ arrF 3, (sortF (ltOf dn) 3 (at4 row 0) (at4 row 1) (at4 row 2) (at4 row 2)).1 = numsF dn 3 0 1 2 3 := by decide
theorem asked_row4 {dn : Bool} {n0 n1 n2 n3 : Int} (h1 : n0 < n1) (h2 : n1 < n2) (h3 : n2 < n3) {row : List Int} (hr : row ∈ arrF 4) {a' b' x' e' : Int} {l : List Int}
    (h : SortN (ltOf dn) 4 (rank n0 n1 n2 n3 (at4 row 0)) (rank n0 n1 n2 n3 (at4 row 1)) (rank n0 n1 n2 n3 (at4 row 2)) (rank n0 n1 n2 n3 (at4 row 3)) a' b' x' e' l) : vals 4 a' b' x' e' = numsF dn 4 n0 n1 n2 n3 ∧ l = ansF dn 4 row := by
  have e := sortF_of h
  have s := arr4_sorted dn row hr
  simp only [sortF, if_true] at e s
  rw [sort4F_map _ _ _ (rank_lt h1 h2 h3 dn), s] at e
  obtain ⟨e1, e2⟩ := Prod.mk.inj e
  refine ⟨?_, e2.symm⟩
  rw [← e1]
  cases dn <;> simp [numsF, rank]
theorem asked_row3 {dn : Bool} {n0 n1 n2 n3 : Int} (h1 : n0 < n1) (h2 : n1 < n2) (h3 : n2 < n3) {row : List Int} (hr : row ∈ arrF 3) {a' b' x' e' : Int} {l : List Int}
    (h : SortN (ltOf dn) 3 (rank n0 n1 n2 n3 (at4 row 0)) (rank n0 n1 n2 n3 (at4 row 1)) (rank n0 n1 n2 n3 (at4 row 2)) (rank n0 n1 n2 n3 (at4 row 2)) a' b' x' e' l) : vals 3 a' b' x' e' = numsF dn 3 n0 n1 n2 n3 ∧ l = ansF dn 3 row := by
  have e := sortF_of h
  have s := arr3_sorted dn row hr
  simp only [sortF, if_neg (by decide : ¬ 3 = 4)] at e s
  rw [sort3F_map _ _ _ (rank_lt h1 h2 h3 dn), s] at e
  obtain ⟨e1, e2⟩ := Prod.mk.inj e
  refine ⟨?_, e2.symm⟩
  rw [← e1]
  cases dn <;> simp [numsF, rank]
end
end
section
local macro_rules | `(tactic| k_all) => `(tactic| first | with_reducible assumption | exact tail_ne (by with_reducible assumption) (by omega))
section
set_option maxRecDepth 100000
set_option maxHeartbeats 2000000
theorem tail_ne {lo b : Addr} {rest : List (Addr × Obj)} (h : ∀ p ∈ rest, @LT.lt Nat _ p.1 lo) (hb : @LE.le Nat _ lo b) : ∀ p ∈ rest, p.1 ≠ b :=
  fun p hp e => absurd (h p hp) (by rw [e]; exact Nat.not_lt.mpr hb)
noncomputable def lawDef : Stmt := PG.main.body.getD 8 default
noncomputable def lawBody : List Stmt := bdy lawDef
noncomputable def forBody : Stmt → List Stmt | .For _ _ b _ _ => b | _ => []
noncomputable def rowBody : List Stmt := forBody (lawBody.getD 6 default)
noncomputable abbrev lawCl (L : Addr) := cellsFrom (L + 1) (scp lawDef).names []
noncomputable abbrev envL (L a : Addr) (ccd : Value) : Env := envX (Str.ofString "law") (scp lawDef) L a ccd (lawCl L)
noncomputable def InR (n : Int) (l : List Int) : Prop := ∀ k ∈ l, 0 ≤ k ∧ k < n
theorem InR.at {n k : Int} {l : List Int} (h : InR n l) (hk : k ∈ l) : 0 ≤ k ∧ k < n := h k hk
theorem num_item4 {w : World} {A : Around} {E : Value → Shared → Prop} {s : Shared} {h₀ : Heap} {L nl : Addr} {news : List (Addr × Obj)} {n0 n1 n2 n3 : Int} {t0 t1 t2 t3 : Tok} {c : Nat} {value slice : Expr} {k : Int} {t : Tok} {Q : Value → Shared → Prop}
    (N : News h₀ L s.heap news) (hm : (nl, W.listOf #[.int n0 t0, .int n1 t1, .int n2 t2, .int n3 t3] c) ∈ news) (h0 : 0 ≤ k ∧ k < 4) (h : ∀ t', Q (.int (rank n0 n1 n2 n3 k) t') s)
    (hs : subscripted slice false (.ref nl) (.int k t) = operate [.ref nl, .int k t] (getItem (.ref nl) (.int k t)) := by with_unfolding_all rfl) :
    wpAny (model PG w) A (subscriptTail value slice (.ref nl) (.int k t)) Q E s := by
  have hl := PySem.IsL.isList (n := c) (N _ hm).1
  have : ∃ t', (#[Value.int n0 t0, .int n1 t1, .int n2 t2, .int n3 t3] : Array Value)[k.toNat]? = some (.int (rank n0 n1 n2 n3 k) t') := by
    have : k = 0 ∨ k = 1 ∨ k = 2 ∨ k = 3 := by omega
    rcases this with rfl | rfl | rfl | rfl
    · exact ⟨t0, by simp [rank]⟩
    · exact ⟨t1, by simp [rank]⟩
    · exact ⟨t2, by simp [rank]⟩
    · exact ⟨t3, by simp [rank]⟩
  obtain ⟨t', e⟩ := this
  exact tail_any hl.typeIs slot_list_getitem.lookup (wpAny_getItem_list hl h0.1 (by omega) e (h t')) hs
theorem ints4 {ys : List Value} {a b c e : Int} (h : IntsAre ys [a, b, c, e]) : ∃ t0 t1 t2 t3, ys = [.int a t0, .int b t1, .int c t2, .int e t3] := by
  cases h with | cons _ t0 h => cases h with | cons _ t1 h => cases h with | cons _ t2 h => cases h with | cons _ t3 h => cases h with | nil => exact ⟨t0, t1, t2, t3, rfl⟩
local macro_rules | `(tactic| walk_at "subscriptTail") => `(tactic| (k_here; (with_reducible show wpAny _ _ (subscriptTail _ _ (Value.ref _) (Value.int _ _)) _ _ _); k_dflt (refine' num_item4 (by k_asm) (by k_mem) (by exact InR.at (by assumption) (by assumption)) ?_ (by with_unfolding_all rfl); k_whole); intro t9; (try dsimp only)))
local macro_rules | `(tactic| lcg_off) => `(tactic| with_reducible assumption)
theorem rank_ne {n0 n1 n2 n3 : Int} (h1 : n0 < n1) (h2 : n1 < n2) (h3 : n2 < n3) {x y : Int} (h : x ≠ y) : rank n0 n1 n2 n3 x ≠ rank n0 n1 n2 n3 y := fun e => by
  have a := rank_lt h1 h2 h3 false x y
  have b := rank_lt h1 h2 h3 false y x
  simp only [ltOf, Bool.false_eq_true, if_false, e, Int.lt_irrefl, decide_false] at a b
  have a' := of_decide_eq_false a.symm
  have b' := of_decide_eq_false b.symm
  omega
theorem news_th4 {h₀ h : Heap} {L th : Addr} {led : List (Addr × Obj)} {v0 v1 v2 v3 : Int} {t0 t1 t2 t3 : Tok} {tb : Array Value} (N : News h₀ L h led) (m1 : (th, LCg.lst [.int v0 t0, .int v1 t1, .int v2 t2, .int v3 t3]) ∈ led) (m2 : (111, tabObj tb) ∈ led) :
    News h₀ L h [(th, W.listOf #[.int v0 t0, .int v1 t1, .int v2 t2, .int v3 t3] 4), (111, tabObj tb)] := fun p hp => by
  rcases List.mem_cons.mp hp with rfl | hp
  · exact N _ m1
  · rw [List.mem_singleton.mp hp]; exact N _ m2
theorem news_keep {h₀ h h' : Heap} {L th : Addr} {led led' : List (Addr × Obj)} (N : News h₀ L h led) (K : ∀ b o, h.get? b = some o → b ≠ th → b ≠ 111 → h'.get? b = some o) (N' : News h₀ L h' led') : ∀ {sub : List (Addr × Obj)}, (∀ p ∈ sub, p ∈ led ∧ p.1 ≠ th ∧ p.1 ≠ 111) → News h₀ L h' (led' ++ sub) :=
  fun {sub} hs p hp => (List.mem_append.mp hp).elim (fun h => N' p h) fun h => let ⟨a, b, c⟩ := hs p h; ⟨K _ _ (N p a).1 b c, (N p a).2⟩
theorem off1_ne {D : Addr} : ∀ {rest : List (Addr × Obj)}, LCg.Off1 D rest → ∀ p ∈ rest, p.1 ≠ D
  | [], _, _, h => nomatch h
  | _ :: _, x, p, h => by
    rcases List.mem_cons.mp h with rfl | h
    · exact x.1
    · exact off1_ne x.2 p h
theorem codes_nz {rest : List (Addr × Obj)} {tb : Array Value} {z1 z2 z3 z4 z5 D : Addr} (K : CodesL rest tb z1 z2 z3 z4 z5) (h : ∀ p ∈ rest, p.1 ≠ D) : ∀ b ∈ [z1, z2, z3, z4, z5], b ≠ D := by
  obtain ⟨_, _, _, _, _, _, ⟨o1, _, _, m1, _⟩, ⟨o2, _, _, m2, _⟩, ⟨o3, _, _, m3, _⟩, ⟨o4, _, _, m4, _⟩, ⟨o5, _, _, m5, _⟩, _⟩ := K
  intro b hb
  simp only [List.mem_cons, List.not_mem_nil, or_false] at hb
  rcases hb with rfl | rfl | rfl | rfl | rfl
  · exact h _ m1
  · exact h _ m2
  · exact h _ m3
  · exact h _ m4
  · exact h _ m5
theorem news_app {h₀ h h' : Heap} {L ro : Addr} {pre post : List (Addr × Obj)} {o o' : Obj} (N : News h₀ L h (pre ++ (ro, o) :: post)) (hs : Heap.SameBut ro h h') (ho : h'.get? ro = some o') (hn : ∀ p ∈ pre ++ post, p.1 ≠ ro) : News h₀ L h' (pre ++ (ro, o') :: post) := fun p hp => by
  rcases List.mem_append.mp hp with hp | hp
  · have n := N p (List.mem_append_left _ hp)
    exact ⟨hs.extBut _ _ (hn p (List.mem_append_left _ hp)) n.1, n.2⟩
  · rcases List.mem_cons.mp hp with rfl | hp
    · exact ⟨ho, (N (ro, o) (List.mem_append_right _ (.head _))).2⟩
    · have n := N p (List.mem_append_right _ (.tail _ hp))
      exact ⟨hs.extBut _ _ (hn p (List.mem_append_right _ hp)) n.1, n.2⟩
theorem row_tail4 {w : World} {p : Program} {loose : List Str} {mean : ExcName → Option Value} {mg mb : Str → Option Value}
    {dp un : Nat} {gd : Option (List Code)} {a : Addr} {ccd : Value} {outer : List Env} {A₀ : Around} {base h₀ : Heap} {L : Addr} {m₁ : Str → Option Value} {s : Shared} {Q : Flow → Shared → Prop} {E : Value → Shared → Prop}
    {rw ro nl T_ S_ an : Addr} {n0 n1 n2 n3 fi : Int} {ta tb1 tc td tf : Tok} {dn : Bool} {rws ys ws : List Value} {c rc nc : Nat} {o1 o2 : Obj} {tb : Array Value} {rest : List (Addr × Obj)}
    (B : Below A₀ base outer h₀) (X : (Mine.hd.heap_1 w.params).In h₀) (T : Top p loose mean mg mb h₀) (C : CodeHd base 113 111)
    (F : Fr h₀ L s.heap (fun y => if y = Str.ofString "answers" then some (.ref an) else if y = Str.ofString "stood" then some (.ref S_) else if y = Str.ofString "row" then some (.ref rw) else if y = Str.ofString "first" then some (.int fi tf) else if y = Str.ofString "is_down" then some (.bool dn) else if y = Str.ofString "rows" then some (.ref ro) else m₁ y))
    (N : News h₀ L s.heap ((T_, tupO S_ an) :: (S_, LCg.lst ys) :: (an, W.listOf ws.toArray c) :: (111, tabObj tb) :: (ro, W.listOf rws.toArray rc) :: (nl, W.listOf #[.int n0 ta, .int n1 tb1, .int n2 tc, .int n3 td] nc) :: (L + 1 + 1, o2) :: (L + 1, o1) :: rest))
    (hys : IntsAre ys (numsF dn 4 n0 n1 n2 n3)) (hrl : rws.length ≤ 64) (hrro : ∀ p ∈ rest, p.1 ≠ ro) (hro : @LT.lt Nat _ 111 L ∧ @LT.lt Nat _ (L + 1 + 1) nl ∧ @LT.lt Nat _ nl ro) (aro : @LT.lt Nat _ ro an)
    (c1 : o1.data = .cell (some (.ref nl))) (hd : dp + 20 < recursionLimit) (hu : un + 200 < cLine)
    (hret : ∀ h' tk' rc', Fr h₀ L h' (fun y => if y = Str.ofString "answers" then some (.ref an) else if y = Str.ofString "stood" then some (.ref S_) else if y = Str.ofString "row" then some (.ref rw) else if y = Str.ofString "first" then some (.int fi tf) else if y = Str.ofString "is_down" then some (.bool dn) else if y = Str.ofString "rows" then some (.ref ro) else m₁ y) →
      News h₀ L h' ((an, W.listOf ws.toArray c) :: (ro, W.listOf (rws.toArray.push (.ref an)) rc') :: (nl, W.listOf #[.int n0 ta, .int n1 tb1, .int n2 tc, .int n3 td] nc) :: (L + 1 + 1, o2) :: (L + 1, o1) :: (111, tabObj tb) :: rest) → Q .next { s with heap := h', toks := tk' }) :
    wpAny (model PG w) (ktrTop dp un gd (Str.ofString "law") (scp lawDef) L a ccd (lawCl L) outer) (execs (rowBody.drop 1) (envL L a ccd)) Q E s := by
  have hb : rowBody.drop 1 = [_, _] := rfl
  rw [hb]
  (try k_unmd); (try k_fold)
  cases dn
  · simp only [numsF, if_true, Bool.false_eq_true, if_false] at hys
    obtain ⟨w0, w1, w2, w3, e8⟩ := ints4 hys
    subst e8
    (try dsimp only)
    repeat ((fail_if_success (with_reducible show wpAny _ _ (call (Value.builtin "list.append") _ _) _ _ _)); (first | (k_unfold; (try dsimp only)) | (k_end; wrow_close) | walk1 | (dsimp only; walk1) | (leave1; walk_say "STEP leave1"; try dsimp only) | fail "no step"))
    rename News _ _ _ _ => kN
    replace kN := News.sub (led := (an, W.listOf ws.toArray c) :: (ro, W.listOf rws.toArray rc) :: (nl, W.listOf #[.int n0 ta, .int n1 tb1, .int n2 tc, .int n3 td] nc) :: (L + 1 + 1, o2) :: (L + 1, o1) :: (111, tabObj tb) :: rest) kN (by intro p hp; simp only [List.mem_cons] at hp; rcases hp with h | h | h | h | h | h | h <;> (first | (subst h; k_mem) | ((repeat (first | exact h | refine List.Mem.tail _ ?_ | exact List.mem_append_right _ h | exact List.mem_append_left _ h)); done) | simp [h]))
    rename Fr _ _ _ _ => kF
    have nr := kN _ (.tail _ (.head _))
    refine append_at (hsz := by rw [List.size_toArray]; exact Nat.le_trans hrl (by rw [sizeLine_eq]; decide)) nr.1 fun h8 hs ho => ?_
    have F8 := kF.change hs nr.2.1 nr.2.2
    have N7 := news_app kN (pre := [(an, W.listOf ws.toArray c)]) hs ho (by intro p hp; simp only [List.mem_cons, List.mem_append, List.not_mem_nil, or_false] at hp; rcases hp with rfl | rfl | rfl | rfl | rfl | hp <;> first | exact hrro _ hp | (show @Ne Nat _ _; omega))
    clear nr kN kF hs ho
    (try dsimp only)
    repeat (first | (k_unfold; (try dsimp only)) | (k_end; wrow_close) | walk1 | (dsimp only; walk1) | (leave1; walk_say "STEP leave1"; try dsimp only) | fail "no step")
    refine hret _ _ (rc + 1) F8 (News.sub N7 ?_)
    intro p hp
    simpa only [List.mem_cons, List.mem_append, List.not_mem_nil, or_false] using hp
  · simp only [numsF, if_true, Bool.false_eq_true, if_false] at hys
    obtain ⟨w0, w1, w2, w3, e8⟩ := ints4 hys
    subst e8
    (try dsimp only)
    repeat ((fail_if_success (with_reducible show wpAny _ _ (call (Value.builtin "list.append") _ _) _ _ _)); (first | (k_unfold; (try dsimp only)) | (k_end; wrow_close) | walk1 | (dsimp only; walk1) | (leave1; walk_say "STEP leave1"; try dsimp only) | fail "no step"))
    rename News _ _ _ _ => kN
    replace kN := News.sub (led := (an, W.listOf ws.toArray c) :: (ro, W.listOf rws.toArray rc) :: (nl, W.listOf #[.int n0 ta, .int n1 tb1, .int n2 tc, .int n3 td] nc) :: (L + 1 + 1, o2) :: (L + 1, o1) :: (111, tabObj tb) :: rest) kN (by intro p hp; simp only [List.mem_cons] at hp; rcases hp with h | h | h | h | h | h | h <;> (first | (subst h; k_mem) | ((repeat (first | exact h | refine List.Mem.tail _ ?_ | exact List.mem_append_right _ h | exact List.mem_append_left _ h)); done) | simp [h]))
    rename Fr _ _ _ _ => kF
    have nr := kN _ (.tail _ (.head _))
    refine append_at (hsz := by rw [List.size_toArray]; exact Nat.le_trans hrl (by rw [sizeLine_eq]; decide)) nr.1 fun h8 hs ho => ?_
    have F8 := kF.change hs nr.2.1 nr.2.2
    have N7 := news_app kN (pre := [(an, W.listOf ws.toArray c)]) hs ho (by intro p hp; simp only [List.mem_cons, List.mem_append, List.not_mem_nil, or_false] at hp; rcases hp with rfl | rfl | rfl | rfl | rfl | hp <;> first | exact hrro _ hp | (show @Ne Nat _ _; omega))
    clear nr kN kF hs ho
    (try dsimp only)
    repeat (first | (k_unfold; (try dsimp only)) | (k_end; wrow_close) | walk1 | (dsimp only; walk1) | (leave1; walk_say "STEP leave1"; try dsimp only) | fail "no step")
    refine hret _ _ (rc + 1) F8 (News.sub N7 ?_)
    intro p hp
    simpa only [List.mem_cons, List.mem_append, List.not_mem_nil, or_false] using hp
section
set_option maxRecDepth 100000
set_option maxHeartbeats 2000000
theorem num_item3 {w : World} {A : Around} {E : Value → Shared → Prop} {s : Shared} {h₀ : Heap} {L nl : Addr} {news : List (Addr × Obj)} {n0 n1 n2 n3 : Int} {t0 t1 t2 : Tok} {c : Nat} {value slice : Expr} {k : Int} {t : Tok} {Q : Value → Shared → Prop}
    (N : News h₀ L s.heap news) (hm : (nl, W.listOf #[.int n0 t0, .int n1 t1, .int n2 t2] c) ∈ news) (h0 : 0 ≤ k ∧ k < 3) (_h3 : n2 < n3) (h : ∀ t', Q (.int (rank n0 n1 n2 n3 k) t') s)
    (hs : subscripted slice false (.ref nl) (.int k t) = operate [.ref nl, .int k t] (getItem (.ref nl) (.int k t)) := by with_unfolding_all rfl) :
    wpAny (model PG w) A (subscriptTail value slice (.ref nl) (.int k t)) Q E s := by
  have hl := PySem.IsL.isList (n := c) (N _ hm).1
  have : ∃ t', (#[Value.int n0 t0, .int n1 t1, .int n2 t2] : Array Value)[k.toNat]? = some (.int (rank n0 n1 n2 n3 k) t') := by
    have : k = 0 ∨ k = 1 ∨ k = 2 := by omega
    rcases this with rfl | rfl | rfl
    · exact ⟨t0, by simp [rank]⟩
    · exact ⟨t1, by simp [rank]⟩
    · exact ⟨t2, by simp [rank]⟩
  obtain ⟨t', e⟩ := this
  exact tail_any hl.typeIs slot_list_getitem.lookup (wpAny_getItem_list hl h0.1 (by omega) e (h t')) hs
theorem ints3 {ys : List Value} {a b c : Int} (h : IntsAre ys [a, b, c]) : ∃ t0 t1 t2, ys = [.int a t0, .int b t1, .int c t2] := by
  cases h with | cons _ t0 h => cases h with | cons _ t1 h => cases h with | cons _ t2 h => cases h with | nil => exact ⟨t0, t1, t2, rfl⟩
theorem news_th3 {h₀ h : Heap} {L th : Addr} {led : List (Addr × Obj)} {v0 v1 v2 : Int} {t0 t1 t2 : Tok} {tb : Array Value} (N : News h₀ L h led) (m1 : (th, LCg.lst [.int v0 t0, .int v1 t1, .int v2 t2]) ∈ led) (m2 : (111, tabObj tb) ∈ led) :
    News h₀ L h [(th, W.listOf #[.int v0 t0, .int v1 t1, .int v2 t2] 3), (111, tabObj tb)] := fun p hp => by
  rcases List.mem_cons.mp hp with rfl | hp
  · exact N _ m1
  · rw [List.mem_singleton.mp hp]; exact N _ m2
theorem CodesL.mono {led led' : List (Addr × Obj)} {tb : Array Value} {z1 z2 z3 z4 z5 : Addr} (K : CodesL led tb z1 z2 z3 z4 z5) (h : ∀ p ∈ led, p ∈ led') : CodesL led' tb z1 z2 z3 z4 z5 := by
  obtain ⟨a0, a1, a2, a3, a4, a5, ⟨o1, v1, t1, m1, e1⟩, ⟨o2, v2, t2, m2, e2⟩, ⟨o3, v3, t3, m3, e3⟩, ⟨o4, v4, t4, m4, e4⟩, ⟨o5, v5, t5, m5, e5⟩, ne⟩ := K
  exact ⟨a0, a1, a2, a3, a4, a5, ⟨o1, v1, t1, h _ m1, e1⟩, ⟨o2, v2, t2, h _ m2, e2⟩, ⟨o3, v3, t3, h _ m3, e3⟩, ⟨o4, v4, t4, h _ m4, e4⟩, ⟨o5, v5, t5, h _ m5, e5⟩, ne⟩
theorem m1U {w : World} {p : Program} {loose : List Str} {mean : ExcName → Option Value} {mg mb : Str → Option Value}
    {dp un : Nat} {gd : Option (List Code)} {a : Addr} {ccd : Value} {outer : List Env} {A₀ : Around} {base h₀ : Heap} {L : Addr} {m₁ : Str → Option Value} {s : Shared} {Q : Flow → Shared → Prop} {E : Value → Shared → Prop}
    {rw ro nl : Addr} {r0 r1 r2 r3 n0 n1 n2 n3 fi : Int} {u0 u1 u2 u3 ta tb1 tc td tf : Tok} {dn : Bool} {rws : List Value} {rc nc rwc : Nat} {o1 o2 : Obj} {tb : Array Value} {rest : List (Addr × Obj)}
    (B : Below A₀ base outer h₀) (X : (Mine.hd.heap_1 w.params).In h₀) (T : Top p loose mean mg mb h₀) (C : CodeHd base 113 111)
    (F : Fr h₀ L s.heap (fun y => if y = Str.ofString "row" then some (.ref rw) else if y = Str.ofString "first" then some (.int fi tf) else if y = Str.ofString "is_down" then some (.bool dn) else if y = Str.ofString "rows" then some (.ref ro) else m₁ y))
    (N : News h₀ L s.heap ((rw, W.listOf #[.int r0 u0, .int r1 u1, .int r2 u2, .int r3 u3] rwc) :: (ro, W.listOf rws.toArray rc) :: (nl, W.listOf #[.int n0 ta, .int n1 tb1, .int n2 tc, .int n3 td] nc) :: (L + 1 + 1, o2) :: (L + 1, o1) :: (111, tabObj tb) :: rest))
    (hrl : rws.length ≤ 64) (HK : tb = #[] ∨ tb ≠ #[] ∧ ∃ z1 z2 z3 z4 z5, CodesL rest tb z1 z2 z3 z4 z5) (hrro : ∀ p ∈ rest, p.1 ≠ ro) (hr111 : ∀ p ∈ rest, p.1 ≠ 111) (hro : @LT.lt Nat _ 111 L ∧ @LT.lt Nat _ (L + 1 + 1) nl ∧ @LT.lt Nat _ nl ro) (hrow : [r0, r1, r2, r3] ∈ arrF 4) (hr : InR 4 [r0, r1, r2, r3]) (hn1 : n0 < n1) (hn2 : n1 < n2) (hn3 : n2 < n3) (hne : r2 ≠ r0 ∧ r2 ≠ r1 ∧ r2 ≠ r3)
    (c1 : o1.data = .cell (some (.ref nl)))
    (hd : dp + 20 < recursionLimit) (hu : un + 200 < cLine)
    (hret : ∀ S_ an ws c h' tk' rc' cl tb', ((∃ z1 z2 z3 z4 z5, CodesL cl tb' z1 z2 z3 z4 z5) ∨ tb' = tb ∧ tb ≠ #[]) → (∀ p ∈ cl, @LT.lt Nat _ ro p.1 ∧ @LT.lt Nat _ 111 p.1 ∧ ∀ q ∈ rest, @LT.lt Nat _ q.1 p.1) → IntsAre ws (ansF dn 4 [r0, r1, r2, r3]) → @LT.lt Nat _ ro an → (∀ q ∈ rest, @LT.lt Nat _ q.1 an) →
      Fr h₀ L h' (fun y => if y = Str.ofString "answers" then some (.ref an) else if y = Str.ofString "stood" then some (.ref S_) else if y = Str.ofString "row" then some (.ref rw) else if y = Str.ofString "first" then some (.int fi tf) else if y = Str.ofString "is_down" then some (.bool dn) else if y = Str.ofString "rows" then some (.ref ro) else m₁ y) →
      News h₀ L h' ((an, W.listOf ws.toArray c) :: (ro, W.listOf (rws.toArray.push (.ref an)) rc') :: (nl, W.listOf #[.int n0 ta, .int n1 tb1, .int n2 tc, .int n3 td] nc) :: (L + 1 + 1, o2) :: (L + 1, o1) :: (111, tabObj tb') :: (cl ++ rest)) → Q .next { s with heap := h', toks := tk' }) :
    wpAny (model PG w) (ktrTop dp un gd (Str.ofString "law") (scp lawDef) L a ccd (lawCl L) outer) (execs rowBody (envL L a ccd)) Q E s := by
  have hb : rowBody = [_, _, _] := rfl
  rw [hb]
  (try k_unmd); (try k_fold)
  repeat ((fail_if_success (with_reducible show wpAny _ _ (call (Value.ref 114) _ _) _ _ _)); (first | (k_unfold; (try dsimp only)) | (k_end; wrow_close) | walk1 | (dsimp only; walk1) | (leave1; walk_say "STEP leave1"; try dsimp only) | fail "no step"))
  rename IntsAre _ (List.map _ _) => kI
  obtain ⟨t0, t1, t2, t3, e9⟩ := ints4 kI
  subst e9
  rename (_ ≠ _) ∧ _ => kO
  obtain ⟨-, q2, q3, q4, q5, q6, kO⟩ := kO
  refine' asked4U ?B ?F ?X ?T ?hk ?C (news_th4 ?N ?m1 ?m2) ?hne ?h1 ?hd ?hu ?HK ?_
  (case N => k_asm)
  (case m1 => k_mem)
  (case m2 => k_mem)
  (case B => k_asm)
  (case F => k_asm)
  (case X => k_asm)
  (case T => k_asm)
  (case hk => rfl)
  (case C => assumption)
  (case hne => exact ⟨rank_ne hn1 hn2 hn3 hne.1, rank_ne hn1 hn2 hn3 hne.2.1, rank_ne hn1 hn2 hn3 hne.2.2⟩)
  (case h1 => exact q6)
  (case hd => ktr_room)
  (case hu => ktr_units)
  (case HK => exact HK.imp id fun ⟨hz, z1, z2, z3, z4, z5, K⟩ => ⟨hz, z1, z2, z3, z4, z5, CodesL.at K (by k_asm) (fun p hp => by (first | (subst hp; k_mem) | ((repeat (first | exact hp | refine List.Mem.tail _ ?_ | exact List.mem_append_right _ hp | exact List.mem_append_left _ hp)); done) | simp [hp])), codes_nz K (off1_ne kO)⟩)
  intro T_ S_ an ys ws c h9 tk9 a' b' x' e' l tb2 cl hS hys hws K
  rename News _ _ _ _ => kN0
  intro NC lc F9 KP AF
  have aro := AF ro _ (kN0 (ro, W.listOf rws.toArray rc) (by k_mem)).1
  have arest : ∀ q ∈ rest, @LT.lt Nat _ q.1 an := fun q hq => AF q.1 _ (kN0 q (by (first | (subst hq; k_mem) | ((repeat (first | exact hq | refine List.Mem.tail _ ?_ | exact List.mem_append_right _ hq | exact List.mem_append_left _ hq)); done) | simp [hq]))).1
  have lro : ∀ p ∈ cl, @LT.lt Nat _ ro p.1 := fun p hp => lc p hp ro _ (kN0 (ro, W.listOf rws.toArray rc) (by k_mem)).1
  have lrs : ∀ p ∈ cl, ∀ q ∈ rest, @LT.lt Nat _ q.1 p.1 := fun p hp q hq => lc p hp q.1 _ (kN0 q (by (first | (subst hq; k_mem) | ((repeat (first | exact hq | refine List.Mem.tail _ ?_ | exact List.mem_append_right _ hq | exact List.mem_append_left _ hq)); done) | simp [hq]))).1
  have l111 : ∀ p ∈ cl, @LT.lt Nat _ 111 p.1 := fun p hp => lc p hp 111 _ (kN0 (111, tabObj tb) (by k_mem)).1
  intro N9
  obtain ⟨eV, eL⟩ := asked_row4 hn1 hn2 hn3 hrow hS
  rw [eV] at hys
  subst eL
  have N8a : News h₀ L h9 ((T_, tupO S_ an) :: (S_, LCg.lst ys) :: (an, W.listOf ws.toArray c) :: (111, tabObj tb2) :: (ro, W.listOf rws.toArray rc) :: (nl, W.listOf #[.int n0 ta, .int n1 tb1, .int n2 tc, .int n3 td] nc) :: (L + 1 + 1, o2) :: (L + 1, o1) :: rest) := by
    refine news_keep (by k_asm) KP N9 (sub := (ro, W.listOf rws.toArray rc) :: (nl, W.listOf #[.int n0 ta, .int n1 tb1, .int n2 tc, .int n3 td] nc) :: (L + 1 + 1, o2) :: (L + 1, o1) :: rest) fun p hp => ?_
    simp only [List.mem_cons] at hp
    rcases hp with rfl | rfl | rfl | rfl | hp
    · exact ⟨by k_mem, q2, by k_ne⟩
    · exact ⟨by k_mem, q3, by k_ne⟩
    · exact ⟨by k_mem, q4, by k_ne⟩
    · exact ⟨by k_mem, q5, by k_ne⟩
    · exact ⟨by (first | (subst hp; k_mem) | ((repeat (first | exact hp | refine List.Mem.tail _ ?_ | exact List.mem_append_right _ hp | exact List.mem_append_left _ hp)); done) | simp [hp]), off1_ne kO p hp, hr111 p hp⟩
  obtain ⟨rest', er⟩ : ∃ r, r = cl ++ rest := ⟨_, rfl⟩
  have hrro' : ∀ p ∈ rest', p.1 ≠ ro := fun p hp => by
    rw [er] at hp
    rcases List.mem_append.mp hp with h | h
    · exact fun e => absurd (lro p h) (by rw [e]; exact Nat.lt_irrefl _)
    · exact hrro p h
  have hr111' : ∀ p ∈ rest', p.1 ≠ 111 := fun p hp => by
    rw [er] at hp
    rcases List.mem_append.mp hp with h | h
    · exact fun e => absurd (l111 p h) (by rw [e]; exact Nat.lt_irrefl _)
    · exact hr111 p h
  have N8 : News h₀ L h9 ((T_, tupO S_ an) :: (S_, LCg.lst ys) :: (an, W.listOf ws.toArray c) :: (111, tabObj tb2) :: (ro, W.listOf rws.toArray rc) :: (nl, W.listOf #[.int n0 ta, .int n1 tb1, .int n2 tc, .int n3 td] nc) :: (L + 1 + 1, o2) :: (L + 1, o1) :: rest') := fun p hp => by
    rw [er] at hp
    simp only [List.mem_cons, List.mem_append] at hp
    rcases hp with h | h | h | h | h | h | h | h | h | h
    all_goals first | exact NC p h | exact N8a p (by (first | (subst h; k_mem) | ((repeat (first | exact h | refine List.Mem.tail _ ?_ | exact List.mem_append_right _ h | exact List.mem_append_left _ h)); done) | simp [h]))
  clear N8a NC
  clear N9 KP
  (try dsimp only)
  repeat ((fail_if_success (with_reducible show wpAny _ _ (execs (List.cons (Stmt.If _ _ _ _) _) _) _ _ _)); (first | (k_unfold; (try dsimp only)) | (k_end; wrow_close) | walk1 | (dsimp only; walk1) | (leave1; walk_say "STEP leave1"; try dsimp only) | fail "no step"))
  refine row_tail4 (rws := rws) (rest := rest') B X T C (by k_asm) (by k_asm) hys hrl hrro' hro aro c1 hd hu fun h7 tk7 rc7 F8 N7 => ?_
  (try k_unfold); (try dsimp only)
  exact hret _ _ _ c _ _ rc7 _ _ K (fun p hp => ⟨lro p hp, l111 p hp, lrs p hp⟩) hws aro arest F8 (er ▸ N7)
end
section
set_option maxRecDepth 100000
set_option maxHeartbeats 2000000
local macro_rules | `(tactic| walk_at "subscriptTail") => `(tactic| (k_here; (with_reducible show wpAny _ _ (subscriptTail _ _ (Value.ref _) (Value.int _ _)) _ _ _); k_dflt (refine' num_item3 (by k_asm) (by k_mem) (by exact InR.at (by assumption) (by assumption)) (by with_reducible assumption) ?_ (by with_unfolding_all rfl); k_whole); intro t9; (try dsimp only)))
theorem row_tail3 {w : World} {p : Program} {loose : List Str} {mean : ExcName → Option Value} {mg mb : Str → Option Value}
    {dp un : Nat} {gd : Option (List Code)} {a : Addr} {ccd : Value} {outer : List Env} {A₀ : Around} {base h₀ : Heap} {L : Addr} {m₁ : Str → Option Value} {s : Shared} {Q : Flow → Shared → Prop} {E : Value → Shared → Prop}
    {rw ro nl T_ S_ an : Addr} {n0 n1 n2 n3 fi : Int} {ta tb1 tc tf : Tok} {dn : Bool} {rws ys ws : List Value} {c rc nc : Nat} {o1 o2 : Obj} {tb : Array Value} {rest : List (Addr × Obj)}
    (B : Below A₀ base outer h₀) (X : (Mine.hd.heap_1 w.params).In h₀) (T : Top p loose mean mg mb h₀) (C : CodeHd base 113 111)
    (F : Fr h₀ L s.heap (fun y => if y = Str.ofString "answers" then some (.ref an) else if y = Str.ofString "stood" then some (.ref S_) else if y = Str.ofString "row" then some (.ref rw) else if y = Str.ofString "first" then some (.int fi tf) else if y = Str.ofString "is_down" then some (.bool dn) else if y = Str.ofString "rows" then some (.ref ro) else m₁ y))
    (N : News h₀ L s.heap ((T_, tupO S_ an) :: (S_, LCg.lst ys) :: (an, W.listOf ws.toArray c) :: (111, tabObj tb) :: (ro, W.listOf rws.toArray rc) :: (nl, W.listOf #[.int n0 ta, .int n1 tb1, .int n2 tc] nc) :: (L + 1 + 1, o2) :: (L + 1, o1) :: rest))
    (hys : IntsAre ys (numsF dn 3 n0 n1 n2 n3)) (hrl : rws.length ≤ 64) (hrro : ∀ p ∈ rest, p.1 ≠ ro) (hro : @LT.lt Nat _ 111 L ∧ @LT.lt Nat _ (L + 1 + 1) nl ∧ @LT.lt Nat _ nl ro) (aro : @LT.lt Nat _ ro an)
    (c1 : o1.data = .cell (some (.ref nl))) (hd : dp + 20 < recursionLimit) (hu : un + 200 < cLine)
    (hret : ∀ h' tk' rc', Fr h₀ L h' (fun y => if y = Str.ofString "answers" then some (.ref an) else if y = Str.ofString "stood" then some (.ref S_) else if y = Str.ofString "row" then some (.ref rw) else if y = Str.ofString "first" then some (.int fi tf) else if y = Str.ofString "is_down" then some (.bool dn) else if y = Str.ofString "rows" then some (.ref ro) else m₁ y) →
      News h₀ L h' ((an, W.listOf ws.toArray c) :: (ro, W.listOf (rws.toArray.push (.ref an)) rc') :: (nl, W.listOf #[.int n0 ta, .int n1 tb1, .int n2 tc] nc) :: (L + 1 + 1, o2) :: (L + 1, o1) :: (111, tabObj tb) :: rest) → Q .next { s with heap := h', toks := tk' }) :
    wpAny (model PG w) (ktrTop dp un gd (Str.ofString "law") (scp lawDef) L a ccd (lawCl L) outer) (execs (rowBody.drop 1) (envL L a ccd)) Q E s := by
  have hb : rowBody.drop 1 = [_, _] := rfl
  rw [hb]
  (try k_unmd); (try k_fold)
  cases dn
  · simp only [numsF, if_neg (by decide : ¬ 3 = 4), if_true, Bool.false_eq_true, if_false] at hys
    obtain ⟨w0, w1, w2, e8⟩ := ints3 hys
    subst e8
    (try dsimp only)
    repeat ((fail_if_success (with_reducible show wpAny _ _ (call (Value.builtin "list.append") _ _) _ _ _)); (first | (k_unfold; (try dsimp only)) | (k_end; wrow_close) | walk1 | (dsimp only; walk1) | (leave1; walk_say "STEP leave1"; try dsimp only) | fail "no step"))
    rename News _ _ _ _ => kN
    replace kN := News.sub (led := (an, W.listOf ws.toArray c) :: (ro, W.listOf rws.toArray rc) :: (nl, W.listOf #[.int n0 ta, .int n1 tb1, .int n2 tc] nc) :: (L + 1 + 1, o2) :: (L + 1, o1) :: (111, tabObj tb) :: rest) kN (by intro p hp; simp only [List.mem_cons] at hp; rcases hp with h | h | h | h | h | h | h <;> (first | (subst h; k_mem) | ((repeat (first | exact h | refine List.Mem.tail _ ?_ | exact List.mem_append_right _ h | exact List.mem_append_left _ h)); done) | simp [h]))
    rename Fr _ _ _ _ => kF
    have nr := kN _ (.tail _ (.head _))
    refine append_at (hsz := by rw [List.size_toArray]; exact Nat.le_trans hrl (by rw [sizeLine_eq]; decide)) nr.1 fun h8 hs ho => ?_
    have F8 := kF.change hs nr.2.1 nr.2.2
    have N7 := news_app kN (pre := [(an, W.listOf ws.toArray c)]) hs ho (by intro p hp; simp only [List.mem_cons, List.mem_append, List.not_mem_nil, or_false] at hp; rcases hp with rfl | rfl | rfl | rfl | rfl | hp <;> first | exact hrro _ hp | (show @Ne Nat _ _; omega))
    clear nr kN kF hs ho
    (try dsimp only)
    repeat (first | (k_unfold; (try dsimp only)) | (k_end; wrow_close) | walk1 | (dsimp only; walk1) | (leave1; walk_say "STEP leave1"; try dsimp only) | fail "no step")
    refine hret _ _ (rc + 1) F8 (News.sub N7 ?_)
    intro p hp
    simpa only [List.mem_cons, List.mem_append, List.not_mem_nil, or_false] using hp
  · simp only [numsF, if_neg (by decide : ¬ 3 = 4), if_true, Bool.false_eq_true, if_false] at hys
    obtain ⟨w0, w1, w2, e8⟩ := ints3 hys
    subst e8
    (try dsimp only)
    repeat ((fail_if_success (with_reducible show wpAny _ _ (call (Value.builtin "list.append") _ _) _ _ _)); (first | (k_unfold; (try dsimp only)) | (k_end; wrow_close) | walk1 | (dsimp only; walk1) | (leave1; walk_say "STEP leave1"; try dsimp only) | fail "no step"))
    rename News _ _ _ _ => kN
    replace kN := News.sub (led := (an, W.listOf ws.toArray c) :: (ro, W.listOf rws.toArray rc) :: (nl, W.listOf #[.int n0 ta, .int n1 tb1, .int n2 tc] nc) :: (L + 1 + 1, o2) :: (L + 1, o1) :: (111, tabObj tb) :: rest) kN (by intro p hp; simp only [List.mem_cons] at hp; rcases hp with h | h | h | h | h | h | h <;> (first | (subst h; k_mem) | ((repeat (first | exact h | refine List.Mem.tail _ ?_ | exact List.mem_append_right _ h | exact List.mem_append_left _ h)); done) | simp [h]))
    rename Fr _ _ _ _ => kF
    have nr := kN _ (.tail _ (.head _))
    refine append_at (hsz := by rw [List.size_toArray]; exact Nat.le_trans hrl (by rw [sizeLine_eq]; decide)) nr.1 fun h8 hs ho => ?_
    have F8 := kF.change hs nr.2.1 nr.2.2
    have N7 := news_app kN (pre := [(an, W.listOf ws.toArray c)]) hs ho (by intro p hp; simp only [List.mem_cons, List.mem_append, List.not_mem_nil, or_false] at hp; rcases hp with rfl | rfl | rfl | rfl | rfl | hp <;> first | exact hrro _ hp | (show @Ne Nat _ _; omega))
    clear nr kN kF hs ho
    (try dsimp only)
    repeat (first | (k_unfold; (try dsimp only)) | (k_end; wrow_close) | walk1 | (dsimp only; walk1) | (leave1; walk_say "STEP leave1"; try dsimp only) | fail "no step")
    refine hret _ _ (rc + 1) F8 (News.sub N7 ?_)
    intro p hp
    simpa only [List.mem_cons, List.mem_append, List.not_mem_nil, or_false] using hp
theorem m1U_3 {w : World} {p : Program} {loose : List Str} {mean : ExcName → Option Value} {mg mb : Str → Option Value}
    {dp un : Nat} {gd : Option (List Code)} {a : Addr} {ccd : Value} {outer : List Env} {A₀ : Around} {base h₀ : Heap} {L : Addr} {m₁ : Str → Option Value} {s : Shared} {Q : Flow → Shared → Prop} {E : Value → Shared → Prop}
    {rw ro nl : Addr} {r0 r1 r2 n0 n1 n2 n3 fi : Int} {u0 u1 u2 ta tb1 tc tf : Tok} {dn : Bool} {rws : List Value} {rc nc rwc : Nat} {o1 o2 : Obj} {tb : Array Value} {rest : List (Addr × Obj)}
    (B : Below A₀ base outer h₀) (X : (Mine.hd.heap_1 w.params).In h₀) (T : Top p loose mean mg mb h₀) (C : CodeHd base 113 111)
    (F : Fr h₀ L s.heap (fun y => if y = Str.ofString "row" then some (.ref rw) else if y = Str.ofString "first" then some (.int fi tf) else if y = Str.ofString "is_down" then some (.bool dn) else if y = Str.ofString "rows" then some (.ref ro) else m₁ y))
    (N : News h₀ L s.heap ((rw, W.listOf #[.int r0 u0, .int r1 u1, .int r2 u2] rwc) :: (ro, W.listOf rws.toArray rc) :: (nl, W.listOf #[.int n0 ta, .int n1 tb1, .int n2 tc] nc) :: (L + 1 + 1, o2) :: (L + 1, o1) :: (111, tabObj tb) :: rest))
    (hrl : rws.length ≤ 64) (HK : tb = #[] ∨ tb ≠ #[] ∧ ∃ z1 z2 z3 z4 z5, CodesL rest tb z1 z2 z3 z4 z5) (hrro : ∀ p ∈ rest, p.1 ≠ ro) (hr111 : ∀ p ∈ rest, p.1 ≠ 111) (hro : @LT.lt Nat _ 111 L ∧ @LT.lt Nat _ (L + 1 + 1) nl ∧ @LT.lt Nat _ nl ro) (hrow : [r0, r1, r2] ∈ arrF 3) (hr : InR 3 [r0, r1, r2]) (hn1 : n0 < n1) (hn2 : n1 < n2) (hn3 : n2 < n3)
    (c1 : o1.data = .cell (some (.ref nl)))
    (hd : dp + 20 < recursionLimit) (hu : un + 200 < cLine)
    (hret : ∀ S_ an ws c h' tk' rc' cl tb', ((∃ z1 z2 z3 z4 z5, CodesL cl tb' z1 z2 z3 z4 z5) ∨ tb' = tb ∧ tb ≠ #[]) → (∀ p ∈ cl, @LT.lt Nat _ ro p.1 ∧ @LT.lt Nat _ 111 p.1 ∧ ∀ q ∈ rest, @LT.lt Nat _ q.1 p.1) → IntsAre ws (ansF dn 3 [r0, r1, r2]) → @LT.lt Nat _ ro an → (∀ q ∈ rest, @LT.lt Nat _ q.1 an) →
      Fr h₀ L h' (fun y => if y = Str.ofString "answers" then some (.ref an) else if y = Str.ofString "stood" then some (.ref S_) else if y = Str.ofString "row" then some (.ref rw) else if y = Str.ofString "first" then some (.int fi tf) else if y = Str.ofString "is_down" then some (.bool dn) else if y = Str.ofString "rows" then some (.ref ro) else m₁ y) →
      News h₀ L h' ((an, W.listOf ws.toArray c) :: (ro, W.listOf (rws.toArray.push (.ref an)) rc') :: (nl, W.listOf #[.int n0 ta, .int n1 tb1, .int n2 tc] nc) :: (L + 1 + 1, o2) :: (L + 1, o1) :: (111, tabObj tb') :: (cl ++ rest)) → Q .next { s with heap := h', toks := tk' }) :
    wpAny (model PG w) (ktrTop dp un gd (Str.ofString "law") (scp lawDef) L a ccd (lawCl L) outer) (execs rowBody (envL L a ccd)) Q E s := by
  have hb : rowBody = [_, _, _] := rfl
  rw [hb]
  (try k_unmd); (try k_fold)
  repeat ((fail_if_success (with_reducible show wpAny _ _ (call (Value.ref 114) _ _) _ _ _)); (first | (k_unfold; (try dsimp only)) | (k_end; wrow_close) | walk1 | (dsimp only; walk1) | (leave1; walk_say "STEP leave1"; try dsimp only) | fail "no step"))
  rename IntsAre _ (List.map _ _) => kI
  obtain ⟨t0, t1, t2, e9⟩ := ints3 kI
  subst e9
  rename (_ ≠ _) ∧ _ => kO
  obtain ⟨-, q2, q3, q4, q5, q6, kO⟩ := kO
  refine' asked3U ?B ?F ?X ?T ?hk ?C (news_th3 ?N ?m1 ?m2) ?h1 ?hd ?hu ?HK ?_
  (case N => k_asm)
  (case m1 => k_mem)
  (case m2 => k_mem)
  (case B => k_asm)
  (case F => k_asm)
  (case X => k_asm)
  (case T => k_asm)
  (case hk => rfl)
  (case C => assumption)
  (case h1 => exact q6)
  (case hd => ktr_room)
  (case hu => ktr_units)
  (case HK => exact HK.imp id fun ⟨hz, z1, z2, z3, z4, z5, K⟩ => ⟨hz, z1, z2, z3, z4, z5, CodesL.at K (by k_asm) (fun p hp => by (first | (subst hp; k_mem) | ((repeat (first | exact hp | refine List.Mem.tail _ ?_ | exact List.mem_append_right _ hp | exact List.mem_append_left _ hp)); done) | simp [hp])), codes_nz K (off1_ne kO)⟩)
  intro T_ S_ an ys ws c h9 tk9 a' b' x' e' l tb2 cl hS hys hws K
  rename News _ _ _ _ => kN0
  intro NC lc F9 KP AF
  have aro := AF ro _ (kN0 (ro, W.listOf rws.toArray rc) (by k_mem)).1
  have arest : ∀ q ∈ rest, @LT.lt Nat _ q.1 an := fun q hq => AF q.1 _ (kN0 q (by (first | (subst hq; k_mem) | ((repeat (first | exact hq | refine List.Mem.tail _ ?_ | exact List.mem_append_right _ hq | exact List.mem_append_left _ hq)); done) | simp [hq]))).1
  have lro : ∀ p ∈ cl, @LT.lt Nat _ ro p.1 := fun p hp => lc p hp ro _ (kN0 (ro, W.listOf rws.toArray rc) (by k_mem)).1
  have lrs : ∀ p ∈ cl, ∀ q ∈ rest, @LT.lt Nat _ q.1 p.1 := fun p hp q hq => lc p hp q.1 _ (kN0 q (by (first | (subst hq; k_mem) | ((repeat (first | exact hq | refine List.Mem.tail _ ?_ | exact List.mem_append_right _ hq | exact List.mem_append_left _ hq)); done) | simp [hq]))).1
  have l111 : ∀ p ∈ cl, @LT.lt Nat _ 111 p.1 := fun p hp => lc p hp 111 _ (kN0 (111, tabObj tb) (by k_mem)).1
  intro N9
  obtain ⟨eV, eL⟩ := asked_row3 hn1 hn2 hn3 hrow hS
  rw [eV] at hys
  subst eL
  have N8a : News h₀ L h9 ((T_, tupO S_ an) :: (S_, LCg.lst ys) :: (an, W.listOf ws.toArray c) :: (111, tabObj tb2) :: (ro, W.listOf rws.toArray rc) :: (nl, W.listOf #[.int n0 ta, .int n1 tb1, .int n2 tc] nc) :: (L + 1 + 1, o2) :: (L + 1, o1) :: rest) := by
    refine news_keep (by k_asm) KP N9 (sub := (ro, W.listOf rws.toArray rc) :: (nl, W.listOf #[.int n0 ta, .int n1 tb1, .int n2 tc] nc) :: (L + 1 + 1, o2) :: (L + 1, o1) :: rest) fun p hp => ?_
    simp only [List.mem_cons] at hp
    rcases hp with rfl | rfl | rfl | rfl | hp
    · exact ⟨by k_mem, q2, by k_ne⟩
    · exact ⟨by k_mem, q3, by k_ne⟩
    · exact ⟨by k_mem, q4, by k_ne⟩
    · exact ⟨by k_mem, q5, by k_ne⟩
    · exact ⟨by (first | (subst hp; k_mem) | ((repeat (first | exact hp | refine List.Mem.tail _ ?_ | exact List.mem_append_right _ hp | exact List.mem_append_left _ hp)); done) | simp [hp]), off1_ne kO p hp, hr111 p hp⟩
  obtain ⟨rest', er⟩ : ∃ r, r = cl ++ rest := ⟨_, rfl⟩
  have hrro' : ∀ p ∈ rest', p.1 ≠ ro := fun p hp => by
    rw [er] at hp
    rcases List.mem_append.mp hp with h | h
    · exact fun e => absurd (lro p h) (by rw [e]; exact Nat.lt_irrefl _)
    · exact hrro p h
  have hr111' : ∀ p ∈ rest', p.1 ≠ 111 := fun p hp => by
    rw [er] at hp
    rcases List.mem_append.mp hp with h | h
    · exact fun e => absurd (l111 p h) (by rw [e]; exact Nat.lt_irrefl _)
    · exact hr111 p h
  have N8 : News h₀ L h9 ((T_, tupO S_ an) :: (S_, LCg.lst ys) :: (an, W.listOf ws.toArray c) :: (111, tabObj tb2) :: (ro, W.listOf rws.toArray rc) :: (nl, W.listOf #[.int n0 ta, .int n1 tb1, .int n2 tc] nc) :: (L + 1 + 1, o2) :: (L + 1, o1) :: rest') := fun p hp => by
    rw [er] at hp
    simp only [List.mem_cons, List.mem_append] at hp
    rcases hp with h | h | h | h | h | h | h | h | h | h
    all_goals first | exact NC p h | exact N8a p (by (first | (subst h; k_mem) | ((repeat (first | exact h | refine List.Mem.tail _ ?_ | exact List.mem_append_right _ h | exact List.mem_append_left _ h)); done) | simp [h]))
  clear N8a NC
  clear N9 KP
  (try dsimp only)
  repeat ((fail_if_success (with_reducible show wpAny _ _ (execs (List.cons (Stmt.If _ _ _ _) _) _) _ _ _)); (first | (k_unfold; (try dsimp only)) | (k_end; wrow_close) | walk1 | (dsimp only; walk1) | (leave1; walk_say "STEP leave1"; try dsimp only) | fail "no step"))
  refine row_tail3 (rws := rws) (rest := rest') B X T C (by k_asm) (by k_asm) hys hrl hrro' hro aro c1 hd hu fun h7 tk7 rc7 F8 N7 => ?_
  (try k_unfold); (try dsimp only)
  exact hret _ _ _ c _ _ rc7 _ _ K (fun p hp => ⟨lro p hp, l111 p hp, lrs p hp⟩) hws aro arest F8 (er ▸ N7)
end
end
section
section
set_option maxRecDepth 100000
set_option maxHeartbeats 2000000
/-- a list of refs to lists of ints, all of the ledger -/
noncomputable def RowsL (led : List (Addr × Obj)) : List Value → List (List Int) → Prop
  | [], [] => True
  | v :: vs, d :: ds => (∃ b ws c, v = .ref b ∧ (b, W.listOf ws.toArray c) ∈ led ∧ IntsAre ws d) ∧ RowsL led vs ds
  | _, _ => False
theorem RowsL.mono {led led' : List (Addr × Obj)} (h : ∀ p ∈ led, p ∈ led') : ∀ {vs : List Value} {ds : List (List Int)}, RowsL led vs ds → RowsL led' vs ds
  | [], [], _ => trivial
  | _ :: _, _ :: _, ⟨⟨b, ws, c, e, hm, hi⟩, r⟩ => ⟨⟨b, ws, c, e, h _ hm, hi⟩, RowsL.mono h r⟩
theorem RowsL.len {led : List (Addr × Obj)} : ∀ {vs : List Value} {ds : List (List Int)}, RowsL led vs ds → vs.length = ds.length
  | [], [], _ => rfl
  | _ :: _, _ :: _, ⟨_, r⟩ => by simp [RowsL.len r]
theorem RowsL.get {led : List (Addr × Obj)} : ∀ {vs : List Value} {ds : List (List Int)}, RowsL led vs ds → ∀ (i : Nat) {v : Value}, vs[i]? = some v → ∃ d b ws c, ds[i]? = some d ∧ v = .ref b ∧ (b, W.listOf ws.toArray c) ∈ led ∧ IntsAre ws d
  | [], [], _, _, _, e => by simp at e
  | _ :: _, d :: _, ⟨⟨b, ws, c, e1, hm, hi⟩, _⟩, 0, v, e => by simp at e; subst e; exact ⟨d, b, ws, c, rfl, e1, hm, hi⟩
  | _ :: _, _ :: _, ⟨_, r⟩, i + 1, v, e => by
    obtain ⟨d, b, ws, c, e0, x⟩ := RowsL.get r i (by simpa using e)
    exact ⟨d, b, ws, c, by simpa using e0, x⟩
theorem RowsL.snoc {led : List (Addr × Obj)} {b : Addr} {ws : List Value} {c : Nat} {d : List Int} (hm : (b, W.listOf ws.toArray c) ∈ led) (hi : IntsAre ws d) : ∀ {vs : List Value} {ds : List (List Int)}, RowsL led vs ds → RowsL led (vs ++ [.ref b]) (ds ++ [d])
  | [], [], _ => ⟨⟨b, ws, c, rfl, hm, hi⟩, trivial⟩
  | _ :: _, _ :: _, ⟨h, r⟩ => ⟨h, RowsL.snoc hm hi r⟩
theorem arr4_in : ∀ row ∈ arrF 4, ∃ r0 r1 r2 r3, row = [r0, r1, r2, r3] ∧ (r2 ≠ r0 ∧ r2 ≠ r1 ∧ r2 ≠ r3) := by
  intro row h
  have : ∀ row ∈ arrF 4, row = [at4 row 0, at4 row 1, at4 row 2, at4 row 3] ∧ (at4 row 2 ≠ at4 row 0 ∧ at4 row 2 ≠ at4 row 1 ∧ at4 row 2 ≠ at4 row 3) := by decide
  exact ⟨_, _, _, _, this row h⟩
theorem arr3_in : ∀ row ∈ arrF 3, ∃ r0 r1 r2, row = [r0, r1, r2] := by
  intro row h
  have : ∀ row ∈ arrF 3, row = [at4 row 0, at4 row 1, at4 row 2] := by decide
  exact ⟨_, _, _, this row h⟩
theorem arr4_r : ∀ row ∈ arrF 4, InR 4 row := by unfold InR; decide
theorem arr3_r : ∀ row ∈ arrF 3, InR 3 row := by unfold InR; decide
theorem arr4_len : (arrF 4).length = 24 := by decide
theorem arr3_len : (arrF 3).length = 6 := by decide
theorem rows_loop {w : World} {p : Program} {loose : List Str} {mean : ExcName → Option Value} {mg mb : Str → Option Value}
    {dp un : Nat} {gd : Option (List Code)} {a : Addr} {ccd : Value} {outer : List Env} {A₀ : Around} {base h₀ : Heap} {L : Addr} {m₀ : Str → Option Value} {s : Shared} {Q : Flow → Shared → Prop} {E : Value → Shared → Prop}
    {fo ro nl : Addr} {vs : List Value} {fc rc n : Nat} {fi : Int} {tf : Tok} {no : Obj} {dn : Bool} {o1 o2 : Obj} {rest : List (Addr × Obj)}
    (B : Below A₀ base outer h₀) (X : (Mine.hd.heap_1 w.params).In h₀) (T : Top p loose mean mg mb h₀) (C : CodeHd base 113 111) (F : Fr h₀ L s.heap m₀)
    (N : News h₀ L s.heap ((fo, W.listOf vs.toArray fc) :: (ro, W.listOf #[] rc) :: (nl, no) :: (L + 1 + 1, o2) :: (L + 1, o1) :: (111, tabObj #[]) :: rest))
    (hm : m₀ (Str.ofString "first") = some (.int fi tf) ∧ m₀ (Str.ofString "is_down") = some (.bool dn) ∧ m₀ (Str.ofString "rows") = some (.ref ro))
    (hR : RowsL rest vs (arrF n)) (hrro : ∀ p ∈ rest, p.1 ≠ ro) (hr111 : ∀ p ∈ rest, p.1 ≠ 111) (hfo : @Ne Nat fo ro ∧ @Ne Nat fo 111)
    (hro : @LT.lt Nat _ 111 L ∧ @LT.lt Nat _ (L + 1 + 1) nl ∧ @LT.lt Nat _ nl ro) (hlen : (arrF n).length ≤ 64)
    (turn : ∀ {m₁ : Str → Option Value} {s : Shared} {Q : Flow → Shared → Prop} {rw : Addr} {rws ws : List Value} {rc wc : Nat} {tb : Array Value} {rest : List (Addr × Obj)} (row : List Int), row ∈ arrF n → IntsAre ws row → rws.length ≤ 64 → (tb = #[] ∨ tb ≠ #[] ∧ ∃ z1 z2 z3 z4 z5, CodesL rest tb z1 z2 z3 z4 z5) → (∀ p ∈ rest, p.1 ≠ ro) → (∀ p ∈ rest, p.1 ≠ 111) →
      Fr h₀ L s.heap (fun y => if y = Str.ofString "row" then some (.ref rw) else if y = Str.ofString "first" then some (.int fi tf) else if y = Str.ofString "is_down" then some (.bool dn) else if y = Str.ofString "rows" then some (.ref ro) else m₁ y) → News h₀ L s.heap ((rw, W.listOf ws.toArray wc) :: (ro, W.listOf rws.toArray rc) :: (nl, no) :: (L + 1 + 1, o2) :: (L + 1, o1) :: (111, tabObj tb) :: rest) →
      (∀ S_ an ws c h' tk' rc' cl tb', ((∃ z1 z2 z3 z4 z5, CodesL cl tb' z1 z2 z3 z4 z5) ∨ tb' = tb ∧ tb ≠ #[]) → (∀ p ∈ cl, @LT.lt Nat _ ro p.1 ∧ @LT.lt Nat _ 111 p.1 ∧ ∀ q ∈ rest, @LT.lt Nat _ q.1 p.1) → IntsAre ws (ansF dn n row) → @LT.lt Nat _ ro an → (∀ q ∈ rest, @LT.lt Nat _ q.1 an) →
        Fr h₀ L h' (fun y => if y = Str.ofString "answers" then some (.ref an) else if y = Str.ofString "stood" then some (.ref S_) else if y = Str.ofString "row" then some (.ref rw) else if y = Str.ofString "first" then some (.int fi tf) else if y = Str.ofString "is_down" then some (.bool dn) else if y = Str.ofString "rows" then some (.ref ro) else m₁ y) → News h₀ L h' ((an, W.listOf ws.toArray c) :: (ro, W.listOf (rws.toArray.push (.ref an)) rc') :: (nl, no) :: (L + 1 + 1, o2) :: (L + 1, o1) :: (111, tabObj tb') :: (cl ++ rest)) → Q .next { s with heap := h', toks := tk' }) →
      wpAny (model PG w) (ktrTop dp un gd (Str.ofString "law") (scp lawDef) L a ccd (lawCl L) outer) (execs rowBody (envL L a ccd)) Q E s)
    (done : ∀ m' h' tk' rws rc' tb rest', (∀ y, y ≠ Str.ofString "row" → y ≠ Str.ofString "stood" → y ≠ Str.ofString "answers" → m' y = m₀ y) → RowsL rest' rws ((arrF n).map (ansF dn n)) → (∀ p ∈ rest', p.1 ≠ ro) → (∀ p ∈ rest', p.1 ≠ 111) →
      Fr h₀ L h' m' → News h₀ L h' ((ro, W.listOf rws.toArray rc') :: (nl, no) :: (L + 1 + 1, o2) :: (L + 1, o1) :: (111, tabObj tb) :: rest') → Q .next { s with heap := h', toks := tk' }) :
    wpAny (model PG w) (ktrTop dp un gd (Str.ofString "law") (scp lawDef) L a ccd (lawCl L) outer) (pyIter (.ref fo))
      (fun it s₂ => LoopAtV PG w (ktrTop dp un gd (Str.ofString "law") (scp lawDef) L a ccd (lawCl L) outer) h₀ (envL L a ccd) (Str.ofString "row") rowBody Q E it s₂) E s := by
  have hfo1 := (N _ (.head _)).1
  have hls : s.heap.IsList fo vs.toArray := PySem.IsL.isList (n := fc) hfo1
  have hfl := Heap.lt_size hfo1
  refine wpAny_pyIter_list hls ?_
  have WK := Walks.list (prog := PG) (w := w) (A := ktrTop dp un gd (Str.ofString "law") (scp lawDef) L a ccd (lawCl L) outer) rfl s.heap.objs.size fo (Nat.ne_of_lt hfl) vs.toArray
  have old : ∀ p ∈ ((fo, W.listOf vs.toArray fc) :: (ro, W.listOf #[] rc) :: (nl, no) :: (L + 1 + 1, o2) :: (L + 1, o1) :: (111, tabObj #[]) :: rest), @LT.lt Nat _ p.1 s.heap.objs.size := fun p hp => Heap.lt_size (N p hp).1
  have oro := old (ro, W.listOf #[] rc) (.tail _ (.head _))
  have hln : vs.toArray.size = (arrF n).length := by rw [List.size_toArray, RowsL.len hR]
  let J : Nat → (Str → Option Value) → List (Addr × Obj) → Prop := fun i m₁ news₁ => (∀ y, y ≠ Str.ofString "row" → y ≠ Str.ofString "stood" → y ≠ Str.ofString "answers" → m₁ y = m₀ y) ∧ ∃ rws rc' tb rest',
    news₁ = (ro, W.listOf rws.toArray rc') :: (nl, no) :: (L + 1 + 1, o2) :: (L + 1, o1) :: (111, tabObj tb) :: rest' ∧ (∀ p ∈ rest, p ∈ rest') ∧ (∀ p ∈ rest', p.1 ≠ ro) ∧ (∀ p ∈ rest', p.1 ≠ 111) ∧ RowsL rest' rws (((arrF n).take i).map (ansF dn n)) ∧ (tb = #[] ∨ tb ≠ #[] ∧ ∃ z1 z2 z3 z4 z5, CodesL rest' tb z1 z2 z3 z4 z5)
  refine ⟨_, _, _, vs.toArray.size, _, _, m₀, (ro, W.listOf #[] rc) :: (nl, no) :: (L + 1 + 1, o2) :: (L + 1, o1) :: (111, tabObj #[]) :: rest, J, rfl, WK, ?_, ?_, ?_, ⟨⟨_, Heap.get?_push_size _ rfl, rfl, rfl⟩, hls.at fun o e => Heap.get?_push_of_some _ e⟩, F.push _, (fun p hp => ⟨Heap.get?_push_of_some _ (N p (.tail _ hp)).1, (N p (.tail _ hp)).2⟩),
    ⟨fun _ _ _ _ => rfl, [], rc, #[], rest, rfl, fun _ h => h, hrro, hr111, trivial, .inl rfl⟩, ?_, ?_⟩
  · intro hm'
    rcases List.mem_cons.mp hm' with e | hm'
    · exact absurd F.ns.lt (by rw [show L = s.heap.objs.size from e]; exact Nat.lt_irrefl _)
    · exact (N _ (.head _)).2.1 (List.mem_singleton.mp hm').symm
  · intro b hb
    rw [List.mem_singleton.mp hb]
    exact next_is_new F
  · intro q hq hI
    exact absurd (old q (.tail _ hq)) (by rw [List.mem_singleton.mp hI]; exact Nat.lt_irrefl _)
  · rintro i v m₁ news₁ s₁ own ⟨hh', tk', rfl⟩ hin hP ⟨hm1, rws, rc', tb, rest1, rfl, hsub, q1, q2, hR1, hK⟩ hoff hown hget hfp hst F₁ N₁
    obtain ⟨row, rw, ws, c, hd1, rfl, hmem, hI⟩ := RowsL.get hR i (by simpa using hP)
    have hrow : row ∈ arrF n := List.mem_of_getElem? hd1
    have ho1 : ∀ p ∈ own, @Ne Nat p.1 ro ∧ @Ne Nat p.1 111 := fun p hp => by
      rcases List.mem_cons.mp (hown p hp) with e | e
      · rw [e]; exact ⟨Nat.ne_of_gt oro, Nat.ne_of_gt (old (111, tabObj #[]) (by first | k_mem | simp))⟩
      · rw [List.mem_singleton.mp e]; exact hfo
    have g1 : ∀ p ∈ own ++ rest1, p.1 ≠ ro := fun p hp => (List.mem_append.mp hp).elim (fun h => (ho1 p h).1) (q1 p)
    have g2 : ∀ p ∈ own ++ rest1, p.1 ≠ 111 := fun p hp => (List.mem_append.mp hp).elim (fun h => (ho1 p h).2) (q2 p)
    have hlen1 : rws.length ≤ 64 := by
      have := RowsL.len hR1
      rw [List.length_map, List.length_take] at this
      omega
    have FX : Fr h₀ L hh' (fun y => if y = Str.ofString "row" then some (.ref rw) else if y = Str.ofString "first" then some (.int fi tf) else if y = Str.ofString "is_down" then some (.bool dn) else if y = Str.ofString "rows" then some (.ref ro) else m₁ y) := by
      have e : (fun y => if y = Str.ofString "row" then some (Value.ref rw) else m₁ y) = (fun y => if y = Str.ofString "row" then some (.ref rw) else if y = Str.ofString "first" then some (.int fi tf) else if y = Str.ofString "is_down" then some (.bool dn) else if y = Str.ofString "rows" then some (.ref ro) else m₁ y) := by
        funext y
        by_cases e0 : y = Str.ofString "row"
        · simp only [e0, if_true]
        simp only [if_neg e0]
        by_cases e1 : y = Str.ofString "first"
        · simp only [e1, if_true]; rw [hm1 _ (by decide) (by decide) (by decide)]; exact hm.1
        simp only [if_neg e1]
        by_cases e2 : y = Str.ofString "is_down"
        · simp only [e2, if_true]; rw [hm1 _ (by decide) (by decide) (by decide)]; exact hm.2.1
        simp only [if_neg e2]
        by_cases e3 : y = Str.ofString "rows"
        · simp only [e3, if_true]; rw [hm1 _ (by decide) (by decide) (by decide)]; exact hm.2.2
        simp only [if_neg e3]
      rw [← e]; exact F₁
    have NX : News h₀ L hh' ((rw, W.listOf ws.toArray c) :: (ro, W.listOf rws.toArray rc') :: (nl, no) :: (L + 1 + 1, o2) :: (L + 1, o1) :: (111, tabObj tb) :: (own ++ rest1)) := fun p hp => by
      refine N₁ p ?_
      rcases List.mem_cons.mp hp with rfl | hp
      · exact List.mem_append_right _ (by ((have hmm := hsub _ hmem); first | ((repeat (first | exact hmm | refine List.Mem.tail _ ?_ | exact List.mem_append_right _ hmm | exact List.mem_append_left _ hmm)); done) | simp [hmm]))
      · simp only [List.mem_cons, List.mem_append] at hp
        rcases hp with h | h | h | h | h | h | h <;> (first | (subst h; k_mem) | ((repeat (first | exact h | refine List.Mem.tail _ ?_ | exact List.mem_append_right _ h | exact List.mem_append_left _ h)); done) | simp [h])
    have tk1 : ((arrF n).take (i + 1)).map (ansF dn n) = ((arrF n).take i).map (ansF dn n) ++ [ansF dn n row] := by
      rw [List.take_add_one, hd1]; simp
    have mm : ∀ (S_ an : Addr) (y : Str), y ≠ Str.ofString "row" → y ≠ Str.ofString "stood" → y ≠ Str.ofString "answers" →
        (if y = Str.ofString "answers" then some (Value.ref an) else if y = Str.ofString "stood" then some (.ref S_) else if y = Str.ofString "row" then some (.ref rw) else if y = Str.ofString "first" then some (.int fi tf) else if y = Str.ofString "is_down" then some (.bool dn) else if y = Str.ofString "rows" then some (.ref ro) else m₁ y) = m₀ y := by
      intro S_ an y e0 e4 e5
      rw [if_neg e5, if_neg e4, if_neg e0]
      by_cases e1 : y = Str.ofString "first"
      · rw [if_pos e1, e1]; exact hm.1.symm
      rw [if_neg e1]
      by_cases e2 : y = Str.ofString "is_down"
      · rw [if_pos e2, e2]; exact hm.2.1.symm
      rw [if_neg e2]
      by_cases e3 : y = Str.ofString "rows"
      · rw [if_pos e3, e3]; exact hm.2.2.symm
      rw [if_neg e3]
      exact hm1 y e0 e4 e5
    have hIan : ∀ {an : Addr}, (∀ q ∈ own ++ rest1, @LT.lt Nat _ q.1 an) → an ∉ [s.heap.objs.size] := fun {an} ha e => by
      obtain ⟨oI, eI, _⟩ := hst.1
      have := ha (s.heap.objs.size, oI) (List.mem_append_left _ (hfp _ (by first | k_mem | simp) (next_is_new F) oI eI))
      rw [List.mem_singleton.mp e] at this
      exact Nat.lt_irrefl _ this
    refine turn (rest := own ++ rest1) row hrow hI hlen1 (hK.imp id fun ⟨hz, z1, z2, z3, z4, z5, K⟩ => ⟨hz, z1, z2, z3, z4, z5, K.mono fun q h => by (first | (subst h; k_mem) | ((repeat (first | exact h | refine List.Mem.tail _ ?_ | exact List.mem_append_right _ h | exact List.mem_append_left _ h)); done) | simp [h])⟩) g1 g2 FX NX ?_
    intro S_ an ws' c' h' tk' rc2 cl tb2 K hcl hws la lr F9 N9
    refine LoopStepV.next (LoopStepU.intro (news₂ := (ro, W.listOf (rws ++ [Value.ref an]).toArray rc2) :: (nl, no) :: (L + 1 + 1, o2) :: (L + 1, o1) :: (111, tabObj tb2) :: (an, W.listOf ws'.toArray c') :: (cl ++ rest1)) F9 (fun q hq => N9 q ?_) (fun q hq => ?_) ⟨mm S_ an, rws ++ [.ref an], rc2, tb2, (an, W.listOf ws'.toArray c') :: (cl ++ rest1), rfl, ?_, ?_, ?_, ?_, .inr (K.elim (fun ⟨y1, y2, y3, y4, y5, K⟩ => ⟨codesL_ne K, y1, y2, y3, y4, y5, K.mono fun q h => by (first | (subst h; k_mem) | ((repeat (first | exact h | refine List.Mem.tail _ ?_ | exact List.mem_append_right _ h | exact List.mem_append_left _ h)); done) | simp [h])⟩) (fun ⟨e, hz⟩ => e ▸ (hK.resolve_left hz).imp id fun ⟨y1, y2, y3, y4, y5, K⟩ => ⟨y1, y2, y3, y4, y5, K.mono (fun q h => by (first | (subst h; k_mem) | ((repeat (first | exact h | refine List.Mem.tail _ ?_ | exact List.mem_append_right _ h | exact List.mem_append_left _ h)); done) | simp [h]))⟩))⟩)
    · simp only [List.mem_cons, List.mem_append] at hq
      rw [List.push_toArray]
      rcases hq with h | h | h | h | h | h | h | h | h <;> (first | (subst h; k_mem) | ((repeat (first | exact h | refine List.Mem.tail _ ?_ | exact List.mem_append_right _ h | exact List.mem_append_left _ h)); done) | simp [h])
    · simp only [List.mem_cons, List.mem_append] at hq
      rcases hq with rfl | rfl | rfl | rfl | rfl | rfl | h | h
      · exact hoff (ro, W.listOf rws.toArray rc') (.head _)
      · exact hoff _ (.tail _ (.head _))
      · exact hoff _ (.tail _ (.tail _ (.head _)))
      · exact hoff _ (.tail _ (.tail _ (.tail _ (.head _))))
      · exact hoff (111, tabObj tb) (.tail _ (.tail _ (.tail _ (.tail _ (.head _)))))
      · exact hIan lr
      · exact hIan (hcl q h).2.2
      · exact hoff q (by (first | (subst h; k_mem) | ((repeat (first | exact h | refine List.Mem.tail _ ?_ | exact List.mem_append_right _ h | exact List.mem_append_left _ h)); done) | simp [h]))
    · exact fun q h => by ((have hmm := hsub q h); first | ((repeat (first | exact hmm | refine List.Mem.tail _ ?_ | exact List.mem_append_right _ hmm | exact List.mem_append_left _ hmm)); done) | simp [hmm])
    · intro q hq
      rcases List.mem_cons.mp hq with rfl | hq
      · exact Nat.ne_of_gt la
      · exact (List.mem_append.mp hq).elim (fun h => Nat.ne_of_gt (hcl q h).1) (q1 q)
    · intro q hq
      rcases List.mem_cons.mp hq with rfl | hq
      · exact Nat.ne_of_gt (Nat.lt_trans (Nat.lt_trans hro.1 (Nat.lt_trans (Nat.lt_trans (Nat.lt_succ_self _) (Nat.lt_succ_self _)) (Nat.lt_trans hro.2.1 hro.2.2))) la)
      · exact (List.mem_append.mp hq).elim (fun h => Nat.ne_of_gt (hcl q h).2.1) (q2 q)
    · rw [tk1]
      exact RowsL.snoc (c := c') (by first | k_mem | simp) hws (hR1.mono fun q h => by (first | (subst h; k_mem) | ((repeat (first | exact h | refine List.Mem.tail _ ?_ | exact List.mem_append_right _ h | exact List.mem_append_left _ h)); done) | simp [h]))
  · rintro h' tk m' news' F' N' _ ⟨hm1, rws, rc', tb, rest1, rfl, _, q1, q2, hR1, _⟩
    rw [hln, List.take_of_length_le (Nat.le_refl _)] at hR1
    exact done m' h' tk rws rc' tb rest1 hm1 hR1 q1 q2 F' N'
theorem rows_loop4 {w : World} {p : Program} {loose : List Str} {mean : ExcName → Option Value} {mg mb : Str → Option Value}
    {dp un : Nat} {gd : Option (List Code)} {a : Addr} {ccd : Value} {outer : List Env} {A₀ : Around} {base h₀ : Heap} {L : Addr} {m₀ : Str → Option Value} {s : Shared} {Q : Flow → Shared → Prop} {E : Value → Shared → Prop}
    {fo ro nl : Addr} {vs : List Value} {fc rc nc : Nat} {n0 n1 n2 n3 fi : Int} {ta tb1 tc td tf : Tok} {dn : Bool} {o1 o2 : Obj} {rest : List (Addr × Obj)}
    (B : Below A₀ base outer h₀) (X : (Mine.hd.heap_1 w.params).In h₀) (T : Top p loose mean mg mb h₀) (C : CodeHd base 113 111) (F : Fr h₀ L s.heap m₀)
    (N : News h₀ L s.heap ((fo, W.listOf vs.toArray fc) :: (ro, W.listOf #[] rc) :: (nl, W.listOf #[.int n0 ta, .int n1 tb1, .int n2 tc, .int n3 td] nc) :: (L + 1 + 1, o2) :: (L + 1, o1) :: (111, tabObj #[]) :: rest))
    (hm : m₀ (Str.ofString "first") = some (.int fi tf) ∧ m₀ (Str.ofString "is_down") = some (.bool dn) ∧ m₀ (Str.ofString "rows") = some (.ref ro))
    (hR : RowsL rest vs (arrF 4)) (hrro : ∀ p ∈ rest, p.1 ≠ ro) (hr111 : ∀ p ∈ rest, p.1 ≠ 111) (hfo : @Ne Nat fo ro ∧ @Ne Nat fo 111)
    (hro : @LT.lt Nat _ 111 L ∧ @LT.lt Nat _ (L + 1 + 1) nl ∧ @LT.lt Nat _ nl ro) (hn1 : n0 < n1) (hn2 : n1 < n2) (hn3 : n2 < n3) (c1 : o1.data = .cell (some (.ref nl)))
    (hd : dp + 20 < recursionLimit) (hu : un + 200 < cLine)
    (done : ∀ m' h' tk' rws rc' tb rest', (∀ y, y ≠ Str.ofString "row" → y ≠ Str.ofString "stood" → y ≠ Str.ofString "answers" → m' y = m₀ y) → RowsL rest' rws ((arrF 4).map (ansF dn 4)) → (∀ p ∈ rest', p.1 ≠ ro) → (∀ p ∈ rest', p.1 ≠ 111) →
      Fr h₀ L h' m' → News h₀ L h' ((ro, W.listOf rws.toArray rc') :: (nl, W.listOf #[.int n0 ta, .int n1 tb1, .int n2 tc, .int n3 td] nc) :: (L + 1 + 1, o2) :: (L + 1, o1) :: (111, tabObj tb) :: rest') → Q .next { s with heap := h', toks := tk' }) :
    wpAny (model PG w) (ktrTop dp un gd (Str.ofString "law") (scp lawDef) L a ccd (lawCl L) outer) (pyIter (.ref fo))
      (fun it s₂ => LoopAtV PG w (ktrTop dp un gd (Str.ofString "law") (scp lawDef) L a ccd (lawCl L) outer) h₀ (envL L a ccd) (Str.ofString "row") rowBody Q E it s₂) E s := by
  refine rows_loop B X T C F N hm hR hrro hr111 hfo hro (by rw [arr4_len]; decide) ?_ done
  intro m₁ s Q rw rws ws rc wc tb rest row hrow hI hlen HK g1 g2 FX NX hret
  have hin' := arr4_r row hrow
  obtain ⟨r0, r1, r2, r3, rfl, hne⟩ := arr4_in row hrow
  obtain ⟨u0, u1, u2, u3, rfl⟩ := ints4 hI
  exact m1U (rest := rest) B X T C FX NX hlen HK g1 g2 hro hrow hin' hn1 hn2 hn3 hne c1 hd hu hret
theorem rows_loop3 {w : World} {p : Program} {loose : List Str} {mean : ExcName → Option Value} {mg mb : Str → Option Value}
    {dp un : Nat} {gd : Option (List Code)} {a : Addr} {ccd : Value} {outer : List Env} {A₀ : Around} {base h₀ : Heap} {L : Addr} {m₀ : Str → Option Value} {s : Shared} {Q : Flow → Shared → Prop} {E : Value → Shared → Prop}
    {fo ro nl : Addr} {vs : List Value} {fc rc nc : Nat} {n0 n1 n2 n3 fi : Int} {ta tb1 tc tf : Tok} {dn : Bool} {o1 o2 : Obj} {rest : List (Addr × Obj)}
    (B : Below A₀ base outer h₀) (X : (Mine.hd.heap_1 w.params).In h₀) (T : Top p loose mean mg mb h₀) (C : CodeHd base 113 111) (F : Fr h₀ L s.heap m₀)
    (N : News h₀ L s.heap ((fo, W.listOf vs.toArray fc) :: (ro, W.listOf #[] rc) :: (nl, W.listOf #[.int n0 ta, .int n1 tb1, .int n2 tc] nc) :: (L + 1 + 1, o2) :: (L + 1, o1) :: (111, tabObj #[]) :: rest))
    (hm : m₀ (Str.ofString "first") = some (.int fi tf) ∧ m₀ (Str.ofString "is_down") = some (.bool dn) ∧ m₀ (Str.ofString "rows") = some (.ref ro))
    (hR : RowsL rest vs (arrF 3)) (hrro : ∀ p ∈ rest, p.1 ≠ ro) (hr111 : ∀ p ∈ rest, p.1 ≠ 111) (hfo : @Ne Nat fo ro ∧ @Ne Nat fo 111)
    (hro : @LT.lt Nat _ 111 L ∧ @LT.lt Nat _ (L + 1 + 1) nl ∧ @LT.lt Nat _ nl ro) (hn1 : n0 < n1) (hn2 : n1 < n2) (hn3 : n2 < n3) (c1 : o1.data = .cell (some (.ref nl)))
    (hd : dp + 20 < recursionLimit) (hu : un + 200 < cLine)
    (done : ∀ m' h' tk' rws rc' tb rest', (∀ y, y ≠ Str.ofString "row" → y ≠ Str.ofString "stood" → y ≠ Str.ofString "answers" → m' y = m₀ y) → RowsL rest' rws ((arrF 3).map (ansF dn 3)) → (∀ p ∈ rest', p.1 ≠ ro) → (∀ p ∈ rest', p.1 ≠ 111) →
      Fr h₀ L h' m' → News h₀ L h' ((ro, W.listOf rws.toArray rc') :: (nl, W.listOf #[.int n0 ta, .int n1 tb1, .int n2 tc] nc) :: (L + 1 + 1, o2) :: (L + 1, o1) :: (111, tabObj tb) :: rest') → Q .next { s with heap := h', toks := tk' }) :
    wpAny (model PG w) (ktrTop dp un gd (Str.ofString "law") (scp lawDef) L a ccd (lawCl L) outer) (pyIter (.ref fo))
      (fun it s₂ => LoopAtV PG w (ktrTop dp un gd (Str.ofString "law") (scp lawDef) L a ccd (lawCl L) outer) h₀ (envL L a ccd) (Str.ofString "row") rowBody Q E it s₂) E s := by
  refine rows_loop B X T C F N hm hR hrro hr111 hfo hro (by rw [arr3_len]; decide) ?_ done
  intro m₁ s Q rw rws ws rc wc tb rest row hrow hI hlen HK g1 g2 FX NX hret
  have hin' := arr3_r row hrow
  obtain ⟨r0, r1, r2, rfl⟩ := arr3_in row hrow
  obtain ⟨u0, u1, u2, rfl⟩ := ints3 hI
  exact m1U_3 (rest := rest) B X T C FX NX hlen HK g1 g2 hro hrow hin' hn1 hn2 hn3 c1 hd hu hret
end
end
section
section
set_option maxRecDepth 100000
set_option maxHeartbeats 2000000
/-- one list of ints stands ahead of another -/
noncomputable def ltL : List Int → List Int → Bool
  | [], [] => false
  | [], _ :: _ => true
  | _ :: _, [] => false
  | x :: xs, y :: ys => if x = y then ltL xs ys else decide (x < y)
theorem ltL_nil_l (ys : List Int) : ltL [] ys = decide (0 < ys.length) := by cases ys <;> simp [ltL]
theorem ltL_nil_r (xs : List Int) : ltL xs [] = false := by cases xs <;> simp [ltL]
theorem drop_at {α : Type} {l : List α} {i : Nat} (h : i < l.length) : l.drop i = l[i] :: l.drop (i + 1) := List.drop_eq_getElem_cons h
theorem rich_lt_int {prog : Program} {w : World} {A : Around} {E : Value → Shared → Prop} {s : Shared} {a b : Int} {t u : Tok} {Q : Value → Shared → Prop} (h : Q (.bool (decide (a < b))) s) : wpAny (model prog w) A (richCompare .Lt (.int a t) (.int b u)) Q E s := wpAny_lt_int h
open AutoSeq1 (wpAny_loadPart') in
open MeetsSeq3 in
theorem lt_loop (l b : Addr) {ws us : List Value} {xs ys : List Int} (hx : IntsAre ws xs) (hy : IntsAre us ys) (n n2 : Nat) (k : Nat) : ∀ i : Nat, xs.length - i = k → i ≤ xs.length → i ≤ ys.length →
    Meets (Builtin.«list.__eq__.loop» ⟨[.ref l, .ref b, rawInt i, rawInt 0], []⟩)
      (fun _ R s => s.heap.get? l = some { cls := .type "list", dict := none, data := .seq ws.toArray n, slots := #[] } ∧ s.heap.get? b = some { cls := .type "list", dict := none, data := .seq us.toArray n2, slots := #[] } ∧
        R (.ok (.ret (.bool (ltL (xs.drop i) (ys.drop i))))) s) := by
  induction k with
  | zero =>
    intro i hk h1 h2 prog w A R s h
    obtain ⟨hp, g, d, tk, os⟩ := s; obtain ⟨hl, hb, h⟩ := h
    wp_walk using wpAny_loadPart' hl, wpAny_loadPart' hb
    have lx := hx.length
    have ly := hy.length
    have hi1 : ws.toArray[((i : Nat) : Int).toNat]? = none := by simp; omega
    have hd : xs.drop i = [] := by simp; omega
    rw [hd, ltL_nil_l] at h
    rw [hi1]
    wp_walk using wpAny_loadPart' hl, wpAny_loadPart' hb
    have e : (decide (ws.toArray.size < us.toArray.size)) = decide (0 < (ys.drop i).length) := by
      simp only [List.size_toArray, List.length_drop, decide_eq_decide]; omega
    show R (.ok (.ret (.bool (decide (ws.toArray.size < us.toArray.size))))) _
    rw [e]
    exact h
  | succ k ih =>
    intro i hk h1 h2 prog w A R s h
    obtain ⟨hp, g, d, tk, os⟩ := s; obtain ⟨hl, hb, h⟩ := h
    have lx := hx.length
    have ly := hy.length
    wp_walk using wpAny_loadPart' hl, wpAny_loadPart' hb
    have hlt : i < xs.length := by omega
    obtain ⟨t, e1⟩ := hx.get i _ (List.getElem?_eq_getElem hlt)
    have hi1 : ws.toArray[((i : Nat) : Int).toNat]? = some (.int xs[i] t) := by simpa using e1
    have hc : ((i : Int) + 1) = ((i + 1 : Nat) : Int) := by push_cast; rfl
    rw [drop_at hlt] at h
    rw [hi1]
    by_cases hlt2 : i < ys.length
    · obtain ⟨u, e2⟩ := hy.get i _ (List.getElem?_eq_getElem hlt2)
      have hi2 : us.toArray[((i : Nat) : Int).toNat]? = some (.int ys[i] u) := by simpa using e2
      rw [drop_at hlt2] at h
      rw [hi2]
      refine wpAny_bind (wpAny_eqBool_int ?_)
      by_cases hxy : xs[i] = ys[i]
      · simp only [ltL, if_pos hxy] at h
        have hb' : (xs[i] == ys[i]) = true := by simp [hxy]
        rw [hb']
        wp_walk
        rw [hc]
        exact ⟨plainId_quiet plain_eq_loop _, codeAny_builtin entry_eq_loop (by
          rw [Around.under_plainId plain_eq_loop _]
          exact ih (i + 1) (by omega) (by omega) (by omega) prog w A R _ ⟨hl, hb, h⟩)⟩
      · simp only [ltL, if_neg hxy] at h
        have hb' : (xs[i] == ys[i]) = false := by simp [hxy]
        rw [hb']
        wp_walk using wpAny_loadPart' hl, wpAny_loadPart' hb
        rw [hi1, hi2]
        refine wpAny_bind (rich_lt_int ?_)
        wp_walk
        exact h
    · have hi2 : us.toArray[((i : Nat) : Int).toNat]? = none := by simp; omega
      have hd : ys.drop i = [] := by simp; omega
      rw [hd] at h
      simp only [ltL] at h
      rw [hi2]
      wp_walk using wpAny_loadPart' hl, wpAny_loadPart' hb
      have e : (decide (ws.toArray.size < us.toArray.size)) = false := by
        simp only [List.size_toArray, decide_eq_false_iff_not]; omega
      show R (.ok (.ret (.bool (decide (ws.toArray.size < us.toArray.size))))) _
      rw [e]
      exact h

open AutoSeq1 (wpAny_loadPart') in
open MeetsSeq3 in
theorem list_lt (l b : Addr) {ws us : List Value} {xs ys : List Int} (hx : IntsAre ws xs) (hy : IntsAre us ys) (n n2 : Nat) :
    Meets (Builtin.«list.__lt__» ⟨[.ref l, .ref b], []⟩)
      (fun _ R s => s.heap.get? l = some { cls := .type "list", dict := none, data := .seq ws.toArray n, slots := #[] } ∧ s.heap.get? b = some { cls := .type "list", dict := none, data := .seq us.toArray n2, slots := #[] } ∧
        R (.ok (.ret (.bool (ltL xs ys)))) s) := by
  intro prog w A R s h
  obtain ⟨hp, g, d, tk, os⟩ := s; obtain ⟨hl, hb, h⟩ := h
  have f3 := AutoSeq1.sub_list_list
  wp_walk using wpAny_loadPart' hl, wpAny_loadPart' hb
  exact ⟨plainId_quiet plain_eq_loop _, codeAny_builtin entry_eq_loop (by
    rw [Around.under_plainId plain_eq_loop _]
    exact lt_loop l b hx hy n n2 _ 0 rfl (Nat.zero_le _) (Nat.zero_le _) prog w A R _ ⟨hl, hb, by simpa using h⟩)⟩
section
variable {prog : Program} {w : World} {A : Around} {E : Value → Shared → Prop} {s : Shared}
theorem key_lt {a b : Addr} {ws us : List Value} {xs ys : List Int} {n k : Nat} {Q : Bool → Shared → Prop} (hu : A.units < cLine) (ha : s.heap.get? a = some (W.listOf ws.toArray n)) (hb : s.heap.get? b = some (W.listOf us.toArray k)) (hx : IntsAre ws xs) (hy : IntsAre us ys)
    (h : Q (ltL xs ys) s) : wpAny (model prog w) A (keyLt' oneType' (.ref a) (.ref b)) Q E s := by
  rw [keyLt'_oneType, oneLt'_eq]
  simp only [if_true]
  refine wpAny_bind (wpAny_cRoomFor hu ?_)
  refine wpAny_bind (wpAny_callSpecialIfBound?_slot (name := Str.ofString "__lt__") ⟨_, ha, rfl⟩ F.slot_list_lt ?_)
  refine call_meets F.slot_list_lt ⟨_, ha, rfl⟩ F.entry_list_lt (F.args_list_lt_2 _ _) (list_lt a b hx hy n k) ⟨ha, hb, ?_⟩
  exact wpAny_truthy_bool h
end
/-- the tree of questions, answered by c -/
noncomputable def runB {α : Type} (n : Nat) (c : Nat → Nat → Bool) : KasT α → Option α
  | .ret a => some a
  | .ask i j k => if i < n ∧ j < n then runB n c (k (c i j)) else none
theorem runB_wp {α : Type} {n : Nat} {c : Nat → Nat → Bool} {cmp : Nat → Nat → (Bool → Shared → Prop) → Shared → Prop} {s : Shared}
    (hc : ∀ i j C, i < n → j < n → C (c i j) s → cmp i j C s) {Q : α → Shared → Prop} {a : α} : ∀ t : KasT α, runB n c t = some a → Q a s → t.kasWp cmp Q s
  | .ret a', h, hq => by
    simp only [runB, Option.some.injEq] at h
    subst h; exact hq
  | .ask i j k, h, hq => by
    unfold runB at h
    split at h
    · rename_i hij
      exact hc i j _ hij.1 hij.2 (runB_wp hc (k (c i j)) h hq)
    · cases h
theorem RowsL.at {led : List (Addr × Obj)} : ∀ {vs : List Value} {ds : List (List Int)}, RowsL led vs ds → ∀ i, i < ds.length → ∃ b ws c, vs.getD i Value.none = .ref b ∧ (b, W.listOf ws.toArray c) ∈ led ∧ IntsAre ws (ds.getD i [])
  | [], [], _, _, h => absurd h (Nat.not_lt_zero _)
  | _ :: _, _ :: _, ⟨⟨b, ws, c, e, hm, hi⟩, _⟩, 0, _ => ⟨b, ws, c, e, hm, hi⟩
  | _ :: _, _ :: _, ⟨_, r⟩, i + 1, h => by simpa using RowsL.at r i (by simpa using h)
theorem RowsL.perm {led : List (Addr × Obj)} {vs : List Value} {ds : List (List Int)} (R : RowsL led vs ds) : ∀ (p : List Nat), (∀ i ∈ p, i < ds.length) → RowsL led (p.map fun i => vs.getD i Value.none) (p.map fun i => ds.getD i [])
  | [], _ => trivial
  | i :: p, h => by
    obtain ⟨b, ws, c, e, hm, hi⟩ := R.at i (h i (.head _))
    exact ⟨⟨b, ws, c, e, hm, hi⟩, RowsL.perm R p fun j hj => h j (.tail _ hj)⟩
/-- the order in which the rows are put -/
noncomputable def permOf (D : List (List Int)) : Option (Array Nat) := runB D.length (fun i j => ltL (D.getD i []) (D.getD j [])) (kas_sort D.length)
theorem rows_sort {w : World} {A : Around} {E : Value → Shared → Prop} {s : Shared} {h₀ : Heap} {L ro : Addr} {m : Str → Option Value} {rest : List (Addr × Obj)} {vs : List Value} {D D' : List (List Int)} {p : Array Nat} {rc : Nat} {Q : Value → Shared → Prop}
    (F : Fr h₀ L s.heap m) (N : News h₀ L s.heap ((ro, W.listOf vs.toArray rc) :: rest)) (hR : RowsL rest vs D) (hr : ∀ q ∈ rest, q.1 ≠ ro) (hu : A.units + 1 < cLine) (h2 : 2 ≤ D.length) (h64 : D.length < 64)
    (hp : permOf D = some p) (hpl : ∀ i ∈ p.toList, i < D.length) (hD : p.toList.map (fun i => D.getD i []) = D')
    (h : ∀ h' vs' c, Fr h₀ L h' m → RowsL rest vs' D' → News h₀ L h' ((ro, W.listOf vs'.toArray c) :: rest) → Q .none { s with heap := h' }) :
    wpAny (model PG w) A (call (.builtin "list.sort") [.ref ro]) Q E s := by
  have hl := hR.len
  refine kas_lsort (T := .type "list") (vs := vs) F N (.head hr) rfl (by omega) (by omega) (fun e1 h' F' N' v hv => ?_) rfl fun e1 h' F' N' => ?_
  · obtain ⟨i, hi⟩ := List.mem_iff_getElem?.mp hv
    obtain ⟨d, b, ws, c, _, rfl, hm, _⟩ := hR.get i hi
    exact (Looks.ld (N' (b, W.listOf ws.toArray c) (.tail _ hm)).1).andThen .now
  · rw [hl]
    refine runB_wp (a := p) (c := fun i j => ltL (D.getD i []) (D.getD j [])) (n := D.length) (fun i j C hi hj hc => ?_) _ hp ?_
    · obtain ⟨b, ws, c, e, hm, hx⟩ := hR.at i hi
      obtain ⟨b', ws', c', e', hm', hx'⟩ := hR.at j hj
      unfold kas_ask
      rw [e, e']
      refine key_lt ?_ (N' _ (.tail _ hm)).1 (N' _ (.tail _ hm')).1 hx hx' hc
      exact hu
    · refine KasFin.intro F' N' (.head hr) fun h2 c F2 N2 => ?_
      refine h h2 _ c F2 ?_ N2
      rw [← hD]
      exact hR.perm _ hpl
end
end
section
section
set_option maxRecDepth 100000
set_option maxHeartbeats 2000000
/-- the rows behind the sort -/
noncomputable def rows3 : List (List Int) := [[0, 0, 0], [0, 0, 1], [0, 1], [1, 0, 0], [1, 0, 1], [1, 1]]
noncomputable def rows4 : List (List Int) := [[0, 0, 0, 0, 1, 0, 0], [0, 0, 0, 0, 1, 0, 1], [0, 0, 0, 1, 0, 0, 0], [0, 0, 0, 1, 0, 0, 1], [0, 0, 1, 0, 1, 0, 0], [0, 0, 1, 0, 1, 0, 1], [0, 0, 1, 1, 0, 0, 0], [0, 0, 1, 1, 0, 0, 1], [0, 1, 0, 1, 0, 0], [0, 1, 0, 1, 0, 1], [0, 1, 1, 0, 0, 0], [0, 1, 1, 0, 0, 1], [1, 0, 0, 0, 1, 0, 0], [1, 0, 0, 0, 1, 0, 1], [1, 0, 0, 1, 0, 0, 0], [1, 0, 0, 1, 0, 0, 1], [1, 0, 1, 0, 1, 0, 0], [1, 0, 1, 0, 1, 0, 1], [1, 0, 1, 1, 0, 0, 0], [1, 0, 1, 1, 0, 0, 1], [1, 1, 0, 1, 0, 0], [1, 1, 0, 1, 0, 1], [1, 1, 1, 0, 0, 0], [1, 1, 1, 0, 0, 1]]
noncomputable def per4 (dn : Bool) : List Nat := if dn then [0, 12, 4, 2, 20, 8, 16, 14, 1, 13, 5, 6, 19, 7, 23, 22, 15, 3, 11, 10, 21, 9, 17, 18] else [23, 22, 19, 7, 17, 18, 21, 9, 11, 10, 15, 3, 4, 2, 0, 12, 5, 6, 1, 13, 16, 14, 20, 8]
noncomputable def per3 (dn : Bool) : List Nat := if dn then [0, 3, 1, 5, 2, 4] else [5, 4, 2, 0, 1, 3]
/-- the rows ahead of the sort: the sorted ones in another order -/
theorem perm4_up : permOf ((arrF 4).map (ansF false 4)) = some (per4 false).toArray := by decide +kernel
theorem perm4_dn : permOf ((arrF 4).map (ansF true 4)) = some (per4 true).toArray := by decide +kernel
theorem perm3_up : permOf ((arrF 3).map (ansF false 3)) = some (per3 false).toArray := by decide +kernel
theorem perm3_dn : permOf ((arrF 3).map (ansF true 3)) = some (per3 true).toArray := by decide +kernel
theorem perm4 (dn : Bool) : permOf ((arrF 4).map (ansF dn 4)) = some (per4 dn).toArray := by cases dn; exact perm4_up; exact perm4_dn
theorem perm3 (dn : Bool) : permOf ((arrF 3).map (ansF dn 3)) = some (per3 dn).toArray := by cases dn; exact perm3_up; exact perm3_dn
theorem len4 (dn : Bool) : ((arrF 4).map (ansF dn 4)).length = 24 := by rw [List.length_map, arr4_len]
theorem len3 (dn : Bool) : ((arrF 3).map (ansF dn 3)).length = 6 := by rw [List.length_map, arr3_len]
theorem per4_lt (dn : Bool) : ∀ i ∈ (per4 dn).toArray.toList, i < ((arrF 4).map (ansF dn 4)).length := by rw [len4]; cases dn <;> decide
theorem per3_lt (dn : Bool) : ∀ i ∈ (per3 dn).toArray.toList, i < ((arrF 3).map (ansF dn 3)).length := by rw [len3]; cases dn <;> decide
theorem per4_rows (dn : Bool) : (per4 dn).toArray.toList.map (fun i => ((arrF 4).map (ansF dn 4)).getD i []) = rows4 := by cases dn <;> decide +kernel
theorem per3_rows (dn : Bool) : (per3 dn).toArray.toList.map (fun i => ((arrF 3).map (ansF dn 3)).getD i []) = rows3 := by cases dn <;> decide +kernel
end
end
section
section
set_option maxRecDepth 100000
set_option maxHeartbeats 2000000
noncomputable def zipBody : List Stmt := forBody (lawBody.getD 8 default)
theorem zip_turn {w : World} {p : Program} {loose : List Str} {mean : ExcName → Option Value} {mg mb : Str → Option Value}
    {dp un : Nat} {gd : Option (List Code)} {a : Addr} {ccd : Value} {outer : List Env} {A₀ : Around} {base h₀ : Heap} {L : Addr} {m₁ : Str → Option Value} {s : Shared} {Q : Flow → Shared → Prop} {E : Value → Shared → Prop}
    {b1 b2 : Addr} {w1 w2 : List Value} {c1 c2 : Nat} {d1 d2 : List Int} {rest : List (Addr × Obj)}
    (B : Below A₀ base outer h₀) (X : (Mine.hd.heap_1 w.params).In h₀) (T : Top p loose mean mg mb h₀)
    (F : Fr h₀ L s.heap (fun y => if y = Str.ofString "other" then some (.ref b2) else if y = Str.ofString "one" then some (.ref b1) else m₁ y))
    (N : News h₀ L s.heap ((b1, W.listOf w1.toArray c1) :: (b2, W.listOf w2.toArray c2) :: rest)) (hI1 : IntsAre w1 d1) (hI2 : IntsAre w2 d2) (l1 : d1.length ≤ 7) (l2 : d2.length ≤ 7) (hne : d2.take d1.length ≠ d1)
    (hd : dp + 20 < recursionLimit) (hu : un + 200 < cLine)
    (hret : ∀ h' tk', Fr h₀ L h' (fun y => if y = Str.ofString "other" then some (.ref b2) else if y = Str.ofString "one" then some (.ref b1) else m₁ y) → News h₀ L h' rest → Q .next { s with heap := h', toks := tk' }) :
    wpAny (model PG w) (ktrTop dp un gd (Str.ofString "law") (scp lawDef) L a ccd (lawCl L) outer) (execs zipBody (envL L a ccd)) Q E s := by
  have hb : zipBody = [_] := rfl
  rw [hb]
  (try k_unmd); (try k_fold)




  k_steps
  · exact absurd (by rename_i kE; simpa using kE) hne
  · refine hret _ _ (by k_asm) (fun q hq => ?_)
    rename News _ _ _ _ => kN
    exact kN q (by simp [hq])
theorem slice_from1 {w : World} {A : Around} {E : Value → Shared → Prop} {s : Shared} {h₀ : Heap} {L l : Addr} {m : Str → Option Value} {news : List (Addr × Obj)} {vs : List Value} {c : Nat} {t : Tok} {value slice : Expr} {Q : Value → Shared → Prop}
    (F : Fr h₀ L s.heap m) (N : News h₀ L s.heap news) (hm : (l, W.listOf vs.toArray c) ∈ news) (hz : vs.length ≤ 64)
    (h : ∀ h', Fr h₀ L h' m → News h₀ L h' ((s.heap.objs.size + 1, W.listOf (vs.drop 1).toArray 0) :: news) → (∀ q ∈ news, q.1 < s.heap.objs.size) → Q (.ref (s.heap.objs.size + 1)) { s with heap := h' })
    (hs : subscripted slice false (.ref l) (.ref s.heap.objs.size) = operate [.ref s.heap.objs.size, .ref l] (getItem (.ref l) (.ref s.heap.objs.size)) := by with_unfolding_all rfl) :
    wpAny (model PG w) A (subscriptTail value slice (.ref l) (.ref s.heap.objs.size)) Q E { s with heap := s.heap.push { cls := .type "slice", data := .fields #[.int 1 t, .none, .none] } } := by
  have hl : s.heap.IsList l vs.toArray := PySem.IsL.isList (n := c) (N _ hm).1
  have lt : ∀ q ∈ news, q.1 < s.heap.objs.size := fun q hq => Heap.lt_size (N q hq).1
  refine tail_any (hl.push _).typeIs slot_list_getitem.lookup (wpAny_getItem_list_slice (lo := some ((1 : Nat) : Int)) (hi := none) (st := none) (hl.push _) (Heap.IsSliceOf.new ..) (.int 1 t) .none .none (by simp) ?_ (by rw [List.size_toArray, sizeLine_eq]; omega)) hs
  rw [slicePick_from' vs.toArray 1]
  have hz1 : (s.heap.push { cls := .type "slice", data := .fields #[.int 1 t, .none, .none] }).objs.size = s.heap.objs.size + 1 := Heap.size_push ..
  refine hz1 ▸ h _ ((F.push _).push _) (fun q hq => ?_) lt
  rcases List.mem_cons.mp hq with rfl | hq
  · refine ⟨hz1 ▸ Heap.get?_push_size _ rfl, Nat.ne_of_gt (Nat.lt_succ_of_lt F.ns.lt), ?_⟩
    exact Heap.get?_none_of_le (Nat.le_trans F.above (Nat.le_succ_of_le (Nat.le_of_lt F.ns.lt)))
  · exact ⟨Heap.get?_push_of_some _ (Heap.get?_push_of_some _ (N q hq).1), (N q hq).2⟩
theorem zip_loop {w : World} {p : Program} {loose : List Str} {mean : ExcName → Option Value} {mg mb : Str → Option Value}
    {dp un : Nat} {gd : Option (List Code)} {a : Addr} {ccd : Value} {outer : List Env} {A₀ : Around} {base h₀ : Heap} {L : Addr} {m₀ : Str → Option Value} {s : Shared} {Q : Flow → Shared → Prop} {E : Value → Shared → Prop}
    {ro : Addr} {vs : List Value} {rc : Nat} {D : List (List Int)} {rest : List (Addr × Obj)}
    (B : Below A₀ base outer h₀) (X : (Mine.hd.heap_1 w.params).In h₀) (T : Top p loose mean mg mb h₀)
    (F : Fr h₀ L s.heap m₀) (N : News h₀ L s.heap ((ro, W.listOf vs.toArray rc) :: rest)) (hm : m₀ (Str.ofString "rows") = some (.ref ro)) (hR : RowsL rest vs D) (hrro : ∀ p ∈ rest, p.1 ≠ ro)
    (hl : D.length ≤ 24) (hz : ∀ d ∈ D, d.length ≤ 7) (hap : ∀ i d1 d2, D[i]? = some d1 → D[i + 1]? = some d2 → d2.take d1.length ≠ d1)
    (hd : dp + 20 < recursionLimit) (hu : un + 200 < cLine) (hE : PassesOwn (model PG w) (ktrTop dp un gd (Str.ofString "law") (scp lawDef) L a ccd (lawCl L) outer) (envL L a ccd) E)
    (hret : ∀ m' h' tk', (∀ y, y ≠ Str.ofString "one" → y ≠ Str.ofString "other" → m' y = m₀ y) → Fr h₀ L h' m' → News h₀ L h' ((ro, W.listOf vs.toArray rc) :: rest) → Q .next { s with heap := h', toks := tk' }) :
    wpAny (model PG w) (ktrTop dp un gd (Str.ofString "law") (scp lawDef) L a ccd (lawCl L) outer) (exec (lawBody.getD 8 default) (envL L a ccd)) Q E s := by
  have hb : lawBody.getD 8 default = Stmt.For _ _ _ _ _ := rfl
  rw [hb]
  refine For_pair3 h₀ rfl rfl rfl rfl ?_ (by intro _; rfl) hE
  (try k_unmd); (try k_fold)
  have F' : Fr h₀ L s.heap (fun y => if y = Str.ofString "rows" then some (.ref ro) else m₀ y) := by
    have e : (fun y => if y = Str.ofString "rows" then some (Value.ref ro) else m₀ y) = m₀ := by
      funext y
      by_cases e : y = Str.ofString "rows"
      · rw [if_pos e, e, hm]
      · rw [if_neg e]
    rw [e]; exact F
  clear F
  repeat ((fail_if_success (with_reducible show wpAny _ _ (subscriptTail _ _ _ _) _ _ _)); (first | (k_unfold; (try dsimp only)) | (k_end; wrow_close) | walk1 | (dsimp only; walk1) | (leave1; walk_say "STEP leave1"; try dsimp only) | fail "no step"))
  have hvl : vs.length ≤ 24 := by rw [hR.len]; exact hl
  refine' slice_from1 F' N (.head _) (by omega) (fun h1 F1 N1 lt1 => ?_) ?hs
  (case hs => with_unfolding_all rfl)
  repeat ((fail_if_success (with_reducible show wpAny _ _ (call _ _) _ _ _)); (first | (k_unfold; (try dsimp only)) | (k_end; wrow_close) | walk1 | (dsimp only; walk1) | (leave1; walk_say "STEP leave1"; try dsimp only) | fail "no step"))
  generalize hS : s.heap.objs.size + 1 = S at N1
  have lt2 : ∀ q ∈ (ro, W.listOf vs.toArray rc) :: rest, @LT.lt Nat _ q.1 S := fun q hq => by rw [← hS]; exact Nat.lt_succ_of_lt (lt1 q hq)
  clear lt1
  have hl1 : h1.IsList ro vs.toArray := PySem.IsL.isList (n := rc) (N1 _ (.tail _ (.head _))).1
  have hl2 : h1.IsList S (vs.drop 1).toArray := PySem.IsL.isList (n := 0) (N1 _ (.head _)).1
  refine call_zip_2 hl1 hl2 fun h2 z1 z2 z3 z4 z5 z6 zk => ?_
  dsimp only at z1 z2 z3 z4 z5 z6 zk
  show wpAny _ _ (pyIter _) _ _ _
  dsimp only
  generalize hzz : h1.objs.size = z at z1 z2 z3 z4 z5 z6
  have nS : @LT.lt Nat _ S z := hzz ▸ Heap.lt_size (N1 _ (.head _)).1
  have nro : @LT.lt Nat _ ro z := hzz ▸ Heap.lt_size (N1 _ (.tail _ (.head _))).1
  have nL : @LT.lt Nat _ L z := hzz ▸ F1.ns.lt
  have roS : @LT.lt Nat _ ro S := lt2 _ (.head _)
  have nrest : ∀ q ∈ rest, @LT.lt Nat _ q.1 S := fun q hq => lt2 q (.tail _ hq)
  have D1 : ZipApart (z + 4) (z + 2) (z + 3) z (z + 1) ro S := by
    constructor <;> (show @Ne Nat _ _; omega)
  have st : IsZip h2 (z + 4) (z + 2) (z + 3) .none ∧ IsPair h2 (z + 2) (.ref z) (.ref (z + 1)) ∧ (∃ a b, IsPair h2 (z + 3) a b) ∧ h2.IsListIter z ro 0 ∧ h2.IsListIter (z + 1) S 0 ∧ h2.IsList ro vs.toArray ∧ h2.IsList S (vs.drop 1).toArray :=
    ⟨z1, z2, ⟨_, _, z3⟩, z4, z5, hl1.at fun o e => zk _ o e, hl2.at fun o e => zk _ o e⟩
  have WZ := WalksT.zip2 (prog := PG) (w := w) (A := ktrTop dp un gd (Str.ofString "law") (scp lawDef) L a ccd (lawCl L) outer) rfl (z + 4) (z + 2) (z + 3) z (z + 1) ro S D1 vs.toArray (vs.drop 1).toArray
  have F2 := F1.keeps zk
  have N2 : News h₀ L h2 ((ro, W.listOf vs.toArray rc) :: rest) := fun q hq => ⟨zk _ _ (N1 q (.tail _ hq)).1, (N1 q (.tail _ hq)).2⟩
  have fresh : ∀ b, @LE.le Nat _ z b → h₀.get? b = none := fun b hb => Heap.get?_none_of_le (Nat.le_trans F1.above (Nat.le_trans (Nat.le_of_lt nL) hb))
  refine WZ.self 0 _ _ _ st ?_
  refine ⟨z + 4, _, _, _, _, _, _, (fun i v0 v1 => vs[i]? = some v0 ∧ vs[i + 1]? = some v1), _, (ro, W.listOf vs.toArray rc) :: rest, (fun _ m₁ news₁ => (∀ y, y ≠ Str.ofString "one" → y ≠ Str.ofString "other" → m₁ y = m₀ y) ∧ news₁ = (ro, W.listOf vs.toArray rc) :: rest),
    rfl, WZ, ?_, ?_, ?_, ?_, st, F2, N2, ⟨?_, rfl⟩, ?_, ?_⟩
  · rintro i vals ⟨x, y, hx, hy, rfl⟩
    exact ⟨x, y, rfl, by simpa using hx, by simpa [Nat.add_comm] using hy⟩
  · intro hm'
    simp only [List.mem_cons, List.not_mem_nil, or_false] at hm'
    have n0 : @Ne Nat L ro := fun e => (N1 _ (.tail _ (.head _))).2.1 e.symm
    have n1 : @Ne Nat L S := fun e => (N1 _ (.head _)).2.1 e.symm
    rcases hm' with e | e | e | e | e | e | e
    · have e' : @Eq Nat L (z + 4) := e
      omega
    · have e' : @Eq Nat L (z + 2) := e
      omega
    · have e' : @Eq Nat L (z + 3) := e
      omega
    · have e' : @Eq Nat L z := e
      omega
    · have e' : @Eq Nat L (z + 1) := e
      omega
    · exact n0 e
    · exact n1 e
  · intro b hb
    simp only [List.mem_cons, List.not_mem_nil, or_false] at hb
    rcases hb with rfl | rfl | rfl | rfl <;> exact fresh _ (by omega)
  · intro q hq hb
    have hq' : @LT.lt Nat _ q.1 S := lt2 q hq
    simp only [List.mem_cons, List.not_mem_nil, or_false] at hb
    rcases hb with e | e | e | e <;> (rw [e] at hq'; omega)
  · intro y _ _
    show (if y = Str.ofString "rows" then some (Value.ref ro) else m₀ y) = m₀ y
    by_cases e : y = Str.ofString "rows"
    · rw [if_pos e, e, hm]
    · rw [if_neg e]
  · rintro i v0 v1 m₁ news₁ s₁ own ⟨hh, tk, rfl⟩ hi ⟨e0, e1⟩ ⟨hm1, rfl⟩ _ _ F3 N3
    obtain ⟨d1, b1, w1, c1, hd1, rfl, mem1, hI1⟩ := hR.get i e0
    obtain ⟨d2, b2, w2, c2, hd2, rfl, mem2, hI2⟩ := hR.get (i + 1) e1
    refine zip_turn (c1 := c1) (c2 := c2) (rest := own ++ (ro, W.listOf vs.toArray rc) :: rest) B X T F3 (fun q hq => N3 q ?_) hI1 hI2 (hz _ (List.mem_of_getElem? hd1)) (hz _ (List.mem_of_getElem? hd2)) (hap i d1 d2 hd1 hd2) hd hu fun h' tk' F4 N4 => ?_
    · simp only [List.mem_cons, List.mem_append] at hq ⊢
      rcases hq with rfl | rfl | hq
      · simp [mem1]
      · simp [mem2]
      · exact hq
    · refine ⟨rfl, h', tk', _, (ro, W.listOf vs.toArray rc) :: rest, rfl, F4, N4, rfl, ?_, rfl⟩
      intro y n1 n2
      dsimp only
      rw [if_neg n2, if_neg n1]
      exact hm1 y n1 n2
  · rintro h' tk' m' news' F' N' _ ⟨hm', rfl⟩
    exact hret m' h' tk' hm' F' N'
end
end
section
section
set_option maxRecDepth 100000
set_option maxHeartbeats 2000000
/-- the hash of a tuple of ints -/
noncomputable def hk (k : List Int) : Int := reduceHash (Builtin.Tuple.tupleHashOf (k.map hashInt))
noncomputable def hAt (keys : List (List Int)) (i : Nat) : Int := (keys[i]?.map hk).getD 0
/-- the search in the table, with no heap in sight -/
noncomputable def pSearch (t : SetTable) (keys : List (List Int)) (k : List Int) : Nat → Option SetTable.Probe → Option (Sum Nat Nat)
  | 0, _ => none
  | f + 1, stand =>
    match t.probe (hAt keys) (hk k) (stand.getD (t.probeStart (hk k))) with
    | some (.empty j none) => some (.inr j)
    | some (.candidate j i next) =>
      match keys[i]? with
      | none => none
      | some k' => if t.slot j = .live i then (if k' = k then some (.inl i) else pSearch t keys k f (some next)) else none
    | _ => none
section
variable {w : World} {A : Around} {E : Value → Shared → Prop} {s : Shared} {P : List Int → Addr → Prop}
noncomputable abbrev TupI (w : World) (h : Heap) (k : List Int) (b : Addr) : Prop := IsTupleKey (intKind PG w) h k b
/-- a tuple of ints of which P holds -/
noncomputable def TupK (P : List Int → Addr → Prop) (w : World) (h : Heap) (k : List Int) (b : Addr) : Prop := TupI w h k b ∧ P k b
/-- the entries of a set of tuples -/
inductive Ents (P : List Int → Addr → Prop) (w : World) (h : Heap) : List (Int × Value) → List (List Int) → Prop
  | nil : Ents P w h [] []
  | cons {b : Addr} {k : List Int} {es : List (Int × Value)} {ks : List (List Int)} : TupK P w h k b → Ents P w h es ks → Ents P w h ((hk k, .ref b) :: es) (k :: ks)
theorem Ents.length {h : Heap} {es : List (Int × Value)} {ks : List (List Int)} (x : Ents P w h es ks) : es.length = ks.length := by induction x <;> simp_all
theorem Ents.get {h : Heap} : ∀ {es : List (Int × Value)} {ks : List (List Int)}, Ents P w h es ks → ∀ i : Nat, (∃ k b, ks[i]? = some k ∧ es[i]? = some (hk k, .ref b) ∧ TupK P w h k b) ∨ (ks[i]? = none ∧ es[i]? = none)
  | _, _, .nil, _ => .inr ⟨rfl, rfl⟩
  | _, _, .cons t _, 0 => .inl ⟨_, _, rfl, rfl, t⟩
  | _, _, .cons _ r, i + 1 => by simpa using r.get i
theorem Ents.hash {h : Heap} {es : List (Int × Value)} {ks : List (List Int)} (x : Ents P w h es ks) (i : Nat) : (es[i]?.map (·.1)).getD 0 = hAt ks i := by
  unfold hAt
  rcases x.get i with ⟨k, b, e1, e2, _⟩ | ⟨e1, e2⟩ <;> simp [e1, e2]
theorem Ents.mono {h h' : Heap} (hk : ∀ k b, TupK P w h k b → TupK P w h' k b) {es : List (Int × Value)} {ks : List (List Int)} (x : Ents P w h es ks) : Ents P w h' es ks := by
  induction x with
  | nil => exact .nil
  | cons t _ ih => exact .cons (hk _ _ t) ih
theorem setSearchFrom_eq (a : Addr) (x : Value) (h : Int) (adding : Bool) (fuel : Nat) (stand : Option SetTable.Probe) : setSearchFrom a x h adding (fuel + 1) stand = (do
    let (es, _, t) ← setState a
    if t.gaveWay then unsupported "set:on-a-table-that-gave-way"
    let some met := t.probe (fun i => (es[i]?.map (·.1)).getD 0) h (stand.getD (t.probeStart h)) | unsupported "internal:set-table-without-an-empty-slot"
    match met with
    | .empty j dummy =>
      match dummy with
      | none => return .free j false
      | some d =>
        if adding && t.slot d != .dummy then rule "set.search.the-dummy-was-taken"; return ← setSearchFrom a x h adding fuel none
        return .free d true
    | .candidate j i next =>
      if !t.led then
        if ← searchCouldBeSeen x ((es.filter (·.1 == h)).toList.map (·.2)) then unsupported "set:the-search-would-show-the-table"
      let some (_, y) := es[i]? | unsupported "internal:set-entry"
      let equal ← holding [y] (eqBool y x)
      let (es', _, t') ← setState a
      if adding && equal then return .there none
      let some same := t'.sameMemory t.moves t.mask | unsupported "set.changed-during-lookup:is-the-new-block-at-the-old-address"
      let still ← match (if same then t'.slot j else .empty) with
        | .live i' => match es'[i']? with
          | some (_, y') => do pure (if ← isSame y' y then some i' else none)
          | none => pure none
        | _ => pure none
      match still with
      | none => rule "set.search.anew"; setSearchFrom a x h adding fuel none
      | some i' => if equal then return .there (some i') else setSearchFrom a x h adding fuel (some next)) := rfl
theorem int_shape {k : Int} {v : Value} (h : (intKind PG w).is k v = true) : ∃ t, v = .int k t := Value.isInt_shape h
theorem items_ints {ks : List Int} {vs : List Value} (x : PySem.ItemsAre (intKind PG w) ks vs) : ∀ v ∈ vs, ∃ n t, v = .int n t := by
  induction x with
  | nil => intro v hv; cases hv
  | cons h1 _ ih =>
    intro v hv
    rcases List.mem_cons.mp hv with rfl | hv
    · obtain ⟨t, e⟩ := int_shape h1; exact ⟨_, _, e⟩
    · exact ih v hv
theorem ofClass_int (n : Nat) (i : Int) (t : Tok) : ofAClassStatement n (.int i t) = pure false := by cases n <;> rfl
theorem ofClass_tuple {n : Nat} {b : Addr} {k : List Int} {Q : Bool → Shared → Prop} (hb : TupI w s.heap k b) (h : Q false s) : wpAny (model PG w) A (ofAClassStatement (n + 1) (.ref b)) Q E s := by
  have hT := hb.typeIs
  obtain ⟨o, items, ne, ho, hc, hd, hi⟩ := hb
  unfold ofAClassStatement
  refine wpAny_bind (wpAny_typeOf hT ?_)
  dsimp only
  refine wpAny_bind (wpAny_pure ?_)
  simp only [Bool.not_true, Bool.false_eq_true, if_false]
  refine wpAny_bind (wpAny_seqItems ho hd ?_)
  dsimp only
  refine wpAny_bind ?_
  rw [← Array.forIn_toList]
  refine wpAny_forIn_list _ (fun rest r s' => r.1 = none ∧ s' = s ∧ ∀ v ∈ rest, ∃ n t, v = .int n t) _ ?_ ?_ _ _ ⟨rfl, rfl, items_ints hi⟩
  · rintro v rest r s' ⟨hr, rfl, hall⟩
    obtain ⟨i, t, rfl⟩ := hall v List.mem_cons_self
    rw [ofClass_int]
    refine wpAny_bind (wpAny_pure ?_)
    simp only [Bool.false_eq_true, if_false]
    exact wpAny_pure ⟨rfl, rfl, fun u hu' => hall u (List.mem_cons_of_mem _ hu')⟩
  · rintro ⟨r1, r2⟩ s' ⟨hr, rfl, _⟩
    simp only at hr
    subst hr
    exact wpAny_pure h
theorem seen_tuple {x : Addr} {k : List Int} {Q : Bool → Shared → Prop} (hx : TupI w s.heap k x) (stored : List Value) (hs : ∀ y ∈ stored, ∃ b k', y = .ref b ∧ TupI w s.heap k' b) (h : Q false s) :
    wpAny (model PG w) A (searchCouldBeSeen (.ref x) stored) Q E s := by
  unfold searchCouldBeSeen
  refine wpAny_bind ?_
  refine wpAny_forIn_list _ (fun rest r s' => r.1 = none ∧ s' = s ∧ ∀ y ∈ rest, ∃ b k', y = .ref b ∧ TupI w s.heap k' b) _ ?_ ?_ _ _ ⟨rfl, rfl, hs⟩
  · rintro v rest r s' ⟨hr, rfl, hall⟩
    obtain ⟨b, k', rfl, hb⟩ := hall v List.mem_cons_self
    have nx : ∀ u ∈ rest, ∃ b k', u = .ref b ∧ TupI w s'.heap k' b := fun u hu' => hall u (List.mem_cons_of_mem _ hu')
    dsimp only
    by_cases hv : (x == b || (carriedByValue (.ref x) && carriedByValue (.ref b))) = true
    · rw [if_pos hv]
      exact wpAny_pure ⟨rfl, rfl, nx⟩
    · rw [if_neg hv]
      refine wpAny_bind (wpAny_eqIsQuiet_tuple hx ?_)
      simp only [Bool.not_true, Bool.false_eq_true, if_false]
      refine wpAny_bind (wpAny_eqIsQuiet_tuple hb ?_)
      simp only [Bool.not_true, Bool.false_eq_true, if_false]
      refine wpAny_bind (ofClass_tuple hx ?_)
      simp only [Bool.false_eq_true, if_false]
      refine wpAny_bind (ofClass_tuple hb ?_)
      simp only [Bool.false_eq_true, if_false]
      exact wpAny_pure ⟨rfl, rfl, nx⟩
  · rintro ⟨r1, r2⟩ s' ⟨hr, rfl, _⟩
    simp only at hr
    subst hr
    exact wpAny_pure h
theorem hashByValue_tuple {n : Nat} {b : Addr} {k : List Int} {Q : Bool → Shared → Prop} (hb : TupI w s.heap k b) (h : Q true s) : wpAny (model PG w) A (hashByValue (n + 1) (.ref b)) Q E s := by
  have hT := hb.typeIs
  obtain ⟨o, items, ne, ho, hc, hd, hi⟩ := hb
  unfold hashByValue
  refine wpAny_bind (wpAny_specialOf hT F.slot_tuple_hash.lookup ?_)
  show wpAny _ _ (seqItems? (.ref b) >>= _) _ _ s
  refine wpAny_bind (wpAny_seqItems ho hd ?_)
  refine wpAny_bind ?_
  show wpAny _ _ (forIn items _ _) _ _ s
  rw [← Array.forIn_toList]
  refine wpAny_forIn_list _ (fun rest r s' => r.1 = none ∧ s' = s ∧ ∀ v ∈ rest, ∃ n t, v = .int n t) _ ?_ ?_ _ _ ⟨rfl, rfl, items_ints hi⟩
  · rintro v rest r s' ⟨hr, rfl, hall⟩
    obtain ⟨i, t, rfl⟩ := hall v List.mem_cons_self
    have e : hashByValue n (.int i t) = pure true := by cases n <;> rfl
    rw [e]
    refine wpAny_bind (wpAny_pure ?_)
    simp only [Bool.not_true, Bool.false_eq_true, if_false]
    exact wpAny_pure ⟨rfl, rfl, fun u hu' => hall u (List.mem_cons_of_mem _ hu')⟩
  · rintro ⟨r1, r2⟩ s' ⟨hr, rfl, _⟩
    simp only at hr
    subst hr
    exact wpAny_pure h
end
end
end
section
section
set_option maxRecDepth 100000
set_option maxHeartbeats 2000000
section
variable {f : Nat → Option (List Int)} {M : Nat}
/-- the slots that are taken, in order -/
noncomputable def slots (f : Nat → Option (List Int)) (n : Nat) : List Nat := (List.range n).filter fun j => (f j).isSome
/-- the table t with the keys in the slots' order is f -/
structure Tb (t : SetTable) (keys : List (List Int)) (M : Nat) (f : Nat → Option (List Int)) : Prop where
  mask : t.mask = M
  place : t.place = (slots f (M + 1)).toArray
  keys : keys = (List.range (M + 1)).filterMap f
  dum : t.dummies = #[]
  odd : M % 2 = 1
theorem below_go {xs : Array Nat} {j c : Nat} (hc : ∀ i, i < xs.size → (xs.getD i j < j ↔ i < c)) : ∀ fuel lo hi, hi - lo ≤ fuel → lo ≤ c → c ≤ hi → hi ≤ xs.size → SetTable.below.go xs j fuel lo hi = c
  | 0, lo, hi, h1, h2, h3, _ => by unfold SetTable.below.go; omega
  | fuel + 1, lo, hi, h1, h2, h3, h4 => by
    unfold SetTable.below.go
    by_cases hl : lo < hi
    · rw [if_pos hl]
      dsimp only
      have hm := hc ((lo + hi) / 2) (by omega)
      by_cases hv : xs.getD ((lo + hi) / 2) j < j
      · rw [if_pos hv]
        exact below_go hc fuel _ _ (by omega) (by have := hm.mp hv; omega) h3 h4
      · rw [if_neg hv]
        exact below_go hc fuel _ _ (by omega) h2 (by have : ¬ (lo + hi) / 2 < c := fun h => hv (hm.mpr h); omega) (by omega)
    · rw [if_neg hl]; omega
theorem slots_split {n j : Nat} (hj : j < n) : ∃ r, slots f n = slots f j ++ ((if (f j).isSome then [j] else []) ++ r) ∧ ∀ x ∈ r, j < x := by
  refine ⟨((List.range (n - (j + 1))).map (j + 1 + ·)).filter fun j => (f j).isSome, ?_, ?_⟩
  · have e : List.range n = List.range j ++ ([j] ++ (List.range (n - (j + 1))).map (j + 1 + ·)) := by
      have h1 : n = (j + 1) + (n - (j + 1)) := by omega
      conv => lhs; rw [h1, List.range_add, List.range_succ]
      simp
    unfold slots
    rw [e, List.filter_append, List.filter_append]
    congr 1
    congr 1
    cases h : (f j).isSome <;> simp [h]
  · intro x hx
    obtain ⟨hx, _⟩ := List.mem_filter.mp hx
    obtain ⟨y, _, rfl⟩ := List.mem_map.mp hx
    omega
theorem keys_split {n j : Nat} (hj : j < n) : (List.range n).filterMap f = (List.range j).filterMap f ++ ((f j).toList ++ ((List.range (n - (j + 1))).map (j + 1 + ·)).filterMap f) := by
  have e : List.range n = List.range j ++ ([j] ++ (List.range (n - (j + 1))).map (j + 1 + ·)) := by
    have h1 : n = (j + 1) + (n - (j + 1)) := by omega
    conv => lhs; rw [h1, List.range_add, List.range_succ]
    simp
  rw [e, List.filterMap_append, List.filterMap_append]
  congr 2
theorem slots_lt {n : Nat} : ∀ x ∈ slots f n, x < n := fun x hx => List.mem_range.mp (List.mem_filter.mp hx).1
theorem slots_len (n : Nat) : (slots f n).length = ((List.range n).filterMap f).length := by
  unfold slots
  induction List.range n with
  | nil => rfl
  | cons a l ih =>
    cases h : f a <;> simp [h, ih]
theorem Tb.below {t : SetTable} {keys : List (List Int)} (X : Tb t keys M f) {j : Nat} (hj : j ≤ M) : SetTable.below t.place j = (slots f j).length := by
  obtain ⟨r, e, hr⟩ := slots_split (f := f) (n := M + 1) (j := j) (by omega)
  have hs : t.place.size = (slots f (M + 1)).length := by rw [X.place]; simp
  have hle : (slots f j).length ≤ (slots f (M + 1)).length := by rw [e]; simp
  unfold SetTable.below
  refine below_go (fun i hi => ?_) _ _ _ (by omega) (Nat.zero_le _) (by omega) (Nat.le_refl _)
  rw [hs] at hi
  have hg : t.place.getD i j = (slots f (M + 1)).getD i j := by rw [X.place]; simp [Array.getD_eq_getD_getElem?, List.getD_eq_getElem?_getD]
  rw [hg, e]
  by_cases hc : i < (slots f j).length
  · have : (slots f j ++ ((if (f j).isSome then [j] else []) ++ r)).getD i j = (slots f j)[i] := by
      rw [List.getD_eq_getElem?_getD, List.getElem?_append_left hc, List.getElem?_eq_getElem hc]; rfl
    rw [this]
    exact ⟨fun _ => hc, fun _ => slots_lt _ (List.getElem_mem hc)⟩
  · refine ⟨fun h => absurd h ?_, fun h => absurd h hc⟩
    rw [e, List.length_append] at hi
    have hi2 : i - (slots f j).length < ((if (f j).isSome then [j] else []) ++ r).length := by omega
    rw [List.getD_eq_getElem?_getD, List.getElem?_append_right (Nat.not_lt.mp hc), List.getElem?_eq_getElem hi2]
    have hm := List.getElem_mem hi2
    rw [Option.getD_some]
    generalize ((if (f j).isSome then [j] else []) ++ r)[i - (slots f j).length] = y at hm
    rcases List.mem_append.mp hm with h | h
    · split at h
      · rw [List.mem_singleton.mp h]; omega
      · cases h
    · have := hr _ h; omega
theorem Tb.slot {t : SetTable} {keys : List (List Int)} (X : Tb t keys M f) {j : Nat} (hj : j ≤ M) : t.slot j = if (f j).isSome then .live (slots f j).length else .empty := by
  obtain ⟨r, e, hr⟩ := slots_split (f := f) (n := M + 1) (j := j) (by omega)
  unfold SetTable.slot
  rw [X.below hj, X.dum]
  have hh : SetTable.has (#[] : Array Nat) j = false := rfl
  have hp : t.place[(slots f j).length]? = ((if (f j).isSome then [j] else []) ++ r)[0]? := by
    rw [X.place, List.getElem?_toArray, e, List.getElem?_append_right (Nat.le_refl _), Nat.sub_self]
  dsimp only
  rw [hp, hh]
  cases h : (f j).isSome
  · simp only [Bool.false_eq_true, if_false, List.nil_append]
    have : (r[0]? == some j) = false := by
      cases r with
      | nil => rfl
      | cons a l =>
        have := hr a (.head _)
        simp; omega
    rw [this]; simp
  · simp
theorem Tb.key {t : SetTable} {keys : List (List Int)} (X : Tb t keys M f) {j : Nat} (hj : j ≤ M) {k : List Int} (hk : f j = some k) : keys[(slots f j).length]? = some k := by
  rw [X.keys, keys_split (f := f) (n := M + 1) (j := j) (by omega), slots_len, List.getElem?_append_right (Nat.le_refl _), Nat.sub_self, hk]
  simp
end
/-- the search over the slots themselves -/
noncomputable def fprobe (M : Nat) (f : Nat → Option (List Int)) (k : List Int) (h : Int) : Nat → Nat → Nat → Nat → Nat → Option (Bool × Nat)
  | 0, _, _, _, _ => none
  | n + 1, j, more, i, pt =>
    if M < j then none else
    match f j with
    | none => some (false, j)
    | some k' =>
      if k' = k then some (true, j) else if hk k' = h then none else
      match more with
      | m + 1 => fprobe M f k h n (j + 1) m i pt
      | 0 => fprobe M f k h n ((i * 5 + 1 + pt / 32) % (M + 1)) (SetTable.runEnd M ((i * 5 + 1 + pt / 32) % (M + 1)) - (i * 5 + 1 + pt / 32) % (M + 1)) ((i * 5 + 1 + pt / 32) % (M + 1)) (pt / 32)
section
variable {f : Nat → Option (List Int)} {M : Nat} {t : SetTable} {keys : List (List Int)}
theorem Tb.hAt (X : Tb t keys M f) {j : Nat} (hj : j ≤ M) {k : List Int} (h : f j = some k) : Mine.hAt keys (slots f j).length = hk k := by
  unfold Mine.hAt; rw [X.key hj h]; rfl
theorem Tb.advance0 (X : Tb t keys M f) (j i pt : Nat) : t.advance ⟨j, 0, i, pt, none⟩ = ⟨(i * 5 + 1 + pt / 32) % (M + 1), SetTable.runEnd M ((i * 5 + 1 + pt / 32) % (M + 1)) - (i * 5 + 1 + pt / 32) % (M + 1), (i * 5 + 1 + pt / 32) % (M + 1), pt / 32, none⟩ := by
  unfold SetTable.advance SetTable.leap
  rw [if_neg (by simp), X.mask]
theorem advanceS (t : SetTable) (j m i pt : Nat) : t.advance ⟨j, m + 1, i, pt, none⟩ = ⟨j + 1, m, i, pt, none⟩ := by
  unfold SetTable.advance
  rw [if_pos (by simp)]; rfl
theorem Tb.probe (X : Tb t keys M f) {k : List Int} {b : Bool} {j' : Nat} : ∀ (n j more i pt : Nat), fprobe M f k (hk k) n j more i pt = some (b, j') → ∀ n', n ≤ n' →
    j' ≤ M ∧ ((b = true ∧ f j' = some k ∧ ∃ nx, SetTable.probe.go t (Mine.hAt keys) (hk k) n' ⟨j, more, i, pt, none⟩ = some (.candidate j' (slots f j').length nx)) ∨
      (b = false ∧ f j' = none ∧ SetTable.probe.go t (Mine.hAt keys) (hk k) n' ⟨j, more, i, pt, none⟩ = some (.empty j' none)))
  | 0, _, _, _, _, h => nomatch h
  | n + 1, j, more, i, pt, h => by
    intro n' hn
    obtain ⟨n'', rfl⟩ : ∃ n'', n' = n'' + 1 := ⟨n' - 1, by omega⟩
    unfold fprobe at h
    split at h
    · cases h
    rename_i hj
    have hj' : j ≤ M := Nat.not_lt.mp hj
    unfold SetTable.probe.go
    dsimp only
    rw [X.slot hj']
    cases hf : f j with
    | none =>
      rw [hf] at h
      simp only [Option.some.injEq, Prod.mk.injEq] at h
      obtain ⟨rfl, rfl⟩ := h
      exact ⟨hj', .inr ⟨rfl, hf, by simp⟩⟩
    | some k' =>
      rw [hf] at h
      simp only [Option.isSome_some, if_true]
      rw [X.hAt hj' hf]
      dsimp only at h
      by_cases hkk : k' = k
      · rw [if_pos hkk] at h
        simp only [Option.some.injEq, Prod.mk.injEq] at h
        obtain ⟨rfl, rfl⟩ := h
        subst hkk
        exact ⟨hj', .inl ⟨rfl, hf, t.advance ⟨j, more, i, pt, none⟩, by simp⟩⟩
      · rw [if_neg hkk] at h
        by_cases hh : hk k' = hk k
        · rw [if_pos hh] at h; cases h
        · rw [if_neg hh] at h
          have hb : (hk k' == hk k) = false := by simpa using hh
          rw [hb]
          simp only [Bool.false_eq_true, if_false]
          cases more with
          | zero =>
            rw [X.advance0]
            exact X.probe n _ _ _ _ h n'' (by omega)
          | succ m =>
            rw [advanceS]
            exact X.probe n _ _ _ _ h n'' (by omega)
/-- where the search for k ends -/
noncomputable def fsearch (M : Nat) (f : Nat → Option (List Int)) (k : List Int) : Option (Bool × Nat) :=
  fprobe M f k (hk k) 100 (SetTable.bits (hk k) % (M + 1)) (SetTable.runEnd M (SetTable.bits (hk k) % (M + 1)) - SetTable.bits (hk k) % (M + 1)) (SetTable.bits (hk k) % (M + 1)) (SetTable.bits (hk k))
theorem Tb.search (X : Tb t keys M f) {k : List Int} {b : Bool} {j' : Nat} (h : fsearch M f k = some (b, j')) :
    j' ≤ M ∧ ((b = true ∧ f j' = some k ∧ ∃ nx, t.probe (Mine.hAt keys) (hk k) (t.probeStart (hk k)) = some (.candidate j' (slots f j').length nx)) ∨
      (b = false ∧ f j' = none ∧ t.probe (Mine.hAt keys) (hk k) (t.probeStart (hk k)) = some (.empty j' none))) := by
  have hs : t.probeStart (hk k) = ⟨SetTable.bits (hk k) % (M + 1), SetTable.runEnd M (SetTable.bits (hk k) % (M + 1)) - SetTable.bits (hk k) % (M + 1), SetTable.bits (hk k) % (M + 1), SetTable.bits (hk k), none⟩ := by
    unfold SetTable.probeStart
    rw [X.mask]
  rw [hs]
  unfold SetTable.probe
  refine X.probe 100 _ _ _ _ h _ ?_
  unfold SetTable.turns
  omega
end
noncomputable def upd (f : Nat → Option (List Int)) (j : Nat) (k : List Int) : Nat → Option (List Int) := fun i => if i = j then some k else f i
noncomputable def listIns {α : Type} (xs : List α) (p : Nat) (x : α) : List α := xs.take p ++ x :: xs.drop p
theorem filter_range_congr {p q : Nat → Bool} : ∀ (l : List Nat), (∀ x ∈ l, p x = q x) → l.filter p = l.filter q
  | [], _ => rfl
  | a :: l, h => by
    rw [List.filter_cons, List.filter_cons, h a (.head _), filter_range_congr l fun x hx => h x (.tail _ hx)]
theorem filterMap_range_congr {p q : Nat → Option (List Int)} : ∀ (l : List Nat), (∀ x ∈ l, p x = q x) → l.filterMap p = l.filterMap q
  | [], _ => rfl
  | a :: l, h => by
    rw [List.filterMap_cons, List.filterMap_cons, h a (.head _), filterMap_range_congr l fun x hx => h x (.tail _ hx)]
section
variable {f : Nat → Option (List Int)} {M : Nat} {t : SetTable} {keys : List (List Int)}
noncomputable def tailN (n j : Nat) : List Nat := (List.range (n - (j + 1))).map (j + 1 + ·)
theorem tailN_gt {n j x : Nat} (h : x ∈ tailN n j) : j < x := by
  obtain ⟨y, _, rfl⟩ := List.mem_map.mp h
  omega
theorem range_split {n j : Nat} (hj : j < n) : List.range n = List.range j ++ ([j] ++ tailN n j) := by
  have h1 : n = (j + 1) + (n - (j + 1)) := by omega
  conv => lhs; rw [h1, List.range_add, List.range_succ]
  simp [tailN]
theorem slots_upd {n j : Nat} (hj : j < n) (hf : f j = none) (k : List Int) : slots (upd f j k) n = listIns (slots f n) (slots f j).length j := by
  have a : slots f n = slots f j ++ (tailN n j).filter fun i => (f i).isSome := by
    unfold slots
    rw [range_split hj, List.filter_append, List.filter_append]
    simp [hf]
  have b : slots (upd f j k) n = slots f j ++ (j :: (tailN n j).filter fun i => (f i).isSome) := by
    unfold slots
    rw [range_split hj, List.filter_append, List.filter_append]
    rw [filter_range_congr (p := fun i => (upd f j k i).isSome) (q := fun i => (f i).isSome) (List.range j) fun x hx => by
      have := List.mem_range.mp hx
      unfold upd; rw [if_neg (by omega)]]
    rw [filter_range_congr (p := fun i => (upd f j k i).isSome) (q := fun i => (f i).isSome) (tailN n j) fun x hx => by
      have := tailN_gt hx
      unfold upd; rw [if_neg (by omega)]]
    simp [upd]
  rw [b, a]
  unfold listIns
  simp
theorem keys_upd {n j : Nat} (hj : j < n) (hf : f j = none) (k : List Int) : (List.range n).filterMap (upd f j k) = listIns ((List.range n).filterMap f) (slots f j).length k := by
  have a : (List.range n).filterMap f = (List.range j).filterMap f ++ (tailN n j).filterMap f := by
    rw [range_split hj, List.filterMap_append, List.filterMap_append]
    simp [hf]
  have b : (List.range n).filterMap (upd f j k) = (List.range j).filterMap f ++ (k :: (tailN n j).filterMap f) := by
    rw [range_split hj, List.filterMap_append, List.filterMap_append]
    rw [filterMap_range_congr (p := upd f j k) (q := f) (List.range j) fun x hx => by
      have := List.mem_range.mp hx
      unfold upd; rw [if_neg (by omega)]]
    rw [filterMap_range_congr (p := upd f j k) (q := f) (tailN n j) fun x hx => by
      have := tailN_gt hx
      unfold upd; rw [if_neg (by omega)]]
    simp [upd]
  rw [b, a, slots_len]
  unfold listIns
  simp
theorem insertAt_list {α : Type} (xs : List α) (p : Nat) (x : α) : SetTable.insertAt xs.toArray p x = (listIns xs p x).toArray := by
  apply Array.toList_inj.mp
  rw [SetTable.toList_insertAt]
  rfl
theorem Tb.put (X : Tb t keys M f) {j : Nat} (hj : j ≤ M) (hf : f j = none) (k : List Int) :
    (t.put j).2 = (slots f j).length ∧ Tb (t.put j).1 (listIns keys (slots f j).length k) M (upd f j k) := by
  have h2 : (t.put j).2 = (slots f j).length := X.below hj
  refine ⟨h2, X.mask, ?_, ?_, ?_, X.odd⟩
  · show SetTable.insertAt t.place (SetTable.below t.place j) j = _
    rw [X.below hj, X.place, insertAt_list, slots_upd (by omega) hf]
  · rw [keys_upd (by omega) hf, X.keys]
  · show (if SetTable.has t.dummies j then SetTable.eraseAt t.dummies (SetTable.below t.dummies j) else t.dummies) = #[]
    rw [X.dum]
    rfl
theorem Tb.size (X : Tb t keys M f) : t.place.size = keys.length := by
  rw [X.place, List.size_toArray, slots_len, X.keys]
theorem Tb.fill (X : Tb t keys M f) : t.fill = keys.length := by
  unfold SetTable.fill
  rw [X.size, X.dum]; rfl
theorem Tb.le (X : Tb t keys M f) : keys.length ≤ M + 1 := by
  rw [X.keys]
  exact Nat.le_trans (List.length_filterMap_le _ _) (by simp)
end
end
end
section
section
set_option maxRecDepth 100000
set_option maxHeartbeats 2000000
/-- a row of ones and noughts as a number -/
noncomputable def code (k : List Int) : Nat := k.foldl (fun c b => 2 * c + b.toNat) 1
noncomputable def decL : Nat → Nat → List Int → List Int
  | 0, _, acc => acc
  | n + 1, c, acc => if c ≤ 1 then acc else decL n (c / 2) (((c % 2 : Nat) : Int) :: acc)
noncomputable def dec (c : Nat) : Option (List Int) := if c = 0 then none else some (decL 8 c [])
/-- the slots packed in one number -/
noncomputable def fT (T j : Nat) : Option (List Int) := dec (T / 256 ^ j % 256)
theorem dec_none {c : Nat} (h : dec c = none) : c = 0 := by
  unfold dec at h
  split at h
  · assumption
  · cases h
theorem pack_byte {T j c : Nat} (h0 : T / 256 ^ j % 256 = 0) (hc : c < 256) (i : Nat) : (T + c * 256 ^ j) / 256 ^ i % 256 = if i = j then c else T / 256 ^ i % 256 := by
  have pos : ∀ n : Nat, 0 < 256 ^ n := fun n => Nat.pow_pos (by decide)
  rcases Nat.lt_trichotomy i j with h | h | h
  · rw [if_neg (by omega)]
    obtain ⟨d, rfl⟩ : ∃ d, j = i + (d + 1) := ⟨j - i - 1, by omega⟩
    have e : T + c * 256 ^ (i + (d + 1)) = T + 256 ^ i * (c * 256 ^ d * 256) := by
      rw [Nat.pow_add, Nat.pow_succ]
      congr 1
      simp [Nat.mul_comm, Nat.mul_left_comm]
    rw [e, Nat.add_mul_div_left _ _ (pos i), Nat.add_mod, Nat.mul_mod_left]
    simp
  · subst h
    rw [if_pos rfl, Nat.add_mul_div_right _ _ (pos i), Nat.add_mod, h0]
    omega
  · rw [if_neg (by omega)]
    obtain ⟨d, rfl⟩ : ∃ d, i = j + (d + 1) := ⟨i - j - 1, by omega⟩
    have e : 256 ^ (j + (d + 1)) = 256 ^ j * (256 * 256 ^ d) := by
      rw [Nat.pow_add, Nat.pow_succ]; simp [Nat.mul_comm]
    rw [e, ← Nat.div_div_eq_div_mul, ← Nat.div_div_eq_div_mul, ← Nat.div_div_eq_div_mul, ← Nat.div_div_eq_div_mul, Nat.add_mul_div_right _ _ (pos j)]
    have : (T / 256 ^ j + c) / 256 = T / 256 ^ j / 256 := by omega
    rw [this]
theorem fT_upd {T j c : Nat} {k : List Int} (h0 : fT T j = none) (hc : c < 256) (hd : dec c = some k) : fT (T + c * 256 ^ j) = upd (fT T) j k := by
  funext i
  unfold fT upd
  rw [pack_byte (dec_none h0) hc]
  split
  · exact hd
  · rfl
/-- the slots of a clean lay, with who lies there -/
noncomputable def liveOf (M : Nat) (keys : List (List Int)) : Option (List (Nat × Nat)) :=
  (SetTable.layClean M (keys.map hk).toArray).map fun owner => (List.range (M + 1)).filterMap fun j => (owner.getD j none).map (j, ·)
theorem laid_eq (M fi mv : Nat) (led plain : Bool) (keys : List (List Int)) : SetTable.laid M fi mv led plain (keys.map hk).toArray = (liveOf M keys).map fun live =>
    ({ mask := M, place := (live.map (·.1)).toArray, dummies := #[], finger := fi, led, moves := mv, plain }, (live.map (·.2)).toArray) := by
  unfold SetTable.laid liveOf
  cases SetTable.layClean M (keys.map hk).toArray <;> rfl
structure PK where
  M : Nat
  T : Nat
  n : Nat
  deriving DecidableEq
noncomputable def keysT (M T : Nat) : List (List Int) := (List.range (M + 1)).filterMap (fT T)
noncomputable def relayT (M T n : Nat) : Option PK :=
  match liveOf (SetTable.sizeAbove (SetTable.grown n) - 1) (keysT M T) with
  | none => none
  | some live =>
    let M' := SetTable.sizeAbove (SetTable.grown n) - 1
    let T' := live.foldl (fun a p => a + code ((keysT M T).getD p.2 []) * 256 ^ p.1) 0
    if live.map (·.1) = slots (fT T') (M' + 1) ∧ (live.map (·.2)).filterMap ((keysT M T)[·]?) = keysT M' T' ∧ (keysT M' T').length = n ∧ M' % 2 = 1 ∧ n ≤ M' ∧ M' < 1000 then some ⟨M', T', n⟩ else none
noncomputable def pkAdd (st : PK) (k : List Int) : Option PK :=
  match fsearch st.M (fT st.T) k with
  | none => none
  | some (true, _) => some st
  | some (false, j) =>
    if dec (code k) = some k ∧ code k < 256 ∧ st.n + 1 ≤ st.M then
      if (st.n + 1) * 5 ≥ st.M * 3 then relayT st.M (st.T + code k * 256 ^ j) (st.n + 1) else some ⟨st.M, st.T + code k * 256 ^ j, st.n + 1⟩
    else none
structure Rel (t : SetTable) (keys : List (List Int)) (st : PK) : Prop where
  tb : Tb t keys st.M (fT st.T)
  len : keys.length = st.n
  le : st.n ≤ st.M
theorem Rel.fits {t : SetTable} {keys : List (List Int)} {st : PK} (X : Rel t keys st) : t.fits keys.length = true := by
  have h1 := X.tb.size
  have h2 := X.tb.fill
  have h3 := X.tb.mask
  have h4 := X.le
  have h5 := X.len
  unfold SetTable.fits
  simp; omega
theorem Rel.way {t : SetTable} {keys : List (List Int)} {st : PK} (X : Rel t keys st) : t.gaveWay = false := by
  unfold SetTable.gaveWay
  rw [X.tb.mask]
  have := X.tb.odd
  simp; omega
/-- what a step of the set does to its table -/
inductive Step (t : SetTable) (keys : List (List Int)) (k : List Int) (st st' : PK) : Prop
  | there {j i : Nat} {nx : SetTable.Probe} : t.probe (Mine.hAt keys) (hk k) (t.probeStart (hk k)) = some (.candidate j i nx) → keys[i]? = some k → st' = st → Step t keys k st st'
  | plain {j : Nat} : t.probe (Mine.hAt keys) (hk k) (t.probeStart (hk k)) = some (.empty j none) → (t.put j).1.tooFull = false → Rel (t.put j).1 (listIns keys (t.put j).2 k) st' → Step t keys k st st'
  | relay {j : Nat} {t2 : SetTable} {order : Array Nat} : t.probe (Mine.hAt keys) (hk k) (t.probeStart (hk k)) = some (.empty j none) → (t.put j).1.tooFull = true → (t.put j).1.fits (keys.length + 1) = true → (listIns keys (t.put j).2 k).length = keys.length + 1 →
      (t.put j).1.relaid ((listIns keys (t.put j).2 k).map hk).toArray (SetTable.grown (keys.length + 1)) = some (t2, order) → SetTable.sizeAbove (SetTable.grown (keys.length + 1)) ≤ 1000 →
      (order.toList.filterMap ((listIns keys (t.put j).2 k)[·]?)).length = keys.length + 1 → Rel t2 (order.toList.filterMap ((listIns keys (t.put j).2 k)[·]?)) st' → t2.led = t.led → t2.plain = t.plain → Step t keys k st st'
theorem listIns_length {α : Type} {xs : List α} {p : Nat} {x : α} (h : p ≤ xs.length) : (listIns xs p x).length = xs.length + 1 := by
  unfold listIns; simp; omega
theorem pkAdd_step {t : SetTable} {keys : List (List Int)} {k : List Int} {st st' : PK} (X : Rel t keys st) (h : pkAdd st k = some st') : Step t keys k st st' := by
  unfold pkAdd at h
  split at h
  · cases h
  · rename_i j hs
    obtain ⟨hj, ⟨_, hf, nx, hp⟩ | ⟨hb, _⟩⟩ := X.tb.search hs
    · exact .there hp (X.tb.key hj hf) (Option.some.inj h).symm
    · cases hb
  · rename_i j hs
    obtain ⟨hj, ⟨hb, _⟩ | ⟨_, hf, hp⟩⟩ := X.tb.search hs
    · cases hb
    split at h
    · rename_i hc
      obtain ⟨c1, c2, c3⟩ := hc
      obtain ⟨p2, X2⟩ := X.tb.put hj hf k
      rw [← fT_upd hf c2 c1] at X2
      rw [← p2] at X2
      have l2 := X2.fill
      have hrank : (t.put j).2 ≤ keys.length := by
        rw [p2, X.tb.keys, slots_len]
        have := keys_split (f := fT st.T) (n := st.M + 1) (j := j) (by omega)
        rw [this]; simp
      rw [listIns_length hrank] at l2
      have hm2 : (t.put j).1.mask = st.M := X2.mask
      split at h
      · rename_i hfull
        have tf : (t.put j).1.tooFull = true := by
          unfold SetTable.tooFull
          rw [l2, hm2, X.len]
          simpa using hfull
        unfold relayT at h
        split at h
        · cases h
        rename_i live hl
        dsimp only at h
        split at h
        · rename_i hc
          obtain ⟨d1, d2, d3, d4, d5, d6⟩ := hc
          have hk2 : keysT st.M (st.T + code k * 256 ^ j) = listIns keys (t.put j).2 k := X2.keys.symm
          rw [hk2] at hl d1 d2 d3 h
          have hr : (t.put j).1.relaid ((listIns keys (t.put j).2 k).map hk).toArray (SetTable.grown (keys.length + 1)) = some ({ mask := SetTable.sizeAbove (SetTable.grown (st.n + 1)) - 1, place := (live.map (·.1)).toArray, dummies := #[], finger := (t.put j).1.finger, led := (t.put j).1.led, moves := (t.put j).1.movedTo (SetTable.sizeAbove (SetTable.grown (st.n + 1)) - 1), plain := (t.put j).1.plain }, (live.map (·.2)).toArray) := by
            unfold SetTable.relaid
            rw [laid_eq, X.len, hl]; rfl
          obtain rfl := Option.some.inj h
          have ft : (t.put j).1.fits (keys.length + 1) = true := by
            have z := X2.size
            rw [listIns_length hrank] at z
            have := X.len
            unfold SetTable.fits
            rw [z, l2, hm2]
            simp; omega
          refine .relay hp tf ft (listIns_length hrank) hr ?_ ?_ ⟨⟨rfl, ?_, ?_, rfl, d4⟩, ?_, d5⟩ rfl rfl
          · rw [X.len]; omega
          · show ((live.map (·.2)).filterMap _).length = _
            rw [d2, d3, X.len]
          · show (live.map (·.1)).toArray = _
            rw [d1]
          · exact d2
          · show ((live.map (·.2)).filterMap _).length = _
            rw [d2, d3]
        · cases h
      · rename_i hfull
        have tf : (t.put j).1.tooFull = false := by
          unfold SetTable.tooFull
          rw [l2, hm2, X.len]
          simpa using hfull
        obtain rfl := Option.some.inj h
        exact .plain hp tf ⟨X2, by rw [listIns_length hrank, X.len], c3⟩
    · cases h
noncomputable def pkFold : List (List Int) → PK → Option PK
  | [], st => some st
  | k :: r, st => match pkAdd st k with | none => none | some st' => pkFold r st'
noncomputable def prefixes (D : List (List Int)) : List (List Int) := D.flatMap fun row => (List.range (row.length + 1)).map fun n => row.take n
end
end
section
section
set_option maxRecDepth 100000
set_option maxHeartbeats 2000000
section
variable {w : World} {A : Around} {E : Value → Shared → Prop} {s : Shared} {P : List Int → Addr → Prop}
theorem TupK.stay {h h' : Heap} {a b : Addr} {k : List Int} {o : Obj} (x : TupK P w h k b) (ho : h.get? a = some o) (hc : o.cls = .type "set") (hs : Heap.SameBut a h h') : TupK P w h' k b := by
  obtain ⟨⟨o', items, n, ho', hc', hd', hi⟩, hP⟩ := x
  have hne : b ≠ a := by
    rintro rfl
    obtain rfl : o' = o := Option.some.inj (ho'.symm.trans ho)
    rw [hc'] at hc
    exact absurd hc (by decide)
  exact ⟨⟨o', items, n, hs.extBut _ _ hne ho', hc', hd', hi⟩, hP⟩
/-- a set of tuples of ints, its table as a number -/
noncomputable def SetAt (P : List Int → Addr → Prop) (w : World) (h : Heap) (a : Addr) (st : PK) : Prop :=
  ∃ o es ep t keys, h.get? a = some o ∧ o.ExactSet ∧ o.data = .set es ep t ∧ Ents P w h es.toList keys ∧ Rel t keys st ∧ t.plain = true
/-- the search, whose first meeting is its end -/
theorem search_hit {a x : Addr} {o : Obj} {es : Array (Int × Value)} {ep : Nat} {t : SetTable} {keys : List (List Int)} {k : List Int} {st : PK} {adding : Bool} {j i : Nat} {nx : SetTable.Probe} {Q : SetFound → Shared → Prop}
    (hu : A.units < cLine) (ho : s.heap.get? a = some o) (hd : o.data = .set es ep t) (hE : Ents P w s.heap es.toList keys) (R : Rel t keys st) (hx : TupI w s.heap k x)
    (hp : t.probe (Mine.hAt keys) (hk k) (t.probeStart (hk k)) = some (.candidate j i nx)) (hi : keys[i]? = some k) (hsl : adding = false → t.slot j = .live i) (h : adding = true → ∀ r, Q (.there r) s) (h2 : adding = false → ∀ r, Q (.there (some r)) s) :
    wpAny (model PG w) A (setSearch a (.ref x) (hk k) adding) Q E s := by
  have lE := hE.length
  have hf : t.fits es.size = true := by rw [← Array.length_toList, lE]; exact R.fits
  unfold setSearch
  rw [setSearchFrom_eq]
  refine wpAny_bind (wpAny_setState_of ho hd hf ?_)
  dsimp only
  rw [R.way]
  simp only [Bool.false_eq_true, if_false]
  have eh : (fun i : Nat => (es[i]?.map (·.1)).getD 0) = Mine.hAt keys := by
    funext i
    rw [← hE.hash i, Array.getElem?_toList]
  rw [eh]
  simp only [Option.getD_none]
  rw [hp]
  dsimp only
  obtain ⟨k', b, e1, e2, hb⟩ : ∃ k' b, keys[i]? = some k' ∧ es.toList[i]? = some (hk k', .ref b) ∧ TupK P w s.heap k' b := by
    rcases hE.get i with h | ⟨h, _⟩
    · exact h
    · rw [hi] at h; cases h
  rw [hi] at e1
  obtain rfl := Option.some.inj e1
  have e3 : es[i]? = some (hk k, .ref b) := by rw [← Array.getElem?_toList]; exact e2
  rw [e3]
  dsimp only
  have fin : ∀ led : Bool, wpAny (model PG w) A (do
        let equal ← holding [Value.ref b] (eqBool (Value.ref b) (Value.ref x))
        let __x ← setState a
        if (adding && equal) = true then pure (SetFound.there none)
          else
            match __x.2.snd.sameMemory t.moves t.mask with
            | some same =>
              match if same = true then __x.2.snd.slot j else SetTable.Slot.empty with
              | SetTable.Slot.live i' =>
                match __x.fst[i']? with
                | some (_, y') => do
                  let __do_lift ← isSame y' (Value.ref b)
                  let still ← pure (if __do_lift = true then some i' else none)
                  match still with
                    | none => do
                      rule "set.search.anew"
                      setSearchFrom a (Value.ref x) (hk k) adding 99999 none
                    | some i' =>
                      if equal = true then pure (SetFound.there (some i'))
                      else setSearchFrom a (Value.ref x) (hk k) adding 99999 (some nx)
                | none => do
                  let still ← pure none
                  match still with
                    | none => do
                      rule "set.search.anew"
                      setSearchFrom a (Value.ref x) (hk k) adding 99999 none
                    | some i' =>
                      if equal = true then pure (SetFound.there (some i'))
                      else setSearchFrom a (Value.ref x) (hk k) adding 99999 (some nx)
              | _ => do
                let still ← pure none
                match still with
                  | none => do
                    rule "set.search.anew"
                    setSearchFrom a (Value.ref x) (hk k) adding 99999 none
                  | some i' =>
                    if equal = true then pure (SetFound.there (some i'))
                    else setSearchFrom a (Value.ref x) (hk k) adding 99999 (some nx)
            | _ => unsupported "set.changed-during-lookup:is-the-new-block-at-the-old-address") Q E s := by
    intro _
    refine wpAny_bind (wpAny_holding (wpAny_eqBool_tuple hu hb.1 hx ?_))
    rw [decide_eq_true rfl]
    refine wpAny_bind (wpAny_setState_of ho hd hf ?_)
    cases adding with
    | true =>
      simp only [Bool.and_self, if_true]
      exact wpAny_pure (h rfl _)
    | false =>
      simp only [Bool.false_and, Bool.false_eq_true, if_false]
      have hm : t.sameMemory t.moves t.mask = some true := by unfold SetTable.sameMemory; simp
      rw [hm]
      dsimp only
      rw [if_pos rfl, hsl rfl]
      dsimp only
      rw [e3]
      dsimp only
      refine wpAny_bind (wpAny_isSame_ref_self ?_)
      refine wpAny_bind (wpAny_pure ?_)
      (try dsimp only)
      exact wpAny_pure (h2 rfl _)
  cases hled : t.led with
  | true => 
    simp only [Bool.not_true, Bool.false_eq_true, if_false]
    exact fin true
  | false =>
    simp only [Bool.not_false, if_true]
    refine wpAny_bind (seen_tuple hx _ (fun y hy => ?_) ?_)
    · obtain ⟨e, he, rfl⟩ := List.mem_map.mp hy
      have he' : e ∈ es.toList := by
        have := Array.mem_toList_iff.mp he
        have := (Array.mem_filter.mp this).1
        exact Array.mem_toList_iff.mpr this
      obtain ⟨n, hn⟩ := List.mem_iff_getElem?.mp he'
      rcases hE.get n with ⟨k', b', _, q2, q3⟩ | ⟨_, q2⟩
      · rw [hn] at q2
        obtain rfl := Option.some.inj q2
        exact ⟨b', k', rfl, q3.1⟩
      · rw [hn] at q2; cases q2
    · simp only [Bool.false_eq_true, if_false]
      exact fin false
theorem search_free {a x : Addr} {o : Obj} {es : Array (Int × Value)} {ep : Nat} {t : SetTable} {keys : List (List Int)} {k : List Int} {st : PK} {adding : Bool} {j : Nat} {Q : SetFound → Shared → Prop}
    (ho : s.heap.get? a = some o) (hd : o.data = .set es ep t) (hE : Ents P w s.heap es.toList keys) (R : Rel t keys st)
    (hp : t.probe (Mine.hAt keys) (hk k) (t.probeStart (hk k)) = some (.empty j none)) (h : Q (.free j false) s) :
    wpAny (model PG w) A (setSearch a (.ref x) (hk k) adding) Q E s := by
  have lE := hE.length
  have hf : t.fits es.size = true := by rw [← Array.length_toList, lE]; exact R.fits
  unfold setSearch
  rw [setSearchFrom_eq]
  refine wpAny_bind (wpAny_setState_of ho hd hf ?_)
  dsimp only
  rw [R.way]
  simp only [Bool.false_eq_true, if_false]
  have eh : (fun i : Nat => (es[i]?.map (·.1)).getD 0) = Mine.hAt keys := by
    funext i
    rw [← hE.hash i, Array.getElem?_toList]
  rw [eh]
  simp only [Option.getD_none]
  rw [hp]
  exact wpAny_pure h
theorem Ents.ins {h : Heap} {es : List (Int × Value)} {ks : List (List Int)} {k : List Int} {b : Addr} (x : Ents P w h es ks) (hb : TupK P w h k b) : ∀ p : Nat, Ents P w h (es.take p ++ (hk k, .ref b) :: es.drop p) (listIns ks p k) := by
  unfold listIns
  induction x with
  | nil => intro p; simpa using Ents.cons hb .nil
  | cons t r ih =>
    intro p
    cases p with
    | zero => simpa using Ents.cons hb (.cons t r)
    | succ p => simpa using Ents.cons t (ih p)
theorem Ents.pick {h : Heap} {es : List (Int × Value)} {ks : List (List Int)} (x : Ents P w h es ks) : ∀ order : List Nat, Ents P w h (order.filterMap (es[·]?)) (order.filterMap (ks[·]?))
  | [] => .nil
  | i :: r => by
    rw [List.filterMap_cons, List.filterMap_cons]
    rcases x.get i with ⟨k, b, e1, e2, tb⟩ | ⟨e1, e2⟩
    · rw [e1, e2]; exact .cons tb (x.pick r)
    · rw [e1, e2]; exact x.pick r
theorem Ents.map_hash {h : Heap} {es : List (Int × Value)} {ks : List (List Int)} (x : Ents P w h es ks) : es.map (·.1) = ks.map hk := by
  induction x with
  | nil => rfl
  | cons _ _ ih => simp [ih]
theorem setAddHashed_eq (a : Addr) (x : Value) (h : Int) : setAddHashed a x h = holding [x] (do
    let (es₀, _, t₀) ← setState a
    if byScan x es₀ then
      match ← setAddByScan a x h es₀ t₀ with
      | some added => return added
      | none => return ← setAddHashedIn a x h 99999
    let .free slot wasDummy ← setSearch a x h (adding := true) | return false
    let (es, _, t) ← setState a
    let (t, p) := t.put slot
    let byValue ← if t.plain then hashByValue 8 x else pure true
    let t := if byValue then t else { t with plain := false }
    storeSet a (SetTable.insertAt es p (h, x)) t
    if !wasDummy && t.tooFull then setRelay a (SetTable.grown (es.size + 1))
    return true) := rfl
theorem byScan_ref (x : Addr) (es : Array (Int × Value)) : byScan (.ref x) es = false := rfl
theorem tup_hash {x : Addr} {k : List Int} {Q : Int → Shared → Prop} (hu : A.units < cLine) (hx : TupI w s.heap k x) (h : Q (hk k) { s with toks := s.toks + (k.length + 1) }) : wpAny (model PG w) A (pyHash (.ref x)) Q E s :=
  wpAny_pyHash_tuple hu hx h
theorem setRelay_eq (a : Addr) (wanted : Nat) : setRelay a wanted = (do
    let (es, _, t) ← setState a
    if SetTable.sizeAbove wanted > sizeLine then unsupported "set:memory"
    let (es, t) ← (do
      let some (t, order) := t.relaid (es.map (·.1)) wanted | unsupported "internal:set-table-without-room"
      let es' := order.filterMap (es[·]?)
      if es'.size != es.size then unsupported "internal:set-table-lost-an-element"
      pure (es', t) : Sem (Array (Int × Value) × SetTable))
    storeSet a es t) := rfl
theorem Ents.stay {h h' : Heap} {a : Addr} {o : Obj} {es : List (Int × Value)} {ks : List (List Int)} (x : Ents P w h es ks) (ho : h.get? a = some o) (hc : o.cls = .type "set") (hs : Heap.SameBut a h h') : Ents P w h' es ks :=
  x.mono fun _ _ t => t.stay ho hc hs
/-- a store into the set, its elements known -/
theorem store_set {a : Addr} {o : Obj} {es es' : Array (Int × Value)} {ep : Nat} {t t' : SetTable} {keys' : List (List Int)} {Q : Unit → Shared → Prop}
    (ho : s.heap.get? a = some o) (hex : o.ExactSet) (hd : o.data = .set es ep t) (hE : Ents P w s.heap es'.toList keys') (hsz : es'.size ≤ 1000)
    (h : ∀ h' o', Heap.SameBut a s.heap h' → h'.get? a = some o' → o'.ExactSet → o'.data = .set es' (ep + 1) t' → Ents P w h' es'.toList keys' → Q () { s with heap := h' }) :
    wpAny (model PG w) A (storeSet a es' t') Q E s := by
  have hsb := Heap.SameBut.update s.heap a (Obj.putSet es' t')
  have hg : (s.heap.update a (Obj.putSet es' t')).get? a = some { o with data := .set es' (ep + 1) t' } := by
    have := Heap.get?_update_self (Obj.putSet es' t') ho (by rw [putSet_of es' t' hd]; rfl)
    rw [putSet_of es' t' hd] at this; exact this
  exact wpAny_storeSet_of ho hd (h _ _ hsb hg hex rfl (hE.stay ho hex.1 hsb)) (by rw [sizeLine_eq]; omega)
theorem set_add {a x : Addr} {k : List Int} {st st' : PK} {Q : Bool → Shared → Prop} (hu : A.units < cLine) (S : SetAt P w s.heap a st) (hxP : TupK P w s.heap k x) (hn : st.n ≤ 500) (hp : pkAdd st k = some st')
    (h : ∀ b h' tk, Heap.SameBut a s.heap h' → SetAt P w h' a st' → Q b { s with heap := h', toks := tk }) : wpAny (model PG w) A (setAdd a (.ref x)) Q E s := by
  obtain ⟨o, es, ep, t, keys, ho, hex, hd, hE, R, hpl⟩ := S
  have hx := hxP.1
  unfold setAdd
  refine wpAny_holding (wpAny_bind (tup_hash hu hx ?_))
  rw [setAddHashed_eq]
  have lE := hE.length
  have hf : t.fits es.size = true := by rw [← Array.length_toList, lE]; exact R.fits
  refine wpAny_holding (wpAny_bind (wpAny_setState_of (s := { s with toks := s.toks + (k.length + 1) }) ho hd hf ?_))
  dsimp only
  rw [byScan_ref]
  simp only [Bool.false_eq_true, if_false]
  have esz : es.size = keys.length := by rw [← Array.length_toList, lE]
  have nb : es.size ≤ 500 := by rw [esz, R.len]; exact hn
  cases pkAdd_step R hp with
  | there h1 h2 h3 =>
    subst h3
    refine wpAny_bind (search_hit (s := { s with toks := s.toks + (k.length + 1) }) hu ho hd hE R hx h1 h2 (fun q => nomatch q) (fun _ r => ?_) fun q => nomatch q)
    exact wpAny_pure (h _ s.heap _ (Heap.SameBut.refl _ _) ⟨o, es, ep, t, keys, ho, hex, hd, hE, R, hpl⟩)
  | plain h1 h2 h3 =>
    rename_i j
    refine wpAny_bind (search_free (s := { s with toks := s.toks + (k.length + 1) }) ho hd hE R h1 ?_)
    dsimp only
    refine wpAny_bind (wpAny_setState_of (s := { s with toks := s.toks + (k.length + 1) }) ho hd hf ?_)
    dsimp only
    have hp1 : (t.put j).1.plain = true := hpl
    rw [hp1]
    simp only [if_true]
    refine wpAny_bind (hashByValue_tuple (s := { s with toks := s.toks + (k.length + 1) }) (n := 7) hx ?_)
    simp only [if_true]
    have E1 : Ents P w s.heap (SetTable.insertAt es (t.put j).2 (hk k, .ref x)).toList (listIns keys (t.put j).2 k) := by
      rw [SetTable.toList_insertAt]; exact hE.ins hxP _
    refine wpAny_bind (store_set (s := { s with toks := s.toks + (k.length + 1) }) ho hex hd E1 ?_ fun h' o' sb g1 g2 g3 g4 => ?_)
    · rw [← Array.length_toList, E1.length, h3.len]
      have := h3.len
      have hl : (listIns keys (t.put j).2 k).length ≤ keys.length + 1 := by unfold listIns; simp; omega
      omega
    · rw [h2]
      simp only [Bool.not_false, Bool.true_and, Bool.false_eq_true, if_false]
      exact wpAny_pure (h _ h' _ sb ⟨o', _, _, _, _, g1, g2, g3, g4, h3, hp1⟩)
  | relay h1 h2 hft hln h3 h4 h5 h6 h7 h8 =>
    rename_i j t2 order
    refine wpAny_bind (search_free (s := { s with toks := s.toks + (k.length + 1) }) ho hd hE R h1 ?_)
    dsimp only
    refine wpAny_bind (wpAny_setState_of (s := { s with toks := s.toks + (k.length + 1) }) ho hd hf ?_)
    dsimp only
    have hp1 : (t.put j).1.plain = true := hpl
    rw [hp1]
    simp only [if_true]
    refine wpAny_bind (hashByValue_tuple (s := { s with toks := s.toks + (k.length + 1) }) (n := 7) hx ?_)
    simp only [if_true]
    have E1 : Ents P w s.heap (SetTable.insertAt es (t.put j).2 (hk k, .ref x)).toList (listIns keys (t.put j).2 k) := by
      rw [SetTable.toList_insertAt]; exact hE.ins hxP _
    have zE : (SetTable.insertAt es (t.put j).2 (hk k, .ref x)).size = keys.length + 1 := by rw [← Array.length_toList, E1.length, hln]
    refine wpAny_bind (store_set (s := { s with toks := s.toks + (k.length + 1) }) ho hex hd E1 (by omega) fun h' o' sb g1 g2 g3 g4 => ?_)
    rw [h2]
    simp only [Bool.not_false, Bool.true_and, if_true]
    refine wpAny_bind ?_
    rw [setRelay_eq]
    refine wpAny_bind (wpAny_setState_of (s := { s with heap := h', toks := s.toks + (k.length + 1) }) g1 g3 (by rw [zE]; exact hft) ?_)
    dsimp only
    rw [if_neg (by rw [esz, sizeLine_eq]; omega)]
    have eh : (SetTable.insertAt es (t.put j).2 (hk k, .ref x)).map (·.1) = ((listIns keys (t.put j).2 k).map hk).toArray := by
      apply Array.toList_inj.mp
      rw [Array.toList_map, E1.map_hash]
    rw [eh, esz, h3]
    dsimp only
    have E2 : Ents P w h' (order.filterMap ((SetTable.insertAt es (t.put j).2 (hk k, .ref x))[·]?)).toList (order.toList.filterMap ((listIns keys (t.put j).2 k)[·]?)) := by
      rw [Array.toList_filterMap]
      have := g4.pick order.toList
      simpa only [Array.getElem?_toList] using this
    have z2 : (order.filterMap ((SetTable.insertAt es (t.put j).2 (hk k, .ref x))[·]?)).size = keys.length + 1 := by
      rw [← Array.length_toList, E2.length, h5]
    rw [z2, zE]
    simp only [bne_self_eq_false, Bool.false_eq_true, if_false]
    refine wpAny_bind (wpAny_pure ?_)
    dsimp only
    refine store_set (s := { s with heap := h', toks := s.toks + (k.length + 1) }) g1 g2 g3 E2 (by omega) fun h'' o'' sb2 q1 q2 q3 q4 => ?_
    exact wpAny_pure (h _ h'' _ (sb.trans sb2) ⟨o'', _, _, _, _, q1, q2, q3, q4, h6, h8.trans hpl⟩)
theorem setFind_eq (a : Addr) (x : Value) (h : Int) : setFind a x h = (do
    let (es, _, _) ← setState a
    if byScan x es then
      rule "set.find.by-scan"
      match ← setScan a x h false es with
      | .found i => return some i
      | .absent => return none
      | .anew => return ← setFindIn a x h 99999
    match ← setSearch a x h with
    | .there i => return i
    | .free .. => return none) := rfl
theorem set_find {a x : Addr} {k : List Int} {st : PK} {b : Bool} {j : Nat} {Q : Option Nat → Shared → Prop} (hu : A.units < cLine) (S : SetAt P w s.heap a st) (hx : TupI w s.heap k x) (hs : fsearch st.M (fT st.T) k = some (b, j))
    (h : ∀ r : Option Nat, r.isSome = b → Q r s) : wpAny (model PG w) A (setFind a (.ref x) (hk k)) Q E s := by
  obtain ⟨o, es, ep, t, keys, ho, hex, hd, hE, R, hpl⟩ := S
  have lE := hE.length
  have hf : t.fits es.size = true := by rw [← Array.length_toList, lE]; exact R.fits
  rw [setFind_eq]
  refine wpAny_bind (wpAny_setState_of ho hd hf ?_)
  dsimp only
  rw [byScan_ref]
  simp only [Bool.false_eq_true, if_false]
  obtain ⟨hj, ⟨rfl, hfk, nx, hp⟩ | ⟨rfl, hfk, hp⟩⟩ := R.tb.search hs
  · refine wpAny_bind (search_hit hu ho hd hE R hx hp (R.tb.key hj hfk) (fun _ => ?_) (fun q => nomatch q) fun _ r => wpAny_pure (h _ rfl))
    rw [R.tb.slot hj, hfk]; rfl
  · refine wpAny_bind (search_free ho hd hE R hp (wpAny_pure (h none rfl)))
theorem set_in {a x : Addr} {k : List Int} {st : PK} {b : Bool} {j : Nat} {Q : Value → Shared → Prop} (hu : A.units + 8 < cLine) (S : SetAt P w s.heap a st) (hx : TupI w s.heap k x) (hs : fsearch st.M (fT st.T) k = some (b, j))
    (h : ∀ tk, Q (.bool b) { s with toks := tk }) : wpAny (model PG w) A (compareOp .In (.ref x) (.ref a)) Q E s := by
  have hT : s.TypeIs (.ref a) "set" := by
    obtain ⟨o, _, _, _, _, ho, hex, _⟩ := S
    exact ⟨o, ho, hex.1⟩
  show wpAny _ _ (do return .bool (← contains (.ref a) (.ref x))) Q E s
  refine wpAny_bind ?_
  unfold contains
  try with_reducible refine wpAny_holding ?_
  refine wpAny_bind (wpAny_specialOf hT F.slot_set_contains.lookup ?_)
  show wpAny _ _ (if (some (Value.builtin "set.__contains__") == some Value.none) = true then _ else _) _ E s
  rw [if_neg (by rw [beq_builtin_none]; exact Bool.false_ne_true)]
  refine wpAny_bind (wpAny_callSpecialUnlessNone?_slot (name := Str.ofString "__contains__") hT F.slot_set_contains
    (wpAny_call_entry F.slot_set_contains hT entry_set_contains ?_ (F.args_set_contains_2 _ _)))
  unfold Builtin.«frozenset.__contains__» Builtin.Frozenset.oneOther
  simp only [List.isEmpty_nil, bind_assoc]
  unfold Builtin.Frozenset.addrOf Builtin.Frozenset.withSetAsKey setContains
  refine wpAny_bind (wpAny_pure ?_)
  try dsimp only
  refine wpAny_bind (wpAny_pure ?_)
  try dsimp only
  refine wpAny_bind (wpAny_tryCatch ?_)
  refine wpAny_holding ?_
  refine wpAny_bind (tup_hash ?_ hx ?_)
  · show A.units + 1 < cLine; omega
  refine wpAny_bind (set_find (s := { s with toks := s.toks + (k.length + 1) }) ?_ S hx hs fun r hr => ?_)
  · show A.units + 1 < cLine; omega
  refine wpAny_pure ?_
  show wpAny _ _ (ret (Value.bool r.isSome)) _ _ _
  rw [hr]
  exact wpAny_pure ⟨_, rfl, wpAny_truthy_bool (wpAny_pure (h _))⟩
end
end
end
section
section
set_option maxRecDepth 100000
set_option maxHeartbeats 4000000
noncomputable def pkRun (ks : List (List Int)) (i : Nat) : Option PK := pkFold (ks.take i) ⟨7, 0, 0⟩
theorem pkFold_append : ∀ (l r : List (List Int)) (st : PK), pkFold (l ++ r) st = match pkFold l st with | none => none | some st' => pkFold r st'
  | [], _, _ => rfl
  | k :: l, r, st => by
    have e1 : pkFold (k :: l ++ r) st = match pkAdd st k with | none => none | some st' => pkFold (l ++ r) st' := rfl
    have e2 : pkFold (k :: l) st = match pkAdd st k with | none => none | some st' => pkFold l st' := rfl
    rw [e1, e2]
    cases pkAdd st k with
    | none => rfl
    | some st' => exact pkFold_append l r st'
theorem pkRun_succ {ks : List (List Int)} {i : Nat} {k : List Int} (hk : ks[i]? = some k) {st' : PK} (h : pkRun ks (i + 1) = some st') : ∃ st, pkRun ks i = some st ∧ pkAdd st k = some st' := by
  unfold pkRun at h ⊢
  rw [List.take_add_one, hk, pkFold_append] at h
  cases h1 : pkFold (ks.take i) ⟨7, 0, 0⟩ with
  | none => rw [h1] at h; cases h
  | some st =>
    rw [h1] at h
    refine ⟨st, rfl, ?_⟩
    have h' : (match pkAdd st k with | none => none | some s2 => some s2) = some st' := h
    cases h2 : pkAdd st k with
    | none => rw [h2] at h'; cases h'
    | some st2 => rw [h2] at h'; exact h'
theorem pkRun_some {ks : List (List Int)} {st' : PK} (h : pkFold ks ⟨7, 0, 0⟩ = some st') (i : Nat) : ∃ st, pkRun ks i = some st := by
  unfold pkRun
  rw [← List.take_append_drop i ks, pkFold_append] at h
  cases h1 : pkFold (ks.take i) ⟨7, 0, 0⟩ with
  | none => rw [h1] at h; cases h
  | some st => exact ⟨st, rfl⟩
theorem pkAdd_n {st st' : PK} {k : List Int} (h : pkAdd st k = some st') : st'.n ≤ st.n + 1 := by
  unfold pkAdd at h
  split at h
  · cases h
  · obtain rfl := Option.some.inj h; omega
  · split at h
    · split at h
      · unfold relayT at h
        split at h
        · cases h
        dsimp only at h
        split at h
        · obtain rfl := Option.some.inj h; exact Nat.le_refl _
        · cases h
      · obtain rfl := Option.some.inj h; exact Nat.le_refl _
    · cases h
theorem pkFold_n : ∀ (ks : List (List Int)) {st st' : PK}, pkFold ks st = some st' → st'.n ≤ st.n + ks.length
  | [], st, st', h => by obtain rfl := Option.some.inj h; simp
  | k :: r, st, st', h => by
    unfold pkFold at h
    cases h1 : pkAdd st k with
    | none => rw [h1] at h; cases h
    | some s1 =>
      rw [h1] at h
      have := pkFold_n r h
      have := pkAdd_n h1
      simp only [List.length_cons]; omega
theorem pkRun_n {ks : List (List Int)} {i : Nat} {st : PK} (h : pkRun ks i = some st) : st.n ≤ i := by
  have := pkFold_n _ h
  simp only [List.length_take] at this
  omega
section
variable {w : World} {A : Around} {E : Value → Shared → Prop} {s : Shared} {P : List Int → Addr → Prop}
/-- the list's items are tuples of ints -/
noncomputable def TupsAt (P : List Int → Addr → Prop) (w : World) (h : Heap) (vs : List Value) (ks : List (List Int)) : Prop := ∀ i : Nat, ∀ v, vs[i]? = some v → ∃ b k, v = .ref b ∧ ks[i]? = some k ∧ TupK P w h k b
theorem SetAt.fresh {h : Heap} {a : Addr} {led : Bool} (hg : h.get? a = some { cls := .type "set", dict := none, data := .set #[] 0 (.fresh 0 0 led) }) : SetAt P w h a ⟨7, 0, 0⟩ := by
  refine ⟨_, #[], 0, _, [], hg, ⟨rfl, rfl, rfl⟩, rfl, .nil, ⟨⟨rfl, ?_, ?_, rfl, rfl⟩, rfl, Nat.zero_le _⟩, rfl⟩
  · have : slots (fT 0) 8 = [] := by decide +kernel
    show (#[] : Array Nat) = _
    rw [this]
  · decide +kernel
theorem TupK.but {h h' : Heap} {I b : Addr} {k : List Int} {o : Obj} (x : TupK P w h k b) (ho : h.get? I = some o) (hc : o.cls ≠ .type "tuple") (hk : ∀ b o, b ≠ I → h.get? b = some o → h'.get? b = some o) : TupK P w h' k b := by
  obtain ⟨⟨o', items, n, ho', hc', hd', hi⟩, hP⟩ := x
  have hne : b ≠ I := by
    rintro rfl
    obtain rfl : o' = o := Option.some.inj (ho'.symm.trans ho)
    exact hc hc'
  exact ⟨⟨o', items, n, hk _ _ hne ho', hc', hd', hi⟩, hP⟩
theorem SetAt.but {h h' : Heap} {I S : Addr} {st : PK} {o : Obj} (x : SetAt P w h S st) (hSI : S ≠ I) (ho : h.get? I = some o) (hc : o.cls ≠ .type "tuple") (hk : ∀ b o, b ≠ I → h.get? b = some o → h'.get? b = some o) : SetAt P w h' S st := by
  obtain ⟨o', es, ep, t, keys, h1, h2, h3, h4, h5⟩ := x
  exact ⟨o', es, ep, t, keys, hk _ _ hSI h1, h2, h3, h4.mono fun _ _ t => t.but ho hc hk, h5⟩
theorem TupsAt.but {h h' : Heap} {I : Addr} {vs : List Value} {ks : List (List Int)} {o : Obj} (x : TupsAt P w h vs ks) (ho : h.get? I = some o) (hc : o.cls ≠ .type "tuple") (hk : ∀ b o, b ≠ I → h.get? b = some o → h'.get? b = some o) : TupsAt P w h' vs ks :=
  fun i v e => let ⟨b, k, e1, e2, t⟩ := x i v e; ⟨b, k, e1, e2, t.but ho hc hk⟩
theorem SetAt.obj {h : Heap} {S : Addr} {st : PK} (x : SetAt P w h S st) : ∃ o, h.get? S = some o ∧ o.cls = .type "set" := by
  obtain ⟨o, _, _, _, _, h1, h2, _⟩ := x
  exact ⟨o, h1, h2.1⟩
theorem update_loop {R : Result → Shared → Prop} {I S l : Addr} {items : Array Value} {ks : List (List Int)} {stE : PK} (hh : A.handled = none) (hneI : l ≠ I) (hSf : S ∉ [I, l]) (hu : A.units + 1 < cLine) (hz : items.size = ks.length) (hz2 : ks.length ≤ 400) (hE : pkFold ks ⟨7, 0, 0⟩ = some stE) :
    ∀ (k i : Nat) (s : Shared) (st : PK), items.size - i = k → i ≤ items.size → s.heap.IsListIter I l i → s.heap.IsList l items → TupsAt P w s.heap items.toList ks → pkRun ks i = some st → SetAt P w s.heap S st →
      (∀ h' tk, (∀ b o, b ≠ S → b ≠ I → s.heap.get? b = some o → h'.get? b = some o) → SetAt P w h' S stE → R (.ok (.ret .none)) { s with heap := h', toks := tk }) →
      codeAny (model PG w) A (.builtin "set.update.loop" ⟨[.ref S, .ref I], []⟩) R s := by
  have hSI : S ≠ I := fun e => hSf (by rw [e]; exact .head _)
  have hSl : S ≠ l := fun e => hSf (by rw [e]; exact .tail _ (.head _))
  intro k
  induction k with
  | zero =>
    intro i s st hk hi hit hl ht hr hS hR
    have hin : i = items.size := by omega
    refine codeAny_builtin F.entry_set_update_loop ?_
    rw [Around.under_plainId F.plain_set_update_loop _]
    show wpAny _ A.in1 (pyNext (.ref I) >>= _) _ _ s
    have WL := Walks.list (prog := PG) (w := w) (A := A.in1) hh I l hneI items
    obtain ⟨oI, hoI, hcI, _⟩ := id hit
    refine wpAny_bind (WL.done s _ _ (hin ▸ ⟨hit, hl⟩) fun h' tk' hk' => ?_)
    show wpAny _ A.in1 (ret Value.none) _ _ _
    have hk2 : ∀ b o, b ≠ I → s.heap.get? b = some o → h'.get? b = some o := fun b o h1 e => hk' b o (by simpa using h1) e
    refine wpAny_pure (hR h' tk' (fun b o _ h2 e => hk2 b o h2 e) ?_)
    have : st = stE := by
      unfold pkRun at hr
      rw [List.take_of_length_le (by omega)] at hr
      rw [hE] at hr; exact (Option.some.inj hr).symm
    subst this
    exact hS.but hSI hoI (by rw [hcI]; decide) hk2
  | succ k ih =>
    intro i s st hk hi hit hl ht hr hS hR
    have hlt : i < items.size := by omega
    refine codeAny_builtin F.entry_set_update_loop ?_
    rw [Around.under_plainId F.plain_set_update_loop _]
    show wpAny _ A.in1 (pyNext (.ref I) >>= _) _ _ s
    have WL := Walks.list (prog := PG) (w := w) (A := A.in1) hh I l hneI items
    obtain ⟨oI, hoI, hcI, _⟩ := id hit
    refine wpAny_bind (WL.item i s _ _ hlt ⟨hit, hl⟩ fun v h1 tk1 hP st1 hk' => ?_)
    have hk2 : ∀ b o, b ≠ I → s.heap.get? b = some o → h1.get? b = some o := fun b o h1 e => hk' b o (by simpa using h1) e
    have hv : items.toList[i]? = some v := by rw [Array.getElem?_toList]; exact hP
    have ht1 : TupsAt P w h1 items.toList ks := ht.but hoI (by rw [hcI]; decide) hk2
    have hS1 : SetAt P w h1 S st := hS.but hSI hoI (by rw [hcI]; decide) hk2
    obtain ⟨b, kk, rfl, hkk, tb⟩ := ht1 i v hv
    obtain ⟨st2, hst2⟩ := pkRun_some hE (i + 1)
    obtain ⟨st0, hst0, hadd⟩ := pkRun_succ hkk hst2
    rw [hr] at hst0
    obtain rfl := Option.some.inj hst0
    show wpAny _ A.in1 (holding [Value.ref b] (setAdd S (.ref b)) >>= _) _ _ _
    refine wpAny_bind (wpAny_holding ?_)
    refine set_add (s := { s with heap := h1, toks := tk1 }) hu hS1 tb (by have := pkRun_n hr; omega) hadd fun bb h2 tk2 sb hS2 => ?_
    obtain ⟨oS, hoS, hcS⟩ := hS1.obj
    have st2' := st1
    obtain ⟨it1, li1⟩ := st1
    refine wpAny_pure ⟨plainId_quiet F.plain_set_update_loop _, ih (i + 1) { s with heap := h2, toks := tk2 } st2 (by omega) hlt (it1.extBut sb.extBut (Ne.symm hSI)) (li1.extBut sb.extBut (Ne.symm hSl))
      (ht1.but hoS (by rw [hcS]; decide) fun b o hb e => sb.extBut b o hb e) hst2 hS2 fun h' tk hk3 hS3 => ?_⟩
    exact hR h' tk (fun b o n1 n2 e => hk3 b o n1 n2 (sb.extBut b o n1 (hk2 b o n2 e))) hS3
/-- a type is called, whose __init__ checks its arguments by a look at the object -/
theorem type_codes {T newId initId : String} {args : List Value} {Q Q₁ : Value → Shared → Prop} (ft : TypeCalled T newId initId)
    (hct : checkTypeCall T ⟨args, []⟩ = pure ())
    (hnew : codeAny (model PG w) A.in1 (.call (.builtin newId) ⟨.type T :: args, []⟩) (wants Q₁ E) s)
    (hnext : ∀ obj s₁, Q₁ obj s₁ → s₁.TypeIs obj T ∧ codeAny (model PG w) A.in1 (.call (.builtin initId) ⟨obj :: args, []⟩) (wants (fun r s₂ => r = .none ∧ Q obj s₂) E) s₁) :
    wpAny (model PG w) A (call (.type T) args) Q E s := by
  obtain ⟨c, tl, hmro⟩ := ft.mro
  have hmade := ft.made
  have hsub := ft.sub
  refine wpAny_call (codeAny_of_tree ?_)
  show wpAny _ _ (callAny (.type T) _) _ _ _
  refine wpAny_pure ⟨Code.quiet_builtin _ (by decide +kernel), codeAny_builtin F.entry_type_call ?_⟩
  rw [Around.under_plain (weight_type_call_type T args []) rfl]
  have h1 := ft.notType
  have h2 := ft.canCreate
  repeat (any_goals (first | assumption | wp_step))
  refine codeAny_mono hnew fun r s₁ hr => ?_
  cases r with
  | error e => exact hr
  | ok fl =>
    cases fl with
    | ret obj =>
      obtain ⟨hT, hsi⟩ := hnext _ _ hr
      have hli := ft.init.lookup
      have hbi := ft.init.bind obj
      repeat (any_goals (first | assumption | wp_step))
      refine codeAny_mono hsi fun r₂ s₂ hr₂ => ?_
      cases r₂ with
      | error e => exact hr₂
      | ok fl₂ =>
        cases fl₂ with
        | ret r =>
          obtain ⟨rfl, hq⟩ := hr₂
          repeat (any_goals (first | assumption | wp_step))
        | _ => exact hr₂.elim
    | _ => exact hr.elim
theorem new_set_tups {l : Addr} {items : Array Value} {ks : List (List Int)} {stE : PK} {Q : Value → Shared → Prop}
    (hh : A.handled = none) (hl : s.heap.IsList l items) (ht : TupsAt P w s.heap items.toList ks) (hz : items.size = ks.length) (hz2 : ks.length ≤ 400) (hE : pkFold ks ⟨7, 0, 0⟩ = some stE) (hu : A.units + 40 < cLine)
    (h : ∀ (h' : Heap) (tk : Nat), SetAt P w h' s.heap.objs.size stE → (∀ b o, b < s.heap.objs.size → s.heap.get? b = some o → h'.get? b = some o) → Q (.ref s.heap.objs.size) { s with heap := h', toks := tk }) :
    wpAny (model PG w) A (call (.type "set") [.ref l]) Q E s := by
  refine type_codes (Q₁ := fun obj s₁ => ∃ led : Bool, obj = .ref s.heap.objs.size ∧ s₁ = { s with heap := s.heap.push { cls := .type "set", dict := none, data := .set #[] 0 (.fresh 0 0 led) } }) F.called_set (F.typeCall_set_1 (.ref l)) (code_set_new_1 (.ref l) fun led => ⟨led, rfl, rfl⟩) ?_
  rintro obj s₁ ⟨led, rfl, rfl⟩
  have hS : (s.heap.push { cls := .type "set", dict := none, data := .set #[] 0 (.fresh 0 0 led) }).get? s.heap.objs.size = some { cls := .type "set", dict := none, data := .set #[] 0 (.fresh 0 0 led) } := Heap.get?_push_size _ rfl
  have hT : Shared.TypeIs { s with heap := s.heap.push { cls := .type "set", dict := none, data := .set #[] 0 (.fresh 0 0 led) } } (.ref s.heap.objs.size) "set" := ⟨_, hS, rfl⟩
  refine ⟨hT, codeAny_call_builtin F.called_set.init.plain F.entry_set_init (check_set_init_1 hT ?_)⟩
  obtain ⟨ol, hol, hcl, nl, hdl⟩ := hl
  obtain ⟨ocls, odict, odata, oslots⟩ := ol
  simp only at hcl hdl
  subst hcl; subst hdl
  have hol' : (s.heap.push { cls := .type "set", dict := none, data := .set #[] 0 (.fresh 0 0 led) }).get? l = some { cls := .type "list", dict := odict, data := .seq items nl, slots := oslots } := Heap.get?_push_of_some _ hol
  have hsls := F.sub_list_set
  have hslf := F.sub_list_frozenset
  have hne : (Value.type "list" == Value.type "dict") = false := by decide
  have hl1 : (s.heap.push { cls := .type "set", dict := none, data := .set #[] 0 (.fresh 0 0 led) }).IsList l items := ⟨_, hol', rfl, nl, rfl⟩
  unfold Builtin.«set.__init__» noKeywords Builtin.Frozenset.updateFrom
  generalize hPI : pyIter = PI
  wp_walk
  subst hPI
  refine wpAny_pyIter_list hl1 ?_
  refine wpAny_bind (wpAny_runValue ?_)
  have hlS : l < s.heap.objs.size := Heap.lt_size hol
  have hneI : l ≠ (s.heap.push { cls := .type "set", dict := none, data := .set #[] 0 (.fresh 0 0 led) }).objs.size := by
    rw [Heap.size_push]; exact Nat.ne_of_lt (Nat.lt_succ_of_lt hlS)
  have hSf : s.heap.objs.size ∉ [(s.heap.push { cls := .type "set", dict := none, data := .set #[] 0 (.fresh 0 0 led) }).objs.size, l] := by
    rw [Heap.size_push]; simp only [List.mem_cons, List.not_mem_nil, or_false, not_or]
    exact ⟨Nat.ne_of_lt (Nat.lt_succ_self _), Nat.ne_of_gt hlS⟩
  have up : ∀ b o, s.heap.get? b = some o → ((s.heap.push { cls := .type "set", dict := none, data := .set #[] 0 (.fresh 0 0 led) }).push { cls := .type "list_iterator", data := .fields #[.ref l, .int 0 0] }).get? b = some o := fun b o e => Heap.get?_push_of_some _ (Heap.get?_push_of_some _ e)
  refine update_loop (P := P) (ks := ks) (stE := stE) ?hh hneI hSf ?hu hz hz2 hE (items.size - 0) 0 _ ⟨7, 0, 0⟩ (by omega) (Nat.zero_le _) ⟨_, Heap.get?_push_size _ rfl, rfl, rfl⟩ (hl1.push _) ?ht rfl ?hS0 ?hR
  case hh => exact hh
  case hu => show A.units + 1 + 1 + 1 < cLine; omega
  case ht =>
    intro i v e
    obtain ⟨b, k, e1, e2, t⟩ := ht i v e
    obtain ⟨⟨o, its, n, q1, q2⟩, hP⟩ := t
    exact ⟨b, k, e1, e2, ⟨o, its, n, up _ _ q1, q2⟩, hP⟩
  case hS0 => exact SetAt.fresh (Heap.get?_push_of_some _ hS)
  case hR =>
    intro h' tk' hk' hS'
    show wpAny _ _ _ _ _ _
    refine wpAny_pure ?_
    show wpAny _ _ (ret Value.none) _ _ _
    refine wpAny_pure ⟨rfl, h h' tk' hS' fun b o hb e => ?_⟩
    have hb1 : b ≠ s.heap.objs.size := Nat.ne_of_lt hb
    have hb2 : b ≠ (s.heap.push { cls := .type "set", dict := none, data := .set #[] 0 (.fresh 0 0 led) }).objs.size := by
      rw [Heap.size_push]; exact Nat.ne_of_lt (Nat.lt_succ_of_lt hb)
    exact hk' b o hb1 hb2 (up _ _ e)
end
end
end
section
section
open PyProof.Rows.LCg
set_option maxRecDepth 100000
set_option maxHeartbeats 2000000
section
variable {w : World} {A : Around} {E : Value → Shared → Prop} {R : Result → Shared → Prop} {s : Shared}
theorem turn_two0 (elt t1 i1 t2 i2 : Expr) (scope : Scope) (pos : Pos) (it acc : Value) (env : Env) :
    compTurn (.ListComp elt [⟨t1, i1, [], 0⟩, ⟨t2, i2, [], 0⟩] scope pos) 0 it acc env = (do
      standAt i1.pos
      match ← pyNext it with
      | none => pure (.done .next)
      | some v =>
        letOwnedTupleGo t1 it v
        assign t1 env v
        let x ← eval i2 env
        standAt i2.pos
        let x ← foldedSetIterable i2 env x
        let _ ← runOwn (.compStart (.ListComp elt [⟨t1, i1, [], 0⟩, ⟨t2, i2, [], 0⟩] scope pos) 1 (← holding [x] (pyIter x)) acc env) env
        again (.compLoop (.ListComp elt [⟨t1, i1, [], 0⟩, ⟨t2, i2, [], 0⟩] scope pos) 0 it acc env)) := by rfl
theorem turn_two1 (elt t1 i1 t2 i2 : Expr) (scope : Scope) (pos : Pos) (it acc : Value) (env : Env) :
    compTurn (.ListComp elt [⟨t1, i1, [], 0⟩, ⟨t2, i2, [], 0⟩] scope pos) 1 it acc env = (do
      standAt i2.pos
      match ← pyNext it with
      | none => pure (.done .next)
      | some v =>
        letOwnedTupleGo t2 it v
        assign t2 env v
        (do let _ ← call (.builtin "list.append") [acc, ← eval elt env])
        again (.compLoop (.ListComp elt [⟨t1, i1, [], 0⟩, ⟨t2, i2, [], 0⟩] scope pos) 1 it acc env)) := by rfl
theorem loop_two1 {elt t1 i1 t2 i2 : Expr} {scope : Scope} {pos : Pos} {it acc : Value} {env : Env} (I : Nat → Shared → Prop)
    (turn : ∀ n s, I n s → wpAny (model PG w) A (pyNext it) (fun r s₁ => match r with
      | none => R (.ok .next) s₁
      | some v => wpAny (model PG w) A (assign t2 env v) (fun _ s₂ => wpAny (model PG w) A (eval elt env) (fun x s₄ =>
              wpAny (model PG w) A (call (.builtin "list.append") [acc, x]) (fun _ s₅ => ∃ m, m < n ∧ I m s₅) (notedBy (model PG w) A env fun e s' => R (.error e) s') s₄)
            (notedBy (model PG w) A env fun e s' => R (.error e) s') s₂) (notedBy (model PG w) A env fun e s' => R (.error e) s') s₁) (notedBy (model PG w) A env fun e s' => R (.error e) s') s)
    (n : Nat) (h : I n s) (ht : ∀ v, letOwnedTupleGo t2 it v = pure () := by intro _; rfl) :
    codeAny (model PG w) A (.compLoop (.ListComp elt [⟨t1, i1, [], 0⟩, ⟨t2, i2, [], 0⟩] scope pos) 1 it acc env) R s := by
  refine codeAny_loop rfl I (fun n s hI => ?_) n h
  show wpAny _ A ((compTurn (.ListComp elt [⟨t1, i1, [], 0⟩, ⟨t2, i2, [], 0⟩] scope pos) 1 it acc env).onRaise (fun x => do noteFrame x env; theTreesLotGoes x)) _ _ s
  refine wpAny_noted ?_
  rw [turn_two1]
  refine wpAny_bind (wpAny_standAt (wpAny_bind (wpAny_mono (turn n s hI) (fun r s₁ h₁ => ?_) fun _ _ h' => h')))
  cases r with
  | none => exact wpAny_pure h₁
  | some v =>
    refine wpAny_bind (wpAny_of_eq (ht v) ?_)
    refine wpAny_bind (wpAny_mono h₁ (fun _ s₂ h₂ => ?_) fun _ _ h' => h')
    exact wpAny_bind (wpAny_bind (wpAny_mono h₂ (fun x s₄ h₄ => wpAny_bind (wpAny_mono h₄ (fun _ s₅ h₅ => wpAny_pure (wpAny_pure ⟨rfl, h₅⟩)) fun _ _ h' => h')) fun _ _ h' => h'))
theorem loop_two0 {elt t1 i1 t2 i2 : Expr} {scope : Scope} {pos : Pos} {it acc : Value} {env : Env} (I : Nat → Shared → Prop)
    (turn : ∀ n s, I n s → wpAny (model PG w) A (pyNext it) (fun r s₁ => match r with
      | none => R (.ok .next) s₁
      | some v => wpAny (model PG w) A (assign t1 env v) (fun _ s₂ => wpAny (model PG w) A (eval i2 env) (fun x s₃ => wpAny (model PG w) A (pyIter x) (fun it2 s₄ =>
          codeAny (model PG w) A (.compStart (.ListComp elt [⟨t1, i1, [], 0⟩, ⟨t2, i2, [], 0⟩] scope pos) 1 it2 acc env) (fun r s₅ => match r with
            | .ok _ => ∃ m, m < n ∧ I m s₅
            | .error e => cameBackBy (model PG w) A env (notedBy (model PG w) A env fun e s' => R (.error e) s') e s₅) s₄)
            (notedBy (model PG w) A env fun e s' => R (.error e) s') s₃) (notedBy (model PG w) A env fun e s' => R (.error e) s') s₂) (notedBy (model PG w) A env fun e s' => R (.error e) s') s₁) (notedBy (model PG w) A env fun e s' => R (.error e) s') s)
    (n : Nat) (h : I n s) (ht : ∀ v, letOwnedTupleGo t1 it v = pure () := by intro _; rfl) (hs : ∀ x, foldedSetIterable i2 env x = pure x := by intro _; rfl) :
    codeAny (model PG w) A (.compLoop (.ListComp elt [⟨t1, i1, [], 0⟩, ⟨t2, i2, [], 0⟩] scope pos) 0 it acc env) R s := by
  refine codeAny_loop rfl I (fun n s hI => ?_) n h
  show wpAny _ A ((compTurn (.ListComp elt [⟨t1, i1, [], 0⟩, ⟨t2, i2, [], 0⟩] scope pos) 0 it acc env).onRaise (fun x => do noteFrame x env; theTreesLotGoes x)) _ _ s
  refine wpAny_noted ?_
  rw [turn_two0]
  refine wpAny_bind (wpAny_standAt (wpAny_bind (wpAny_mono (turn n s hI) (fun r s₁ h₁ => ?_) fun _ _ h' => h')))
  cases r with
  | none => exact wpAny_pure h₁
  | some v =>
    refine wpAny_bind (wpAny_of_eq (ht v) ?_)
    refine wpAny_bind (wpAny_mono h₁ (fun _ s₂ h₂ => ?_) fun _ _ h' => h')
    refine wpAny_bind (wpAny_mono h₂ (fun x s₃ h₃ => ?_) fun _ _ h' => h')
    refine wpAny_bind (wpAny_standAt (wpAny_bind (wpAny_of_eq (hs x) (wpAny_bind (wpAny_holding (wpAny_mono h₃ (fun it2 s₄ h₄ => ?_) fun _ _ h' => h'))))))
    refine wpAny_bind (wpAny_runOwn (codeAny_mono h₄ fun r s₅ h₅ => ?_))
    cases r with
    | ok f => exact wpAny_pure ⟨rfl, h₅⟩
    | error e => exact h₅
theorem start_two1 {elt t1 i1 t2 i2 scope pos it acc env}
    (h0 : codeAny (model PG w) A (.compLoop (.ListComp elt [⟨t1, i1, [], 0⟩, ⟨t2, i2, [], 0⟩] scope pos) 1 it acc env) R s)
    (h : wpAny (model PG w) A (pyIter it) (fun it' s' => codeAny (model PG w) A (.compLoop (.ListComp elt [⟨t1, i1, [], 0⟩, ⟨t2, i2, [], 0⟩] scope pos) 1 it' acc env) R s')
      (notedBy (model PG w) A env fun x s' => R (.error x) s') s) :
    codeAny (model PG w) A (.compStart (.ListComp elt [⟨t1, i1, [], 0⟩, ⟨t2, i2, [], 0⟩] scope pos) 1 it acc env) R s := by
  refine codeAny_of_tree ?_
  show wpAny _ _ ((compStart (.ListComp elt [⟨t1, i1, [], 0⟩, ⟨t2, i2, [], 0⟩] scope pos) 1 it acc env).onRaise (fun x => do noteFrame x env; standAt theWindowsPlace)) _ _ s
  refine wpAny_notedAt ?_
  unfold compStart
  show wpAny _ _ (ask >>= _) _ _ s
  refine wpAny_bind (wpAny_askSetting (wpAny_ite ?_))
  split
  · first
      | exact wpAny_bind (wpAny_pure (wpAny_pure (And.intro rfl h0)))
      | exact wpAny_pure (And.intro rfl h0)
  · first
      | exact wpAny_bind (wpAny_rule (wpAny_bind (wpAny_standAt (wpAny_bind (wpAny_mono h (fun it' s' h' => wpAny_pure (And.intro rfl h')) fun _ _ x => x)))))
      | (refine wpAny_bind (wpAny_rule ?_); show wpAny _ _ (standAt i2.pos >>= _) _ _ s; exact wpAny_bind (wpAny_standAt (wpAny_bind (wpAny_mono h (fun it' s' h' => wpAny_pure (And.intro rfl h')) fun _ _ x => x))))
noncomputable abbrev rangeO (b : Int) (t u v : Tok) : Obj := { cls := .type "range", dict := none, data := .fields #[.int 0 t, .int b u, .int 1 v], slots := #[] }
theorem Off1.mem {J : Addr} : ∀ {l : List (Addr × Obj)}, Off1 J l → ∀ p ∈ l, p.1 ≠ J
  | [], _, _, h => nomatch h
  | _ :: _, x, p, h => by
    rcases List.mem_cons.mp h with rfl | h
    · exact x.1
    · exact Off1.mem x.2 p h
theorem Off1.of {J : Addr} : ∀ {l : List (Addr × Obj)}, (∀ p ∈ l, p.1 ≠ J) → Off1 J l
  | [], _ => trivial
  | _ :: _, h => ⟨h _ (.head _), Off1.of fun p hp => h p (.tail _ hp)⟩
theorem range_size (n : Nat) : Builtin.Range.rangeSize 0 (n : Int) 1 = (n : Int) := by
  rw [rangeSize_one]; split <;> omega
theorem SrcAt.mono {h₀ : Heap} {ax : Addr} {its : Array Value} {l l' : List (Addr × Obj)} (x : SrcAt h₀ ax its l) (h : ∀ p ∈ l, p ∈ l') : SrcAt h₀ ax its l' := by
  rcases x with x | ⟨o, hm, r⟩
  · exact .inl x
  · exact .inr ⟨o, h _ hm, r⟩
noncomputable abbrev compE (elt iter iter2 : Expr) (x y : Str) (px py : Pos) (scope : Scope) (pos : Pos) : Expr := .ListComp elt [⟨.Name x px, iter, [], 0⟩, ⟨.Name y py, iter2, [], 0⟩] scope pos
variable {h₀ : Heap} {L : Addr} {m : Str → Option Value} {env : Env}
theorem inner_two {elt iter iter2 : Expr} {x y : Str} {px py : Pos} {scope : Scope} {cl : List (Str × Addr)} {pos : Pos} {s₂ : Shared} {I C D J : Addr} {oI : Obj} {n : Nat} {v : Value}
    (P : Nat → List Value → List (Addr × Obj) → Prop) (hh : A.handled = none) (hys : ∀ i ys nw, P i ys nw → ys.length ≤ 1000)
    (hkind : scope.kind = .function) (hy : scope.names.lookup y = some .local) (hxy : x ≠ y)
    (a1 : @Ne Nat J L ∧ @Ne Nat J C ∧ @Ne Nat J D ∧ @Ne Nat J I) (hJ₀ : h₀.get? J = none) (a2 : @Ne Nat I C ∧ @Ne Nat I D ∧ @Ne Nat C D) (hCL : C ≠ L) (hDL : D ≠ L) (hC₀ : h₀.get? C = none) (hD₀ : h₀.get? D = none)
    (hElt : ∀ i t ys nw oJ oC m₂ h tk (E' : Value → Shared → Prop), i < n → P i ys nw → NsObj oC m₂ → m₂ x = some v → m₂ y = some (.int (i : Int) t) → Fr h₀ L h m → News h₀ L h ((I, oI) :: (C, oC) :: (D, lst ys) :: (J, oJ) :: nw) → Off3 I C D ((J, oJ) :: nw) → Off1 J nw →
      wpAny (model PG w) A (eval elt (compEnvC scope cl C env)) (CompEnd h₀ L m { s₂ with heap := h, toks := tk } I oI C oC D (lst ys) (fun _ => True) (fun yv nw' => ∃ nw'', nw' = (J, oJ) :: nw'' ∧ Off1 J nw'' ∧ P (i + 1) (ys ++ [yv]) nw'')) E' { s₂ with heap := h, toks := tk })
    {h : Heap} {tk : Nat} {ys : List Value} {nw : List (Addr × Obj)} {m' : Str → Option Value} (hit : IsRangeIter h J 0 n 1) (F : Fr h₀ L h m) (hn : h.Ns C m') (hmx : m' x = some v) (N : News h₀ L h ((I, oI) :: (D, lst ys) :: nw)) (off : Off3 I C D nw) (offJ : Off1 J nw) (h0 : P 0 ys nw)
    (done : ∀ h' tk' m'' ys' nw', Fr h₀ L h' m → h'.Ns C m'' → News h₀ L h' ((I, oI) :: (D, lst ys') :: nw') → Off3 I C D nw' → P n ys' nw' → R (.ok .next) { s₂ with heap := h', toks := tk' }) :
    codeAny (model PG w) A (.compLoop (compE elt iter iter2 x y px py scope pos) 1 (.ref J) (.ref D) (compEnvC scope cl C env)) R { s₂ with heap := h, toks := tk } := by
  have WR := range_walks (prog := PG) (w := w) (A := A) (I := J) hh 0 n
  refine loop_two1
    (fun k s' => ∃ h' tk i ys m' nw, s' = { s₂ with heap := h', toks := tk } ∧ i ≤ n ∧ k = n + 1 - i ∧ IsRangeIter h' J ((0 : Int) + (i : Nat) * 1) ((n : Int) - (i : Nat)) 1 ∧ Fr h₀ L h' m ∧ h'.Ns C m' ∧ m' x = some v ∧ News h₀ L h' ((I, oI) :: (D, lst ys) :: nw) ∧
      Off3 I C D nw ∧ Off1 J nw ∧ P i ys nw) ?_ (n + 1) ⟨h, tk, 0, ys, m', nw, rfl, Nat.zero_le _, rfl, by simpa using hit, F, hn, hmx, N, off, offJ, h0⟩
  rintro k s' ⟨h', tk, i, ys, m', nw, rfl, hi, rfl, hst', F', hn', hmx', N', off', offJ', hP⟩
  have JC : C ≠ J := Ne.symm a1.2.1
  have JL : L ≠ J := Ne.symm a1.1
  have keepN : ∀ {h₂ : Heap} {ys : List Value} {nw : List (Addr × Obj)}, Off1 J nw → (∀ b o, b ∉ [J] → h'.get? b = some o → h₂.get? b = some o) → News h₀ L h' ((I, oI) :: (D, lst ys) :: nw) → News h₀ L h₂ ((I, oI) :: (D, lst ys) :: nw) := fun oj hk N => news_but N hk fun p hp => by
    rcases List.mem_cons.mp hp with rfl | hp
    · exact Ne.symm a1.2.2.2
    rcases List.mem_cons.mp hp with rfl | hp
    · exact Ne.symm a1.2.2.1
    · exact Off1.mem oj p hp
  by_cases hlt : i < n
  · refine WR.item i _ _ _ hlt hst' fun v' h₂ tk₂ hPv hst₂ hk₂ => ?_
    obtain ⟨t, rfl⟩ := hPv
    rw [Int.zero_add]
    have F₂ := fr_but F' hk₂ JL hJ₀
    have N₂ := keepN offJ' hk₂ N'
    refine wpAny_assign_Name (wpAny_storeName_local (lookup_relabel_local hy) (hn'.at' fun o e => hk₂ _ o (by simpa using JC) e) (fun h₃ hn₃ hs₃ => ?_) (by simp [compEnvC, relabel, hkind]))
    replace hs₃ : Heap.SameBut C h₂ h₃ := hs₃
    have hst₃ : IsRangeIter h₃ J ((0 : Int) + ((i + 1 : Nat) : Int) * 1) ((n : Int) - ((i + 1 : Nat) : Int)) 1 := hs₃.extBut _ _ a1.2.1 hst₂
    obtain ⟨oC, heC, hoC⟩ := ns_obj hn₃
    have F₃ : Fr h₀ L h₃ m := F₂.change hs₃ hCL hC₀
    have offm := off'.mem
    have N₃ : News h₀ L h₃ ((I, oI) :: (C, oC) :: (D, lst ys) :: (J, _) :: nw) := fun p hp => by
      rcases List.mem_cons.mp hp with rfl | hp
      · exact ⟨hs₃.extBut _ _ a2.1 (N₂ (I, oI) (.head _)).1, (N₂ (I, oI) (.head _)).2⟩
      rcases List.mem_cons.mp hp with rfl | hp
      · exact ⟨heC, hCL, hC₀⟩
      rcases List.mem_cons.mp hp with rfl | hp
      · exact ⟨hs₃.extBut _ _ (Ne.symm a2.2.2) (N₂ _ (.tail _ (.head _))).1, (N₂ _ (.tail _ (.head _))).2⟩
      rcases List.mem_cons.mp hp with rfl | hp
      · exact ⟨hst₃, a1.1, hJ₀⟩
      · have z := N₂ p (.tail _ (.tail _ hp))
        exact ⟨hs₃.extBut _ _ (offm p hp).2.1 z.1, z.2⟩
    refine wpAny_mono (hElt i t ys nw _ oC _ h₃ _ _ hlt hP hoC (by simp only [if_neg hxy]; exact hmx') (by first | k_mem | simp) F₃ N₃ ⟨⟨a1.2.2.2, a1.2.1, a1.2.2.1⟩, off'⟩ offJ') (fun yv s₄ h₄ => ?_) fun _ _ e => e
    obtain ⟨h₄, tk₄, news₄, rfl, F₄, N₄, off₄, _, nw₄, rfl, offJ₄, hP₄⟩ := h₄
    have zI := N₄ (I, oI) (.head _)
    have zC := (N₄ (C, oC) (.tail _ (.head _))).1
    have zD := (N₄ (D, lst ys) (.tail _ (.tail _ (.head _)))).1
    have zJ := (N₄ _ (.tail _ (.tail _ (.tail _ (.head _))))).1
    refine append_at (hsz := by show ys.toArray.size ≤ sizeLine; rw [List.size_toArray]; exact Nat.le_trans (hys _ _ _ hP) (by rw [sizeLine_eq]; decide)) zD fun h₅ hs₅ hD₅ => ?_
    have off4 := off₄.2.mem
    refine ⟨n + 1 - (i + 1), by omega, h₅, tk₄, i + 1, ys ++ [yv], _, nw₄, rfl, hlt, rfl, hs₅.extBut _ _ a1.2.2.1 zJ, F₄.change hs₅ hDL hD₀, (hoC.ns zC).sameBut hs₅ a2.2.2, by simp only [if_neg hxy]; exact hmx', fun p hp => ?_, off₄.2, offJ₄, hP₄⟩
    rcases List.mem_cons.mp hp with rfl | hp
    · exact ⟨hs₅.extBut _ _ a2.2.1 zI.1, zI.2⟩
    rcases List.mem_cons.mp hp with rfl | hp
    · exact ⟨hD₅.trans (congrArg some (lst_snoc ys yv)), hDL, hD₀⟩
    · have z := N₄ p (.tail _ (.tail _ (.tail _ (.tail _ hp))))
      exact ⟨hs₅.extBut _ _ (off4 p hp).2.2 z.1, z.2⟩
  · obtain rfl : i = n := Nat.le_antisymm hi (Nat.not_lt.mp hlt)
    refine WR.done _ _ _ hst' fun h₂ tk₂ hk₂ => ?_
    exact done h₂ tk₂ m' ys nw (fr_but F' hk₂ JL hJ₀) (hn'.at' fun o e => hk₂ _ o (by simpa using JC) e) (keepN offJ' hk₂ N') off' hP
theorem comp2_block {elt iter iter2 : Expr} {x y : Str} {px py : Pos} {scope : Scope} {cl : List (Str × Addr)} {pos : Pos} {s₂ : Shared} {I ax : Addr} {its : Array Value} {cnt : Nat → Nat} {news : List (Addr × Obj)} {RR : Value → Addr → Result → Shared → Prop}
    (Inv : Nat → Nat → List Value → List (Addr × Obj) → Prop) (hh : A.handled = none) (hcnt : ∀ j, cnt j ≤ 100)
    (hys : ∀ j i ys nw, Inv j i ys nw → ys.length ≤ 1000) (hsrc : ∀ j i ys nw, Inv j i ys nw → SrcAt h₀ ax its nw)
    (hcell : ∀ z ∈ scope.names, z.2 ≠ .cell) (hkind : scope.kind = .function) (hx : scope.names.lookup x = some .local) (hy : scope.names.lookup y = some .local) (hxy : x ≠ y)
    (hit : s₂.heap.IsListIter I ax 0) (hax : ax ≠ I) (F : Fr h₀ L s₂.heap m) (N : News h₀ L s₂.heap news) (hIL : L ≠ I) (hI₀ : h₀.get? I = none) (off : ∀ p ∈ news, p.1 ≠ I) (h0 : Inv 0 0 [] news)
    (hIter : ∀ j v ys nw I oI C oC D m₂ h tk (E' : Value → Shared → Prop), its[j]? = some v → Inv j 0 ys nw → NsObj oC m₂ → m₂ x = some v → Fr h₀ L h m → News h₀ L h ((I, oI) :: (C, oC) :: (D, lst ys) :: nw) → Off3 I C D nw → ((@Ne Nat I C) ∧ (@Ne Nat I D) ∧ (@Ne Nat C D)) →
      wpAny (model PG w) A (eval iter2 (compEnvC scope cl C env)) (CompEnd h₀ L m { s₂ with heap := h, toks := tk } I oI C oC D (lst ys) (fun _ => True) (fun xv nw' => ∃ r t u v', xv = .ref r ∧ (r, rangeO (cnt j) t u v') ∈ nw' ∧ Inv j 0 ys nw')) E' { s₂ with heap := h, toks := tk })
    (hElt : ∀ j i v t ys nw J oJ I oI C oC D m₂ h tk (E' : Value → Shared → Prop), its[j]? = some v → i < cnt j → Inv j i ys nw → NsObj oC m₂ → m₂ x = some v → m₂ y = some (.int (i : Int) t) → Fr h₀ L h m → News h₀ L h ((I, oI) :: (C, oC) :: (D, lst ys) :: (J, oJ) :: nw) → Off3 I C D ((J, oJ) :: nw) → Off1 J nw → ((@Ne Nat I C) ∧ (@Ne Nat I D) ∧ (@Ne Nat C D)) →
      wpAny (model PG w) A (eval elt (compEnvC scope cl C env)) (CompEnd h₀ L m { s₂ with heap := h, toks := tk } I oI C oC D (lst ys) (fun _ => True) (fun yv nw' => ∃ nw'', nw' = (J, oJ) :: nw'' ∧ Off1 J nw'' ∧ Inv j (i + 1) (ys ++ [yv]) nw'')) E' { s₂ with heap := h, toks := tk })
    (hs2 : ∀ (env' : Env) x, foldedSetIterable iter2 env' x = pure x)
    (hNext : ∀ j ys nw, j < its.size → Inv j (cnt j) ys nw → Inv (j + 1) 0 ys nw)
    (hRR : ∀ D C h tk m' ys nw, Fr h₀ L h m → News h₀ L h ((D, lst ys) :: nw) → Off1 D nw → h.Ns C m' → h₀.get? C = none → h₀.get? D = none → C ≠ L → D ≠ L → C ≠ D → (∀ p ∈ nw, p.1 ≠ C) → Inv its.size 0 ys nw → s₂.heap.objs.size ≤ D → RR (.ref D) C (.ok .next) { s₂ with heap := h, toks := tk }) :
    wpAny (model PG w) A (newList []) (fun acc s₃ => wpAny (model PG w) A (newFunctionEnv scope env.globals cl [] env.qual none .none (some env)) (fun cenv s₄ =>
      codeAny (model PG w) A (.compStart (compE elt iter iter2 x y px py scope pos) 0 (.ref I) acc { cenv with scope := relabel scope env }) (RR acc cenv.locals) s₄) E s₃) E s₂ := by
  refine wpAny_newObj_type (wpAny_newFunctionEnv hcell (by intro y hy; simp at hy) (fun h₁ hns₁ hsb₁ => ?_) hkind)
  dsimp only at hns₁ hsb₁ ⊢
  generalize hH2 : s₂.heap.push { cls := .type "list", dict := none, data := .seq ([] : List Value).toArray } = H2 at hns₁ hsb₁ ⊢
  have hC : H2.objs.size = s₂.heap.objs.size + 1 := by rw [← hH2, Heap.size_push]
  have hDC : s₂.heap.objs.size ≠ H2.objs.size := by rw [hC]; exact Nat.ne_of_lt (Nat.lt_succ_self _)
  have below : ∀ b, b < s₂.heap.objs.size → b ≠ H2.objs.size ∧ b ≠ s₂.heap.objs.size := fun b hb => ⟨by rw [hC]; exact Nat.ne_of_lt (Nat.lt_succ_of_lt hb), Nat.ne_of_lt hb⟩
  have hIlt : I < s₂.heap.objs.size := by obtain ⟨_, e, _⟩ := hit; exact Heap.lt_size e
  have old : ∀ b o, s₂.heap.get? b = some o → h₁.get? b = some o := fun b o e => hsb₁.extBut b o (below b (Heap.lt_size e)).1 (Heap.get?_push_of_some _ (hH2 ▸ Heap.get?_push_of_some _ e))
  have hacc : h₁.get? s₂.heap.objs.size = some (lst []) := hsb₁.extBut _ _ hDC (Heap.get?_push_of_some _ (hH2 ▸ Heap.get?_push_size _ rfl))
  have fresh : ∀ a, s₂.heap.objs.size ≤ a → s₂.heap.get? a = none := fun a ha => by
    cases e : s₂.heap.get? a with
    | none => rfl
    | some o' => exact absurd (Heap.lt_size e) (Nat.not_lt.mpr ha)
  have fresh₀ : ∀ a, s₂.heap.objs.size ≤ a → h₀.get? a = none := fun a ha => by
    cases e : h₀.get? a with
    | none => rfl
    | some o' => have := F.keep a o' e; rw [fresh a ha] at this; cases this
  have hD₀ : h₀.get? s₂.heap.objs.size = none := fresh₀ _ (Nat.le_refl _)
  have hC₀ : h₀.get? H2.objs.size = none := fresh₀ _ (by rw [hC]; exact Nat.le_succ _)
  have hLlt : L < s₂.heap.objs.size := F.ns.lt
  have hDL : s₂.heap.objs.size ≠ L := Ne.symm (below L hLlt).2
  have hCL : H2.objs.size ≠ L := Ne.symm (below L hLlt).1
  have hCI : I ≠ H2.objs.size := (below I hIlt).1
  have hDI : I ≠ s₂.heap.objs.size := (below I hIlt).2
  have off₀ : Off3 I H2.objs.size s₂.heap.objs.size news := Off3.of fun p hp => ⟨off p hp, (below _ (Heap.lt_size (N p hp).1)).1, (below _ (Heap.lt_size (N p hp).1)).2⟩
  have N₁ : News h₀ L h₁ ((s₂.heap.objs.size, lst []) :: news) := fun p hp => by
    rcases List.mem_cons.mp hp with rfl | hp
    · exact ⟨hacc, hDL, hD₀⟩
    · exact ⟨old _ _ (N p hp).1, (N p hp).2⟩
  have WL := Walks.list (prog := PG) (w := w) (A := A) hh I ax hax its
  have hst₁ : h₁.IsListIter I ax 0 ∧ h₁.IsList ax its := ⟨hit.at fun o e => old _ _ e, (hsrc _ _ _ _ h0).list (F.keeps old).keep fun p hp => N₁ p (.tail _ hp)⟩
  have hn₁ : h₁.Ns H2.objs.size _ := hns₁
  have F₁ : Fr h₀ L h₁ m := F.keeps old
  clear hns₁ hC old hsb₁ hacc below fresh fresh₀ hH2 hIlt hLlt
  generalize s₂.heap.objs.size = D at *
  generalize H2.objs.size = C at *
  have loop : ∀ s₃ : Shared, s₃ = { s₂ with heap := h₁, toks := s₂.toks + ([] : List (Str × Value)).length } →
      codeAny (model PG w) A (.compLoop (compE elt iter iter2 x y px py scope pos) 0 (.ref I) (.ref D) (compEnvC scope cl C env)) (RR (.ref D) C) s₃ := by
    rintro s₃ rfl
    refine loop_two0
      (fun k s' => ∃ h' tk j ys m' nw, s' = { s₂ with heap := h', toks := tk } ∧ j ≤ its.size ∧ k = its.size + 1 - j ∧ (h'.IsListIter I ax j ∧ h'.IsList ax its) ∧ Fr h₀ L h' m ∧ h'.Ns C m' ∧ News h₀ L h' ((D, lst ys) :: nw) ∧
        Off3 I C D nw ∧ Inv j 0 ys nw) ?_ (its.size + 1) ⟨h₁, _, 0, [], _, news, rfl, Nat.zero_le _, rfl, hst₁, F₁, hn₁, N₁, off₀, h0⟩ (hs := hs2 _)
    rintro k s' ⟨h', tk, j, ys, m', nw, rfl, hj, rfl, hst', F', hn', N', off', hP⟩
    have offm := off'.mem
    by_cases hlt : j < its.size
    · refine WL.item j _ _ _ hlt hst' fun v h₂ tk₂ hPv hst₂ hk₂ => ?_
      have F₂ := fr_but F' hk₂ hIL hI₀
      have N₂ : News h₀ L h₂ ((D, lst ys) :: nw) := news_but N' hk₂ fun p hp => by
        rcases List.mem_cons.mp hp with rfl | hp
        · exact Ne.symm hDI
        · exact (offm p hp).1
      refine wpAny_assign_Name (wpAny_storeName_local (lookup_relabel_local hx) (hn'.at' fun o e => hk₂ _ o (by simpa using Ne.symm hCI) e) (fun h₃ hn₃ hs₃ => ?_) (by simp [compEnvC, relabel, hkind]))
      replace hs₃ : Heap.SameBut C h₂ h₃ := hs₃
      obtain ⟨hit₂, hl₂⟩ := hst₂
      have hit₃ : h₃.IsListIter I ax (j + 1) := hit₂.extBut hs₃.extBut hCI
      obtain ⟨oI, heI, hcI, hdI⟩ := hit₃
      obtain ⟨oC, heC, hoC⟩ := ns_obj hn₃
      have F₃ : Fr h₀ L h₃ m := F₂.change hs₃ hCL hC₀
      have N₃ : News h₀ L h₃ ((I, oI) :: (C, oC) :: (D, lst ys) :: nw) := fun p hp => by
        rcases List.mem_cons.mp hp with rfl | hp
        · exact ⟨heI, Ne.symm hIL, hI₀⟩
        rcases List.mem_cons.mp hp with rfl | hp
        · exact ⟨heC, hCL, hC₀⟩
        · have z := N₂ p hp
          refine ⟨hs₃.extBut _ _ ?_ z.1, z.2⟩
          rcases List.mem_cons.mp hp with rfl | hp
          · exact hDC
          · exact (offm p hp).2.1
      refine wpAny_mono (hIter j v ys nw I oI C oC D _ h₃ _ _ hPv hP hoC (by first | k_mem | simp) F₃ N₃ off' ⟨hCI, hDI, Ne.symm hDC⟩) (fun xv s₄ h₄ => ?_) fun _ _ e => e
      obtain ⟨h₄, tk₄, nw₄, rfl, F₄, N₄, off₄, _, r, t, u, v', rfl, hr, hP₄⟩ := h₄
      have hrg := (N₄ _ (.tail _ (.tail _ (.tail _ hr)))).1
      have hcj := hcnt j
      refine wpAny_pyIter_range (a := 0) (b := (cnt j : Int)) (c := 1) hrg (small_one (by decide) (by decide) (by omega) (by omega)) ?_
      rw [range_size]
      have J_ne : ∀ b o, h₄.get? b = some o → @Ne Nat h₄.objs.size b := fun b o e => Nat.ne_of_gt (Heap.lt_size e)
      have nI := N₄ (I, oI) (.head _)
      have nC := N₄ (C, oC) (.tail _ (.head _))
      have nD := N₄ (D, lst ys) (.tail _ (.tail _ (.head _)))
      have up : ∀ b o, h₄.get? b = some o → (h₄.push { cls := .type "range_iterator", data := .fields #[rawInt 0, rawInt (cnt j), rawInt 1] }).get? b = some o := fun b o e => Heap.get?_push_of_some _ e
      have hJ : IsRangeIter (h₄.push { cls := .type "range_iterator", data := .fields #[rawInt 0, rawInt (cnt j), rawInt 1] }) h₄.objs.size 0 (cnt j) 1 := Heap.get?_push_size _ rfl
      have inner : codeAny (model PG w) A (.compLoop (compE elt iter iter2 x y px py scope pos) 1 (.ref h₄.objs.size) (.ref D) (compEnvC scope cl C env)) (fun r s₅ => match r with
            | .ok _ => ∃ m_1, m_1 < its.size + 1 - j ∧ ∃ h' tk j ys m' nw, s₅ = { s₂ with heap := h', toks := tk } ∧ j ≤ its.size ∧ m_1 = its.size + 1 - j ∧ (h'.IsListIter I ax j ∧ h'.IsList ax its) ∧ Fr h₀ L h' m ∧ h'.Ns C m' ∧ News h₀ L h' ((D, lst ys) :: nw) ∧ Off3 I C D nw ∧ Inv j 0 ys nw
            | .error e => cameBackBy (model PG w) A (compEnvC scope cl C env) (notedBy (model PG w) A (compEnvC scope cl C env) fun e s' => RR (.ref D) C (.error e) s') e s₅)
          { s₂ with heap := h₄.push { cls := .type "range_iterator", data := .fields #[rawInt 0, rawInt (cnt j), rawInt 1] }, toks := tk₄ } := by
        refine inner_two (oI := oI) (I := I) (n := cnt j) (v := v) (fun i => Inv j i) hh (fun i ys nw => hys j i ys nw) hkind hy hxy
          ⟨Nat.ne_of_gt F₄.ns.lt, J_ne _ _ nC.1, J_ne _ _ nD.1, J_ne _ _ nI.1⟩ (Heap.get?_none_of_le (Nat.le_trans F₄.above (Nat.le_of_lt F₄.ns.lt))) ⟨hCI, hDI, Ne.symm hDC⟩ hCL hDL hC₀ hD₀
          (fun i t ys nw oJ oC m₂ h tk E' hi hPi n1 n2 n3 Fi Ni oi oj => hElt j i v t ys nw _ oJ I oI C oC D m₂ h tk E' hPv hi hPi n1 n2 n3 Fi Ni oi oj ⟨hCI, hDI, Ne.symm hDC⟩)
          hJ (F₄.push _) ((hoC.ns nC.1).at' fun o e => up _ _ e) (by first | k_mem | simp) (fun p hp => ?_) off₄ (Off1.of fun p hp => Ne.symm (J_ne _ _ (N₄ p (.tail _ (.tail _ (.tail _ hp)))).1)) hP₄ fun h₅ tk₅ m₅ ys₅ nw₅ F₅ hn₅ N₅ off₅ hP₅ => ?_
        · rcases List.mem_cons.mp hp with rfl | hp
          · exact ⟨up _ _ nI.1, nI.2⟩
          · have z := N₄ p (.tail _ (.tail _ hp))
            exact ⟨up _ _ z.1, z.2⟩
        · have hP6 := hNext j ys₅ nw₅ hlt hP₅
          exact ⟨its.size + 1 - (j + 1), by omega, h₅, tk₅, j + 1, ys₅, m₅, nw₅, rfl, hlt, rfl, ⟨⟨oI, (N₅ (I, oI) (.head _)).1, hcI, hdI⟩, (hsrc _ _ _ _ hP6).list F₅.keep fun p hp => N₅ p (.tail _ (.tail _ hp))⟩, F₅, hn₅, (fun p hp => N₅ p (.tail _ hp)), off₅, hP6⟩
      exact start_two1 inner (wpAny_pyIter_rangeiter hJ inner)
    · obtain rfl : j = its.size := Nat.le_antisymm hj (Nat.not_lt.mp hlt)
      refine WL.done _ _ _ hst' fun h₂ tk₂ hk₂ => ?_
      exact hRR _ _ h₂ tk₂ _ ys nw (fr_but F' hk₂ hIL hI₀) (news_but N' hk₂ fun p hp => by
        rcases List.mem_cons.mp hp with rfl | hp
        · exact Ne.symm hDI
        · exact (offm p hp).1) off'.one (hn'.at' fun o e => hk₂ _ o (by simpa using Ne.symm hCI) e) hC₀ hD₀ hCL hDL (Ne.symm hDC) (fun p hp => (offm p hp).2.1) hP (Nat.le_refl _)
  exact codeAny_compStart_list (loop _ rfl) (WL.self 0 _ _ _ hst₁ (loop _ rfl))
theorem comp2_eval {elt iter iter2 : Expr} {x y : Str} {px py : Pos} {scope : Scope} {cl : List (Str × Addr)} {pos : Pos} {ax : Addr} {its : Array Value} {cnt : Nat → Nat} {news : List (Addr × Obj)} {Q : Value → Shared → Prop}
    (Inv : Nat → Nat → List Value → List (Addr × Obj) → Prop) (hh : A.handled = none) (hcnt : ∀ j, cnt j ≤ 100)
    (hys : ∀ j i ys nw, Inv j i ys nw → ys.length ≤ 1000) (hsrc : ∀ j i ys nw, Inv j i ys nw → SrcAt h₀ ax its nw)
    (hclos : closureFor scope env = pure cl) (hcell : ∀ z ∈ scope.names, z.2 ≠ .cell) (hkind : scope.kind = .function) (hnames : ∀ z ∈ scope.names, z.2 = .local → scope.names.lookup z.1 = some .local)
    (hx : scope.names.lookup x = some .local) (hy : scope.names.lookup y = some .local) (hxy : x ≠ y)
    (F : Fr h₀ L s.heap m) (N : News h₀ L s.heap news) (h0 : Inv 0 0 [] news)
    (hiter : ∀ (Q' E' : Value → Shared → Prop), Q' (.ref ax) s → wpAny (model PG w) A (eval iter env) Q' E' s)
    (hIter : ∀ j v ys nw I oI C oC D m₂ h tk (E' : Value → Shared → Prop), its[j]? = some v → Inv j 0 ys nw → NsObj oC m₂ → m₂ x = some v → Fr h₀ L h m → News h₀ L h ((I, oI) :: (C, oC) :: (D, lst ys) :: nw) → Off3 I C D nw → ((@Ne Nat I C) ∧ (@Ne Nat I D) ∧ (@Ne Nat C D)) →
      wpAny (model PG w) A (eval iter2 (compEnvC scope cl C env)) (CompEnd h₀ L m { s with heap := h, toks := tk } I oI C oC D (lst ys) (fun _ => True) (fun xv nw' => ∃ r t u v', xv = .ref r ∧ (r, rangeO (cnt j) t u v') ∈ nw' ∧ Inv j 0 ys nw')) E' { s with heap := h, toks := tk })
    (hElt : ∀ j i v t ys nw J oJ I oI C oC D m₂ h tk (E' : Value → Shared → Prop), its[j]? = some v → i < cnt j → Inv j i ys nw → NsObj oC m₂ → m₂ x = some v → m₂ y = some (.int (i : Int) t) → Fr h₀ L h m → News h₀ L h ((I, oI) :: (C, oC) :: (D, lst ys) :: (J, oJ) :: nw) → Off3 I C D ((J, oJ) :: nw) → Off1 J nw → ((@Ne Nat I C) ∧ (@Ne Nat I D) ∧ (@Ne Nat C D)) →
      wpAny (model PG w) A (eval elt (compEnvC scope cl C env)) (CompEnd h₀ L m { s with heap := h, toks := tk } I oI C oC D (lst ys) (fun _ => True) (fun yv nw' => ∃ nw'', nw' = (J, oJ) :: nw'' ∧ Off1 J nw'' ∧ Inv j (i + 1) (ys ++ [yv]) nw'')) E' { s with heap := h, toks := tk })
    (hs2 : ∀ (env' : Env) x, foldedSetIterable iter2 env' x = pure x)
    (hNext : ∀ j ys nw, j < its.size → Inv j (cnt j) ys nw → Inv (j + 1) 0 ys nw)
    (hfin : ∀ D h tk ys nw, Fr h₀ L h m → News h₀ L h ((D, lst ys) :: nw) → Off1 D nw → Inv its.size 0 ys nw → s.heap.objs.size ≤ D → Q (.ref D) { s with heap := h, toks := tk })
    (hs : ∀ x, foldedSetIterable iter env x = pure x := by intro _; rfl) :
    wpAny (model PG w) A (eval (compE elt iter iter2 x y px py scope pos) env) Q E s := by
  rw [eval_ListComp]
  refine wpAny_comprehension_free (use := none) rfl hs hclos hkind hnames (hiter _ _ ?_)
  have hl := (hsrc _ _ _ _ h0).list F.keep N
  have hlt : ax < s.heap.objs.size := by obtain ⟨_, e, _⟩ := hl; exact Heap.lt_size e
  refine wpAny_pyIter_list hl ?_
  have up : ∀ b o, s.heap.get? b = some o → (s.heap.push { cls := .type "list_iterator", data := .fields #[.ref ax, .int 0 0] }).get? b = some o := fun b o e => Heap.get?_push_of_some _ e
  refine comp2_block (E := E) (s₂ := { s with heap := s.heap.push { cls := .type "list_iterator", data := .fields #[.ref ax, .int 0 0] } }) (I := s.heap.objs.size) (ax := ax) (its := its) (cnt := cnt) (news := news) Inv hh hcnt hys hsrc hcell hkind hx hy hxy ⟨_, Heap.get?_push_size _ rfl, rfl, rfl⟩ (Nat.ne_of_lt hlt)
    (F.keeps up) (N.grown up) (Nat.ne_of_lt F.ns.lt) (next_is_new F) (fun p hp => Nat.ne_of_lt (Heap.lt_size (N p hp).1)) h0 hIter hElt hs2 hNext ?_
  intro D C h tk m' ys nw F' N' o1 hn hC₀ hD₀ hCL hDL hCD offC fin hge
  replace hge : s.heap.objs.size ≤ D := Nat.le_trans (Nat.le_succ _) (by rw [Heap.size_push] at hge; exact hge)
  refine ⟨m', hn, fun h'' hs'' => hfin D h'' tk ys nw (F'.change hs'' hCL hC₀) (fun p hp => ?_) o1 fin hge⟩
  refine ⟨hs''.extBut _ _ ?_ (N' p hp).1, (N' p hp).2⟩
  rcases List.mem_cons.mp hp with rfl | hp
  · exact Ne.symm hCD
  · exact offC p hp
theorem comp2_assign {elt iter iter2 : Expr} {x y z : Str} {px py pz : Pos} {scope : Scope} {cl : List (Str × Addr)} {pos spos : Pos} {ax : Addr} {its : Array Value} {cnt : Nat → Nat} {news : List (Addr × Obj)} {Q : Flow → Shared → Prop}
    (hLe : env.locals = L) (hsw : swapsWith (compE elt iter iter2 x y px py scope pos) (some (.Name z pz)) spos.line env = pure true)
    (hz : env.kindOf z = some .local) (hp : (env.scope.kind == .class || (env.scope.kind == .module && env.locals != env.globals)) = false)
    (Inv : Nat → Nat → List Value → List (Addr × Obj) → Prop) (hh : A.handled = none) (hcnt : ∀ j, cnt j ≤ 100)
    (hys : ∀ j i ys nw, Inv j i ys nw → ys.length ≤ 1000) (hsrc : ∀ j i ys nw, Inv j i ys nw → SrcAt h₀ ax its nw)
    (hclos : closureFor scope env = pure cl) (hcell : ∀ z ∈ scope.names, z.2 ≠ .cell) (hkind : scope.kind = .function) (hnames : ∀ z ∈ scope.names, z.2 = .local → scope.names.lookup z.1 = some .local)
    (hx : scope.names.lookup x = some .local) (hy : scope.names.lookup y = some .local) (hxy : x ≠ y)
    (F : Fr h₀ L s.heap m) (N : News h₀ L s.heap news) (h0 : Inv 0 0 [] news)
    (hiter : ∀ (Q' E' : Value → Shared → Prop), Q' (.ref ax) s → wpAny (model PG w) A (eval iter env) Q' E' s)
    (hIter : ∀ j v ys nw I oI C oC D m₂ h tk (E' : Value → Shared → Prop), its[j]? = some v → Inv j 0 ys nw → NsObj oC m₂ → m₂ x = some v → Fr h₀ L h m → News h₀ L h ((I, oI) :: (C, oC) :: (D, lst ys) :: nw) → Off3 I C D nw → ((@Ne Nat I C) ∧ (@Ne Nat I D) ∧ (@Ne Nat C D)) →
      wpAny (model PG w) A (eval iter2 (compEnvC scope cl C env)) (CompEnd h₀ L m { s with heap := h, toks := tk } I oI C oC D (lst ys) (fun _ => True) (fun xv nw' => ∃ r t u v', xv = .ref r ∧ (r, rangeO (cnt j) t u v') ∈ nw' ∧ Inv j 0 ys nw')) E' { s with heap := h, toks := tk })
    (hElt : ∀ j i v t ys nw J oJ I oI C oC D m₂ h tk (E' : Value → Shared → Prop), its[j]? = some v → i < cnt j → Inv j i ys nw → NsObj oC m₂ → m₂ x = some v → m₂ y = some (.int (i : Int) t) → Fr h₀ L h m → News h₀ L h ((I, oI) :: (C, oC) :: (D, lst ys) :: (J, oJ) :: nw) → Off3 I C D ((J, oJ) :: nw) → Off1 J nw → ((@Ne Nat I C) ∧ (@Ne Nat I D) ∧ (@Ne Nat C D)) →
      wpAny (model PG w) A (eval elt (compEnvC scope cl C env)) (CompEnd h₀ L m { s with heap := h, toks := tk } I oI C oC D (lst ys) (fun _ => True) (fun yv nw' => ∃ nw'', nw' = (J, oJ) :: nw'' ∧ Off1 J nw'' ∧ Inv j (i + 1) (ys ++ [yv]) nw'')) E' { s with heap := h, toks := tk })
    (hs2 : ∀ (env' : Env) x, foldedSetIterable iter2 env' x = pure x)
    (hNext : ∀ j ys nw, j < its.size → Inv j (cnt j) ys nw → Inv (j + 1) 0 ys nw)
    (hfin : ∀ D h tk ys nw, Fr h₀ L h (fun q => if q = z then some (.ref D) else m q) → News h₀ L h ((D, lst ys) :: nw) → Off1 D nw → Inv its.size 0 ys nw → s.heap.objs.size ≤ D → Q .next { s with heap := h, toks := tk })
    (hs : ∀ x, foldedSetIterable iter env x = pure x := by intro _; rfl) :
    wpAny (model PG w) A (exec (.Assign [.Name z pz] (compE elt iter iter2 x y px py scope pos) spos) env) Q E s := by
  subst hLe
  rw [exec_Assign_Name_used _ _ _ _ hsw]
  refine wpAny_bind (wpAny_standAt (wpAny_bind ?_))
  show wpAny _ A (do let _ ← comprehension (compE elt iter iter2 x y px py scope pos) scope env _ (newList []) false (eval iter env) (some (assign (.Name z pz) env))) _ _ s
  refine wpAny_bind (wpAny_mono (wpAny_comprehension_free (use := some (assign (.Name z pz) env)) (Q := fun _ s' => Q .next s') rfl hs hclos hkind hnames
    (hiter _ _ ?_)) (fun _ s' hq => wpAny_pure (wpAny_pure hq)) fun _ _ e => e)
  have hl := (hsrc _ _ _ _ h0).list F.keep N
  have hlt : ax < s.heap.objs.size := by obtain ⟨_, e, _⟩ := hl; exact Heap.lt_size e
  refine wpAny_pyIter_list hl ?_
  have up : ∀ b o, s.heap.get? b = some o → (s.heap.push { cls := .type "list_iterator", data := .fields #[.ref ax, .int 0 0] }).get? b = some o := fun b o e => Heap.get?_push_of_some _ e
  refine comp2_block (E := E) (s₂ := { s with heap := s.heap.push { cls := .type "list_iterator", data := .fields #[.ref ax, .int 0 0] } }) (I := s.heap.objs.size) (ax := ax) (its := its) (cnt := cnt) (news := news) Inv hh hcnt hys hsrc hcell hkind hx hy hxy ⟨_, Heap.get?_push_size _ rfl, rfl, rfl⟩ (Nat.ne_of_lt hlt)
    (F.keeps up) (N.grown up) (Nat.ne_of_lt F.ns.lt) (next_is_new F) (fun p hp => Nat.ne_of_lt (Heap.lt_size (N p hp).1)) h0 hIter hElt hs2 hNext ?_
  intro D C h tk m' ys nw F' N' o1 hn hC₀ hD₀ hCL hDL hCD offC fin hge
  replace hge : s.heap.objs.size ≤ D := Nat.le_trans (Nat.le_succ _) (by rw [Heap.size_push] at hge; exact hge)
  show wpAny _ A (assign (.Name z pz) env (.ref D)) _ _ _
  refine wpAny_assign_Name (wpAny_storeName_local hz F'.ns (fun h₂ hn₂ hs₂ => ?_) hp)
  have hL₀ : h₀.get? env.locals = none := Heap.get?_none_of_le F'.above
  have F₂ : Fr h₀ env.locals h₂ (fun q => if q = z then some (.ref D) else m q) := ⟨hn₂, fun b o e => hs₂.extBut b o (fun q => by rw [q, hL₀] at e; cases e) (F'.keep b o e), F'.above⟩
  refine ⟨m', hn.sameBut hs₂ hCL, fun h'' hs'' => hfin D h'' _ ys nw (F₂.change hs'' hCL hC₀) (fun p hp => ?_) o1 fin hge⟩
  have zz : h₂.get? p.1 = some p.2 := hs₂.extBut _ _ (N' p hp).2.1 (N' p hp).1
  refine ⟨hs''.extBut _ _ ?_ zz, (N' p hp).2⟩
  rcases List.mem_cons.mp hp with rfl | hp
  · exact Ne.symm hCD
  · exact offC p hp
theorem compEnd_new {s₁ : Shared} {I C D r : Addr} {oI oC oD o : Obj} {nw : List (Addr × Obj)} {rest : Value → List (Addr × Obj) → Prop} {yv : Value} {h' : Heap} {tk : Nat}
    (F : Fr h₀ L h' m) (N : News h₀ L h' ((I, oI) :: (C, oC) :: (D, oD) :: nw)) (hr : h'.get? r = some o) (hlt : @LT.lt Nat _ I r ∧ @LT.lt Nat _ C r ∧ @LT.lt Nat _ D r ∧ @LT.lt Nat _ L r) (off : Off3 I C D nw) (hrest : rest yv ((r, o) :: nw)) :
    CompEnd h₀ L m s₁ I oI C oC D oD (fun _ => True) rest yv { s₁ with heap := h', toks := tk } := by
  refine ⟨_, _, (r, o) :: nw, rfl, F, fun q hq => ?_, ⟨⟨Nat.ne_of_gt hlt.1, Nat.ne_of_gt hlt.2.1, Nat.ne_of_gt hlt.2.2.1⟩, off⟩, trivial, hrest⟩
  simp only [List.mem_cons] at hq
  rcases hq with rfl | rfl | rfl | rfl | hq
  · exact N _ (.head _)
  · exact N _ (.tail _ (.head _))
  · exact N _ (.tail _ (.tail _ (.head _)))
  · exact ⟨hr, Nat.ne_of_gt hlt.2.2.2, Heap.get?_none_of_le (Nat.le_trans F.above (Nat.le_of_lt hlt.2.2.2))⟩
  · exact N _ (.tail _ (.tail _ (.tail _ hq)))
theorem compEnd_elt {s₁ : Shared} {I C D J r : Addr} {oI oC oD oJ o : Obj} {nw led : List (Addr × Obj)} {P : Value → List (Addr × Obj) → Prop} {yv : Value} {h' : Heap} {tk : Nat}
    (F : Fr h₀ L h' m) (N : News h₀ L h' led) (hnew : (r, o) ∈ led) (hsub : ∀ q ∈ (I, oI) :: (C, oC) :: (D, oD) :: (J, oJ) :: nw, q ∈ led) (hlt : @LT.lt Nat _ I r ∧ @LT.lt Nat _ C r ∧ @LT.lt Nat _ D r ∧ @LT.lt Nat _ J r)
    (off : Off3 I C D ((J, oJ) :: nw)) (offJ : Off1 J nw) (hP : P yv ((r, o) :: nw)) :
    CompEnd h₀ L m s₁ I oI C oC D oD (fun _ => True) (fun yv nw' => ∃ nw'', nw' = (J, oJ) :: nw'' ∧ Off1 J nw'' ∧ P yv nw'') yv { s₁ with heap := h', toks := tk } := by
  refine ⟨_, _, (J, oJ) :: (r, o) :: nw, rfl, F, fun q hq => ?_, ⟨off.1, ⟨Nat.ne_of_gt hlt.1, Nat.ne_of_gt hlt.2.1, Nat.ne_of_gt hlt.2.2.1⟩, off.2⟩, trivial, _, rfl, ⟨Nat.ne_of_gt hlt.2.2.2, offJ⟩, hP⟩
  simp only [List.mem_cons] at hq
  rcases hq with h | h | h | h | h | hq
  · exact N _ (hsub _ (by (first | (subst h; k_mem) | ((repeat (first | exact h | refine List.Mem.tail _ ?_ | exact List.mem_append_right _ h | exact List.mem_append_left _ h)); done) | simp [h])))
  · exact N _ (hsub _ (by (first | (subst h; k_mem) | ((repeat (first | exact h | refine List.Mem.tail _ ?_ | exact List.mem_append_right _ h | exact List.mem_append_left _ h)); done) | simp [h])))
  · exact N _ (hsub _ (by (first | (subst h; k_mem) | ((repeat (first | exact h | refine List.Mem.tail _ ?_ | exact List.mem_append_right _ h | exact List.mem_append_left _ h)); done) | simp [h])))
  · exact N _ (hsub _ (by (first | (subst h; k_mem) | ((repeat (first | exact h | refine List.Mem.tail _ ?_ | exact List.mem_append_right _ h | exact List.mem_append_left _ h)); done) | simp [h])))
  · rw [h]; exact N _ hnew
  · exact N _ (hsub _ (by (first | (subst hq; k_mem) | ((repeat (first | exact hq | refine List.Mem.tail _ ?_ | exact List.mem_append_right _ hq | exact List.mem_append_left _ hq)); done) | simp [hq])))
end
end
end
section
section
open PyProof.Rows.LCg
set_option maxRecDepth 100000
set_option maxHeartbeats 2000000
noncomputable def arrgDef : Stmt := PG.main.body.getD 5 default
noncomputable def arrgBody : List Stmt := bdy arrgDef
noncomputable def arrAsg : Stmt := (forBody (arrgBody.getD 1 default)).getD 0 default
noncomputable abbrev envR (L a : Addr) (ccd : Value) : Env := envX (Str.ofString "_law_arranged") (scp arrgDef) L a ccd (cellsFrom (L + 1) (scp arrgDef).names [])
/-- the rows made so far, in the turn of number k: the rows j ahead whole, and i of the next -/
noncomputable def insF (k : Nat) (row : List Int) (i : Nat) : List Int := row.take i ++ [(k : Int)] ++ row.drop i
noncomputable def partF (k j i : Nat) : List (List Int) := (((arrF k).take j).flatMap fun row => (List.range (k + 1)).map (insF k row)) ++ (List.range i).map (insF k ((arrF k).getD j []))
theorem arrF_len : ∀ k, k ≤ 3 → (arrF k).length ≤ 6 := by
  intro k hk
  have : k = 0 ∨ k = 1 ∨ k = 2 ∨ k = 3 := by omega
  rcases this with rfl | rfl | rfl | rfl <;> decide
theorem arrF_row : ∀ k, k ≤ 3 → ∀ row ∈ arrF k, row.length = k := by
  intro k hk
  have : k = 0 ∨ k = 1 ∨ k = 2 ∨ k = 3 := by omega
  rcases this with rfl | rfl | rfl | rfl <;> decide
theorem partF_len {k j i : Nat} (hk : k ≤ 3) (hi : i ≤ k + 1) : (partF k j i).length ≤ 1000 := by
  have h1 : ∀ l : List (List Int), (l.flatMap fun row => (List.range (k + 1)).map (insF k row)).length = l.length * (k + 1) := by
    intro l
    induction l with
    | nil => simp
    | cons a l ih => rw [List.flatMap_cons, List.length_append, ih]; simp [Nat.add_mul]; omega
  have h2 := arrF_len k hk
  unfold partF
  rw [List.length_append, h1, List.length_map, List.length_range, List.length_take]
  have : min j (arrF k).length * (k + 1) ≤ 6 * 4 := Nat.mul_le_mul (by omega) (by omega)
  omega
theorem partF_next {k j : Nat} (hj : j < (arrF k).length) : partF k j (k + 1) = partF k (j + 1) 0 := by
  unfold partF
  rw [List.take_add_one, List.getElem?_eq_getElem hj, List.flatMap_append]
  have e : (arrF k).getD j [] = (arrF k)[j] := by simp [List.getD_eq_getElem?_getD, List.getElem?_eq_getElem hj]
  rw [e]
  simp
theorem partF_all (k : Nat) : partF k (arrF k).length 0 = arrF (k + 1) := by
  unfold partF
  rw [List.take_of_length_le (Nat.le_refl _)]
  simp only [List.range_zero, List.map_nil, List.append_nil]
  rfl
theorem partF_succ (k j i : Nat) : partF k j (i + 1) = partF k j i ++ [insF k ((arrF k).getD j []) i] := by
  unfold partF
  rw [List.range_succ (n := i), List.map_append, ← List.append_assoc]
  rfl
noncomputable def eltOf : Expr → Expr | .ListComp e _ _ _ => e | _ => default
noncomputable def scpOf : Expr → Scope | .ListComp _ _ s _ => s | _ => default
noncomputable def valOf : Stmt → Expr | .Assign _ v _ => v | _ => default
theorem slice_from {w : World} {A : Around} {E : Value → Shared → Prop} {s : Shared} {h₀ : Heap} {L l : Addr} {m : Str → Option Value} {news : List (Addr × Obj)} {vs : List Value} {xs : List Int} {c i : Nat} {t : Tok} {value slice : Expr} {Q : Value → Shared → Prop}
    (F : Fr h₀ L s.heap m) (N : News h₀ L s.heap news) (hm : (l, W.listOf vs.toArray c) ∈ news) (hI : IntsAre vs xs) (hz : xs.length ≤ 64)
    (h : ∀ r us h', IntsAre us (xs.drop i) → Fr h₀ L h' m → News h₀ L h' ((r, W.listOf us.toArray 0) :: news) → (∀ q ∈ news, q.1 < r) → @LT.lt Nat _ L r → Q (.ref r) { s with heap := h' })
    (hs : subscripted slice false (.ref l) (.ref s.heap.objs.size) = operate [.ref s.heap.objs.size, .ref l] (getItem (.ref l) (.ref s.heap.objs.size))) :
    wpAny (model PG w) A (subscriptTail value slice (.ref l) (.ref s.heap.objs.size)) Q E { s with heap := s.heap.push { cls := .type "slice", data := .fields #[.int (i : Int) t, .none, .none] } } := by
  have hl : s.heap.IsList l vs.toArray := PySem.IsL.isList (n := c) (N _ hm).1
  have lt : ∀ q ∈ news, q.1 < s.heap.objs.size := fun q hq => Heap.lt_size (N q hq).1
  have hvl := hI.length
  refine tail_any (hl.push _).typeIs slot_list_getitem.lookup (wpAny_getItem_list_slice (lo := some (i : Int)) (hi := none) (st := none) (hl.push _) (Heap.IsSliceOf.new ..) (.int _ t) .none .none (by simp) ?_ (by rw [List.size_toArray, sizeLine_eq]; omega)) hs
  rw [slicePick_from' vs.toArray i]
  have hz1 : (s.heap.push { cls := .type "slice", data := .fields #[.int (i : Int) t, .none, .none] }).objs.size = s.heap.objs.size + 1 := Heap.size_push ..
  refine hz1 ▸ h (s.heap.objs.size + 1) (vs.drop i) _ (hI.drop i) ((F.push _).push _) (fun q hq => ?_) (fun q hq => Nat.lt_succ_of_lt (lt q hq)) (Nat.lt_succ_of_lt F.ns.lt)
  rcases List.mem_cons.mp hq with rfl | hq
  · refine ⟨hz1 ▸ Heap.get?_push_size _ rfl, Nat.ne_of_gt (Nat.lt_succ_of_lt F.ns.lt), ?_⟩
    exact Heap.get?_none_of_le (Nat.le_trans F.above (Nat.le_succ_of_le (Nat.le_of_lt F.ns.lt)))
  · exact ⟨Heap.get?_push_of_some _ (Heap.get?_push_of_some _ (N q hq).1), (N q hq).2⟩
/-- an element: the row with the number put in at a place -/
theorem arr_elt {w : World} {p : Program} {loose : List Str} {mean : ExcName → Option Value} {mg mb : Str → Option Value}
    {dp un : Nat} {gd : Option (List Code)} {a : Addr} {ccd : Value} {outer : List Env} {A₀ : Around} {base h₀ : Heap} {L : Addr} {m₁ : Str → Option Value} {s : Shared} {Q E : Value → Shared → Prop}
    {k i : Nat} {tk' t : Tok} {o1 oC oI oD oJ : Obj} {b C I D J : Addr} {ws : List Value} {row : List Int} {c : Nat} {m₂ : Str → Option Value} {nw : List (Addr × Obj)}
    (B : Below A₀ base outer h₀) (X : (Mine.hd.heap_1 w.params).In h₀) (T : Top p loose mean mg mb h₀) (F : Fr h₀ L s.heap m₁)
    (N : News h₀ L s.heap ((b, W.listOf ws.toArray c) :: (L + 1, o1) :: (I, oI) :: (C, oC) :: (D, oD) :: (J, oJ) :: nw)) (hk : k ≤ 3) (c1 : o1.data = .cell (some (.int (k : Int) tk'))) (hoC : NsObj oC m₂)
    (hmx : m₂ (Str.ofString "row") = some (.ref b)) (hmy : m₂ (Str.ofString "at") = some (.int (i : Int) t)) (hI : IntsAre ws row) (hrl : row.length = k) (hi : i < k + 1)
    (hd : dp + 20 < recursionLimit) (hu : un + 200 < cLine)
    (hret : ∀ r us h' tk, IntsAre us (row.take i ++ [(k : Int)] ++ row.drop i) → Fr h₀ L h' m₁ → News h₀ L h' ((r, W.listOf us.toArray 0) :: (b, W.listOf ws.toArray c) :: (L + 1, o1) :: (I, oI) :: (C, oC) :: (D, oD) :: (J, oJ) :: nw) →
      (@LT.lt Nat _ I r ∧ @LT.lt Nat _ C r ∧ @LT.lt Nat _ D r ∧ @LT.lt Nat _ J r) → @LT.lt Nat _ (L + 1) r → Q (.ref r) { s with heap := h', toks := tk }) :
    wpAny (model PG w) (ktrTop dp un gd (Str.ofString "_law_arranged") (scp arrgDef) L a ccd (cellsFrom (L + 1) (scp arrgDef).names []) outer) (eval (eltOf (valOf arrAsg)) (compEnvC (scpOf (valOf arrAsg)) [(Str.ofString "number", L + 1)] C (envR L a ccd))) Q E s := by
  have hb : eltOf (valOf arrAsg) = .BinOp _ _ _ _ := rfl
  rw [hb]
  have hL : @LT.lt Nat _ L (L + 1) := Nat.lt_succ_self _
  iterate 23 (first | (k_unfold; (try dsimp only)) | (k_end; wrow_close) | walk1 | (dsimp only; walk1) | (leave1; walk_say "STEP leave1"; try dsimp only) | fail "no step")
  rename Fr _ _ _ _ => kF0
  rename News _ _ _ _ => kN0
  refine' slice_from (i := i) (c := c) kF0 kN0 (by k_mem) hI (by omega) (fun r us h2 kI2 kF2 kN2 kl2 kL2 => ?_) ?hs
  (case hs => with_unfolding_all rfl)
  clear kF0 kN0
  (first | (k_unfold; (try dsimp only)) | (k_end; wrow_close) | walk1 | (dsimp only; walk1) | (leave1; walk_say "STEP leave1"; try dsimp only) | fail "no step")
  rename Fr _ _ _ _ => kF
  rename News _ _ _ _ => kN
  rename IntsAre _ (_ ++ _ ++ _) => kI
  rename (_ ∧ _ ∧ _ ∧ _ ∧ _ ∧ _ ∧ _ ∧ _ ∧ _ ∧ _ ∧ _) => kL
  obtain ⟨-, -, -, -, -, q6, q7, q8, q9, q10, -⟩ := kL
  refine hret _ _ _ _ kI kF (fun q hq => kN q ?_) ⟨q7, q8, q9, q10⟩ q6
  simp only [List.mem_cons] at hq ⊢
  rcases hq with h | h | h | h | h | h | h | h <;> simp [h]
theorem RowsL.filter {led : List (Addr × Obj)} {x : Addr} (hx : ∀ b ws c, (b, W.listOf ws c) ∈ led → @Ne Nat b x) : ∀ {vs : List Value} {ds : List (List Int)}, RowsL led vs ds → RowsL (led.filter fun q => decide (@Ne Nat q.1 x)) vs ds
  | [], [], _ => trivial
  | _ :: _, _ :: _, ⟨⟨b, ws, c, e, hm, hi⟩, r⟩ => ⟨⟨b, ws, c, e, List.mem_filter.mpr ⟨hm, decide_eq_true (hx _ _ _ hm)⟩, hi⟩, RowsL.filter hx r⟩
theorem arr_turn {w : World} {p : Program} {loose : List Str} {mean : ExcName → Option Value} {mg mb : Str → Option Value}
    {dp un : Nat} {gd : Option (List Code)} {a : Addr} {ccd : Value} {outer : List Env} {A₀ : Around} {base h₀ : Heap} {L : Addr} {m₁ : Str → Option Value} {s : Shared} {Q : Flow → Shared → Prop} {E : Value → Shared → Prop}
    {fo : Addr} {vs : List Value} {fc k : Nat} {tk' : Tok} {o1 : Obj} {rest : List (Addr × Obj)}
    (B : Below A₀ base outer h₀) (X : (Mine.hd.heap_1 w.params).In h₀) (T : Top p loose mean mg mb h₀)
    (F : Fr h₀ L s.heap (fun y => if y = Str.ofString "found" then some (.ref fo) else m₁ y))
    (N : News h₀ L s.heap ((fo, W.listOf vs.toArray fc) :: (L + 1, o1) :: rest)) (hR : RowsL rest vs (arrF k)) (hlo : @LT.lt Nat _ (L + 1) fo ∧ ∀ q ∈ rest, @LT.lt Nat _ (L + 1) q.1) (hk : k ≤ 3) (c1 : o1.data = .cell (some (.int (k : Int) tk')))
    (hd : dp + 20 < recursionLimit) (hu : un + 200 < cLine)
    (hret : ∀ D h' tk ys rest', RowsL rest' ys (arrF (k + 1)) → (@LT.lt Nat _ (L + 1) D ∧ ∀ q ∈ rest', @LT.lt Nat _ (L + 1) q.1) → (∀ q ∈ rest, q ∈ rest') → Fr h₀ L h' (fun y => if y = Str.ofString "found" then some (.ref D) else m₁ y) → News h₀ L h' ((D, W.listOf ys.toArray ys.length) :: (L + 1, o1) :: rest') → Q .next { s with heap := h', toks := tk }) :
    wpAny (model PG w) (ktrTop dp un gd (Str.ofString "_law_arranged") (scp arrgDef) L a ccd (cellsFrom (L + 1) (scp arrgDef).names []) outer) (exec arrAsg (envR L a ccd)) Q E s := by
  have hb : arrAsg = .Assign [.Name (Str.ofString "found") _] (compE _ _ _ _ _ _ _ _ _) _ := rfl
  rw [hb]
  have hln := hR.len
  have hvl : vs.toArray.size = (arrF k).length := by rw [List.size_toArray, hln]
  refine comp2_assign (L := L) (ax := fo) (its := vs.toArray) (cnt := fun _ => k + 1) (news := (fo, W.listOf vs.toArray fc) :: (L + 1, o1) :: rest) rfl rfl rfl rfl
    (fun j i ys nw => (∀ q ∈ (fo, W.listOf vs.toArray fc) :: (L + 1, o1) :: rest, q ∈ nw) ∧ (∀ q ∈ nw, q = (L + 1, o1) ∨ @LT.lt Nat _ (L + 1) q.1) ∧ RowsL nw ys (partF k j i) ∧ i ≤ k + 1) rfl (by intro _; omega) ?hys ?hsrc rfl (by decide +kernel) rfl (by decide +kernel) rfl rfl (by decide) F N ?h0 ?hiter ?hIter ?hElt (by intro _ _; rfl) ?hNext ?hfin (by intro _; rfl)
  case hys =>
    rintro j i ys nw ⟨_, _, h3, h4⟩
    rw [h3.len]; exact partF_len hk h4
  case hsrc =>
    rintro j i ys nw ⟨h1, _⟩
    exact .inr ⟨_, h1 _ (.head _), rfl, fc, rfl⟩
  case h0 =>
    refine ⟨fun _ h => h, fun q hq => ?_, trivial, Nat.zero_le _⟩
    simp only [List.mem_cons] at hq
    rcases hq with rfl | rfl | hq
    · exact .inr hlo.1
    · exact .inl rfl
    · exact .inr (hlo.2 q hq)
  case hNext =>
    rintro j ys nw hj ⟨h1, h2, h3, _⟩
    rw [hvl] at hj
    exact ⟨h1, h2, partF_next hj ▸ h3, Nat.zero_le _⟩
  case hfin =>
    rintro D h tk ys nw F' N' o1' ⟨g1, g2, g3, _⟩ hge
    rw [hvl, partF_all] at g3
    have e : (fun q => if q = Str.ofString "found" then some (Value.ref D) else if q = Str.ofString "found" then some (Value.ref fo) else m₁ q) = (fun y => if y = Str.ofString "found" then some (Value.ref D) else m₁ y) := by
      funext y
      by_cases e : y = Str.ofString "found" <;> simp [e]
    have ncell : ∀ b ws c, (b, W.listOf ws c) ∈ nw → @Ne Nat b (L + 1) := fun b ws c hm e => by
      have z1 := (N' _ (.tail _ hm)).1
      have z2 := (N' _ (.tail _ (g1 _ (.tail _ (.head _))))).1
      dsimp only at z1 z2
      rw [show b = L + 1 from e] at z1
      rw [z1] at z2
      rw [← Option.some.inj z2] at c1
      cases c1
    have hD : @LT.lt Nat _ (L + 1) D := Nat.lt_of_lt_of_le (Heap.lt_size (N _ (.tail _ (.head _))).1) hge
    refine hret D h tk ys (nw.filter fun q => decide (@Ne Nat q.1 (L + 1))) (g3.filter ncell) ⟨hD, fun q hq => ?_⟩ (fun q hq => List.mem_filter.mpr ⟨g1 q (.tail _ (.tail _ hq)), decide_eq_true (Nat.ne_of_gt (hlo.2 q hq))⟩) (e ▸ F') fun q hq => ?_
    · obtain ⟨hq1, hq2⟩ := List.mem_filter.mp hq
      rcases g2 q hq1 with rfl | h
      · exact absurd rfl (of_decide_eq_true hq2)
      · exact h
    · rcases List.mem_cons.mp hq with rfl | hq
      · exact N' _ (.head _)
      rcases List.mem_cons.mp hq with rfl | hq
      · exact N' _ (.tail _ (g1 _ (.tail _ (.head _))))
      · exact N' q (.tail _ (List.mem_filter.mp hq).1)
  case hiter =>
    intro Q' E' hQ
    k_steps
    all_goals exact hQ
  case hIter =>
    rintro j v ys nw I oI C oC D m₂ h tk E' hv ⟨g1, g2, g3, g4⟩ hoC hmx F N off ⟨n1, n2, n3⟩
    have hlt : ∀ q ∈ (I, oI) :: (C, oC) :: (D, lst ys) :: nw, @LT.lt Nat _ q.1 h.objs.size := fun q hq => Heap.lt_size (N q hq).1
    have hL : @LT.lt Nat _ L h.objs.size := F.ns.lt
    have hlt' : ∀ q ∈ nw, @LT.lt Nat _ q.1 h.objs.size := fun q hq => hlt q (.tail _ (.tail _ (.tail _ hq)))
    have N1 : News h₀ L h ((I, oI) :: (C, oC) :: (D, lst ys) :: (L + 1, o1) :: nw) := News.sub N (by
      intro q hq
      simp only [List.mem_cons] at hq ⊢
      rcases hq with h | h | h | h | h
      · simp [h]
      · simp [h]
      · simp [h]
      · exact .inr (.inr (.inr (h ▸ g1 _ (.tail _ (.head _)))))
      · simp [h])
    clear N
    k_steps
    rename IsRange _ _ _ _ _ _ _ _ => kR
    rename Fr _ _ _ _ => kF
    rename News _ _ _ _ => kN
    refine compEnd_new (r := h.objs.size) kF (fun q hq => kN q ?_) kR ⟨hlt (I, oI) (.head _), hlt (C, oC) (.tail _ (.head _)), hlt (D, lst ys) (.tail _ (.tail _ (.head _))), hL⟩ off
      ⟨_, _, _, _, rfl, .head _, fun q hq => .tail _ (g1 q hq), fun q hq => ?_, g3.mono fun q hq => .tail _ hq, Nat.zero_le _⟩
    · simp only [List.mem_cons] at hq ⊢
      rcases hq with h | h | h | h <;> simp [h]
    · rcases List.mem_cons.mp hq with rfl | hq
      · exact .inr (hlt' _ (g1 _ (.tail _ (.head _))))
      · exact g2 q hq
  case hElt =>
    rintro j i v t ys nw J oJ I oI C oC D m₂ h tk E' hv hi ⟨g1, g2, g3, g4⟩ hoC hmx hmy F N off offJ ⟨n1, n2, n3⟩
    obtain ⟨row, b, ws, c, hd1, rfl, hmem, hI⟩ := RowsL.get hR j (by simpa using hv)
    have hrl : row.length = k := arrF_row k hk row (List.mem_of_getElem? hd1)
    have N1 : News h₀ L h ((b, W.listOf ws.toArray c) :: (L + 1, o1) :: (I, oI) :: (C, oC) :: (D, lst ys) :: (J, oJ) :: nw) := News.sub N (by
      intro q hq
      simp only [List.mem_cons] at hq ⊢
      rcases hq with h | h | h
      · exact .inr (.inr (.inr (.inr (h ▸ g1 _ (.tail _ (.tail _ hmem))))))
      · exact .inr (.inr (.inr (.inr (h ▸ g1 _ (.tail _ (.head _))))))
      · exact h)
    refine arr_elt (c := c) B X T F N1 hk c1 hoC hmx hmy hI hrl hi hd hu fun r us h' tk2 kI kF kN kl kL => ?_
    refine compEnd_elt kF kN (.head _) (fun q hq => ?_) kl off offJ ⟨fun q hq => .tail _ (g1 q hq), fun q hq => ?_, ?_, by omega⟩
    · simp only [List.mem_cons] at hq ⊢
      rcases hq with h | h | h | h | h <;> simp [h]
    · rcases List.mem_cons.mp hq with rfl | hq
      · exact .inr kL
      · exact g2 q hq
    · rw [partF_succ]
      have e : (arrF k).getD j [] = row := by rw [List.getD_eq_getElem?_getD, hd1]; rfl
      rw [e]
      exact RowsL.snoc (c := 0) (.head _) kI (g3.mono fun q hq => .tail _ hq)
end
end
section
section
open PyProof.Rows.LCg
set_option maxRecDepth 100000
set_option maxHeartbeats 2000000
theorem map_two {m : Str → Option Value} {x y : Str} {u v : Value} (h1 : m x = some u) (h2 : m y = some v) : (fun z => if z = x then some u else if z = y then some v else m z) = m := by
  funext z
  by_cases e1 : z = x
  · rw [if_pos e1, e1, h1]
  · rw [if_neg e1]
    by_cases e2 : z = y
    · rw [if_pos e2, e2, h2]
    · rw [if_neg e2]
noncomputable abbrev arrTop (dp un : Nat) (gd : Option (List Code)) (L a : Addr) (ccd : Value) (outer : List Env) : Around := ktrTop dp un gd (Str.ofString "_law_arranged") (scp arrgDef) L a ccd (cellsFrom (L + 1) (scp arrgDef).names []) outer
theorem arr_loop {w : World} {p : Program} {loose : List Str} {mean : ExcName → Option Value} {mg mb : Str → Option Value}
    {dp un : Nat} {gd : Option (List Code)} {a : Addr} {ccd : Value} {outer : List Env} {A₀ : Around} {base h₀ : Heap} {L : Addr} {m₀ : Str → Option Value} {s : Shared} {Q : Flow → Shared → Prop} {E : Value → Shared → Prop}
    {fo : Addr} {vs : List Value} {fc n : Nat} {tn : Tok} {o1 : Obj} {rest : List (Addr × Obj)}
    (B : Below A₀ base outer h₀) (X : (Mine.hd.heap_1 w.params).In h₀) (T : Top p loose mean mg mb h₀)
    (F : Fr h₀ L s.heap m₀) (hm1 : m₀ (Str.ofString "found") = some (.ref fo)) (hm2 : m₀ (Str.ofString "many") = some (.int (n : Int) tn))
    (N : News h₀ L s.heap ((fo, W.listOf vs.toArray fc) :: (L + 1, o1) :: rest)) (hR : RowsL rest vs (arrF 0)) (hlo : @LT.lt Nat _ (L + 1) fo ∧ ∀ q ∈ rest, @LT.lt Nat _ (L + 1) q.1) (hn : n ≤ 4) (c1 : o1.data = .cell none)
    (hd : dp + 20 < recursionLimit) (hu : un + 200 < cLine)
    (hret : ∀ D h' tk ys c rest', RowsL rest' ys (arrF n) → (@LT.lt Nat _ (L + 1) D ∧ ∀ q ∈ rest', @LT.lt Nat _ (L + 1) q.1) → Fr h₀ L h' (fun y => if y = Str.ofString "found" then some (.ref D) else if y = Str.ofString "many" then some (.int (n : Int) tn) else m₀ y) → News h₀ L h' ((D, W.listOf ys.toArray c) :: rest') → Q .next { s with heap := h', toks := tk }) :
    wpAny (model PG w) (arrTop dp un gd L a ccd outer) (exec (arrgBody.getD 1 default) (envR L a ccd)) Q E s := by
  have hb : arrgBody.getD 1 default = .For (.Name (Str.ofString "number") _) _ [_] [] _ := rfl
  rw [hb]
  rw [← map_two hm1 hm2] at F
  refine wpAny_For ?_ (by intro _; rfl)
  k_steps
  rename IsRange _ _ _ _ _ _ _ _ => kR
  rename Fr _ _ _ _ => kF
  rename News _ _ _ _ => kN
  refine wpAny_pyIter_range (a := 0) (b := (n : Int)) (c := 1) kR (small_one (by decide) (by decide) (by omega) (by omega)) ?_
  rw [range_size]
  dsimp only
  rename_i h1 _ _ _ _ _
  have J_ne : ∀ b o, h1.get? b = some o → @LT.lt Nat _ b h1.objs.size := fun b o e => Heap.lt_size e
  generalize hJ : h1.objs.size = J at J_ne
  have hit : IsRangeIter (h1.push { cls := .type "range_iterator", data := .fields #[rawInt 0, rawInt (n : Int), rawInt 1] }) J 0 n 1 := hJ ▸ Heap.get?_push_size _ rfl
  have JL : @LT.lt Nat _ L J := hJ ▸ kF.ns.lt
  have J1 : @LT.lt Nat _ (L + 1) J := J_ne _ _ (kN _ (.tail _ (.head _))).1
  have hJ₀ : h₀.get? J = none := Heap.get?_none_of_le (Nat.le_trans kF.above (Nat.le_of_lt JL))
  have WR := range_walks (prog := PG) (w := w) (A := arrTop dp un gd L a ccd outer) (I := J) rfl 0 n
  have oldJ : ∀ q ∈ (fo, W.listOf vs.toArray fc) :: rest, @Ne Nat q.1 J := fun q hq => by
    rcases List.mem_cons.mp hq with rfl | hq
    · exact Nat.ne_of_lt (J_ne _ _ (kN _ (.head _)).1)
    · exact Nat.ne_of_lt (J_ne _ _ (kN q (.tail _ (.tail _ hq))).1)
  refine codeAny_forLoop_any
    (fun k s' => ∃ h' tk i D ys c rest' o1' v0, s' = { s with heap := h', toks := tk } ∧ i ≤ n ∧ k = n + 1 - i ∧ IsRangeIter h' J ((0 : Int) + (i : Nat) * 1) ((n : Int) - (i : Nat)) 1 ∧
      Fr h₀ L h' (fun y => if y = Str.ofString "found" then some (.ref D) else if y = Str.ofString "many" then some (.int (n : Int) tn) else m₀ y) ∧ News h₀ L h' ((D, W.listOf ys.toArray c) :: (L + 1, o1') :: rest') ∧ o1'.data = .cell v0 ∧
      RowsL rest' ys (arrF i) ∧ (@LT.lt Nat _ (L + 1) D ∧ ∀ q ∈ rest', @LT.lt Nat _ (L + 1) q.1) ∧ (∀ q ∈ (D, W.listOf ys.toArray c) :: rest', @Ne Nat q.1 J)) ?_ (n + 1)
    ⟨_, _, 0, fo, vs, fc, rest, o1, none, rfl, Nat.zero_le _, rfl, by simpa using hit, kF.push _, (fun q hq => ⟨Heap.get?_push_of_some _ (kN q hq).1, (kN q hq).2⟩), c1, hR, hlo, oldJ⟩
  rintro k s' ⟨h', tk, i, D, ys, c, rest', o1', v0, rfl, hi, rfl, hst', F', N', hc', hR', hlo', hJ'⟩
  have keepN : ∀ {h2 : Heap}, (∀ b o, b ∉ [J] → h'.get? b = some o → h2.get? b = some o) → News h₀ L h2 ((D, W.listOf ys.toArray c) :: (L + 1, o1') :: rest') := fun hk => news_but N' hk fun q hq => by
    simp only [List.mem_cons] at hq
    rcases hq with rfl | rfl | hq
    · exact hJ' _ (.head _)
    · exact Nat.ne_of_lt J1
    · exact hJ' q (.tail _ hq)
  by_cases hlt : i < n
  · refine WR.item i _ _ _ hlt hst' fun v' h2 tk2 hPv hst2 hk2 => ?_
    obtain ⟨t, rfl⟩ := hPv
    rw [Int.zero_add]
    have F2 := fr_but F' hk2 (Nat.ne_of_lt JL) hJ₀
    have N2 := keepN hk2
    show wpAny _ _ (letOwnedTupleGo (.Name _ _) _ _) _ _ _
    refine wpAny_of_eq rfl ?_
    have N2' : News h₀ L h2 ([(D, W.listOf ys.toArray c)] ++ (L + 1, o1') :: (J, _) :: rest') := fun q hq => by
      simp only [List.mem_cons, List.mem_append, List.not_mem_nil, or_false] at hq
      rcases hq with rfl | rfl | rfl | hq
      · exact N2 _ (.head _)
      · exact N2 _ (.tail _ (.head _))
      · exact ⟨hst2, Nat.ne_of_gt JL, hJ₀⟩
      · exact N2 q (.tail _ (.tail _ hq))
    refine wpAny_assign_Name (stCN (x := Str.ofString "number") (own := [(D, W.listOf ys.toArray c)]) F2 N2' rfl hc' (fun q hq => ?_) (fun q hq => ?_) (fun h3 o3 F3 N3 hc3 => ?_))
    · rw [List.mem_singleton.mp hq]; exact Nat.ne_of_gt hlo'.1
    · rcases List.mem_cons.mp hq with rfl | hq
      · exact Nat.ne_of_gt J1
      · exact Nat.ne_of_gt (hlo'.2 q hq)
    refine wpAny_execs_cons ?_
    have N4 := N3
    rw [List.singleton_append] at N4
    refine arr_turn (k := i) B X T F3 N4 (hR'.mono fun q hq => .tail _ hq) ⟨hlo'.1, fun q hq => ?_⟩ (by omega) hc3 hd hu fun D5 h5 tk5 ys5 rest5 hR5 hlo5 hsub5 F5 N5 => ?_
    · rcases List.mem_cons.mp hq with rfl | hq
      · exact J1
      · exact hlo'.2 q hq
    · have zJ := N5 _ (.tail _ (.tail _ (hsub5 _ (.head _))))
      have nJ : ∀ b ws c, (b, W.listOf ws c) ∈ rest5 → @Ne Nat b J := fun b ws c hm e => by
        have z1 := (N5 _ (.tail _ (.tail _ hm))).1
        have z2 := zJ.1
        dsimp only at z1 z2
        rw [show b = J from e, z2] at z1
        exact absurd (congrArg Obj.cls (Option.some.inj z1)) (by show ¬ Value.type "range_iterator" = Value.type "list"; decide)
      refine wpAny_execs_nil ⟨n + 1 - (i + 1), by omega, h5, tk5, i + 1, D5, ys5, ys5.length, rest5.filter fun q => decide (@Ne Nat q.1 J), o3, _, rfl, hlt, rfl, zJ.1, F5, fun q hq => ?_, hc3, hR5.filter nJ, ⟨hlo5.1, fun q hq => hlo5.2 q (List.mem_filter.mp hq).1⟩, fun q hq => ?_⟩
      · rcases List.mem_cons.mp hq with rfl | hq
        · exact N5 _ (.head _)
        rcases List.mem_cons.mp hq with rfl | hq
        · exact N5 _ (.tail _ (.head _))
        · exact N5 q (.tail _ (.tail _ (List.mem_filter.mp hq).1))
      · rcases List.mem_cons.mp hq with rfl | hq
        · intro e
          have z1 := (N5 _ (.head _)).1
          have z2 := zJ.1
          dsimp only at z1 z2
          rw [show D5 = J from e, z2] at z1
          exact absurd (congrArg Obj.cls (Option.some.inj z1)) (by show ¬ Value.type "range_iterator" = Value.type "list"; decide)
        · exact of_decide_eq_true (List.mem_filter.mp hq).2
  · obtain rfl : i = n := Nat.le_antisymm hi (Nat.not_lt.mp hlt)
    refine WR.done _ _ _ hst' fun h2 tk2 hk2 => wpAny_execs_nil ?_
    have N2 := keepN hk2
    refine hret D h2 tk2 ys c rest' hR' hlo' (fr_but F' hk2 (Nat.ne_of_lt JL) hJ₀) fun q hq => ?_
    rcases List.mem_cons.mp hq with rfl | hq
    · exact N2 _ (.head _)
    · exact N2 q (.tail _ (.tail _ hq))
theorem arranged_spec {w : World} {p : Program} {loose : List Str} {mean : ExcName → Option Value} {mg mb : Str → Option Value}
    {dp un : Nat} {gd : Option (List Code)} {cn : Str} {cs : Scope} {a : Addr} {ccd : Value} {cl : List (Str × Addr)} {outer : List Env} {A₀ : Around} {base h₀ : Heap} {L : Addr} {m : Str → Option Value} {s : Shared} {Q E : Value → Shared → Prop}
    {n : Nat} {tn : Tok}
    (B : Below A₀ base outer h₀) (F : Fr h₀ L s.heap m) (X : (Mine.hd.heap_1 w.params).In h₀) (T : Top p loose mean mg mb h₀) (hk : cs.kind = .function) (hn : n ≤ 4) (hd : dp + 30 < recursionLimit) (hu : un + 300 < cLine)
    (hret : ∀ fo vs fc h' tk' made, (∀ b o, s.heap.get? b = some o → h'.get? b = some o) → (∀ b o, s.heap.get? b = some o → @LT.lt Nat _ b fo ∧ ∀ q ∈ made, @LT.lt Nat _ b q.1) → Fr h₀ L h' m → News h₀ L h' ((fo, W.listOf vs.toArray fc) :: made) → RowsL made vs (arrF n) → Q (.ref fo) { s with heap := h', toks := tk' }) :
    wpAny (model PG w) (ktrTop dp un gd cn cs L a ccd cl outer) (call (.ref 109) [.int (n : Int) tn]) Q E s := by
  have N : News h₀ L s.heap [] := News.nil
  refine wpAny_call ?_
  k_dflt (refine' code_defCG ?k1 ?k2 ?k3 ?k4 ?k5 ?kA ?kF ?kK ?k6 ?k7 ?k8 ?k9 ?kB ?kD ?_ ?c2 ?c3 ?c4; (case kA => exact rfl); (case kF => exact rfl); (case kK => assumption); (case k1 => k_asm); (case k2 => k_asm); (case k3 => k_asm); (case k4 => k_asm); (case k5 => k_asm); (case k6 => k_is); (case k7 => k_is); (case k8 => ktr_room); (case k9 => exact BindsTo.of_eq rfl); (case kB => exact rfl); (case kD => decide +kernel); (case c2 => exact rfl); (case c3 => exact rfl); (case c4 => exact rfl); k_whole; intro g' L' h' tk' cells' FG' F' N' Y' B' X' T' l1 G' Z'; (try k_lt l1); k_cells Y'; (try simp only [List.cons_append, List.nil_append] at N'); (try dsimp only); (try k_lift B'); (try k_fold))
  repeat ((fail_if_success (with_reducible show wpAny _ _ (exec (Stmt.For _ _ _ _ _) _) _ _ _)); (first | (k_unfold; (try dsimp only)) | (k_end; wrow_close) | walk1 | (dsimp only; walk1) | (leave1; walk_say "STEP leave1"; try dsimp only) | fail "no step"))
  rename Fr g' _ _ _ => kF
  rename News g' _ _ _ => kN
  rename_i o1 co l0 _ _ ll l2 _ _ lll _
  have hb : arrgBody = [_, .For _ _ _ _ _, .Return _ _] := rfl
  refine arr_loop (dp := dp + 1) (un := un + 3) (gd := gd) (a := 109) (outer := envX cn cs L a ccd cl :: outer) (h₀ := g') (L := L') (n := n) (tn := tn) (fo := l2) (vs := [.ref l0]) (fc := 0) (o1 := o1) (rest := [(l0, W.listOf #[] 0)]) B' X' T' kF (by rfl) (by rfl) ?N ?R ⟨?l1, ?l2⟩ hn ?c1 (by omega) (by omega) ?ret
  case N =>
    intro q hq
    refine kN q ?_
    simp only [List.mem_cons, List.not_mem_nil, or_false] at hq
    rcases hq with h | h | h <;> (first | (subst h; k_mem) | ((repeat (first | exact h | refine List.Mem.tail _ ?_ | exact List.mem_append_right _ h | exact List.mem_append_left _ h)); done) | simp [h])
  case R => exact ⟨⟨l0, [], 0, rfl, .head _, .nil⟩, trivial⟩
  case l1 => exact lll.2.1
  case l2 => intro q hq; rw [List.mem_singleton.mp hq]; exact ll.1
  case c1 => exact co
  case ret =>
    intro D h' tk ys c rest' hR' hlo' F5 N5
    have keep : ∀ b o, s.heap.get? b = some o → h'.get? b = some o := fun b o e => F5.keep b o (G' b o e (by first | k_mem | simp))
    k_steps
    rename Fr h₀ _ _ _ => kF9
    rename News h₀ _ _ (_ :: _) => kN9
    exact hret D ys c h' _ rest' keep (fun b o e => ⟨Nat.lt_trans (Nat.lt_succ_of_lt (Z' b o e)) hlo'.1, fun q hq => Nat.lt_trans (Nat.lt_succ_of_lt (Z' b o e)) (hlo'.2 q hq)⟩) kF9 kN9 hR'
end
end
section
section
open PyProof.Rows.LCg
set_option maxRecDepth 100000
set_option maxHeartbeats 2000000
noncomputable def argOf : Expr → Expr | .Call _ as _ _ => as.getD 0 default | _ => default
noncomputable def begStmt : Stmt := lawBody.getD 9 default
noncomputable def begComp : Expr := argOf (valOf begStmt)
noncomputable def iter2Of : Expr → Expr | .ListComp _ gs _ _ => (gs.getD 1 default).iter | _ => default
noncomputable abbrev tupI (us : List Value) : Obj := { cls := .type "tuple", data := .seq us.toArray }
noncomputable abbrev lawTop (dp un : Nat) (gd : Option (List Code)) (L a : Addr) (ccd : Value) (outer : List Env) : Around := ktrTop dp un gd (Str.ofString "law") (scp lawDef) L a ccd (lawCl L) outer
theorem beg_elt {w : World} {p : Program} {loose : List Str} {mean : ExcName → Option Value} {mg mb : Str → Option Value}
    {dp un : Nat} {gd : Option (List Code)} {a : Addr} {ccd : Value} {outer : List Env} {A₀ : Around} {base h₀ : Heap} {L : Addr} {m₁ : Str → Option Value} {s : Shared} {Q E : Value → Shared → Prop}
    {i : Nat} {t : Tok} {oC oI oD oJ : Obj} {b C I D J : Addr} {ws : List Value} {row : List Int} {c : Nat} {m₂ : Str → Option Value} {nw : List (Addr × Obj)} {cl : List (Str × Addr)}
    (B : Below A₀ base outer h₀) (X : (Mine.hd.heap_1 w.params).In h₀) (T : Top p loose mean mg mb h₀) (F : Fr h₀ L s.heap m₁)
    (N : News h₀ L s.heap ((b, W.listOf ws.toArray c) :: (I, oI) :: (C, oC) :: (D, oD) :: (J, oJ) :: nw)) (hoC : NsObj oC m₂)
    (hmx : m₂ (Str.ofString "row") = some (.ref b)) (hmy : m₂ (Str.ofString "size") = some (.int (i : Int) t)) (hI : IntsAre ws row) (hrl : row.length ≤ 7) (hi : i ≤ row.length)
    (hd : dp + 20 < recursionLimit) (hu : un + 200 < cLine)
    (hret : ∀ r us h' tk, IntsAre us (row.take i) → Fr h₀ L h' m₁ → News h₀ L h' ((r, tupI us) :: (b, W.listOf ws.toArray c) :: (I, oI) :: (C, oC) :: (D, oD) :: (J, oJ) :: nw) →
      (@LT.lt Nat _ I r ∧ @LT.lt Nat _ C r ∧ @LT.lt Nat _ D r ∧ @LT.lt Nat _ J r) → (∀ q ∈ nw, @LT.lt Nat _ q.1 r) → Q (.ref r) { s with heap := h', toks := tk }) :
    wpAny (model PG w) (lawTop dp un gd L a ccd outer) (eval (eltOf begComp) (compEnvC (scpOf begComp) cl C (envL L a ccd))) Q E s := by
  have hb : eltOf begComp = .Call _ _ _ _ := rfl
  rw [hb]
  repeat ((fail_if_success (with_reducible show wpAny _ _ (call (Value.type "tuple") _ _) _ _ _)); (first | (k_unfold; (try dsimp only)) | (k_end; wrow_close) | walk1 | (dsimp only; walk1) | (leave1; walk_say "STEP leave1"; try dsimp only) | fail "no step"))
  rename Fr _ _ _ _ => kF
  rename News _ _ _ _ => kN
  rename IntsAre _ (List.take _ _) => kI
  refine kde_tupleOf kF kN (PySem.IsL.isList (n := 0) (kN _ (.head _)).1) (by have := kI.length; rw [List.length_take] at this; simp only [List.size_toArray]; omega) rfl fun r h' F' N' lt' => ?_
  refine hret r _ h' _ (by simpa using kI) F' (fun q hq => N' q ?_) ⟨lt' (I, oI) (by simp), lt' (C, oC) (by simp), lt' (D, oD) (by simp), lt' (J, oJ) (by simp)⟩ fun q hq => lt' q (by simp [hq])
  simp only [List.mem_cons] at hq ⊢
  rcases hq with h | h | h | h | h | h | h <;> simp [h]
/-- a list of refs to tuples of ints, all of the ledger -/
noncomputable def TupsL (led : List (Addr × Obj)) : List Value → List (List Int) → Prop
  | [], [] => True
  | v :: vs, d :: ds => (∃ b us, v = .ref b ∧ (b, tupI us) ∈ led ∧ IntsAre us d) ∧ TupsL led vs ds
  | _, _ => False
theorem TupsL.mono {led led' : List (Addr × Obj)} (h : ∀ p ∈ led, p ∈ led') : ∀ {vs : List Value} {ds : List (List Int)}, TupsL led vs ds → TupsL led' vs ds
  | [], [], _ => trivial
  | _ :: _, _ :: _, ⟨⟨b, us, e, hm, hi⟩, r⟩ => ⟨⟨b, us, e, h _ hm, hi⟩, TupsL.mono h r⟩
theorem TupsL.len {led : List (Addr × Obj)} : ∀ {vs : List Value} {ds : List (List Int)}, TupsL led vs ds → vs.length = ds.length
  | [], [], _ => rfl
  | _ :: _, _ :: _, ⟨_, r⟩ => by simp [TupsL.len r]
theorem TupsL.snoc {led : List (Addr × Obj)} {b : Addr} {us : List Value} {d : List Int} (hm : (b, tupI us) ∈ led) (hi : IntsAre us d) : ∀ {vs : List Value} {ds : List (List Int)}, TupsL led vs ds → TupsL led (vs ++ [.ref b]) (ds ++ [d])
  | [], [], _ => ⟨⟨b, us, rfl, hm, hi⟩, trivial⟩
  | _ :: _, _ :: _, ⟨h, r⟩ => ⟨h, TupsL.snoc hm hi r⟩
theorem itemsAre_ints {w : World} : ∀ {us : List Value} {d : List Int}, IntsAre us d → PySem.ItemsAre (intKind PG w) d us
  | _, _, .nil => .nil
  | _, _, .cons n t r => .cons (intKind_is _ _ _ _) (itemsAre_ints r)
/-- the tuple lies in the ledger -/
noncomputable def InLed (led : List (Addr × Obj)) (k : List Int) (b : Addr) : Prop := ∃ us, (b, tupI us) ∈ led ∧ IntsAre us k
theorem InLed.tup {w : World} {h₀ h : Heap} {L : Addr} {led : List (Addr × Obj)} {k : List Int} {b : Addr} (N : News h₀ L h led) (x : InLed led k b) : TupK (InLed led) w h k b := by
  obtain ⟨us, hm, hi⟩ := x
  exact ⟨⟨_, _, _, (N _ hm).1, rfl, rfl, itemsAre_ints hi⟩, us, hm, hi⟩
theorem TupsL.at {w : World} {h₀ h : Heap} {L : Addr} {led : List (Addr × Obj)} (N : News h₀ L h led) : ∀ {vs : List Value} {ds : List (List Int)}, TupsL led vs ds → TupsAt (InLed led) w h vs ds
  | [], [], _ => fun i v e => by simp at e
  | _ :: _, _ :: _, ⟨⟨b, us, e1, hm, hi⟩, r⟩ => fun i v e => by
    cases i with
    | zero =>
      simp only [List.getElem?_cons_zero, Option.some.injEq] at e
      subst e
      exact ⟨b, _, e1, rfl, InLed.tup N ⟨us, hm, hi⟩⟩
    | succ i => simpa using TupsL.at N r i v (by simpa using e)
/-- a set of tuples, of which all lie in the ledger, stands while the ledger stands -/
theorem SetAt.led {w : World} {h₀ h h' : Heap} {L S : Addr} {led : List (Addr × Obj)} {st : PK} {o : Obj} (x : SetAt (InLed led) w h S st) (ho : h.get? S = some o) (ho' : h'.get? S = some o) (N' : News h₀ L h' led) : SetAt (InLed led) w h' S st := by
  obtain ⟨o', es, ep, t, keys, h1, h2, h3, h4, h5⟩ := x
  obtain rfl : o' = o := Option.some.inj (h1.symm.trans ho)
  exact ⟨o', es, ep, t, keys, ho', h2, h3, h4.mono fun _ _ t => InLed.tup N' t.2, h5⟩
/-- the beginnings made so far -/
noncomputable def prefF (D : List (List Int)) (j i : Nat) : List (List Int) := prefixes (D.take j) ++ (List.range i).map fun n => (D.getD j []).take n
theorem prefF_next {D : List (List Int)} {j : Nat} (hj : j < D.length) : prefF D j ((D.getD j []).length + 1) = prefF D (j + 1) 0 := by
  unfold prefF prefixes
  rw [List.take_add_one, List.getElem?_eq_getElem hj, List.flatMap_append]
  have e : D.getD j [] = D[j] := by simp [List.getD_eq_getElem?_getD, List.getElem?_eq_getElem hj]
  rw [e]
  simp
theorem prefF_succ (D : List (List Int)) (j i : Nat) : prefF D j (i + 1) = prefF D j i ++ [(D.getD j []).take i] := by
  unfold prefF
  rw [List.range_succ, List.map_append, ← List.append_assoc]
  rfl
theorem prefF_all (D : List (List Int)) : prefF D D.length 0 = prefixes D := by
  unfold prefF
  rw [List.take_of_length_le (Nat.le_refl _)]
  simp
theorem prefixes_len {D : List (List Int)} (hz : ∀ d ∈ D, d.length ≤ 7) : (prefixes D).length ≤ 8 * D.length := by
  unfold prefixes
  induction D with
  | nil => simp
  | cons a l ih =>
    have h1 := ih fun d hd => hz d (.tail _ hd)
    have h2 := hz a (.head _)
    rw [List.flatMap_cons, List.length_append]
    simp only [List.length_map, List.length_range, List.length_cons]
    omega
theorem prefF_len {D : List (List Int)} {j i : Nat} (hz : ∀ d ∈ D, d.length ≤ 7) (hl : D.length ≤ 24) (hi : i ≤ 100) : (prefF D j i).length ≤ 1000 := by
  have := prefixes_len (D := D.take j) fun d hd => hz d (List.mem_of_mem_take hd)
  have h2 : (D.take j).length ≤ D.length := by simp; omega
  unfold prefF
  rw [List.length_append, List.length_map, List.length_range]
  omega
theorem beg_iter {w : World} {p : Program} {loose : List Str} {mean : ExcName → Option Value} {mg mb : Str → Option Value}
    {dp un : Nat} {gd : Option (List Code)} {a : Addr} {ccd : Value} {outer : List Env} {A₀ : Around} {base h₀ : Heap} {L : Addr} {m₁ : Str → Option Value} {s : Shared} {Q E : Value → Shared → Prop}
    {oC oI oD : Obj} {b C I D : Addr} {ws : List Value} {row : List Int} {c : Nat} {m₂ : Str → Option Value} {nw : List (Addr × Obj)} {cl : List (Str × Addr)}
    (B : Below A₀ base outer h₀) (X : (Mine.hd.heap_1 w.params).In h₀) (T : Top p loose mean mg mb h₀) (F : Fr h₀ L s.heap m₁)
    (N : News h₀ L s.heap ((b, W.listOf ws.toArray c) :: (I, oI) :: (C, oC) :: (D, oD) :: nw)) (hoC : NsObj oC m₂)
    (hmx : m₂ (Str.ofString "row") = some (.ref b)) (hI : IntsAre ws row) (hrl : row.length ≤ 7)
    (hd : dp + 20 < recursionLimit) (hu : un + 200 < cLine)
    (hret : ∀ h' t u v tk, IsRange h' s.heap.objs.size 0 ((row.length + 1 : Nat) : Int) 1 t u v → Fr h₀ L h' m₁ → News h₀ L h' ((b, W.listOf ws.toArray c) :: (I, oI) :: (C, oC) :: (D, oD) :: nw) → Q (.ref s.heap.objs.size) { s with heap := h', toks := tk }) :
    wpAny (model PG w) (lawTop dp un gd L a ccd outer) (eval (iter2Of begComp) (compEnvC (scpOf begComp) cl C (envL L a ccd))) Q E s := by
  have hb : iter2Of begComp = .Call _ _ _ _ := rfl
  rw [hb]
  repeat (first | (k_unfold; (try dsimp only)) | (k_end; wrow_close) | walk1 | (dsimp only; walk1) | (leave1; walk_say "STEP leave1"; try dsimp only) | fail "no step")
  rename IsRange _ _ _ _ _ _ _ _ => kR
  exact hret _ _ _ _ _ kR (by with_reducible assumption) (by with_reducible assumption)
theorem beg_comp {w : World} {p : Program} {loose : List Str} {mean : ExcName → Option Value} {mg mb : Str → Option Value}
    {dp un : Nat} {gd : Option (List Code)} {a : Addr} {ccd : Value} {outer : List Env} {A₀ : Around} {base h₀ : Heap} {L : Addr} {m₁ : Str → Option Value} {s : Shared} {Q E : Value → Shared → Prop}
    {ro : Addr} {vs : List Value} {rc : Nat} {D : List (List Int)} {rest : List (Addr × Obj)}
    (B : Below A₀ base outer h₀) (X : (Mine.hd.heap_1 w.params).In h₀) (T : Top p loose mean mg mb h₀) (F : Fr h₀ L s.heap m₁) (hm : m₁ (Str.ofString "rows") = some (.ref ro))
    (N : News h₀ L s.heap ((ro, W.listOf vs.toArray rc) :: rest)) (hR : RowsL rest vs D) (hl : D.length ≤ 24) (hz : ∀ d ∈ D, d.length ≤ 7)
    (hd : dp + 20 < recursionLimit) (hu : un + 200 < cLine)
    (hret : ∀ r h' tk ys nw, Fr h₀ L h' m₁ → TupsL nw ys (prefixes D) → (∀ q ∈ (ro, W.listOf vs.toArray rc) :: rest, q ∈ nw) → (∀ q ∈ nw, q ∈ (ro, W.listOf vs.toArray rc) :: rest ∨ @LT.lt Nat _ ro q.1) → @LT.lt Nat _ ro r → News h₀ L h' ((r, lst ys) :: nw) → Q (.ref r) { s with heap := h', toks := tk }) :
    wpAny (model PG w) (lawTop dp un gd L a ccd outer) (eval begComp (envL L a ccd)) Q E s := by
  have hb : begComp = compE _ _ _ _ _ _ _ _ _ := rfl
  rw [hb]
  have hvl : vs.toArray.size = D.length := by rw [List.size_toArray, hR.len]
  have hg : ∀ j, (D.getD j []).length ≤ 7 := fun j => by
    rw [List.getD_eq_getElem?_getD]
    cases e : D[j]? with
    | none => simp
    | some d => exact hz d (List.mem_of_getElem? e)
  refine comp2_eval (L := L) (ax := ro) (its := vs.toArray) (cnt := fun j => (D.getD j []).length + 1) (news := (ro, W.listOf vs.toArray rc) :: rest)
    (fun j i ys nw => (∀ q ∈ (ro, W.listOf vs.toArray rc) :: rest, q ∈ nw) ∧ (∀ q ∈ nw, q ∈ (ro, W.listOf vs.toArray rc) :: rest ∨ @LT.lt Nat _ ro q.1) ∧ TupsL nw ys (prefF D j i) ∧ i ≤ 100) rfl (fun j => by have := hg j; omega) ?hys ?hsrc rfl (by decide +kernel) rfl (by decide +kernel) rfl rfl (by decide) F N ?h0 ?hiter ?hIter ?hElt (by intro _ _; rfl) ?hNext ?hfin (by intro _; rfl)
  case hys =>
    rintro j i ys nw ⟨_, _, h3, h4⟩
    rw [h3.len]; exact prefF_len hz hl h4
  case hsrc =>
    rintro j i ys nw ⟨h1, _⟩
    exact .inr ⟨_, h1 _ (.head _), rfl, rc, rfl⟩
  case h0 => exact ⟨fun _ h => h, fun _ h => .inl h, trivial, Nat.zero_le _⟩
  case hNext =>
    rintro j ys nw hj ⟨h1, h2, h3, _⟩
    rw [hvl] at hj
    exact ⟨h1, h2, prefF_next hj ▸ h3, Nat.zero_le _⟩
  case hfin =>
    rintro D' h tk ys nw F' N' o1' ⟨g1, g2, g3, _⟩ hge
    rw [hvl, prefF_all] at g3
    exact hret D' h tk ys nw F' g3 g1 g2 (Nat.lt_of_lt_of_le (Heap.lt_size (N _ (.head _)).1) hge) N'
  case hiter =>
    intro Q' E' hQ
    have F1 : Fr h₀ L s.heap (fun y => if y = Str.ofString "rows" then some (.ref ro) else m₁ y) := by
      have e : (fun y => if y = Str.ofString "rows" then some (Value.ref ro) else m₁ y) = m₁ := by
        funext y
        by_cases e : y = Str.ofString "rows"
        · rw [if_pos e, e, hm]
        · rw [if_neg e]
      rw [e]; exact F
    clear F
    (first | (k_unfold; (try dsimp only)) | (k_end; wrow_close) | walk1 | (dsimp only; walk1) | (leave1; walk_say "STEP leave1"; try dsimp only) | fail "no step")
    exact hQ
  case hIter =>
    rintro j v ys nw I oI C oC D' m₂ h tk E' hv ⟨g1, g2, g3, g4⟩ hoC hmx F N off ⟨n1, n2, n3⟩
    obtain ⟨row, b, ws, c, hd1, rfl, hmem, hI⟩ := RowsL.get hR j (by simpa using hv)
    have hlt : ∀ q ∈ (I, oI) :: (C, oC) :: (D', lst ys) :: nw, @LT.lt Nat _ q.1 h.objs.size := fun q hq => Heap.lt_size (N q hq).1
    have eD : D.getD j [] = row := by rw [List.getD_eq_getElem?_getD, hd1]; rfl
    have N1 : News h₀ L h ((b, W.listOf ws.toArray c) :: (I, oI) :: (C, oC) :: (D', lst ys) :: nw) := News.sub N (by
      intro q hq
      simp only [List.mem_cons] at hq ⊢
      rcases hq with h | h
      · exact .inr (.inr (.inr (h ▸ g1 _ (.tail _ hmem))))
      · exact h)
    refine beg_iter (c := c) B X T F N1 hoC hmx hI (hz _ (List.mem_of_getElem? hd1)) hd hu fun h' t u v tk' kR kF kN => ?_
    rw [← eD] at kR
    refine compEnd_new (r := h.objs.size) kF (fun q hq => kN q (.tail _ hq)) kR ⟨hlt (I, oI) (.head _), hlt (C, oC) (.tail _ (.head _)), hlt (D', lst ys) (.tail _ (.tail _ (.head _))), F.ns.lt⟩ off
      ⟨_, _, _, _, rfl, .head _, fun q hq => .tail _ (g1 q hq), fun q hq => ?_, g3.mono fun q hq => .tail _ hq, Nat.zero_le _⟩
    rcases List.mem_cons.mp hq with rfl | hq
    · exact .inr (hlt (ro, W.listOf vs.toArray rc) (.tail _ (.tail _ (.tail _ (g1 _ (.head _))))))
    · exact g2 q hq
  case hElt =>
    rintro j i v t ys nw J oJ I oI C oC D' m₂ h tk E' hv hi ⟨g1, g2, g3, g4⟩ hoC hmx hmy F N off offJ ⟨n1, n2, n3⟩
    obtain ⟨row, b, ws, c, hd1, rfl, hmem, hI⟩ := RowsL.get hR j (by simpa using hv)
    have eD : D.getD j [] = row := by rw [List.getD_eq_getElem?_getD, hd1]; rfl
    have hrl := hz _ (List.mem_of_getElem? hd1)
    rw [eD] at hi
    have N1 : News h₀ L h ((b, W.listOf ws.toArray c) :: (I, oI) :: (C, oC) :: (D', lst ys) :: (J, oJ) :: nw) := News.sub N (by
      intro q hq
      simp only [List.mem_cons] at hq ⊢
      rcases hq with h | h
      · exact .inr (.inr (.inr (.inr (h ▸ g1 _ (.tail _ hmem)))))
      · exact h)
    refine beg_elt (c := c) B X T F N1 hoC hmx hmy hI hrl (by omega) hd hu fun r us h' tk2 kI kF kN kl kr => ?_
    refine compEnd_elt kF kN (.head _) (fun q hq => .tail _ (.tail _ hq)) kl off offJ ⟨fun q hq => .tail _ (g1 q hq), fun q hq => ?_, ?_, by omega⟩
    · rcases List.mem_cons.mp hq with rfl | hq
      · exact .inr (kr (ro, W.listOf vs.toArray rc) (g1 _ (.head _)))
      · exact g2 q hq
    · rw [prefF_succ, eD]
      exact TupsL.snoc (.head _) kI (g3.mono fun q hq => .tail _ hq)
end
end
section
section
open PyProof.Rows.LCg
set_option maxRecDepth 100000
set_option maxHeartbeats 2000000
theorem TupsL.filter {led : List (Addr × Obj)} {x : Addr} (hx : ∀ b us, (b, tupI us) ∈ led → @Ne Nat b x) : ∀ {vs : List Value} {ds : List (List Int)}, TupsL led vs ds → TupsL (led.filter fun q => decide (@Ne Nat q.1 x)) vs ds
  | [], [], _ => trivial
  | _ :: _, _ :: _, ⟨⟨b, us, e, hm, hi⟩, r⟩ => ⟨⟨b, us, e, List.mem_filter.mpr ⟨hm, decide_eq_true (hx _ _ hm)⟩, hi⟩, TupsL.filter hx r⟩
theorem beg_stmt {w : World} {p : Program} {loose : List Str} {mean : ExcName → Option Value} {mg mb : Str → Option Value}
    {dp un : Nat} {gd : Option (List Code)} {a : Addr} {ccd : Value} {outer : List Env} {A₀ : Around} {base h₀ : Heap} {L : Addr} {m₁ : Str → Option Value} {s : Shared} {Q : Flow → Shared → Prop} {E : Value → Shared → Prop}
    {ro : Addr} {vs : List Value} {rc : Nat} {D : List (List Int)} {rest : List (Addr × Obj)} {o2 : Obj} {v0 : Option Value} {stE : PK}
    (B : Below A₀ base outer h₀) (X : (Mine.hd.heap_1 w.params).In h₀) (T : Top p loose mean mg mb h₀) (F : Fr h₀ L s.heap m₁) (hm : m₁ (Str.ofString "rows") = some (.ref ro))
    (N : News h₀ L s.heap ((ro, W.listOf vs.toArray rc) :: (L + 1 + 1, o2) :: rest)) (hR : RowsL rest vs D) (hc : o2.data = .cell v0) (hlo : @LT.lt Nat _ (L + 1 + 1) ro) (hrest : ∀ q ∈ rest, @Ne Nat q.1 (L + 1 + 1)) (hl : D.length ≤ 24) (hz : ∀ d ∈ D, d.length ≤ 7) (hp4 : (prefixes D).length ≤ 400) (hE : pkFold (prefixes D) ⟨7, 0, 0⟩ = some stE)
    (hd : dp + 20 < recursionLimit) (hu : un + 200 < cLine)
    (hret : ∀ S oS o2' nw' h' tk', Fr h₀ L h' m₁ → News h₀ L h' ((S, oS) :: (L + 1 + 1, o2') :: nw') → o2'.data = .cell (some (.ref S)) → SetAt (InLed nw') w h' S stE → (∀ q ∈ (ro, W.listOf vs.toArray rc) :: rest, q ∈ nw') → (∀ q ∈ nw', @Ne Nat q.1 (L + 1 + 1)) → Q .next { s with heap := h', toks := tk' }) :
    wpAny (model PG w) (lawTop dp un gd L a ccd outer) (exec begStmt (envL L a ccd)) Q E s := by
  have hb : begStmt = .Assign [.Name (Str.ofString "begun") _] (.Call (.Name (Str.ofString "set") _) [begComp] [] _) _ := rfl
  rw [hb]
  repeat ((fail_if_success (with_reducible show wpAny _ _ (eval begComp _) _ _ _)); (first | (k_unfold; (try dsimp only)) | (k_end; wrow_close) | walk1 | (dsimp only; walk1) | (leave1; walk_say "STEP leave1"; try dsimp only) | fail "no step"))
  refine beg_comp (rc := rc) B X T F hm N (hR.mono fun q hq => .tail _ hq) hl hz hd hu fun r h1 tk1 ys nw F1 gT g1 g2 hr N1 => ?_
  clear F N
  repeat ((fail_if_success (with_reducible show wpAny _ _ (call _ _) _ _ _)); (first | (k_unfold; (try dsimp only)) | (k_end; wrow_close) | walk1 | (dsimp only; walk1) | (leave1; walk_say "STEP leave1"; try dsimp only) | fail "no step"))
  have zc := (N1 _ (.tail _ (g1 _ (.tail _ (.head _))))).1
  have nT : ∀ b us, (b, tupI us) ∈ nw → @Ne Nat b (L + 1 + 1) := fun b us hm e => by
    have z1 := (N1 _ (.tail _ hm)).1
    dsimp only at z1 zc
    rw [show b = L + 1 + 1 from e, zc] at z1
    rw [Option.some.inj z1] at hc
    cases hc
  have gF := gT.filter nT
  have inF : ∀ q ∈ (ro, W.listOf vs.toArray rc) :: rest, q ∈ nw.filter fun q => decide (@Ne Nat q.1 (L + 1 + 1)) := fun q hq => by
    rcases List.mem_cons.mp hq with rfl | hq
    · exact List.mem_filter.mpr ⟨g1 _ (.head _), decide_eq_true (Nat.ne_of_gt hlo)⟩
    · exact List.mem_filter.mpr ⟨g1 _ (.tail _ (.tail _ hq)), decide_eq_true (hrest q hq)⟩
  have NF : News h₀ L h1 (nw.filter fun q => decide (@Ne Nat q.1 (L + 1 + 1))) := fun q hq => N1 q (.tail _ (List.mem_filter.mp hq).1)
  have neF : ∀ q ∈ nw.filter fun q => decide (@Ne Nat q.1 (L + 1 + 1)), @Ne Nat q.1 (L + 1 + 1) := fun q hq => of_decide_eq_true (List.mem_filter.mp hq).2
  have Nc : News h₀ L h1 [(L + 1 + 1, o2)] := fun q hq => by rw [List.mem_singleton.mp hq]; exact N1 _ (.tail _ (g1 _ (.tail _ (.head _))))
  generalize (nw.filter fun q => decide (@Ne Nat q.1 (L + 1 + 1))) = nf at gF inF NF neF
  have lT := gT.len
  refine new_set_tups (P := InLed nf) (items := ys.toArray) (ks := prefixes D) rfl (PySem.IsL.isList (n := ys.length) (N1 _ (.head _)).1) (TupsL.at NF gF) (by rw [List.size_toArray, lT]) hp4 hE (by show un + 40 < cLine; omega) fun h2 tk2 hS hk2 => ?_
  have keep : ∀ b o, h1.get? b = some o → h2.get? b = some o := fun b o e => hk2 b o (Heap.lt_size e) e
  have F2 : Fr h₀ L h2 m₁ := F1.keeps keep
  obtain ⟨oS, hoS, -⟩ := hS.obj
  dsimp only at hoS
  have N2 : News h₀ L h2 ([(h1.objs.size, oS)] ++ (L + 1 + 1, o2) :: nf) := fun q hq => by
    simp only [List.mem_cons, List.mem_append, List.not_mem_nil, or_false] at hq
    rcases hq with rfl | rfl | hq
    · exact ⟨hoS, Nat.ne_of_gt F1.ns.lt, Heap.get?_none_of_le (Nat.le_trans F1.above (Nat.le_of_lt F1.ns.lt))⟩
    · exact ⟨keep _ _ (Nc _ (.head _)).1, (Nc _ (.head _)).2⟩
    · exact ⟨keep _ _ (NF q hq).1, (NF q hq).2⟩
  refine stCN (x := Str.ofString "begun") (own := [(h1.objs.size, oS)]) F2 N2 rfl hc (fun q hq => ?_) neF (fun h3 o3 F3 N3 hc3 => ?_)
  · rw [List.mem_singleton.mp hq]; exact Nat.ne_of_gt (Heap.lt_size zc)
  · refine hret _ oS o3 nf h3 _ F3 N3 hc3 (hS.led hoS (N3 _ (.head _)).1 fun q hq => N3 q (by (first | (subst hq; k_mem) | ((repeat (first | exact hq | refine List.Mem.tail _ ?_ | exact List.mem_append_right _ hq | exact List.mem_append_left _ hq)); done) | simp [hq]))) inF neF
end
end
section
section
open PyProof.Rows.LCg
set_option maxRecDepth 100000
set_option maxHeartbeats 2000000
noncomputable def realStmt : Stmt := lawBody.getD 10 default
noncomputable def realComp : Expr := valOf realStmt
noncomputable def realIn : Expr := argOf (eltOf realComp)
noncomputable def ifsOf : Expr → List Expr | .ListComp _ gs _ _ => (gs.getD 0 default).ifs | _ => []
noncomputable def realTest : Expr := (ifsOf realIn).getD 0 default
noncomputable abbrev cl1 (L c : Addr) : List (Str × Addr) := [(Str.ofString "row", c), (Str.ofString "begun", L + 1 + 1)]
noncomputable abbrev env1 (L a : Addr) (ccd : Value) (C c : Addr) : Env := compEnvC (scpOf realComp) (cl1 L c) C (envL L a ccd)
noncomputable abbrev env2 (L a : Addr) (ccd : Value) (C c C2 : Addr) : Env := compEnvC (scpOf realIn) (cl1 L c) C2 (env1 L a ccd C c)
example (L a C c : Addr) (ccd : Value) : closureFor (scpOf realIn) (env1 L a ccd C c) = pure (cl1 L c) := rfl
example (L a : Addr) (ccd : Value) : closureFor (scpOf realComp) (envL L a ccd) = pure [(Str.ofString "begun", L + 1 + 1)] := rfl
theorem real_test {w : World} {p : Program} {loose : List Str} {mean : ExcName → Option Value} {mg mb : Str → Option Value}
    {dp un : Nat} {gd : Option (List Code)} {a : Addr} {ccd : Value} {outer : List Env} {A₀ : Around} {base h₀ : Heap} {L : Addr} {m₁ : Str → Option Value} {s : Shared} {Q : Bool → Shared → Prop} {E : Value → Shared → Prop}
    {i : Nat} {t u : Tok} {oC oc o2 : Obj} {b C C2 c S : Addr} {ws : List Value} {row : List Int} {x : Int} {bc : Nat} {m₂ : Str → Option Value} {nw : List (Addr × Obj)}
    (B : Below A₀ base outer h₀) (X : (Mine.hd.heap_1 w.params).In h₀) (T : Top p loose mean mg mb h₀) (F : Fr h₀ L s.heap m₁)
    (N : News h₀ L s.heap ((b, W.listOf ws.toArray bc) :: (C2, oC) :: (c, oc) :: (L + 1 + 1, o2) :: nw)) (hoC : NsObj oC m₂)
    (hmx : m₂ (Str.ofString "at") = some (.int (i : Int) t)) (hmy : m₂ (Str.ofString "told") = some (.int x u)) (hc : oc.data = .cell (some (.ref b))) (hc2 : o2.data = .cell (some (.ref S))) (hI : IntsAre ws row) (hrl : row.length ≤ 7) (hi : i < row.length) (hx : 0 ≤ x ∧ x ≤ 1)
    {oS : Obj} {led0 : List (Addr × Obj)} {st : PK} {bb : Bool} {j : Nat} (hS : SetAt (InLed led0) w s.heap S st) (hSm : (S, oS) ∈ nw) (hsub : ∀ q ∈ led0, q ∈ nw) (hs : fsearch st.M (fT st.T) (row.take i ++ [1 - x]) = some (bb, j))
    (hd : dp + 20 < recursionLimit) (hu : un + 200 < cLine)
    (hret : ∀ h' tk, Fr h₀ L h' m₁ → News h₀ L h' ((b, W.listOf ws.toArray bc) :: (C2, oC) :: (c, oc) :: (L + 1 + 1, o2) :: nw) → SetAt (InLed led0) w h' S st → Q bb { s with heap := h', toks := tk }) :
    wpAny (model PG w) (lawTop dp un gd L a ccd outer) (isTrue realTest (env2 L a ccd C c C2) (eval realTest (env2 L a ccd C c C2))) Q E s := by
  have hb : realTest = .Compare _ _ _ _ := rfl
  rw [hb]
  have hoS := (N (S, oS) (by simp [hSm])).1
  k_steps
  rename IntsAre _ (_ ++ _) => kI
  rename (Fr h₀ L _ _) => kF
  rename (News h₀ L _ _) => kN
  have N9 : News h₀ L _ ((b, W.listOf ws.toArray bc) :: (C2, oC) :: (c, oc) :: (L + 1 + 1, o2) :: nw) := fun q hq => kN q (.tail _ (.tail _ (.tail _ (.tail _ hq))))
  have hS9 := hS.led hoS (N9 (S, oS) (by simp [hSm])).1 fun q hq => N9 q (by ((have hmm := hsub q hq); first | ((repeat (first | exact hmm | refine List.Mem.tail _ ?_ | exact List.mem_append_right _ hmm | exact List.mem_append_left _ hmm)); done) | simp [hmm]))
  have kT := (kN _ (.head _)).1
  refine set_in (by show un + 8 < cLine; omega) hS9 ⟨_, _, _, kT, rfl, rfl, itemsAre_ints kI⟩ (by simpa using hs) fun tk => ?_
  exact wpAny_truthy_bool (hret _ tk kF N9 hS9)
end
end
section
section
open PyProof.Rows.LCg
set_option maxRecDepth 100000
set_option maxHeartbeats 2000000
theorem loop_pairT {w : World} {A : Around} {R : Result → Shared → Prop} {s : Shared} {elt iter : Expr} {elts ifs : List Expr} {x1} {tp : Pos} {scope : Scope} {pos : Pos} {it acc : Value} {env : Env} (I : Nat → Shared → Prop)
    (turn : ∀ n s, I n s → wpAny (model PG w) A (pyNext it) (fun r s₁ => match r with
      | none => R (.ok .next) s₁
      | some v => wpAny (model PG w) A (letOwnedTupleGo (.Tuple elts x1 tp) it v) (fun _ s₁' => wpAny (model PG w) A (assign (.Tuple elts x1 tp) env v) (fun _ s₂ =>
          wpAny (model PG w) A (forIn ifs true fun c r => if r = true then do let ok ← isTrue c env (eval c env); pure (ForInStep.yield ok) else pure (ForInStep.yield r)) (fun ok s₃ =>
            if ok = true then wpAny (model PG w) A (eval elt env) (fun x s₄ =>
              wpAny (model PG w) A (call (.builtin "list.append") [acc, x]) (fun _ s₅ => ∃ m, m < n ∧ I m s₅) (notedBy (model PG w) A env fun e s' => R (.error e) s') s₄) (notedBy (model PG w) A env fun e s' => R (.error e) s') s₃
            else ∃ m, m < n ∧ I m s₃) (notedBy (model PG w) A env fun e s' => R (.error e) s') s₂)
          (notedBy (model PG w) A env fun e s' => R (.error e) s') s₁') (notedBy (model PG w) A env fun e s' => R (.error e) s') s₁) (notedBy (model PG w) A env fun e s' => R (.error e) s') s)
    (n : Nat) (h : I n s) : codeAny (model PG w) A (.compLoop (.ListComp elt [⟨.Tuple elts x1 tp, iter, ifs, 0⟩] scope pos) 0 it acc env) R s := by
  refine codeAny_loop rfl I (fun n s hI => ?_) n h
  show wpAny _ A ((compTurn (.ListComp elt [⟨.Tuple elts x1 tp, iter, ifs, 0⟩] scope pos) 0 it acc env).onRaise (fun x => do noteFrame x env; theTreesLotGoes x)) _ _ s
  refine wpAny_noted ?_
  rw [compTurn_list]
  refine wpAny_bind (wpAny_standAt (wpAny_bind (wpAny_mono (turn n s hI) (fun r s₁ h₁ => ?_) fun _ _ h' => h')))
  cases r with
  | none => exact wpAny_pure h₁
  | some v =>
    refine wpAny_bind (wpAny_mono h₁ (fun _ s₁' h₁' => ?_) fun _ _ h' => h')
    refine wpAny_bind (wpAny_mono h₁' (fun _ s₂ h₂ => wpAny_bind (wpAny_mono h₂ (fun ok s₃ h₃ => ?_) fun _ _ h' => h')) fun _ _ h' => h')
    cases ok with
    | false => exact wpAny_pure ⟨rfl, h₃⟩
    | true => exact wpAny_bind (wpAny_bind (wpAny_mono h₃ (fun x s₄ h₄ => wpAny_bind (wpAny_mono h₄ (fun _ s₅ h₅ => wpAny_pure (wpAny_pure ⟨rfl, h₅⟩)) fun _ _ h' => h')) fun _ _ h' => h'))
/-- the row up to a place, the answer there turned over -/
noncomputable def flipF (row : List Int) (i : Nat) : List Int := row.take i ++ [1 - row.getD i 0]
noncomputable def isIn (st : PK) (k : List Int) : Bool := match fsearch st.M (fT st.T) k with | some (b, _) => b | none => false
noncomputable def cntF (st : PK) (row : List Int) (n : Nat) : Nat := ((List.range n).filter fun i => isIn st (flipF row i)).length
theorem cntF_succ (st : PK) (row : List Int) (n : Nat) : cntF st row (n + 1) = cntF st row n + (if isIn st (flipF row n) then 1 else 0) := by
  unfold cntF
  rw [List.range_succ, List.filter_append, List.length_append]
  cases h : isIn st (flipF row n) <;> (first | (subst h; k_mem) | ((repeat (first | exact h | refine List.Mem.tail _ ?_ | exact List.mem_append_right _ h | exact List.mem_append_left _ h)); done) | simp [h])
theorem cntF_le (st : PK) (row : List Int) (n : Nat) : cntF st row n ≤ n := by
  unfold cntF
  exact Nat.le_trans (List.length_filter_le _ _) (by first | k_mem | simp)
theorem real_in {w : World} {p : Program} {loose : List Str} {mean : ExcName → Option Value} {mg mb : Str → Option Value}
    {dp un : Nat} {gd : Option (List Code)} {a : Addr} {ccd : Value} {outer : List Env} {A₀ : Around} {base h₀ : Heap} {L : Addr} {m₁ : Str → Option Value} {s : Shared} {Q E : Value → Shared → Prop}
    {oc o2 : Obj} {b C c S : Addr} {ws : List Value} {row : List Int} {bc : Nat} {nw : List (Addr × Obj)}
    (B : Below A₀ base outer h₀) (X : (Mine.hd.heap_1 w.params).In h₀) (T : Top p loose mean mg mb h₀) (F : Fr h₀ L s.heap m₁)
    (N : News h₀ L s.heap ((b, W.listOf ws.toArray bc) :: (c, oc) :: (L + 1 + 1, o2) :: nw))
    (hc : oc.data = .cell (some (.ref b))) (hc2 : o2.data = .cell (some (.ref S))) (hI : IntsAre ws row) (hrl : row.length ≤ 7) (hx : ∀ x ∈ row, 0 ≤ x ∧ x ≤ 1)
    {oS : Obj} {led0 : List (Addr × Obj)} {st : PK} (hS : SetAt (InLed led0) w s.heap S st) (hSm : (S, oS) ∈ nw) (hsub : ∀ q ∈ led0, q ∈ nw) (hs : ∀ i, i < row.length → (fsearch st.M (fT st.T) (flipF row i)).isSome = true)
    (hd : dp + 20 < recursionLimit) (hu : un + 200 < cLine)
    (hret : ∀ D2 ys h' tk, ys.length = cntF st row row.length → Fr h₀ L h' m₁ → News h₀ L h' ((D2, lst ys) :: (b, W.listOf ws.toArray bc) :: (c, oc) :: (L + 1 + 1, o2) :: nw) → SetAt (InLed led0) w h' S st → Q (.ref D2) { s with heap := h', toks := tk }) :
    wpAny (model PG w) (lawTop dp un gd L a ccd outer) (eval realIn (env1 L a ccd C c)) Q E s := by
  have hb : realIn = .ListComp (.Name (Str.ofString "at") _) [⟨.Tuple [.Name (Str.ofString "at") _, .Name (Str.ofString "told") _] _ _, .Call (.Name (Str.ofString "enumerate") _) [.Name (Str.ofString "row") _] [] _, [realTest], 0⟩] (scpOf realIn) _ := rfl
  rw [hb, eval_ListComp]
  refine wpAny_comprehension_free (use := none) (cl := cl1 L c) rfl (by intro _; rfl) rfl rfl (by decide +kernel) ?_
  show wpAny _ _ (eval (.Call (.Name (Str.ofString "enumerate") _) [.Name (Str.ofString "row") _] [] _) (env1 L a ccd C c)) _ _ _
  repeat ((fail_if_success (with_reducible show wpAny _ _ (call _ _) _ _ _)); (first | (k_unfold; (try dsimp only)) | (k_end; wrow_close) | walk1 | (dsimp only; walk1) | (leave1; walk_say "STEP leave1"; try dsimp only) | fail "no step"))
  refine call_enumerate_1 (n := bc) (N _ (.head _)).1 fun h1 he1 hi1 hz1 hk1 => ?_
  refine wpAny_pyIter_enum he1 ?_
  generalize hz : s.heap.objs.size = z at he1 hi1 hz1
  have hlt : ∀ q ∈ (b, W.listOf ws.toArray bc) :: (c, oc) :: (L + 1 + 1, o2) :: nw, @LT.lt Nat _ q.1 z := fun q hq => hz ▸ Heap.lt_size (N q hq).1
  have hLz : @LT.lt Nat _ L z := hz ▸ F.ns.lt
  have F1 : Fr h₀ L h1 m₁ := F.keeps hk1
  have N1 : News h₀ L h1 ((b, W.listOf ws.toArray bc) :: (c, oc) :: (L + 1 + 1, o2) :: nw) := fun q hq => ⟨hk1 _ _ (N q hq).1, (N q hq).2⟩
  refine wpAny_newObj_type (wpAny_newFunctionEnv (by decide +kernel) (by intro y hy; simp at hy) (fun h2 hns2 hsb2 => ?_) rfl)
  dsimp only at hns2 hsb2 ⊢
  generalize hH2 : h1.push { cls := .type "list", dict := none, data := .seq ([] : List Value).toArray } = H2 at hns2 hsb2 ⊢
  have hC : H2.objs.size = h1.objs.size + 1 := by rw [← hH2, Heap.size_push]
  have old : ∀ q o, h1.get? q = some o → h2.get? q = some o := fun q o e => hsb2.extBut q o (by rw [hC]; exact Nat.ne_of_lt (Nat.lt_succ_of_lt (Heap.lt_size e))) (Heap.get?_push_of_some _ (hH2 ▸ Heap.get?_push_of_some _ e))
  have hacc : h2.get? h1.objs.size = some (lst []) := hsb2.extBut _ _ (by rw [hC]; exact Nat.ne_of_lt (Nat.lt_succ_self _)) (Heap.get?_push_of_some _ (hH2 ▸ Heap.get?_push_size _ rfl))
  clear hsb2 hH2
  generalize H2.objs.size = C2 at hns2 hC ⊢
  generalize h1.objs.size = D2 at hacc hC hz1 ⊢
  have F2 : Fr h₀ L h2 m₁ := F1.keeps old
  have fresh : ∀ q, @LE.le Nat _ z q → h₀.get? q = none := fun q hq => Heap.get?_none_of_le (Nat.le_trans F2.above (Nat.le_trans (Nat.le_of_lt hLz) hq))
  have N2 : News h₀ L h2 ((D2, lst []) :: (b, W.listOf ws.toArray bc) :: (c, oc) :: (L + 1 + 1, o2) :: nw) := fun q hq => by
    rcases List.mem_cons.mp hq with rfl | hq
    · exact ⟨hacc, by show @Ne Nat D2 L; omega, fresh _ (by omega)⟩
    · exact ⟨old _ _ (N1 q hq).1, (N1 q hq).2⟩
  have st2 : (∃ ol, IsEnum h2 (z + 1) z ((0 : Nat) : Int) ol) ∧ h2.IsListIter z b 0 ∧ h2.IsList b ws.toArray := ⟨⟨_, old _ _ he1⟩, hi1.at fun o e => old _ o e, PySem.IsL.isList (n := bc) (N2 _ (.tail _ (.head _))).1⟩
  have bz : @LT.lt Nat _ b z := hlt _ (.head _)
  have WE := WalksT.enumerate (prog := PG) (w := w) (A := lawTop dp un gd L a ccd outer) rfl (z + 1) z b (by show @Ne Nat _ _; omega) (by show @Ne Nat _ _; omega) (by show @Ne Nat _ _; omega) ws.toArray
  have hwl : ws.toArray.size = row.length := by rw [List.size_toArray, hI.length]
  have cells : @Ne Nat (z + 1) z := by omega
  have hoS := (N2 (S, oS) (by simp [hSm])).1
  have hS2 : SetAt (InLed led0) w h2 S st := hS.led (N (S, oS) (by simp [hSm])).1 hoS fun q hq => N2 q (by ((have hmm := hsub q hq); first | ((repeat (first | exact hmm | refine List.Mem.tail _ ?_ | exact List.mem_append_right _ hmm | exact List.mem_append_left _ hmm)); done) | simp [hmm]))
  have loop : codeAny (model PG w) (lawTop dp un gd L a ccd outer) (.compLoop realIn 0 (.ref (z + 1)) (.ref D2) (env2 L a ccd C c C2))
      (compPost (model PG w) (lawTop dp un gd L a ccd outer) E none Q (.ref D2) C2) { s with heap := h2, toks := s.toks + ([] : List (Str × Value)).length } := by
    rw [hb]
    refine loop_pairT
      (fun k s' => ∃ h' tk i ys m', s' = { s with heap := h', toks := tk } ∧ i ≤ row.length ∧ k = row.length + 1 - i ∧ ((∃ ol, IsEnum h' (z + 1) z ((i : Nat) : Int) ol) ∧ h'.IsListIter z b i ∧ h'.IsList b ws.toArray) ∧ Fr h₀ L h' m₁ ∧ h'.Ns C2 m' ∧
        News h₀ L h' ((D2, lst ys) :: (b, W.listOf ws.toArray bc) :: (c, oc) :: (L + 1 + 1, o2) :: nw) ∧ ys.length = cntF st row i) ?_ (row.length + 1) ⟨h2, _, 0, [], _, rfl, Nat.zero_le _, rfl, st2, F2, hns2, N2, rfl⟩
    rintro k s' ⟨h', tk, i, ys, m', rfl, hi, rfl, hst', F', hn', N', hcnt⟩
    have C2r : @Ne Nat C2 (z + 1) ∧ @Ne Nat C2 z := by constructor <;> omega
    have keepW : ∀ {h3 : Heap}, (∀ q o, q ∉ [z + 1, z] → h'.get? q = some o → h3.get? q = some o) → Fr h₀ L h3 m₁ ∧ h3.Ns C2 m' ∧ News h₀ L h3 ((D2, lst ys) :: (b, W.listOf ws.toArray bc) :: (c, oc) :: (L + 1 + 1, o2) :: nw) := fun {h3} hk => by
      refine ⟨⟨F'.ns.at' fun o e => hk L o ?_ e, fun q o e => hk q o ?_ (F'.keep q o e), F'.above⟩, hn'.at' fun o e => hk C2 o ?_ e, fun q hq => ⟨hk _ _ ?_ (N' q hq).1, (N' q hq).2⟩⟩
      · simp only [List.mem_cons, List.not_mem_nil, or_false, not_or]
        exact ⟨by show @Ne Nat _ _; omega, by show @Ne Nat _ _; omega⟩
      · simp only [List.mem_cons, List.not_mem_nil, or_false, not_or]
        have lq : @LT.lt Nat _ q z := by
          have h5 := Heap.lt_size e
          have := F'.above
          exact Nat.lt_of_lt_of_le h5 (Nat.le_trans this (Nat.le_of_lt hLz))
        exact ⟨by show @Ne Nat _ _; omega, by show @Ne Nat _ _; omega⟩
      · simp only [List.mem_cons, List.not_mem_nil, or_false, not_or]
        exact ⟨C2r.1, C2r.2⟩
      · simp only [List.mem_cons, List.not_mem_nil, or_false, not_or]
        rcases List.mem_cons.mp hq with rfl | hq
        · exact ⟨by show @Ne Nat D2 _; omega, by show @Ne Nat D2 _; omega⟩
        · have lq := hlt q hq
          exact ⟨by show @Ne Nat _ _; omega, by show @Ne Nat _ _; omega⟩
    by_cases hl : i < row.length
    · refine WE.item i _ _ _ (by rw [hwl]; exact hl) hst' fun Tt vals h3 tk3 hPt _ hT hMid hk3 => ?_
      obtain ⟨t, xv, hxv, rfl⟩ := hPt
      refine WE.go _ _ _ i Tt _ _ _ hMid fun h4 hst4 hk4 => ?_
      have ht4 : h4.IsTuple Tt #[.int i t, xv] := hT.at fun o e => hk4 Tt o (WE.apart i Tt h3 hMid) e
      obtain ⟨u, exv⟩ := hI.int_at i xv (by simpa using hxv)
      subst exv
      have hxr : row.getD i 0 ∈ row := by
        rw [List.getD_eq_getElem?_getD, List.getElem?_eq_getElem hl]; exact List.getElem_mem hl
      refine wpAny_assign_Tuple rfl ht4 rfl rfl fun h5 hx5 => ?_
      replace hx5 : Heap.ExtBut h4.objs.size h4 h5 := hx5
      have up5 : ∀ q o, h4.get? q = some o → h5.get? q = some o := fun q o e => hx5 q o (Nat.ne_of_lt (Heap.lt_size e)) e
      obtain ⟨F5, hn5, N5⟩ := keepW (h3 := h5) fun q o hq e => up5 q o (hk4 q o hq (hk3 q o hq e))
      have hst5 := WE.frame _ _ h5 hst4 fun q _ o e => up5 q o e
      have hC2₀ : h₀.get? C2 = none := fresh _ (by omega)
      have C2L : C2 ≠ L := by show @Ne Nat C2 L; omega
      refine assignInOrder_cons (wpAny_assign_Name (wpAny_storeName_local rfl hn5 (fun h6 hn6 hs6 => ?_) rfl))
      refine assignInOrder_cons (wpAny_assign_Name (wpAny_storeName_local rfl hn6 (fun h7 hn7 hs7 => ?_) rfl))
      refine assignInOrder_nil ?_
      replace hs6 : Heap.SameBut C2 h5 h6 := hs6
      replace hs7 : Heap.SameBut C2 h6 h7 := hs7
      have up7 : ∀ q o, @Ne Nat q C2 → h5.get? q = some o → h7.get? q = some o := fun q o hq e => hs7.extBut q o hq (hs6.extBut q o hq e)
      have hst7 := WE.frame _ _ h7 hst5 fun q hq o e => up7 q o (by
        simp only [List.mem_cons, List.not_mem_nil, or_false] at hq
        rcases hq with rfl | rfl | rfl <;> (show @Ne Nat _ _) <;> omega) e
      obtain ⟨oC, heC, hoC⟩ := ns_obj hn7
      obtain ⟨⟨ol, hE7⟩, hI7, hL7⟩ := hst7
      obtain ⟨oit, heit, hcit, hdit⟩ := hI7
      have F7 : Fr h₀ L h7 m₁ := (F5.change hs6 C2L hC2₀).change hs7 C2L hC2₀
      have N7 : News h₀ L h7 ((b, W.listOf ws.toArray bc) :: (C2, oC) :: (c, oc) :: (L + 1 + 1, o2) :: (z + 1, _) :: (z, oit) :: (D2, lst ys) :: nw) := fun q hq => by
        simp only [List.mem_cons] at hq
        rcases hq with rfl | rfl | rfl | rfl | rfl | rfl | rfl | hq
        · exact ⟨up7 _ _ (by have := hlt (b, W.listOf ws.toArray bc) (by first | k_mem | simp); show @Ne Nat b C2; omega) (N5 _ (by first | k_mem | simp)).1, (N5 _ (by first | k_mem | simp)).2⟩
        · exact ⟨heC, C2L, hC2₀⟩
        · exact ⟨up7 _ _ (by have := hlt (c, oc) (by first | k_mem | simp); show @Ne Nat c C2; omega) (N5 _ (by first | k_mem | simp)).1, (N5 _ (by first | k_mem | simp)).2⟩
        · exact ⟨up7 _ _ (by have := hlt (L + 1 + 1, o2) (by first | k_mem | simp); show @Ne Nat (L + 1 + 1) C2; omega) (N5 _ (by first | k_mem | simp)).1, (N5 _ (by first | k_mem | simp)).2⟩
        · exact ⟨hE7, by show @Ne Nat _ _; omega, fresh _ (by omega)⟩
        · exact ⟨heit, by show @Ne Nat _ _; omega, fresh _ (by omega)⟩
        · exact ⟨up7 _ _ (by show @Ne Nat D2 C2; omega) (N5 _ (by first | k_mem | simp)).1, (N5 _ (by first | k_mem | simp)).2⟩
        · exact ⟨up7 _ _ (by have := hlt q (by (first | (subst hq; k_mem) | ((repeat (first | exact hq | refine List.Mem.tail _ ?_ | exact List.mem_append_right _ hq | exact List.mem_append_left _ hq)); done) | simp [hq])); show @Ne Nat q.1 C2; omega) (N5 q (by (first | (subst hq; k_mem) | ((repeat (first | exact hq | refine List.Mem.tail _ ?_ | exact List.mem_append_right _ hq | exact List.mem_append_left _ hq)); done) | simp [hq]))).1, (N5 q (by (first | (subst hq; k_mem) | ((repeat (first | exact hq | refine List.Mem.tail _ ?_ | exact List.mem_append_right _ hq | exact List.mem_append_left _ hq)); done) | simp [hq]))).2⟩
      have hS7 : SetAt (InLed led0) w h7 S st := hS.led (N (S, oS) (by simp [hSm])).1 (N7 (S, oS) (by simp [hSm])).1 fun q hq => N7 q (by ((have hmm := hsub q hq); first | ((repeat (first | exact hmm | refine List.Mem.tail _ ?_ | exact List.mem_append_right _ hmm | exact List.mem_append_left _ hmm)); done) | simp [hmm]))
      obtain ⟨⟨bb, jj⟩, hfs⟩ := Option.isSome_iff_exists.mp (hs i hl)
      refine wpAny_tests_one (real_test (b := b) (bc := bc) (i := i) (x := row.getD i 0) (S := S) (oS := oS) B X T F7 N7 hoC (by rfl) (by rfl) hc hc2 hI hrl hl (hx _ hxr) hS7 (by simp [hSm]) (fun q hq => by ((have hmm := hsub q hq); first | ((repeat (first | exact hmm | refine List.Mem.tail _ ?_ | exact List.mem_append_right _ hmm | exact List.mem_append_left _ hmm)); done) | simp [hmm])) hfs hd hu fun h8 tk8 F8 N8 hS8 => ?_)
      have eb : isIn st (flipF row i) = bb := by unfold isIn; rw [hfs]
      have z8 : ∀ q ∈ (b, W.listOf ws.toArray bc) :: (c, oc) :: (L + 1 + 1, o2) :: nw, h8.get? q.1 = some q.2 ∧ q.1 ≠ L ∧ h₀.get? q.1 = none := fun q hq => N8 q (by
        simp only [List.mem_cons] at hq
        rcases hq with h | h | h | h <;> (first | (subst h; k_mem) | ((repeat (first | exact h | refine List.Mem.tail _ ?_ | exact List.mem_append_right _ h | exact List.mem_append_left _ h)); done) | simp [h]))
      have st8 : (∃ ol, IsEnum h8 (z + 1) z ((i + 1 : Nat) : Int) ol) ∧ h8.IsListIter z b (i + 1) ∧ h8.IsList b ws.toArray :=
        ⟨⟨_, (N8 _ (.tail _ (.tail _ (.tail _ (.tail _ (.head _)))))).1⟩, ⟨oit, (N8 (z, oit) (by first | k_mem | simp)).1, hcit, hdit⟩, PySem.IsL.isList (n := bc) (N8 _ (.head _)).1⟩
      have n8 : h8.Ns C2 _ := hoC.ns (N8 (C2, oC) (by first | k_mem | simp)).1
      have d8 := N8 (D2, lst ys) (by first | k_mem | simp)
      have hcs := cntF_succ st row i
      rw [eb] at hcs
      cases bb with
      | false =>
        simp only [Bool.false_eq_true, if_false]
        refine ⟨row.length + 1 - (i + 1), by omega, h8, tk8, i + 1, ys, _, rfl, hl, rfl, st8, F8, n8, fun q hq => ?_, ?_⟩
        · rcases List.mem_cons.mp hq with rfl | hq
          · exact d8
          · exact z8 q hq
        · simp only [Bool.false_eq_true, if_false] at hcs
          omega
      | true =>
        simp only [if_true]
        refine LCgL.ld_own (C := C2) (oC := oC) N8 (by first | k_mem | simp) hoC (by rfl) ?_
        refine append_at (hsz := by show ys.toArray.size ≤ sizeLine; rw [List.size_toArray, hcnt]; exact Nat.le_trans (cntF_le st row i) (by rw [sizeLine_eq]; omega)) d8.1 fun h9 hs9 hD9 => ?_
        have nD : ∀ q ∈ (b, W.listOf ws.toArray bc) :: (c, oc) :: (L + 1 + 1, o2) :: nw, @Ne Nat q.1 D2 := fun q hq => by
          have := hlt q hq
          omega
        refine ⟨row.length + 1 - (i + 1), by omega, h9, tk8, i + 1, ys ++ [.int (i : Int) t], _, rfl, hl, rfl, WE.frame _ _ h9 st8 (fun q hq o e => hs9.extBut q o ?_ e), F8.change hs9 d8.2.1 d8.2.2, n8.sameBut hs9 (by show @Ne Nat C2 D2; omega), fun q hq => ?_, ?_⟩
        · simp only [List.mem_cons, List.not_mem_nil, or_false] at hq
          rcases hq with rfl | rfl | rfl <;> (show @Ne Nat _ _) <;> omega
        · rcases List.mem_cons.mp hq with rfl | hq
          · exact ⟨hD9.trans (congrArg some (lst_snoc ys _)), d8.2⟩
          · exact ⟨hs9.extBut _ _ (nD q hq) (z8 q hq).1, (z8 q hq).2⟩
        · simp only [if_true] at hcs
          rw [List.length_append, List.length_singleton]
          omega
    · obtain rfl : i = row.length := Nat.le_antisymm hi (Nat.not_lt.mp hl)
      refine WE.done _ _ _ (by rw [hwl]; exact hst') fun h3 tk3 hk3 => ?_
      obtain ⟨F3, hn3, N3⟩ := keepW hk3
      have hC2₀ : h₀.get? C2 = none := fresh _ (by omega)
      have C2L : C2 ≠ L := by show @Ne Nat C2 L; omega
      refine ⟨m', hn3, fun h4 hs4 => ?_⟩
      have N4 : News h₀ L h4 ((D2, lst ys) :: (b, W.listOf ws.toArray bc) :: (c, oc) :: (L + 1 + 1, o2) :: nw) := fun q hq => by
        refine ⟨hs4.extBut _ _ ?_ (N3 q hq).1, (N3 q hq).2⟩
        rcases List.mem_cons.mp hq with rfl | hq
        · show @Ne Nat D2 C2; omega
        · have := hlt q hq
          show @Ne Nat q.1 C2; omega
      exact hret D2 ys h4 tk3 hcnt (F3.change hs4 C2L hC2₀) N4 (hS.led (N (S, oS) (by simp [hSm])).1 (N4 (S, oS) (by simp [hSm])).1 fun q hq => N4 q (by ((have hmm := hsub q hq); first | ((repeat (first | exact hmm | refine List.Mem.tail _ ?_ | exact List.mem_append_right _ hmm | exact List.mem_append_left _ hmm)); done) | simp [hmm])))
  exact codeAny_compStart_list loop (wpAny_pyIter_enum (old _ _ he1) loop)
end
end
section
section
open PyProof.Rows.LCg
set_option maxRecDepth 100000
set_option maxHeartbeats 2000000
/-- the frame of real's outer comprehension: its row is a cell -/
theorem newEnv_row {w : World} {A : Around} {E : Value → Shared → Prop} {s : Shared} {cl : List (Str × Addr)} {env : Env} {Q : Env → Shared → Prop}
    (h : Q { scope := scpOf realComp, locals := s.heap.objs.size, globals := env.globals, cells := (Str.ofString "row", (s.heap.push { cls := .type "dict", data := .dict #[] }).objs.size) :: cl, qual := env.qual, func := none, code := env.code, frame := env.frame, builtins := env.builtins }
      { s with heap := (s.heap.push { cls := .type "dict", data := .dict #[] }).push { cls := .type "cell", data := .cell none } }) :
    wpAny (model PG w) A (newFunctionEnv (scpOf realComp) env.globals cl [] env.qual none .none (some env)) Q E s := by
  have hn : (scpOf realComp).names = [(Str.ofString ".0", .local), (Str.ofString "row", .cell), (Str.ofString "len", .globalImplicit), (Str.ofString "enumerate", .globalImplicit), (Str.ofString "begun", .free)] := rfl
  unfold newFunctionEnv
  simp only [Option.isSome_some, if_true]
  refine wpAny_bind (wpAny_alloc ?_)
  rw [hn]
  simp only [List.forIn_cons, List.forIn_nil, show (NameKind.local == NameKind.cell) = false from rfl, show (NameKind.cell == NameKind.cell) = true from rfl, show (NameKind.globalImplicit == NameKind.cell) = false from rfl, show (NameKind.free == NameKind.cell) = false from rfl, Bool.false_eq_true, if_false, if_true, pure_bind]
  exact wpAny_bind (wpAny_bind (wpAny_bind (wpAny_alloc (wpAny_pure (wpAny_pure (wpAny_pure h))))))
noncomputable def cnts (st : PK) (D : List (List Int)) : List Int := D.map fun row => (cntF st row row.length : Int)
theorem cnts_take {st : PK} {D : List (List Int)} {j : Nat} {row : List Int} (h : D[j]? = some row) : cnts st (D.take (j + 1)) = cnts st (D.take j) ++ [(cntF st row row.length : Int)] := by
  unfold cnts
  rw [List.take_add_one, h]
  simp
theorem real_elt {w : World} {p : Program} {loose : List Str} {mean : ExcName → Option Value} {mg mb : Str → Option Value}
    {dp un : Nat} {gd : Option (List Code)} {a : Addr} {ccd : Value} {outer : List Env} {A₀ : Around} {base h₀ : Heap} {L : Addr} {m₁ : Str → Option Value} {s : Shared} {Q E : Value → Shared → Prop}
    {oc o2 : Obj} {b C c S : Addr} {ws : List Value} {row : List Int} {bc : Nat} {nw : List (Addr × Obj)}
    (B : Below A₀ base outer h₀) (X : (Mine.hd.heap_1 w.params).In h₀) (T : Top p loose mean mg mb h₀) (F : Fr h₀ L s.heap m₁)
    (N : News h₀ L s.heap ((b, W.listOf ws.toArray bc) :: (c, oc) :: (L + 1 + 1, o2) :: nw))
    (hc : oc.data = .cell (some (.ref b))) (hc2 : o2.data = .cell (some (.ref S))) (hI : IntsAre ws row) (hrl : row.length ≤ 7) (hx : ∀ x ∈ row, 0 ≤ x ∧ x ≤ 1)
    {oS : Obj} {led0 : List (Addr × Obj)} {st : PK} (hS : SetAt (InLed led0) w s.heap S st) (hSm : (S, oS) ∈ nw) (hsub : ∀ q ∈ led0, q ∈ nw) (hs : ∀ i, i < row.length → (fsearch st.M (fT st.T) (flipF row i)).isSome = true)
    (hd : dp + 20 < recursionLimit) (hu : un + 200 < cLine)
    (hret : ∀ t h' tk, Fr h₀ L h' m₁ → News h₀ L h' ((b, W.listOf ws.toArray bc) :: (c, oc) :: (L + 1 + 1, o2) :: nw) → SetAt (InLed led0) w h' S st → Q (.int (cntF st row row.length : Int) t) { s with heap := h', toks := tk }) :
    wpAny (model PG w) (lawTop dp un gd L a ccd outer) (eval (eltOf realComp) (env1 L a ccd C c)) Q E s := by
  have hb : eltOf realComp = .Call (.Name (Str.ofString "len") _) [realIn] [] _ := rfl
  rw [hb]
  repeat ((fail_if_success (with_reducible show wpAny _ _ (eval realIn _) _ _ _)); (first | (k_unfold; (try dsimp only)) | (k_end; wrow_close) | walk1 | (dsimp only; walk1) | (leave1; walk_say "STEP leave1"; try dsimp only) | fail "no step"))
  refine real_in (bc := bc) B X T F N hc hc2 hI hrl hx hS hSm hsub hs hd hu fun D2 ys h' tk hy F' N' hS' => ?_
  clear F N
  repeat ((fail_if_success (with_reducible show wpAny _ _ (call _ _) _ _ _)); (first | (k_unfold; (try dsimp only)) | (k_end; wrow_close) | walk1 | (dsimp only; walk1) | (leave1; walk_say "STEP leave1"; try dsimp only) | fail "no step"))
  refine Calls.call_len_list (PySem.IsL.isList (n := ys.length) (N' _ (.head _)).1) ?_ ?_
  · have := cntF_le st row row.length
    simp only [List.size_toArray, hy]; omega
  · simp only [List.size_toArray, hy]
    exact hret _ h' _ F' (fun q hq => N' q (.tail _ hq)) hS'
theorem wpAny_list_append_at' {w : World} {A : Around} {E : Value → Shared → Prop} {s : Shared} {D : Addr} {ys : List Value} {x : Value} {Q : Value → Shared → Prop} (ho : s.heap.get? D = some (lst ys)) (hz : ys.length ≤ 1000)
    (h : ∀ h', Heap.SameBut D s.heap h' → h'.get? D = some { cls := .type "list", data := .seq (ys.toArray.push x) (ys.length + 1) } → Q .none { s with heap := h' }) :
    wpAny (model PG w) A (call (.builtin "list.append") [.ref D, x]) Q E s :=
  append_at (hsz := by show ys.toArray.size ≤ sizeLine; rw [List.size_toArray]; exact Nat.le_trans hz (by rw [sizeLine_eq]; decide)) ho h
theorem real_stmt {w : World} {p : Program} {loose : List Str} {mean : ExcName → Option Value} {mg mb : Str → Option Value}
    {dp un : Nat} {gd : Option (List Code)} {a : Addr} {ccd : Value} {outer : List Env} {A₀ : Around} {base h₀ : Heap} {L : Addr} {m₁ : Str → Option Value} {s : Shared} {Q : Flow → Shared → Prop} {E : Value → Shared → Prop}
    {o2 : Obj} {ro S : Addr} {vs : List Value} {rc : Nat} {D : List (List Int)} {nw : List (Addr × Obj)}
    (B : Below A₀ base outer h₀) (X : (Mine.hd.heap_1 w.params).In h₀) (T : Top p loose mean mg mb h₀) (F : Fr h₀ L s.heap m₁) (hm : m₁ (Str.ofString "rows") = some (.ref ro))
    (N : News h₀ L s.heap ((L + 1 + 1, o2) :: nw)) (hro : (ro, W.listOf vs.toArray rc) ∈ nw) (hR : RowsL nw vs D) (hc2 : o2.data = .cell (some (.ref S)))
    (hl : D.length ≤ 24) (hz : ∀ d ∈ D, d.length ≤ 7) (hx : ∀ d ∈ D, ∀ x ∈ d, 0 ≤ x ∧ x ≤ 1)
    {oS : Obj} {led0 : List (Addr × Obj)} {st : PK} (hS : SetAt (InLed led0) w s.heap S st) (hSm : (S, oS) ∈ nw) (hsub : ∀ q ∈ led0, q ∈ nw) (hs : ∀ d ∈ D, ∀ i, i < d.length → (fsearch st.M (fT st.T) (flipF d i)).isSome = true)
    (hd : dp + 20 < recursionLimit) (hu : un + 200 < cLine)
    (hret : ∀ D1 ys h' tk, IntsAre ys (cnts st D) → Fr h₀ L h' (fun y => if y = Str.ofString "real" then some (.ref D1) else m₁ y) → News h₀ L h' ((D1, lst ys) :: nw) → Q .next { s with heap := h', toks := tk }) :
    wpAny (model PG w) (lawTop dp un gd L a ccd outer) (exec realStmt (envL L a ccd)) Q E s := by
  have hb : realStmt = .Assign [.Name (Str.ofString "real") _] (.ListComp (eltOf realComp) [⟨.Name (Str.ofString "row") _, .Name (Str.ofString "rows") _, [], 0⟩] (scpOf realComp) _) _ := rfl
  rw [hb, exec_Assign_Name_used _ _ _ _ rfl]
  refine wpAny_bind (wpAny_standAt (wpAny_bind ?_))
  show wpAny _ _ (do let _ ← comprehension (.ListComp (eltOf realComp) [⟨.Name (Str.ofString "row") _, .Name (Str.ofString "rows") _, [], 0⟩] (scpOf realComp) _) (scpOf realComp) (envL L a ccd) _ (newList []) false (eval (.Name (Str.ofString "rows") _) (envL L a ccd)) (some (assign (.Name (Str.ofString "real") _) (envL L a ccd)))) _ _ s
  refine wpAny_bind (wpAny_mono (wpAny_comprehension_free (use := some (assign (.Name (Str.ofString "real") _) (envL L a ccd))) (cl := [(Str.ofString "begun", L + 1 + 1)]) (Q := fun _ s' => Q .next s') rfl (by intro _; rfl) rfl rfl (by decide +kernel) ?_) (fun _ s' hq => wpAny_pure (wpAny_pure hq)) fun _ _ e => e)
  have F1 : Fr h₀ L s.heap (fun y => if y = Str.ofString "rows" then some (.ref ro) else m₁ y) := by
    have e : (fun y => if y = Str.ofString "rows" then some (Value.ref ro) else m₁ y) = m₁ := by
      funext y
      by_cases e : y = Str.ofString "rows"
      · rw [if_pos e, e, hm]
      · rw [if_neg e]
    rw [e]; exact F
  (first | (k_unfold; (try dsimp only)) | (k_end; wrow_close) | walk1 | (dsimp only; walk1) | (leave1; walk_say "STEP leave1"; try dsimp only) | fail "no step")
  clear F1
  have hlo := (N _ (.tail _ hro)).1
  have hl0 : s.heap.IsList ro vs.toArray := PySem.IsL.isList (n := rc) hlo
  refine wpAny_pyIter_list hl0 ?_
  generalize hz0 : s.heap.objs.size = z
  have hlt : ∀ q ∈ (L + 1 + 1, o2) :: nw, @LT.lt Nat _ q.1 z := fun q hq => hz0 ▸ Heap.lt_size (N q hq).1
  have hLz : @LT.lt Nat _ L z := hz0 ▸ F.ns.lt
  have up1 : ∀ q o, s.heap.get? q = some o → (s.heap.push { cls := .type "list_iterator", data := .fields #[.ref ro, .int 0 0] }).get? q = some o := fun q o e => Heap.get?_push_of_some _ e
  have hI1 : (s.heap.push { cls := .type "list_iterator", data := .fields #[.ref ro, .int 0 0] }).get? z = some { cls := .type "list_iterator", data := .fields #[.ref ro, .int 0 0] } := hz0 ▸ Heap.get?_push_size _ rfl
  have hz1 : (s.heap.push { cls := .type "list_iterator", data := .fields #[.ref ro, .int 0 0] }).objs.size = z + 1 := by rw [Heap.size_push, hz0]
  refine wpAny_newObj_type (newEnv_row ?_)
  dsimp only
  simp only [Heap.size_push, hz0]
  generalize hH : ((((s.heap.push { cls := .type "list_iterator", data := .fields #[.ref ro, .int 0 0] }).push { cls := .type "list", dict := none, data := .seq ([] : List Value).toArray }).push { cls := .type "dict", data := .dict #[] }).push { cls := .type "cell", data := .cell none }) = H
  have up : ∀ q o, s.heap.get? q = some o → H.get? q = some o := fun q o e => hH ▸ Heap.get?_push_of_some _ (Heap.get?_push_of_some _ (Heap.get?_push_of_some _ (up1 q o e)))
  have gI : H.get? z = some { cls := .type "list_iterator", data := .fields #[.ref ro, .int 0 0] } := hH ▸ Heap.get?_push_of_some _ (Heap.get?_push_of_some _ (Heap.get?_push_of_some _ hI1))
  have gD : H.get? (z + 1) = some (lst []) := by
    have := Heap.get?_push_size (s.heap.push { cls := .type "list_iterator", data := .fields #[.ref ro, .int 0 0] }) (o := { cls := .type "list", dict := none, data := .seq ([] : List Value).toArray }) rfl
    rw [hz1] at this
    exact hH ▸ Heap.get?_push_of_some _ (Heap.get?_push_of_some _ this)
  have gC : H.Ns (z + 1 + 1) (fun _ => none) := by
    have := Heap.Ns.new ((s.heap.push { cls := .type "list_iterator", data := .fields #[.ref ro, .int 0 0] }).push { cls := .type "list", dict := none, data := .seq ([] : List Value).toArray }) (.type "dict")
    rw [Heap.size_push, hz1] at this
    exact hH ▸ this.at' fun o e => Heap.get?_push_of_some _ e
  have gc : H.get? (z + 1 + 1 + 1) = some { cls := .type "cell", data := .cell none } := by
    have := Heap.get?_push_size (((s.heap.push { cls := .type "list_iterator", data := .fields #[.ref ro, .int 0 0] }).push { cls := .type "list", dict := none, data := .seq ([] : List Value).toArray }).push { cls := .type "dict", data := .dict #[] }) (o := { cls := .type "cell", data := .cell none }) rfl
    rw [Heap.size_push, Heap.size_push, hz1] at this
    exact hH ▸ this
  have FH : Fr h₀ L H m₁ := F.keeps up
  have NH : News h₀ L H ((L + 1 + 1, o2) :: nw) := fun q hq => ⟨up _ _ (N q hq).1, (N q hq).2⟩
  clear hH hz1 hI1 up1
  have fresh : ∀ q, @LE.le Nat _ z q → h₀.get? q = none := fun q hq => Heap.get?_none_of_le (Nat.le_trans FH.above (Nat.le_trans (Nat.le_of_lt hLz) hq))
  have neL : ∀ q, @LE.le Nat _ z q → @Ne Nat q L := fun q hq => by omega
  have roz : @LT.lt Nat _ ro z := hlt _ (.tail _ hro)
  have WL := Walks.list (prog := PG) (w := w) (A := lawTop dp un gd L a ccd outer) rfl z ro (Nat.ne_of_lt roz) vs.toArray
  have hvl : vs.length = D.length := hR.len
  have st0 : H.IsListIter z ro 0 ∧ H.IsList ro vs.toArray := ⟨⟨_, gI, rfl, rfl⟩, PySem.IsL.isList (n := rc) (NH _ (.tail _ hro)).1⟩
  have hS0 := (N (S, oS) (.tail _ hSm)).1
  have loop : ∀ px : Pos, codeAny (model PG w) (lawTop dp un gd L a ccd outer) (.compLoop realComp 0 (.ref z) (.ref (z + 1)) (env1 L a ccd (z + 1 + 1) (z + 1 + 1 + 1)))
      (compPost (model PG w) (lawTop dp un gd L a ccd outer) E (some (assign (.Name (Str.ofString "real") px) (envL L a ccd))) (fun _ s' => Q .next s') (.ref (z + 1)) (z + 1 + 1)) { s with heap := H } := by
    intro px
    have hb2 : realComp = .ListComp (eltOf realComp) [⟨.Name (Str.ofString "row") _, .Name (Str.ofString "rows") _, [], 0⟩] (scpOf realComp) _ := rfl
    rw [hb2]
    refine codeAny_compLoop_list
      (fun k s' => ∃ h' tk j ys m' oc v0, s' = { s with heap := h', toks := tk } ∧ j ≤ D.length ∧ k = D.length + 1 - j ∧ (h'.IsListIter z ro j ∧ h'.IsList ro vs.toArray) ∧ Fr h₀ L h' m₁ ∧ h'.Ns (z + 1 + 1) m' ∧ h'.get? (z + 1 + 1 + 1) = some oc ∧ oc.data = .cell v0 ∧
        News h₀ L h' ((z + 1, lst ys) :: (L + 1 + 1, o2) :: nw) ∧ IntsAre ys (cnts st (D.take j))) ?_ (D.length + 1) ⟨H, _, 0, [], _, _, none, rfl, Nat.zero_le _, rfl, st0, FH, gC, gc, rfl, fun q hq => ?_, .nil⟩
    · rintro k s' ⟨h', tk, j, ys, m', oc, v0, rfl, hj, rfl, hst', F', hn', hoc', hdc', N', hI'⟩
      have keepW : ∀ {h3 : Heap}, (∀ q o, q ∉ [z] → h'.get? q = some o → h3.get? q = some o) → Fr h₀ L h3 m₁ ∧ h3.Ns (z + 1 + 1) m' ∧ h3.get? (z + 1 + 1 + 1) = some oc ∧ News h₀ L h3 ((z + 1, lst ys) :: (L + 1 + 1, o2) :: nw) := fun {h3} hk => by
        refine ⟨fr_but F' hk (by show @Ne Nat L z; omega) (fresh _ (Nat.le_refl _)), hn'.at' fun o e => hk _ o (by simp only [List.mem_singleton]; show @Ne Nat _ _; omega) e, hk _ _ (by simp only [List.mem_singleton]; show @Ne Nat _ _; omega) hoc', news_but N' hk fun q hq => ?_⟩
        rcases List.mem_cons.mp hq with rfl | hq
        · show @Ne Nat (z + 1) z; omega
        · have := hlt q hq
          show @Ne Nat q.1 z; omega
      by_cases hjl : j < D.length
      · refine WL.item j _ _ _ (by rw [List.size_toArray, hvl]; exact hjl) hst' fun v h3 tk3 hPv hst3 hk3 => ?_
        obtain ⟨row, b, ws, bc, hd1, rfl, hmem, hI⟩ := RowsL.get hR j (by simpa using hPv)
        obtain ⟨F3, hn3, hoc3, N3⟩ := keepW hk3
        have hrow : row ∈ D := List.mem_of_getElem? hd1
        refine wpAny_assign_Name (wpAny_storeName_cell rfl rfl rfl ⟨oc, hoc3, hdc'⟩ fun h4 hv4 hs4 => ?_)
        replace hs4 : Heap.SameBut (z + 1 + 1 + 1) h3 h4 := hs4
        obtain ⟨oc4, hoc4, hdc4⟩ := hv4
        have cL : (z + 1 + 1 + 1 : Nat) ≠ L := neL _ (by omega)
        have up4 : ∀ q o, @Ne Nat q (z + 1 + 1 + 1) → h3.get? q = some o → h4.get? q = some o := fun q o hq e => hs4.extBut q o hq e
        have hst4 := WL.frame _ _ h4 hst3 fun q hq o e => up4 q o (by
          simp only [List.mem_cons, List.not_mem_nil, or_false] at hq
          rcases hq with rfl | rfl <;> (show @Ne Nat _ _) <;> omega) e
        obtain ⟨⟨oI, heI, hcI, hdI⟩, hl4⟩ := hst4
        obtain ⟨oC, heC, hoC⟩ := ns_obj (hn3.sameBut hs4 (by show @Ne Nat _ _; omega))
        have F4 : Fr h₀ L h4 m₁ := F3.change hs4 cL (fresh _ (by omega))
        have z4 : ∀ q ∈ (L + 1 + 1, o2) :: nw, h4.get? q.1 = some q.2 ∧ q.1 ≠ L ∧ h₀.get? q.1 = none := fun q hq =>
          ⟨up4 _ _ (by have := hlt q hq; omega) (N3 q (.tail _ hq)).1, (N3 q (.tail _ hq)).2⟩
        have N4 : News h₀ L h4 ((b, W.listOf ws.toArray bc) :: (z + 1 + 1 + 1, oc4) :: (L + 1 + 1, o2) :: (z, oI) :: (z + 1 + 1, oC) :: (z + 1, lst ys) :: nw) := fun q hq => by
          simp only [List.mem_cons] at hq
          rcases hq with rfl | rfl | rfl | rfl | rfl | rfl | hq
          · exact z4 _ (.tail _ hmem)
          · exact ⟨hoc4, cL, fresh _ (by omega)⟩
          · exact z4 _ (.head _)
          · exact ⟨heI, neL _ (Nat.le_refl _), fresh _ (Nat.le_refl _)⟩
          · exact ⟨heC, neL _ (by omega), fresh _ (by omega)⟩
          · exact ⟨up4 _ _ (by show @Ne Nat (z + 1) _; omega) (N3 _ (.head _)).1, (N3 _ (.head _)).2⟩
          · exact z4 q (.tail _ hq)
        have hS4 : SetAt (InLed led0) w h4 S st := hS.led hS0 (z4 (S, oS) (.tail _ hSm)).1 fun q hq => z4 q (.tail _ (hsub q hq))
        refine real_elt (bc := bc) B X T F4 N4 hdc4 hc2 hI (hz _ hrow) (hx _ hrow) hS4 (oS := oS) (by simp [hSm]) (fun q hq => by ((have hmm := hsub q hq); first | ((repeat (first | exact hmm | refine List.Mem.tail _ ?_ | exact List.mem_append_right _ hmm | exact List.mem_append_left _ hmm)); done) | simp [hmm])) (hs _ hrow) hd hu fun t h5 tk5 F5 N5 hS5 => ?_
        have d5 := N5 (z + 1, lst ys) (by first | k_mem | simp)
        have ylen : ys.length ≤ 24 := by
          have := hI'.length
          rw [this]; unfold cnts; simp; omega
        refine wpAny_list_append_at' d5.1 (by omega) fun h6 hs6 hD6 => ?_
        have z5 : ∀ q ∈ (L + 1 + 1, o2) :: nw, h5.get? q.1 = some q.2 ∧ q.1 ≠ L ∧ h₀.get? q.1 = none := fun q hq => N5 q (by
          simp only [List.mem_cons] at hq
          rcases hq with h | h <;> (first | (subst h; k_mem) | ((repeat (first | exact h | refine List.Mem.tail _ ?_ | exact List.mem_append_right _ h | exact List.mem_append_left _ h)); done) | simp [h]))
        refine ⟨D.length + 1 - (j + 1), by omega, h6, tk5, j + 1, ys ++ [.int (cntF st row row.length : Int) t], _, oc4, _, rfl, hjl, rfl, ⟨⟨oI, hs6.extBut _ _ (by show @Ne Nat z _; omega) (N5 (z, oI) (by first | k_mem | simp)).1, hcI, hdI⟩, PySem.IsL.isList (n := rc) (hs6.extBut _ _ (by show @Ne Nat ro _; omega) (z5 _ (.tail _ hro)).1)⟩,
          F5.change hs6 d5.2.1 d5.2.2, (hoC.ns (N5 (z + 1 + 1, oC) (by first | k_mem | simp)).1).sameBut hs6 (by show @Ne Nat (z + 1 + 1) _; omega), hs6.extBut _ _ (by show @Ne Nat (z + 1 + 1 + 1) _; omega) (N5 (z + 1 + 1 + 1, oc4) (by first | k_mem | simp)).1, hdc4, fun q hq => ?_, ?_⟩
        · rcases List.mem_cons.mp hq with rfl | hq
          · exact ⟨hD6.trans (congrArg some (lst_snoc ys _)), d5.2⟩
          · exact ⟨hs6.extBut _ _ (by have := hlt q hq; show @Ne Nat q.1 _; omega) (z5 q hq).1, (z5 q hq).2⟩
        · rw [cnts_take hd1]
          exact hI'.append (.cons _ _ .nil)
      · obtain rfl : j = D.length := Nat.le_antisymm hj (Nat.not_lt.mp hjl)
        refine WL.done _ _ _ (by rw [List.size_toArray, hvl]; exact hst') fun h3 tk3 hk3 => ?_
        obtain ⟨F3, hn3, hoc3, N3⟩ := keepW hk3
        have CL : (z + 1 + 1 : Nat) ≠ L := neL _ (by omega)
        show wpAny _ _ (assign (.Name (Str.ofString "real") px) (envL L a ccd) (.ref (z + 1))) _ _ _
        refine wpAny_assign_Name (wpAny_storeName_local rfl F3.ns (fun h4 hn4 hs4 => ?_) rfl)
        replace hs4 : Heap.SameBut L h3 h4 := hs4
        have F4 : Fr h₀ L h4 (fun y => if y = Str.ofString "real" then some (.ref (z + 1)) else m₁ y) := F3.set hn4 hs4
        refine ⟨m', hn3.sameBut hs4 CL, fun h5 hs5 => hret (z + 1) ys h5 _ (by rw [List.take_of_length_le (Nat.le_refl _)] at hI'; exact hI') (F4.change hs5 CL (fresh _ (by omega))) fun q hq => ?_⟩
        have z4 : h4.get? q.1 = some q.2 ∧ q.1 ≠ L ∧ h₀.get? q.1 = none := by
          rcases List.mem_cons.mp hq with rfl | hq
          · exact ⟨hs4.extBut _ _ (neL _ (by omega)) (N3 _ (.head _)).1, (N3 _ (.head _)).2⟩
          · have z3 := N3 q (.tail _ (.tail _ hq))
            exact ⟨hs4.extBut _ _ z3.2.1 z3.1, z3.2⟩
        refine ⟨hs5.extBut _ _ ?_ z4.1, z4.2⟩
        rcases List.mem_cons.mp hq with rfl | hq
        · show @Ne Nat (z + 1) _; omega
        · have := hlt q (.tail _ hq)
          show @Ne Nat q.1 _; omega
    · rcases List.mem_cons.mp hq with rfl | hq
      · exact ⟨gD, neL _ (by omega), fresh _ (by omega)⟩
      · exact NH q hq
  exact codeAny_compStart_list (loop _) (WL.self 0 _ _ _ st0 (loop _))
end
end
section
section
open PyProof.Rows.LCg
set_option maxRecDepth 100000
set_option maxHeartbeats 2000000
theorem fewest24 {w : World} {p : Program} {loose : List Str} {mean : ExcName → Option Value} {mg mb : Str → Option Value}
    {dp un : Nat} {gd : Option (List Code)} {cn : Str} {cs : Scope} {a : Addr} {ccd : Value} {cl : List (Str × Addr)} {outer : List Env} {A₀ : Around} {base h₀ : Heap} {L : Addr} {m : Str → Option Value} {s : Shared} {Q E : Value → Shared → Prop} {t : Tok} {news : List (Addr × Obj)}
    (B : Below A₀ base outer h₀) (F : Fr h₀ L s.heap m) (X : (Mine.hd.heap_1 w.params).In h₀) (T : Top p loose mean mg mb h₀) (hk : cs.kind = .function) (N : News h₀ L s.heap news) (hd : dp + 4 < recursionLimit) (hu : un + 40 < cLine)
    (hret : ∀ t' h' tk', Fr h₀ L h' m → News h₀ L h' news → Q (.int 112 t') { s with heap := h', toks := tk' }) :
    wpAny (model PG w) (ktrTop dp un gd cn cs L a ccd cl outer) (call (.ref 121) [.int 24 t]) Q E s := by
  refine wpAny_call ?_
  k_dflt ktr_enter
  k_steps
  have e : (24 * (((Builtin.Int.intBits 24 : Nat) : Int) - 1) + 2 * (24 - 2 ^ (((Builtin.Int.intBits 24 : Nat) : Int) - 1).toNat)) = 112 := by decide +kernel
  rw [e]
  exact hret _ _ _ (by with_reducible assumption) (by with_reducible assumption)
theorem fewest6 {w : World} {p : Program} {loose : List Str} {mean : ExcName → Option Value} {mg mb : Str → Option Value}
    {dp un : Nat} {gd : Option (List Code)} {cn : Str} {cs : Scope} {a : Addr} {ccd : Value} {cl : List (Str × Addr)} {outer : List Env} {A₀ : Around} {base h₀ : Heap} {L : Addr} {m : Str → Option Value} {s : Shared} {Q E : Value → Shared → Prop} {t : Tok} {news : List (Addr × Obj)}
    (B : Below A₀ base outer h₀) (F : Fr h₀ L s.heap m) (X : (Mine.hd.heap_1 w.params).In h₀) (T : Top p loose mean mg mb h₀) (hk : cs.kind = .function) (N : News h₀ L s.heap news) (hd : dp + 4 < recursionLimit) (hu : un + 40 < cLine)
    (hret : ∀ t' h' tk', Fr h₀ L h' m → News h₀ L h' news → Q (.int 16 t') { s with heap := h', toks := tk' }) :
    wpAny (model PG w) (ktrTop dp un gd cn cs L a ccd cl outer) (call (.ref 121) [.int 6 t]) Q E s := by
  refine wpAny_call ?_
  k_dflt ktr_enter
  k_steps
  have e : (6 * (((Builtin.Int.intBits 6 : Nat) : Int) - 1) + 2 * (6 - 2 ^ (((Builtin.Int.intBits 6 : Nat) : Int) - 1).toNat)) = 16 := by decide +kernel
  rw [e]
  exact hret _ _ _ (by with_reducible assumption) (by with_reducible assumption)
end
end
section
section
open PyProof.Rows.LCg
set_option maxRecDepth 100000
set_option maxHeartbeats 2000000
theorem len_at {w : World} {A : Around} {E : Value → Shared → Prop} {s : Shared} {h₀ : Heap} {L l : Addr} {news : List (Addr × Obj)} {vs : List Value} {c : Nat} {k : Int} {Q : Value → Shared → Prop} (N : News h₀ L s.heap news) (hm : (l, W.listOf vs.toArray c) ∈ news) (hv : (vs.length : Int) = k) (hk : k ≤ 1000)
    (h : ∀ t tk, Q (.int k t) { s with toks := tk }) : wpAny (model PG w) A (call (.builtin "len") [.ref l]) Q E s := by
  refine Calls.call_len_list (PySem.IsL.isList (n := c) (N _ hm).1) (by simp only [List.size_toArray]; omega) ?_
  simp only [List.size_toArray, hv]
  exact h _ _
local macro_rules | `(tactic| walk_at "call builtin:len") => `(tactic| (k_here; (with_reducible show wpAny _ _ (call (Value.builtin _) [Value.ref _]) _ _ _); k_dflt (refine' len_at (by k_asm) (by k_mem) (by with_reducible assumption) (by decide) ?_; k_whole); intro t9 tk9; (try dsimp only)))
theorem tail24 {w : World} {p : Program} {loose : List Str} {mean : ExcName → Option Value} {mg mb : Str → Option Value}
    {dp un : Nat} {gd : Option (List Code)} {a : Addr} {ccd : Value} {outer : List Env} {A₀ : Around} {base h₀ : Heap} {L : Addr} {m₁ : Str → Option Value} {s : Shared} {Q : Flow → Shared → Prop} {E : Value → Shared → Prop}
    {D1 ro : Addr} {ys vs : List Value} {rc : Nat} {rs : List Int} {nw : List (Addr × Obj)} {tm : Tok}
    (B : Below A₀ base outer h₀) (X : (Mine.hd.heap_1 w.params).In h₀) (T : Top p loose mean mg mb h₀)
    (F : Fr h₀ L s.heap (fun y => if y = Str.ofString "real" then some (.ref D1) else if y = Str.ofString "rows" then some (.ref ro) else if y = Str.ofString "many" then some (.int 4 tm) else m₁ y))
    (N : News h₀ L s.heap ((D1, W.listOf ys.toArray ys.length) :: (ro, W.listOf vs.toArray rc) :: nw)) (hI : IntsAre ys rs) (hvl : (vs.length : Int) = 24) (hrs : rs.sum = 112) (hne : 0 < rs.length) (hmx : ∀ M ∈ rs, (∀ a ∈ rs, a ≤ M) → M = 5)
    (hd : dp + 20 < recursionLimit) (hu : un + 200 < cLine)
    (hret : ∀ h' tk, Fr h₀ L h' (fun y => if y = Str.ofString "real" then some (.ref D1) else if y = Str.ofString "rows" then some (.ref ro) else if y = Str.ofString "many" then some (.int 4 tm) else m₁ y) → News h₀ L h' ((D1, W.listOf ys.toArray ys.length) :: (ro, W.listOf vs.toArray rc) :: nw) → Q .next { s with heap := h', toks := tk }) :
    wpAny (model PG w) (lawTop dp un gd L a ccd outer) (exec (lawBody.getD 11 default) (envL L a ccd)) Q E s := by
  have hb : lawBody.getD 11 default = .If _ _ [] _ := rfl
  rw [hb]
  repeat ((fail_if_success (with_reducible show wpAny _ _ (call (Value.ref 121) _) _ _ _)); (first | (k_unfold; (try dsimp only)) | (k_end; wrow_close) | walk1 | (dsimp only; walk1) | (leave1; walk_say "STEP leave1"; try dsimp only) | fail "no step"))
  rename Fr _ _ _ _ => kF
  rename News _ _ _ _ => kN
  refine fewest24 B kF X T rfl kN (by omega) (by omega) fun t' h' tk' F' N' => ?_
  rw [hrs]
  clear kF kN
  repeat ((fail_if_success (with_reducible show wpAny _ _ (call (Value.builtin "max") _) _ _ _)); (first | (k_unfold; (try dsimp only)) | (k_end; wrow_close) | walk1 | (dsimp only; walk1) | (leave1; walk_say "STEP leave1"; try dsimp only) | fail "no step"))
  refine max_list_N rfl F' N' (PySem.IsL.isList (n := ys.length) (N' _ (.head _)).1) hI hne fun h9 M t9 tk9 F9 N9 hM1 hM2 => ?_
  obtain rfl := hmx M hM1 hM2
  clear F' N'
  k_steps
  exact hret _ _ (by with_reducible assumption) (by with_reducible assumption)
theorem tail6 {w : World} {p : Program} {loose : List Str} {mean : ExcName → Option Value} {mg mb : Str → Option Value}
    {dp un : Nat} {gd : Option (List Code)} {a : Addr} {ccd : Value} {outer : List Env} {A₀ : Around} {base h₀ : Heap} {L : Addr} {m₁ : Str → Option Value} {s : Shared} {Q : Flow → Shared → Prop} {E : Value → Shared → Prop}
    {D1 ro : Addr} {ys vs : List Value} {rc : Nat} {rs : List Int} {nw : List (Addr × Obj)} {tm : Tok}
    (B : Below A₀ base outer h₀) (X : (Mine.hd.heap_1 w.params).In h₀) (T : Top p loose mean mg mb h₀)
    (F : Fr h₀ L s.heap (fun y => if y = Str.ofString "real" then some (.ref D1) else if y = Str.ofString "rows" then some (.ref ro) else if y = Str.ofString "many" then some (.int 3 tm) else m₁ y))
    (N : News h₀ L s.heap ((D1, W.listOf ys.toArray ys.length) :: (ro, W.listOf vs.toArray rc) :: nw)) (hI : IntsAre ys rs) (hvl : (vs.length : Int) = 6) (hrs : rs.sum = 16) (hne : 0 < rs.length) (hmx : ∀ M ∈ rs, (∀ a ∈ rs, a ≤ M) → M = 3)
    (hd : dp + 20 < recursionLimit) (hu : un + 200 < cLine)
    (hret : ∀ h' tk, Fr h₀ L h' (fun y => if y = Str.ofString "real" then some (.ref D1) else if y = Str.ofString "rows" then some (.ref ro) else if y = Str.ofString "many" then some (.int 3 tm) else m₁ y) → News h₀ L h' ((D1, W.listOf ys.toArray ys.length) :: (ro, W.listOf vs.toArray rc) :: nw) → Q .next { s with heap := h', toks := tk }) :
    wpAny (model PG w) (lawTop dp un gd L a ccd outer) (exec (lawBody.getD 11 default) (envL L a ccd)) Q E s := by
  have hb : lawBody.getD 11 default = .If _ _ [] _ := rfl
  rw [hb]
  repeat ((fail_if_success (with_reducible show wpAny _ _ (call (Value.ref 121) _) _ _ _)); (first | (k_unfold; (try dsimp only)) | (k_end; wrow_close) | walk1 | (dsimp only; walk1) | (leave1; walk_say "STEP leave1"; try dsimp only) | fail "no step"))
  rename Fr _ _ _ _ => kF
  rename News _ _ _ _ => kN
  refine fewest6 B kF X T rfl kN (by omega) (by omega) fun t' h' tk' F' N' => ?_
  rw [hrs]
  clear kF kN
  repeat ((fail_if_success (with_reducible show wpAny _ _ (call (Value.builtin "max") _) _ _ _)); (first | (k_unfold; (try dsimp only)) | (k_end; wrow_close) | walk1 | (dsimp only; walk1) | (leave1; walk_say "STEP leave1"; try dsimp only) | fail "no step"))
  refine max_list_N rfl F' N' (PySem.IsL.isList (n := ys.length) (N' _ (.head _)).1) hI hne fun h9 M t9 tk9 F9 N9 hM1 hM2 => ?_
  obtain rfl := hmx M hM1 hM2
  clear F' N'
  k_steps
  exact hret _ _ (by with_reducible assumption) (by with_reducible assumption)
noncomputable def retStmt : Stmt := lawBody.getD 12 default
noncomputable def retOf : Stmt → Expr | .Return (some e) _ => e | _ => default
noncomputable def leftOf : Expr → Expr | .Compare l _ _ _ => l | _ => default
noncomputable def lenComp : Expr := argOf (leftOf (retOf retStmt))
theorem len_elt {w : World} {p : Program} {loose : List Str} {mean : ExcName → Option Value} {mg mb : Str → Option Value}
    {dp un : Nat} {gd : Option (List Code)} {a : Addr} {ccd : Value} {outer : List Env} {A₀ : Around} {base h₀ : Heap} {L : Addr} {m₁ : Str → Option Value} {s : Shared} {Q E : Value → Shared → Prop}
    {oC oI oD : Obj} {b C I D : Addr} {ws : List Value} {row : List Int} {c : Nat} {m₂ : Str → Option Value} {nw : List (Addr × Obj)} {cl : List (Str × Addr)}
    (B : Below A₀ base outer h₀) (X : (Mine.hd.heap_1 w.params).In h₀) (T : Top p loose mean mg mb h₀) (F : Fr h₀ L s.heap m₁)
    (N : News h₀ L s.heap ((b, W.listOf ws.toArray c) :: (I, oI) :: (C, oC) :: (D, oD) :: nw)) (hoC : NsObj oC m₂)
    (hmx : m₂ (Str.ofString "row") = some (.ref b)) (hI : IntsAre ws row) (hrl : row.length ≤ 7)
    (hd : dp + 20 < recursionLimit) (hu : un + 200 < cLine)
    (hret : ∀ t tk, Q (.int (row.length : Int) t) { s with toks := tk }) :
    wpAny (model PG w) (lawTop dp un gd L a ccd outer) (eval (eltOf lenComp) (compEnvC (scpOf lenComp) cl C (envL L a ccd))) Q E s := by
  have hb : eltOf lenComp = .Call _ _ _ _ := rfl
  rw [hb]
  repeat ((fail_if_success (with_reducible show wpAny _ _ (call _ _) _ _ _)); (first | (k_unfold; (try dsimp only)) | (k_end; wrow_close) | walk1 | (dsimp only; walk1) | (leave1; walk_say "STEP leave1"; try dsimp only) | fail "no step"))
  have := hI.length
  exact len_at (k := (row.length : Int)) N (.head _) (by omega) (by omega) fun t tk => hret t tk
theorem len_comp {w : World} {p : Program} {loose : List Str} {mean : ExcName → Option Value} {mg mb : Str → Option Value}
    {dp un : Nat} {gd : Option (List Code)} {a : Addr} {ccd : Value} {outer : List Env} {A₀ : Around} {base h₀ : Heap} {L : Addr} {m₁ : Str → Option Value} {s : Shared} {Q E : Value → Shared → Prop}
    {ro : Addr} {vs : List Value} {rc : Nat} {D : List (List Int)} {nw : List (Addr × Obj)}
    (B : Below A₀ base outer h₀) (X : (Mine.hd.heap_1 w.params).In h₀) (T : Top p loose mean mg mb h₀) (F : Fr h₀ L s.heap m₁) (hm : m₁ (Str.ofString "rows") = some (.ref ro))
    (N : News h₀ L s.heap nw) (hro : (ro, W.listOf vs.toArray rc) ∈ nw) (hR : RowsL nw vs D) (hl : D.length ≤ 24) (hz : ∀ d ∈ D, d.length ≤ 7)
    (hd : dp + 20 < recursionLimit) (hu : un + 200 < cLine)
    (hret : ∀ r ys h' tk, IntsAre ys (D.map fun d => (d.length : Int)) → Fr h₀ L h' m₁ → News h₀ L h' ((r, lst ys) :: nw) → Q (.ref r) { s with heap := h', toks := tk }) :
    wpAny (model PG w) (lawTop dp un gd L a ccd outer) (eval lenComp (envL L a ccd)) Q E s := by
  have hb : lenComp = .ListComp (eltOf lenComp) [⟨.Name (Str.ofString "row") _, .Name (Str.ofString "rows") _, [], 0⟩] (scpOf lenComp) _ := rfl
  rw [hb]
  have hvl : vs.length = D.length := hR.len
  refine ListComp_U (cl := []) F rfl (by decide +kernel) rfl (by decide +kernel) rfl ?_ (by intro _; rfl)
  have F1 : Fr h₀ L s.heap (fun y => if y = Str.ofString "rows" then some (.ref ro) else m₁ y) := by
    have e : (fun y => if y = Str.ofString "rows" then some (Value.ref ro) else m₁ y) = m₁ := by
      funext y
      by_cases e : y = Str.ofString "rows"
      · rw [if_pos e, e, hm]
      · rw [if_neg e]
    rw [e]; exact F
  clear F
  (first | (k_unfold; (try dsimp only)) | (k_end; wrow_close) | walk1 | (dsimp only; walk1) | (leave1; walk_say "STEP leave1"; try dsimp only) | fail "no step")
  have F : Fr h₀ L s.heap m₁ := by
    have e : (fun y => if y = Str.ofString "rows" then some (Value.ref ro) else m₁ y) = m₁ := by
      funext y
      by_cases e : y = Str.ofString "rows"
      · rw [if_pos e, e, hm]
      · rw [if_neg e]
    rw [← e]; exact F1
  refine CompSrc.ledger (k := rc) rfl F N hro (by rw [List.size_toArray, sizeLine_eq]; omega) fun g => ?_
  have go : ∀ k i ys, i + k = vs.toArray.size → IntsAre ys ((D.take i).map fun d => (d.length : Int)) →
      CompRest PG w (lawTop dp un gd L a ccd outer) h₀ L m₁ (envL L a ccd) (eltOf lenComp) (Str.ofString "row") (scpOf lenComp) [] { s with heap := g } (SrcAt h₀ ro vs.toArray) (fun i v => vs.toArray[i]? = some v) (FinE h₀ L m₁ { s with heap := g } Q) k i ys nw := by
    intro k
    induction k with
    | zero =>
      intro i ys hik hI
      refine CompRest.zero ?_
      intro r h tk F' N' _
      rw [List.take_of_length_le (by rw [List.size_toArray] at hik; omega)] at hI
      exact hret r ys h tk hI F' N'
    | succ k ih =>
      intro i ys hik hI
      refine CompRest.succ ?_
      intro v I oI C oC D' m₂ h tk E' hv hoC hmx F' N' off ne
      obtain ⟨row, b, ws, c, hd1, rfl, hmem, hIr⟩ := RowsL.get hR i (by simpa using hv)
      have N1 : News h₀ L h ((b, W.listOf ws.toArray c) :: (I, oI) :: (C, oC) :: (D', lst ys) :: nw) := News.sub N' (by
        intro q hq
        simp only [List.mem_cons] at hq ⊢
        rcases hq with h | h
        · exact .inr (.inr (.inr (h ▸ hmem)))
        · exact h)
      refine len_elt (c := c) B X T F' N1 hoC hmx hIr (hz _ (List.mem_of_getElem? hd1)) hd hu fun t tk2 => ?_
      refine CompEnd.intro F' N' nw (fun _ h => h) off (.inr ⟨_, hro, rfl, rc, rfl⟩) ?_
      refine ih (i + 1) _ (by omega) ?_
      rw [List.take_add_one, hd1]
      simpa using hI.append (.cons _ _ .nil)
  exact go _ 0 [] (by omega) .nil
end
end
section
section
open PyProof.Rows.LCg
set_option maxRecDepth 100000
set_option maxHeartbeats 2000000
theorem ret24 {w : World} {p : Program} {loose : List Str} {mean : ExcName → Option Value} {mg mb : Str → Option Value}
    {dp un : Nat} {gd : Option (List Code)} {a : Addr} {ccd : Value} {outer : List Env} {A₀ : Around} {base h₀ : Heap} {L : Addr} {m₁ : Str → Option Value} {s : Shared} {Q : Flow → Shared → Prop} {E : Value → Shared → Prop}
    {ro : Addr} {vs : List Value} {rc : Nat} {D : List (List Int)} {nw : List (Addr × Obj)} {tm : Tok}
    (B : Below A₀ base outer h₀) (X : (Mine.hd.heap_1 w.params).In h₀) (T : Top p loose mean mg mb h₀) (F : Fr h₀ L s.heap m₁) (hm : m₁ (Str.ofString "rows") = some (.ref ro)) (hm2 : m₁ (Str.ofString "many") = some (.int 4 tm))
    (N : News h₀ L s.heap nw) (hro : (ro, W.listOf vs.toArray rc) ∈ nw) (hR : RowsL nw vs D) (hl : D.length ≤ 24) (hz : ∀ d ∈ D, d.length ≤ 7) (hsum : (D.map fun d => (d.length : Int)).sum = 160)
    (hd : dp + 20 < recursionLimit) (hu : un + 200 < cLine)
    (hret : ∀ h' tk, Fr h₀ L h' m₁ → News h₀ L h' nw → Q (.ret (.bool true)) { s with heap := h', toks := tk }) :
    wpAny (model PG w) (lawTop dp un gd L a ccd outer) (exec retStmt (envL L a ccd)) Q E s := by
  have hb : retStmt = .Return (some (.Compare (.Call (.Name (Str.ofString "sum") _) [lenComp] [] _) [_] [_] _)) _ := rfl
  rw [hb]
  rw [← map_two hm hm2] at F
  repeat ((fail_if_success (with_reducible show wpAny _ _ (eval lenComp _) _ _ _)); (first | (k_unfold; (try dsimp only)) | (k_end; wrow_close) | walk1 | (dsimp only; walk1) | (leave1; walk_say "STEP leave1"; try dsimp only) | fail "no step"))
  refine len_comp B X T F (by simp) N hro hR hl hz hd hu fun r ys h' tk hI F' N' => ?_
  clear F N
  repeat ((fail_if_success (with_reducible show wpAny _ _ (call (Value.builtin "sum") _) _ _ _)); (first | (k_unfold; (try dsimp only)) | (k_end; wrow_close) | walk1 | (dsimp only; walk1) | (leave1; walk_say "STEP leave1"; try dsimp only) | fail "no step"))
  generalize (D.map fun d => (d.length : Int)) = ls at hI hsum
  replace N' : News h₀ L h' ((r, W.listOf ys.toArray ys.length) :: nw) := N'
  (first | (k_unfold; (try dsimp only)) | (k_end; wrow_close) | walk1 | (dsimp only; walk1) | (leave1; walk_say "STEP leave1"; try dsimp only) | fail "no step")
  rw [hsum]
  k_steps
  rename Fr _ _ _ _ => kF
  rename News _ _ _ _ => kN
  refine hret _ _ ?_ fun q hq => kN q (.tail _ hq)
  rw [map_two hm hm2] at kF
  exact kF
theorem ret6 {w : World} {p : Program} {loose : List Str} {mean : ExcName → Option Value} {mg mb : Str → Option Value}
    {dp un : Nat} {gd : Option (List Code)} {a : Addr} {ccd : Value} {outer : List Env} {A₀ : Around} {base h₀ : Heap} {L : Addr} {m₁ : Str → Option Value} {s : Shared} {Q : Flow → Shared → Prop} {E : Value → Shared → Prop}
    {ro : Addr} {vs : List Value} {rc : Nat} {D : List (List Int)} {nw : List (Addr × Obj)} {tm : Tok}
    (B : Below A₀ base outer h₀) (X : (Mine.hd.heap_1 w.params).In h₀) (T : Top p loose mean mg mb h₀) (F : Fr h₀ L s.heap m₁) (hm : m₁ (Str.ofString "rows") = some (.ref ro)) (hm2 : m₁ (Str.ofString "many") = some (.int 3 tm))
    (N : News h₀ L s.heap nw) (hro : (ro, W.listOf vs.toArray rc) ∈ nw) (hR : RowsL nw vs D) (hl : D.length ≤ 24) (hz : ∀ d ∈ D, d.length ≤ 7) (hsum : (D.map fun d => (d.length : Int)).sum = 16)
    (hd : dp + 20 < recursionLimit) (hu : un + 200 < cLine)
    (hret : ∀ h' tk, Fr h₀ L h' m₁ → News h₀ L h' nw → Q (.ret (.bool true)) { s with heap := h', toks := tk }) :
    wpAny (model PG w) (lawTop dp un gd L a ccd outer) (exec retStmt (envL L a ccd)) Q E s := by
  have hb : retStmt = .Return (some (.Compare (.Call (.Name (Str.ofString "sum") _) [lenComp] [] _) [_] [_] _)) _ := rfl
  rw [hb]
  rw [← map_two hm hm2] at F
  repeat ((fail_if_success (with_reducible show wpAny _ _ (eval lenComp _) _ _ _)); (first | (k_unfold; (try dsimp only)) | (k_end; wrow_close) | walk1 | (dsimp only; walk1) | (leave1; walk_say "STEP leave1"; try dsimp only) | fail "no step"))
  refine len_comp B X T F (by simp) N hro hR hl hz hd hu fun r ys h' tk hI F' N' => ?_
  clear F N
  repeat ((fail_if_success (with_reducible show wpAny _ _ (call (Value.builtin "sum") _) _ _ _)); (first | (k_unfold; (try dsimp only)) | (k_end; wrow_close) | walk1 | (dsimp only; walk1) | (leave1; walk_say "STEP leave1"; try dsimp only) | fail "no step"))
  generalize (D.map fun d => (d.length : Int)) = ls at hI hsum
  replace N' : News h₀ L h' ((r, W.listOf ys.toArray ys.length) :: nw) := N'
  (first | (k_unfold; (try dsimp only)) | (k_end; wrow_close) | walk1 | (dsimp only; walk1) | (leave1; walk_say "STEP leave1"; try dsimp only) | fail "no step")
  rw [hsum]
  k_steps
  rename Fr _ _ _ _ => kF
  rename News _ _ _ _ => kN
  refine hret _ _ ?_ fun q hq => kN q (.tail _ hq)
  rw [map_two hm hm2] at kF
  exact kF
end
end
section
section
open PyProof.Rows.LCg
set_option maxRecDepth 100000
set_option maxHeartbeats 2000000
noncomputable def set4 : PK := ⟨127, 160726482680054327871815682408804646984091038181634021228578592977527488762821057143980848262882996040996012173132970382339173676489844858163695685289110420679297879971093683035972849121437495432948838525633082536784593903106453025937389059954971665753894726329045518679460736059777181236714106775435264, 71⟩
noncomputable def set3 : PK := ⟨31, 242744832308578518809474549408423362723541554512687836579953736744965, 11⟩
theorem fold3 : pkFold (prefixes rows3) ⟨7, 0, 0⟩ = some set3 := by decide +kernel
theorem fold4 : pkFold (prefixes rows4) ⟨7, 0, 0⟩ = some set4 := by decide +kernel
theorem seek3 : ∀ d ∈ rows3, ∀ i, i < d.length → (fsearch set3.M (fT set3.T) (flipF d i)).isSome = true := by decide +kernel
theorem seek4 : ∀ d ∈ rows4, ∀ i, i < d.length → (fsearch set4.M (fT set4.T) (flipF d i)).isSome = true := by decide +kernel
noncomputable def real3 : List Int := [3, 3, 2, 3, 3, 2]
noncomputable def real4 : List Int := [5, 5, 5, 5, 5, 5, 5, 5, 4, 4, 4, 4, 5, 5, 5, 5, 5, 5, 5, 5, 4, 4, 4, 4]
theorem cnts3 : cnts set3 rows3 = real3 := by decide +kernel
theorem cnts4 : cnts set4 rows4 = real4 := by decide +kernel
theorem RowsL.but {led : List (Addr × Obj)} {p0 : Addr × Obj} : ∀ {vs : List Value} {ds : List (List Int)}, RowsL (p0 :: led) vs ds → (∀ b ws c, (b, W.listOf ws c) ∈ p0 :: led → p0 ≠ (b, W.listOf ws c)) → RowsL led vs ds
  | [], [], _, _ => trivial
  | _ :: _, _ :: _, ⟨⟨b, ws, c, e, hm, hi⟩, r⟩, h => ⟨⟨b, ws, c, e, (List.mem_cons.mp hm).resolve_left fun q => h _ _ _ hm q.symm, hi⟩, RowsL.but r h⟩
noncomputable def apart (D : List (List Int)) : Bool := (D.zip (D.drop 1)).all fun p => decide (p.2.take p.1.length ≠ p.1)
theorem apart_of {D : List (List Int)} (h : apart D = true) : ∀ i d1 d2, D[i]? = some d1 → D[i + 1]? = some d2 → d2.take d1.length ≠ d1 := by
  intro i d1 d2 h1 h2
  have hm : (d1, d2) ∈ D.zip (D.drop 1) := by
    refine List.mem_iff_getElem?.mpr ⟨i, ?_⟩
    rw [List.getElem?_zip_eq_some]
    exact ⟨h1, by rw [List.getElem?_drop, Nat.add_comm]; exact h2⟩
  exact of_decide_eq_true (List.all_eq_true.mp h _ hm)
theorem ap4 : ∀ i d1 d2, rows4[i]? = some d1 → rows4[i + 1]? = some d2 → d2.take d1.length ≠ d1 := apart_of (by decide)
theorem ap3 : ∀ i d1 d2, rows3[i]? = some d1 → rows3[i + 1]? = some d2 → d2.take d1.length ≠ d1 := apart_of (by decide)
theorem law_tail4 {w : World} {p : Program} {loose : List Str} {mean : ExcName → Option Value} {mg mb : Str → Option Value}
    {dp un : Nat} {gd : Option (List Code)} {a : Addr} {ccd : Value} {outer : List Env} {A₀ : Around} {base h₀ : Heap} {L : Addr} {m₁ : Str → Option Value} {s : Shared} {Q : Flow → Shared → Prop} {E : Value → Shared → Prop}
    {ro : Addr} {vs : List Value} {rc : Nat} {dn : Bool} {rest : List (Addr × Obj)} {o2 : Obj} {v0 : Option Value} {tm : Tok}
    (B : Below A₀ base outer h₀) (X : (Mine.hd.heap_1 w.params).In h₀) (T : Top p loose mean mg mb h₀) (F : Fr h₀ L s.heap m₁) (hm : m₁ (Str.ofString "rows") = some (.ref ro)) (hm2 : m₁ (Str.ofString "many") = some (.int 4 tm))
    (N : News h₀ L s.heap ((ro, W.listOf vs.toArray rc) :: (L + 1 + 1, o2) :: rest)) (hR : RowsL rest vs ((arrF 4).map (ansF dn 4))) (hc : o2.data = .cell v0) (hlo : @LT.lt Nat _ (L + 1 + 1) ro) (hrro : ∀ q ∈ rest, q.1 ≠ ro) (hrc : ∀ q ∈ rest, @Ne Nat q.1 (L + 1 + 1))
    (hd : dp + 20 < recursionLimit) (hu : un + 200 < cLine) (hE : PassesOwn (model PG w) (lawTop dp un gd L a ccd outer) (envL L a ccd) E)
    (hret : ∀ h' tk m' nw, Fr h₀ L h' m' → News h₀ L h' nw → (∀ q ∈ rest, q ∈ nw) → Q (.ret (.bool true)) { s with heap := h', toks := tk }) :
    wpAny (model PG w) (lawTop dp un gd L a ccd outer) (execs (lawBody.drop 7) (envL L a ccd)) Q E s := by
  have hb : lawBody.drop 7 = [lawBody.getD 7 default, lawBody.getD 8 default, begStmt, realStmt, lawBody.getD 11 default, retStmt] := rfl
  have h7 : lawBody.getD 7 default = .Expr (.Call _ _ _ _) _ := rfl
  rw [hb]
  refine wpAny_execs_cons ?_
  rw [h7]
  rw [← map_two hm hm2] at F
  repeat ((fail_if_success (with_reducible show wpAny _ _ (call (Value.builtin "list.sort") _) _ _ _)); (first | (k_unfold; (try dsimp only)) | (k_end; wrow_close) | walk1 | (dsimp only; walk1) | (leave1; walk_say "STEP leave1"; try dsimp only) | fail "no step"))
  have hrr : ∀ q ∈ (L + 1 + 1, o2) :: rest, q.1 ≠ ro := fun q hq => by
    rcases List.mem_cons.mp hq with rfl | hq
    · exact Nat.ne_of_lt hlo
    · exact hrro q hq
  refine rows_sort F N (hR.mono fun q hq => .tail _ hq) hrr (by show un + 1 < cLine; omega) (by rw [len4]; decide) (by rw [len4]; decide) (perm4 dn) (per4_lt dn) (per4_rows dn) fun h1 us c1 F1 R1 N1 => ?_
  rw [map_two hm hm2] at F1
  clear F N
  (try dsimp only)
  refine wpAny_execs_cons ?_
  refine zip_loop B X T F1 N1 hm R1 hrr (by decide) (by decide) ap4 hd hu hE fun m2 h2 tk2 hm2' F2 N2 => ?_
  have e2 := (hm2' (Str.ofString "rows") (by decide) (by decide)).trans hm
  have e2m := (hm2' (Str.ofString "many") (by decide) (by decide)).trans hm2
  refine wpAny_execs_cons ?_
  have R2 : RowsL rest us rows4 := RowsL.but R1 fun b ws c hm' e => by
    obtain ⟨e1, e3⟩ := Prod.mk.inj e
    rw [e3] at hc; cases hc
  refine beg_stmt (rc := c1) B X T F2 e2 N2 R2 hc hlo hrc (by decide) (by decide) (by decide) fold4 hd hu fun S oS o3 nw h3 tk3 F3 N3 hc3 hS3 hsub3 hne3 => ?_
  refine wpAny_execs_cons ?_
  refine real_stmt (rc := c1) (ro := ro) (vs := us) (nw := (S, oS) :: nw) (led0 := nw) (oS := oS) B X T F3 e2 (fun q hq => N3 q ?_) (.tail _ (hsub3 _ (.head _))) (R2.mono fun q hq => .tail _ (hsub3 q (.tail _ hq))) hc3 (by decide) (by decide) (by decide) hS3 (.head _) (fun q hq => .tail _ hq) seek4 hd hu fun D1 ys h4 tk4 hI4 F4 N4 => ?_
  · simp only [List.mem_cons] at hq
    rcases hq with h | h | h <;> (first | (subst h; k_mem) | ((repeat (first | exact h | refine List.Mem.tail _ ?_ | exact List.mem_append_right _ h | exact List.mem_append_left _ h)); done) | simp [h])
  rw [cnts4] at hI4
  refine wpAny_execs_cons ?_
  have N5 : News h₀ L h4 ((D1, W.listOf ys.toArray ys.length) :: (ro, W.listOf us.toArray c1) :: (S, oS) :: nw) := fun q hq => by
    rcases List.mem_cons.mp hq with rfl | hq
    · exact N4 _ (.head _)
    rcases List.mem_cons.mp hq with rfl | hq
    · exact N4 _ (.tail _ (.tail _ (hsub3 _ (.head _))))
    · exact N4 q (.tail _ hq)
  have emap : (fun y => if y = Str.ofString "real" then some (Value.ref D1) else if y = Str.ofString "rows" then some (.ref ro) else if y = Str.ofString "many" then some (.int 4 tm) else m2 y) = (fun y => if y = Str.ofString "real" then some (Value.ref D1) else m2 y) := by
    funext y
    by_cases e : y = Str.ofString "real"
    · rw [if_pos e, if_pos e]
    · rw [if_neg e, if_neg e]
      exact congrFun (map_two e2 e2m) y
  refine tail24 (tm := tm) (m₁ := m2) B X T (emap ▸ F4) N5 hI4 (by rw [R2.len]; decide) (by decide) (by decide) (by decide) hd hu fun h5 tk5 F5 N6 => ?_
  refine wpAny_execs_cons ?_
  refine ret24 (rc := c1) (D := rows4) B X T F5 (by rfl) (by rfl) N6 (.tail _ (.head _)) (R2.mono fun q hq => .tail _ (.tail _ (.tail _ (hsub3 q (.tail _ hq))))) (by decide) (by decide) (by decide) hd hu fun h6 tk6 F6 N7 => ?_
  exact hret h6 tk6 _ _ F6 N7 fun q hq => .tail _ (.tail _ (.tail _ (hsub3 q (.tail _ hq))))
theorem law_tail3 {w : World} {p : Program} {loose : List Str} {mean : ExcName → Option Value} {mg mb : Str → Option Value}
    {dp un : Nat} {gd : Option (List Code)} {a : Addr} {ccd : Value} {outer : List Env} {A₀ : Around} {base h₀ : Heap} {L : Addr} {m₁ : Str → Option Value} {s : Shared} {Q : Flow → Shared → Prop} {E : Value → Shared → Prop}
    {ro : Addr} {vs : List Value} {rc : Nat} {dn : Bool} {rest : List (Addr × Obj)} {o2 : Obj} {v0 : Option Value} {tm : Tok}
    (B : Below A₀ base outer h₀) (X : (Mine.hd.heap_1 w.params).In h₀) (T : Top p loose mean mg mb h₀) (F : Fr h₀ L s.heap m₁) (hm : m₁ (Str.ofString "rows") = some (.ref ro)) (hm2 : m₁ (Str.ofString "many") = some (.int 3 tm))
    (N : News h₀ L s.heap ((ro, W.listOf vs.toArray rc) :: (L + 1 + 1, o2) :: rest)) (hR : RowsL rest vs ((arrF 3).map (ansF dn 3))) (hc : o2.data = .cell v0) (hlo : @LT.lt Nat _ (L + 1 + 1) ro) (hrro : ∀ q ∈ rest, q.1 ≠ ro) (hrc : ∀ q ∈ rest, @Ne Nat q.1 (L + 1 + 1))
    (hd : dp + 20 < recursionLimit) (hu : un + 200 < cLine) (hE : PassesOwn (model PG w) (lawTop dp un gd L a ccd outer) (envL L a ccd) E)
    (hret : ∀ h' tk m' nw, Fr h₀ L h' m' → News h₀ L h' nw → (∀ q ∈ rest, q ∈ nw) → Q (.ret (.bool true)) { s with heap := h', toks := tk }) :
    wpAny (model PG w) (lawTop dp un gd L a ccd outer) (execs (lawBody.drop 7) (envL L a ccd)) Q E s := by
  have hb : lawBody.drop 7 = [lawBody.getD 7 default, lawBody.getD 8 default, begStmt, realStmt, lawBody.getD 11 default, retStmt] := rfl
  have h7 : lawBody.getD 7 default = .Expr (.Call _ _ _ _) _ := rfl
  rw [hb]
  refine wpAny_execs_cons ?_
  rw [h7]
  rw [← map_two hm hm2] at F
  repeat ((fail_if_success (with_reducible show wpAny _ _ (call (Value.builtin "list.sort") _) _ _ _)); (first | (k_unfold; (try dsimp only)) | (k_end; wrow_close) | walk1 | (dsimp only; walk1) | (leave1; walk_say "STEP leave1"; try dsimp only) | fail "no step"))
  have hrr : ∀ q ∈ (L + 1 + 1, o2) :: rest, q.1 ≠ ro := fun q hq => by
    rcases List.mem_cons.mp hq with rfl | hq
    · exact Nat.ne_of_lt hlo
    · exact hrro q hq
  refine rows_sort F N (hR.mono fun q hq => .tail _ hq) hrr (by show un + 1 < cLine; omega) (by rw [len3]; decide) (by rw [len3]; decide) (perm3 dn) (per3_lt dn) (per3_rows dn) fun h1 us c1 F1 R1 N1 => ?_
  rw [map_two hm hm2] at F1
  clear F N
  (try dsimp only)
  refine wpAny_execs_cons ?_
  refine zip_loop B X T F1 N1 hm R1 hrr (by decide) (by decide) ap3 hd hu hE fun m2 h2 tk2 hm2' F2 N2 => ?_
  have e2 := (hm2' (Str.ofString "rows") (by decide) (by decide)).trans hm
  have e2m := (hm2' (Str.ofString "many") (by decide) (by decide)).trans hm2
  refine wpAny_execs_cons ?_
  have R2 : RowsL rest us rows3 := RowsL.but R1 fun b ws c hm' e => by
    obtain ⟨e1, e3⟩ := Prod.mk.inj e
    rw [e3] at hc; cases hc
  refine beg_stmt (rc := c1) B X T F2 e2 N2 R2 hc hlo hrc (by decide) (by decide) (by decide) fold3 hd hu fun S oS o3 nw h3 tk3 F3 N3 hc3 hS3 hsub3 hne3 => ?_
  refine wpAny_execs_cons ?_
  refine real_stmt (rc := c1) (ro := ro) (vs := us) (nw := (S, oS) :: nw) (led0 := nw) (oS := oS) B X T F3 e2 (fun q hq => N3 q ?_) (.tail _ (hsub3 _ (.head _))) (R2.mono fun q hq => .tail _ (hsub3 q (.tail _ hq))) hc3 (by decide) (by decide) (by decide) hS3 (.head _) (fun q hq => .tail _ hq) seek3 hd hu fun D1 ys h4 tk4 hI4 F4 N4 => ?_
  · simp only [List.mem_cons] at hq
    rcases hq with h | h | h <;> (first | (subst h; k_mem) | ((repeat (first | exact h | refine List.Mem.tail _ ?_ | exact List.mem_append_right _ h | exact List.mem_append_left _ h)); done) | simp [h])
  rw [cnts3] at hI4
  refine wpAny_execs_cons ?_
  have N5 : News h₀ L h4 ((D1, W.listOf ys.toArray ys.length) :: (ro, W.listOf us.toArray c1) :: (S, oS) :: nw) := fun q hq => by
    rcases List.mem_cons.mp hq with rfl | hq
    · exact N4 _ (.head _)
    rcases List.mem_cons.mp hq with rfl | hq
    · exact N4 _ (.tail _ (.tail _ (hsub3 _ (.head _))))
    · exact N4 q (.tail _ hq)
  have emap : (fun y => if y = Str.ofString "real" then some (Value.ref D1) else if y = Str.ofString "rows" then some (.ref ro) else if y = Str.ofString "many" then some (.int 3 tm) else m2 y) = (fun y => if y = Str.ofString "real" then some (Value.ref D1) else m2 y) := by
    funext y
    by_cases e : y = Str.ofString "real"
    · rw [if_pos e, if_pos e]
    · rw [if_neg e, if_neg e]
      exact congrFun (map_two e2 e2m) y
  refine tail6 (tm := tm) (m₁ := m2) B X T (emap ▸ F4) N5 hI4 (by rw [R2.len]; decide) (by decide) (by decide) (by decide) hd hu fun h5 tk5 F5 N6 => ?_
  refine wpAny_execs_cons ?_
  refine ret6 (rc := c1) (D := rows3) B X T F5 (by rfl) (by rfl) N6 (.tail _ (.head _)) (R2.mono fun q hq => .tail _ (.tail _ (.tail _ (hsub3 q (.tail _ hq))))) (by decide) (by decide) (by decide) hd hu fun h6 tk6 F6 N7 => ?_
  exact hret h6 tk6 _ _ F6 N7 fun q hq => .tail _ (.tail _ (.tail _ (hsub3 q (.tail _ hq))))
end
end
end
section
open PyProof.Rows.LCg
set_option maxRecDepth 100000
set_option maxHeartbeats 3000000
theorem pick2 {w : World} {p : Program} {loose : List Str} {mean : ExcName → Option Value} {mg mb : Str → Option Value}
    {dp un : Nat} {gd : Option (List Code)} {cn : Str} {cs : Scope} {a : Addr} {ccd : Value} {cl : List (Str × Addr)} {outer : List Env} {A₀ : Around} {base h₀ : Heap} {L : Addr} {m : Str → Option Value} {s : Shared} {Q E : Value → Shared → Prop}
    {dk l : Addr} {ws : List Value} {ns : List Int} {t many : Int} {tt tm : Tok} {n c : Nat} {led : List (Addr × Obj)} {g : Obj → List (Addr × Obj)}
    (B : Below A₀ base outer h₀) (F : Fr h₀ L s.heap m) (X : (Mine.hd.heap_1 w.params).In h₀) (T : Top p loose mean mg mb h₀) (hk : cs.kind = .function)
    (N : News h₀ L s.heap led) (U : UpdF dk (W.listOf #[.ref l, .int t tt] n) led g) (hm : (l, W.listOf ws.toArray c) ∈ led)
    (hI : IntsAre ws ns) (hn : ns.length ≤ 9) (h1 : @LT.lt Nat _ l dk) (t0 : 0 ≤ t) (t8 : t ≤ 8) (m0 : 0 < many) (m1 : many ≤ 10000)
    (hd : dp + 1 < recursionLimit) (hu : un + 8 < cLine)
    (hret : ∀ r tr h' tk' n' tt', 0 ≤ r → r < many → Fr h₀ L h' m → News h₀ L h' (g (W.listOf #[.ref l, .int (t + 1) tt'] n')) → Q (.int r tr) { s with heap := h', toks := tk' }) :
    wpAny (model PySem.Challenge.rw_xm0619_01.row.prog w) (ktrTop dp un gd cn cs L a ccd cl outer) (call (.ref 104) [.ref dk, .int many tm]) Q E s := by
  obtain ⟨pre, post, e0, hg, x1, x2⟩ := U.split
  subst e0
  have N1 : News h₀ L s.heap ((dk, W.listOf #[.ref l, .int t tt] n) :: (l, W.listOf ws.toArray c) :: (pre ++ post)) := fun q hq => by
    simp only [List.mem_cons, List.mem_append] at hq
    rcases hq with rfl | rfl | hq | hq
    · exact N _ (List.mem_append_right _ (.head _))
    · exact N _ hm
    · exact N q (List.mem_append_left _ hq)
    · exact N q (List.mem_append_right _ (.tail _ hq))
  refine pick_spec B F X T hk N1 hI hn h1 (fun q hq => (List.mem_append.mp hq).elim (x1 q) (x2 q)) t0 t8 m0 m1 hd hu fun r tr h' tk' n' tt' r0 r1 F' N' => ?_
  refine hret r tr h' tk' n' tt' r0 r1 F' ?_
  rw [hg]
  intro q hq
  rcases List.mem_append.mp hq with hq | hq
  · exact N' q (.tail _ (.tail _ (List.mem_append_left _ hq)))
  rcases List.mem_cons.mp hq with rfl | hq
  · exact N' _ (.head _)
  · exact N' q (.tail _ (.tail _ (List.mem_append_right _ hq)))
local macro_rules | `(tactic| walk_at "call ref") => `(tactic| (k_here; (with_reducible show wpAny _ _ (call (Value.ref 104) _) _ _ _); k_dflt (refine' pick2 (by k_asm) (by k_asm) (by k_asm) (by k_asm) (by first | exact rfl | assumption) (by k_asm) (by k_updF) (by k_mem) (by assumption) (by assumption) (by assumption) (by omega) (by omega) (by decide) (by decide) (by omega) (by omega) ?_; k_whole); intro r9 tr9 h9 tk9 n9 tt9 r09 r19 F9 N9; (try dsimp only at N9); (try dsimp only)))
section
open PyProof.Rows.LCg
set_option maxRecDepth 100000
set_option maxHeartbeats 3000000
local macro_rules | `(tactic| passes_own) => `(tactic| assumption)
theorem map_four {m : Str → Option Value} {a b c d : Str} {u v x z : Value} (h1 : m a = some u) (h2 : m b = some v) (h3 : m c = some x) (h4 : m d = some z) :
    (fun y => if y = a then some u else if y = b then some v else if y = c then some x else if y = d then some z else m y) = m := by
  funext y
  split
  · rename_i e; rw [e, h1]
  split
  · rename_i e; rw [e, h2]
  split
  · rename_i e; rw [e, h3]
  split
  · rename_i e; rw [e, h4]
  rfl
theorem law_end4 {w : World} {p : Program} {loose : List Str} {mean : ExcName → Option Value} {mg mb : Str → Option Value}
    {dp un : Nat} {gd : Option (List Code)} {a : Addr} {ccd : Value} {outer : List Env} {A₀ : Around} {base h₀ : Heap} {L : Addr} {m₀ : Str → Option Value} {s : Shared} {Q : Flow → Shared → Prop} {E : Value → Shared → Prop}
    {ro nl : Addr} {rc nc : Nat} {n0 n1 n2 n3 fi : Int} {ta tb1 tc td tf tm : Tok} {dn : Bool} {o1 o2 : Obj}
    (B : Below A₀ base outer h₀) (X : (Mine.hd.heap_1 w.params).In h₀) (T : Top p loose mean mg mb h₀) (C : CodeHd base 113 111)
    (F : Fr h₀ L s.heap m₀) (hm : m₀ (Str.ofString "rows") = some (.ref ro) ∧ m₀ (Str.ofString "first") = some (.int fi tf) ∧ m₀ (Str.ofString "many") = some (.int 4 tm) ∧ m₀ (Str.ofString "is_down") = some (.bool dn))
    (N : News h₀ L s.heap [(ro, W.listOf #[] rc), (nl, W.listOf #[.int n0 ta, .int n1 tb1, .int n2 tc, .int n3 td] nc), (L + 1 + 1, o2), (L + 1, o1), (111, tabObj #[])])
    (hro : @LT.lt Nat _ 111 L ∧ @LT.lt Nat _ (L + 1 + 1) nl ∧ @LT.lt Nat _ nl ro) (hn1 : n0 < n1) (hn2 : n1 < n2) (hn3 : n2 < n3) (c1 : o1.data = .cell (some (.ref nl))) (c2 : o2.data = .cell none)
    (hd : dp + 40 < recursionLimit) (hu : un + 400 < cLine) (hE : PassesOwn (model PG w) (lawTop dp un gd L a ccd outer) (envL L a ccd) E)
    (hret : ∀ h' tk m' nw tb, Fr h₀ L h' m' → News h₀ L h' nw → (111, tabObj tb) ∈ nw → Q (.ret (.bool true)) { s with heap := h', toks := tk }) :
    wpAny (model PG w) (lawTop dp un gd L a ccd outer) (execs (lawBody.drop 6) (envL L a ccd)) Q E s := by
  have hb : lawBody.drop 6 = .For _ _ _ _ _ :: lawBody.drop 7 := rfl
  rw [hb]
  rw [← map_four hm.1 hm.2.1 hm.2.2.1 hm.2.2.2] at F
  repeat ((fail_if_success (with_reducible show wpAny _ _ (call (Value.ref 109) _) _ _ _)); (first | (k_unfold; (try dsimp only)) | (k_end; wrow_close) | walk1 | (dsimp only; walk1) | (leave1; walk_say "STEP leave1"; try dsimp only) | fail "no step"))
  have l1 : @LT.lt Nat _ (L + 1 + 1) ro := Nat.lt_trans hro.2.1 hro.2.2
  rename Fr h₀ L _ _ => kF
  rename News h₀ L _ _ => kN
  refine arranged_spec (n := 4) (tn := tm) B kF X T rfl (by decide) (by omega) (by omega) fun fo vs fc h' tk' made sub new F1 N1 R1 => ?_
  have N2 := kN.keepsAll sub
  have old : ∀ p ∈ [(ro, W.listOf #[] rc), (nl, W.listOf #[.int n0 ta, .int n1 tb1, .int n2 tc, .int n3 td] nc), (L + 1 + 1, o2), (L + 1, o1), (111, tabObj #[])], @LT.lt Nat _ p.1 fo ∧ ∀ q ∈ made, @LT.lt Nat _ p.1 q.1 := fun p hp => new _ _ (kN p hp).1
  have oro := old _ (.head _)
  have o111 := old (111, tabObj #[]) (by first | k_mem | simp)
  refine rows_loop4 (ta := ta) (tb1 := tb1) (tc := tc) (td := td) (o2 := o2) (o1 := o1) (fo := fo) (ro := ro) (nl := nl) (vs := vs) (fc := fc) (rc := rc) (nc := nc) (fi := fi) (tf := tf) (dn := dn) (rest := made) B X T C F1 ?N ⟨by rfl, by rfl, by rfl⟩ R1 (fun q hq => Nat.ne_of_gt (oro.2 q hq)) (fun q hq => Nat.ne_of_gt (o111.2 q hq)) ⟨Nat.ne_of_gt oro.1, Nat.ne_of_gt o111.1⟩ hro hn1 hn2 hn3 c1 (by omega) (by omega) ?done
  case N =>
    intro q hq
    rcases List.mem_cons.mp hq with rfl | hq
    · exact N1 _ (.head _)
    · simp only [List.mem_cons] at hq
      rcases hq with h | h | h | h | h | h
      · exact N2 q (by (first | (subst h; k_mem) | ((repeat (first | exact h | refine List.Mem.tail _ ?_ | exact List.mem_append_right _ h | exact List.mem_append_left _ h)); done) | simp [h]))
      · exact N2 q (by (first | (subst h; k_mem) | ((repeat (first | exact h | refine List.Mem.tail _ ?_ | exact List.mem_append_right _ h | exact List.mem_append_left _ h)); done) | simp [h]))
      · exact N2 q (by (first | (subst h; k_mem) | ((repeat (first | exact h | refine List.Mem.tail _ ?_ | exact List.mem_append_right _ h | exact List.mem_append_left _ h)); done) | simp [h]))
      · exact N2 q (by (first | (subst h; k_mem) | ((repeat (first | exact h | refine List.Mem.tail _ ?_ | exact List.mem_append_right _ h | exact List.mem_append_left _ h)); done) | simp [h]))
      · exact N2 q (by (first | (subst h; k_mem) | ((repeat (first | exact h | refine List.Mem.tail _ ?_ | exact List.mem_append_right _ h | exact List.mem_append_left _ h)); done) | simp [h]))
      · exact N1 q (.tail _ h)
  case done =>
    intro m' h2 tk2 rws rc' tb rest' hm' hR' r1 r2 F2 N3
    have hrc : ∀ b ws c, (b, W.listOf ws c) ∈ rest' → @Ne Nat b (L + 1 + 1) := fun b ws c hb e => by
      have x1 := (N3 (b, W.listOf ws c) (by (first | (subst hb; k_mem) | ((repeat (first | exact hb | refine List.Mem.tail _ ?_ | exact List.mem_append_right _ hb | exact List.mem_append_left _ hb)); done) | simp [hb]))).1
      have x2 := (N3 (L + 1 + 1, o2) (by first | k_mem | simp)).1
      subst e
      rw [x1] at x2
      cases x2
      exact absurd c2 (by intro h; cases h)
    refine law_tail4 (m₁ := m') (ro := ro) (vs := rws) (rc := rc') (rest := (111, tabObj tb) :: rest'.filter fun q => decide (@Ne Nat q.1 (L + 1 + 1))) (o2 := o2) (tm := tm) B X T F2 ?_ ?_ ?_ ((hR'.filter hrc).mono fun q hq => .tail _ hq) c2 l1 ?_ ?_ (by omega) (by omega) hE fun h9 tk9 m9 nw9 F9 N9 sub9 => hret h9 tk9 m9 nw9 tb F9 N9 (sub9 _ (.head _))
    · rw [hm' _ (by decide) (by decide) (by decide)]; rfl
    · rw [hm' _ (by decide) (by decide) (by decide)]; rfl
    · intro q hq
      simp only [List.mem_cons] at hq
      rcases hq with h | h | h | h
      · exact N3 q (by (first | (subst h; k_mem) | ((repeat (first | exact h | refine List.Mem.tail _ ?_ | exact List.mem_append_right _ h | exact List.mem_append_left _ h)); done) | simp [h]))
      · exact N3 q (by (first | (subst h; k_mem) | ((repeat (first | exact h | refine List.Mem.tail _ ?_ | exact List.mem_append_right _ h | exact List.mem_append_left _ h)); done) | simp [h]))
      · exact N3 q (by (first | (subst h; k_mem) | ((repeat (first | exact h | refine List.Mem.tail _ ?_ | exact List.mem_append_right _ h | exact List.mem_append_left _ h)); done) | simp [h]))
      · exact N3 q (by simp [(List.mem_filter.mp h).1])
    · intro q hq
      rcases List.mem_cons.mp hq with rfl | hq
      · exact Nat.ne_of_lt (Nat.lt_trans hro.1 (Nat.lt_trans (Nat.lt_trans (Nat.lt_succ_self _) (Nat.lt_succ_self _)) l1))
      · exact r1 q (List.mem_filter.mp hq).1
    · intro q hq
      rcases List.mem_cons.mp hq with rfl | hq
      · exact Nat.ne_of_lt (Nat.lt_trans hro.1 (Nat.lt_trans (Nat.lt_succ_self _) (Nat.lt_succ_self _)))
      · exact of_decide_eq_true (List.mem_filter.mp hq).2
theorem law_end3 {w : World} {p : Program} {loose : List Str} {mean : ExcName → Option Value} {mg mb : Str → Option Value}
    {dp un : Nat} {gd : Option (List Code)} {a : Addr} {ccd : Value} {outer : List Env} {A₀ : Around} {base h₀ : Heap} {L : Addr} {m₀ : Str → Option Value} {s : Shared} {Q : Flow → Shared → Prop} {E : Value → Shared → Prop}
    {ro nl : Addr} {rc nc : Nat} {n0 n1 n2 fi : Int} {ta tb1 tc tf tm : Tok} {dn : Bool} {o1 o2 : Obj}
    (B : Below A₀ base outer h₀) (X : (Mine.hd.heap_1 w.params).In h₀) (T : Top p loose mean mg mb h₀) (C : CodeHd base 113 111)
    (F : Fr h₀ L s.heap m₀) (hm : m₀ (Str.ofString "rows") = some (.ref ro) ∧ m₀ (Str.ofString "first") = some (.int fi tf) ∧ m₀ (Str.ofString "many") = some (.int 3 tm) ∧ m₀ (Str.ofString "is_down") = some (.bool dn))
    (N : News h₀ L s.heap [(ro, W.listOf #[] rc), (nl, W.listOf #[.int n0 ta, .int n1 tb1, .int n2 tc] nc), (L + 1 + 1, o2), (L + 1, o1), (111, tabObj #[])])
    (hro : @LT.lt Nat _ 111 L ∧ @LT.lt Nat _ (L + 1 + 1) nl ∧ @LT.lt Nat _ nl ro) (hn1 : n0 < n1) (hn2 : n1 < n2) (c1 : o1.data = .cell (some (.ref nl))) (c2 : o2.data = .cell none)
    (hd : dp + 40 < recursionLimit) (hu : un + 400 < cLine) (hE : PassesOwn (model PG w) (lawTop dp un gd L a ccd outer) (envL L a ccd) E)
    (hret : ∀ h' tk m' nw tb, Fr h₀ L h' m' → News h₀ L h' nw → (111, tabObj tb) ∈ nw → Q (.ret (.bool true)) { s with heap := h', toks := tk }) :
    wpAny (model PG w) (lawTop dp un gd L a ccd outer) (execs (lawBody.drop 6) (envL L a ccd)) Q E s := by
  have hb : lawBody.drop 6 = .For _ _ _ _ _ :: lawBody.drop 7 := rfl
  rw [hb]
  rw [← map_four hm.1 hm.2.1 hm.2.2.1 hm.2.2.2] at F
  repeat ((fail_if_success (with_reducible show wpAny _ _ (call (Value.ref 109) _) _ _ _)); (first | (k_unfold; (try dsimp only)) | (k_end; wrow_close) | walk1 | (dsimp only; walk1) | (leave1; walk_say "STEP leave1"; try dsimp only) | fail "no step"))
  have l1 : @LT.lt Nat _ (L + 1 + 1) ro := Nat.lt_trans hro.2.1 hro.2.2
  rename Fr h₀ L _ _ => kF
  rename News h₀ L _ _ => kN
  refine arranged_spec (n := 3) (tn := tm) B kF X T rfl (by decide) (by omega) (by omega) fun fo vs fc h' tk' made sub new F1 N1 R1 => ?_
  have N2 := kN.keepsAll sub
  have old : ∀ p ∈ [(ro, W.listOf #[] rc), (nl, W.listOf #[.int n0 ta, .int n1 tb1, .int n2 tc] nc), (L + 1 + 1, o2), (L + 1, o1), (111, tabObj #[])], @LT.lt Nat _ p.1 fo ∧ ∀ q ∈ made, @LT.lt Nat _ p.1 q.1 := fun p hp => new _ _ (kN p hp).1
  have oro := old _ (.head _)
  have o111 := old (111, tabObj #[]) (by first | k_mem | simp)
  refine rows_loop3 (n3 := n2 + 1) (ta := ta) (tb1 := tb1) (tc := tc) (o2 := o2) (o1 := o1) (fo := fo) (ro := ro) (nl := nl) (vs := vs) (fc := fc) (rc := rc) (nc := nc) (fi := fi) (tf := tf) (dn := dn) (rest := made) B X T C F1 ?N ?hm R1 (fun q hq => Nat.ne_of_gt (oro.2 q hq)) (fun q hq => Nat.ne_of_gt (o111.2 q hq)) ⟨Nat.ne_of_gt oro.1, Nat.ne_of_gt o111.1⟩ hro hn1 hn2 (Int.lt_succ n2) c1 (by omega) (by omega) ?done
  case hm => exact ⟨by rfl, by rfl, by rfl⟩
  case N =>
    intro q hq
    rcases List.mem_cons.mp hq with rfl | hq
    · exact N1 _ (.head _)
    · simp only [List.mem_cons] at hq
      rcases hq with h | h | h | h | h | h
      · exact N2 q (by (first | (subst h; k_mem) | ((repeat (first | exact h | refine List.Mem.tail _ ?_ | exact List.mem_append_right _ h | exact List.mem_append_left _ h)); done) | simp [h]))
      · exact N2 q (by (first | (subst h; k_mem) | ((repeat (first | exact h | refine List.Mem.tail _ ?_ | exact List.mem_append_right _ h | exact List.mem_append_left _ h)); done) | simp [h]))
      · exact N2 q (by (first | (subst h; k_mem) | ((repeat (first | exact h | refine List.Mem.tail _ ?_ | exact List.mem_append_right _ h | exact List.mem_append_left _ h)); done) | simp [h]))
      · exact N2 q (by (first | (subst h; k_mem) | ((repeat (first | exact h | refine List.Mem.tail _ ?_ | exact List.mem_append_right _ h | exact List.mem_append_left _ h)); done) | simp [h]))
      · exact N2 q (by (first | (subst h; k_mem) | ((repeat (first | exact h | refine List.Mem.tail _ ?_ | exact List.mem_append_right _ h | exact List.mem_append_left _ h)); done) | simp [h]))
      · exact N1 q (.tail _ h)
  case done =>
    intro m' h2 tk2 rws rc' tb rest' hm' hR' r1 r2 F2 N3
    have hrc : ∀ b ws c, (b, W.listOf ws c) ∈ rest' → @Ne Nat b (L + 1 + 1) := fun b ws c hb e => by
      have x1 := (N3 (b, W.listOf ws c) (by (first | (subst hb; k_mem) | ((repeat (first | exact hb | refine List.Mem.tail _ ?_ | exact List.mem_append_right _ hb | exact List.mem_append_left _ hb)); done) | simp [hb]))).1
      have x2 := (N3 (L + 1 + 1, o2) (by first | k_mem | simp)).1
      subst e
      rw [x1] at x2
      cases x2
      exact absurd c2 (by intro h; cases h)
    refine law_tail3 (m₁ := m') (ro := ro) (vs := rws) (rc := rc') (rest := (111, tabObj tb) :: rest'.filter fun q => decide (@Ne Nat q.1 (L + 1 + 1))) (o2 := o2) (tm := tm) B X T F2 ?_ ?_ ?_ ((hR'.filter hrc).mono fun q hq => .tail _ hq) c2 l1 ?_ ?_ (by omega) (by omega) hE fun h9 tk9 m9 nw9 F9 N9 sub9 => hret h9 tk9 m9 nw9 tb F9 N9 (sub9 _ (.head _))
    · rw [hm' _ (by decide) (by decide) (by decide)]; rfl
    · rw [hm' _ (by decide) (by decide) (by decide)]; rfl
    · intro q hq
      simp only [List.mem_cons] at hq
      rcases hq with h | h | h | h
      · exact N3 q (by (first | (subst h; k_mem) | ((repeat (first | exact h | refine List.Mem.tail _ ?_ | exact List.mem_append_right _ h | exact List.mem_append_left _ h)); done) | simp [h]))
      · exact N3 q (by (first | (subst h; k_mem) | ((repeat (first | exact h | refine List.Mem.tail _ ?_ | exact List.mem_append_right _ h | exact List.mem_append_left _ h)); done) | simp [h]))
      · exact N3 q (by (first | (subst h; k_mem) | ((repeat (first | exact h | refine List.Mem.tail _ ?_ | exact List.mem_append_right _ h | exact List.mem_append_left _ h)); done) | simp [h]))
      · exact N3 q (by simp [(List.mem_filter.mp h).1])
    · intro q hq
      rcases List.mem_cons.mp hq with rfl | hq
      · exact Nat.ne_of_lt (Nat.lt_trans hro.1 (Nat.lt_trans (Nat.lt_trans (Nat.lt_succ_self _) (Nat.lt_succ_self _)) l1))
      · exact r1 q (List.mem_filter.mp hq).1
    · intro q hq
      rcases List.mem_cons.mp hq with rfl | hq
      · exact Nat.ne_of_lt (Nat.lt_trans hro.1 (Nat.lt_trans (Nat.lt_succ_self _) (Nat.lt_succ_self _)))
      · exact of_decide_eq_true (List.mem_filter.mp hq).2
end
section
open PyProof.Rows.LCg
set_option maxRecDepth 100000
set_option maxHeartbeats 3000000
local macro_rules | `(tactic| passes_own) => `(tactic| assumption)
theorem drop_dl {h₀ h : Heap} {L : Addr} {a b d e f g i : Addr × Obj} (N : News h₀ L h [a, b, d, e, f, g, i]) : News h₀ L h [a, b, f, g, i] := by
  refine fun q hq => N q ?_
  simp only [List.mem_cons, List.not_mem_nil, or_false] at hq ⊢
  rcases hq with h | h | h | h | h <;> simp [h]
theorem law_mid4 {w : World} {p : Program} {loose : List Str} {mean : ExcName → Option Value} {mg mb : Str → Option Value}
    {dp un : Nat} {gd : Option (List Code)} {a : Addr} {ccd : Value} {outer : List Env} {A₀ : Around} {base h₀ : Heap} {L : Addr} {m₀ : Str → Option Value} {s : Shared} {Q : Flow → Shared → Prop} {E : Value → Shared → Prop}
    {dk l nl : Addr} {ws : List Value} {ns : List Int} {tt tf tl tm : Tok} {fi la : Int} {dn : Bool} {dc c nc : Nat} {o1 o2 : Obj}
    (B : Below A₀ base outer h₀) (X : (Mine.hd.heap_1 w.params).In h₀) (T : Top p loose mean mg mb h₀) (C : CodeHd base 113 111)
    (F : Fr h₀ L s.heap (fun y => if y = Str.ofString "first" then some (.int fi tf) else if y = Str.ofString "last" then some (.int la tl) else if y = Str.ofString "many" then some (.int 4 tm) else if y = Str.ofString "is_down" then some (.bool dn) else if y = Str.ofString "deck" then some (.ref dk) else m₀ y))
    (N : News h₀ L s.heap [(nl, W.listOf #[] nc), (dk, W.listOf #[.ref l, .int 4 tt] dc), (l, W.listOf ws.toArray c), (L + 1 + 1, o2), (L + 1, o1), (111, tabObj #[])])
    (hI : IntsAre ws ns) (hn : ns.length ≤ 9) (h1 : @LT.lt Nat _ l dk) (hl : @LT.lt Nat _ (L + 1 + 1) l) (hnl : @LT.lt Nat _ dk nl) (h111 : @LT.lt Nat _ 111 L) (c1 : o1.data = .cell (some (.ref nl))) (c2 : o2.data = .cell none) (hla : -1000 ≤ la ∧ la ≤ 1001)
    (hd : dp + 40 < recursionLimit) (hu : un + 400 < cLine) (hE : PassesOwn (model PG w) (lawTop dp un gd L a ccd outer) (envL L a ccd) E)
    (hret : ∀ h' tk m' nw tb, Fr h₀ L h' m' → News h₀ L h' nw → (111, tabObj tb) ∈ nw → Q (.ret (.bool true)) { s with heap := h', toks := tk }) :
    wpAny (model PG w) (lawTop dp un gd L a ccd outer) (execs (lawBody.drop 4) (envL L a ccd)) Q E s := by
  have hb : lawBody.drop 4 = [_, _, _, _, _, _, _, _, _] := rfl
  rw [hb]
  repeat ((fail_if_success (with_reducible show wpAny _ _ (execs (List.cons _ (List.cons _ (List.cons _ (List.cons _ (List.cons _ (List.cons _ (List.cons _ List.nil))))))) _) _ _ _)); (first | (k_unfold; (try dsimp only)) | (k_end; wrow_close) | walk1 | (dsimp only; walk1) | (leave1; walk_say "STEP leave1"; try dsimp only) | fail "no step"))
  rename Fr h₀ L _ _ => kF
  rename News h₀ L _ _ => kN
  (try simp only [List.push_toArray, List.nil_append, List.cons_append] at kN)
  rename @LT.lt Nat _ nl _ ∧ _ => kl1
  refine law_end4 (nl := nl) (dn := dn) B X T C kF ⟨by rfl, by rfl, by rfl, by rfl⟩ (drop_dl kN) ⟨h111, Nat.lt_trans hl (Nat.lt_trans h1 hnl), kl1.1⟩ (by omega) (by omega) (by omega) c1 c2 (by omega) (by omega) hE hret
end
section
open PyProof.Rows.LCg
set_option maxRecDepth 100000
set_option maxHeartbeats 3000000
local macro_rules | `(tactic| passes_own) => `(tactic| assumption)
theorem law_mid3 {w : World} {p : Program} {loose : List Str} {mean : ExcName → Option Value} {mg mb : Str → Option Value}
    {dp un : Nat} {gd : Option (List Code)} {a : Addr} {ccd : Value} {outer : List Env} {A₀ : Around} {base h₀ : Heap} {L : Addr} {m₀ : Str → Option Value} {s : Shared} {Q : Flow → Shared → Prop} {E : Value → Shared → Prop}
    {dk l nl : Addr} {ws : List Value} {ns : List Int} {tt tf tl tm : Tok} {fi la : Int} {dn : Bool} {dc c nc : Nat} {o1 o2 : Obj}
    (B : Below A₀ base outer h₀) (X : (Mine.hd.heap_1 w.params).In h₀) (T : Top p loose mean mg mb h₀) (C : CodeHd base 113 111)
    (F : Fr h₀ L s.heap (fun y => if y = Str.ofString "first" then some (.int fi tf) else if y = Str.ofString "last" then some (.int la tl) else if y = Str.ofString "many" then some (.int 3 tm) else if y = Str.ofString "is_down" then some (.bool dn) else if y = Str.ofString "deck" then some (.ref dk) else m₀ y))
    (N : News h₀ L s.heap [(nl, W.listOf #[] nc), (dk, W.listOf #[.ref l, .int 4 tt] dc), (l, W.listOf ws.toArray c), (L + 1 + 1, o2), (L + 1, o1), (111, tabObj #[])])
    (hI : IntsAre ws ns) (hn : ns.length ≤ 9) (h1 : @LT.lt Nat _ l dk) (hl : @LT.lt Nat _ (L + 1 + 1) l) (hnl : @LT.lt Nat _ dk nl) (h111 : @LT.lt Nat _ 111 L) (c1 : o1.data = .cell (some (.ref nl))) (c2 : o2.data = .cell none) (hla : -1000 ≤ la ∧ la ≤ 1001)
    (hd : dp + 40 < recursionLimit) (hu : un + 400 < cLine) (hE : PassesOwn (model PG w) (lawTop dp un gd L a ccd outer) (envL L a ccd) E)
    (hret : ∀ h' tk m' nw tb, Fr h₀ L h' m' → News h₀ L h' nw → (111, tabObj tb) ∈ nw → Q (.ret (.bool true)) { s with heap := h', toks := tk }) :
    wpAny (model PG w) (lawTop dp un gd L a ccd outer) (execs (lawBody.drop 4) (envL L a ccd)) Q E s := by
  have hb : lawBody.drop 4 = [_, _, _, _, _, _, _, _, _] := rfl
  rw [hb]
  repeat ((fail_if_success (with_reducible show wpAny _ _ (execs (List.cons _ (List.cons _ (List.cons _ (List.cons _ (List.cons _ (List.cons _ (List.cons _ List.nil))))))) _) _ _ _)); (first | (k_unfold; (try dsimp only)) | (k_end; wrow_close) | walk1 | (dsimp only; walk1) | (leave1; walk_say "STEP leave1"; try dsimp only) | fail "no step"))
  rename Fr h₀ L _ _ => kF
  rename News h₀ L _ _ => kN
  (try simp only [List.push_toArray, List.nil_append, List.cons_append] at kN)
  rename @LT.lt Nat _ nl _ ∧ _ => kl1
  refine law_end3 (nl := nl) (dn := dn) B X T C kF ⟨by rfl, by rfl, by rfl, by rfl⟩ (drop_dl kN) ⟨h111, Nat.lt_trans hl (Nat.lt_trans h1 hnl), kl1.1⟩ (by omega) (by omega) c1 c2 (by omega) (by omega) hE hret
end
section
open PyProof.Rows.LCg
set_option maxRecDepth 100000
set_option maxHeartbeats 3000000
local macro_rules | `(tactic| passes_own) => `(tactic| assumption)
theorem map_five {m : Str → Option Value} {a b c d e : Str} {u v x z t : Value} (h1 : m a = some u) (h2 : m b = some v) (h3 : m c = some x) (h4 : m d = some z) (h5 : m e = some t) :
    (fun y => if y = a then some u else if y = b then some v else if y = c then some x else if y = d then some z else if y = e then some t else m y) = m := by
  funext y
  split
  · rename_i e; rw [e, h1]
  split
  · rename_i e; rw [e, h2]
  split
  · rename_i e; rw [e, h3]
  split
  · rename_i e; rw [e, h4]
  split
  · rename_i e; rw [e, h5]
  rfl
theorem Fr5 {h₀ h : Heap} {L : Addr} {m : Str → Option Value} {a b c d e : Str} {u v x z t : Value} (F : Fr h₀ L h m) (h1 : m a = some u) (h2 : m b = some v) (h3 : m c = some x) (h4 : m d = some z) (h5 : m e = some t) :
    Fr h₀ L h (fun y => if y = a then some u else if y = b then some v else if y = c then some x else if y = d then some z else if y = e then some t else m y) := by
  rw [map_five h1 h2 h3 h4 h5]; exact F
theorem drop_tt {h₀ h : Heap} {L : Addr} {a b d e f g i j : Addr × Obj} (N : News h₀ L h [a, b, d, e, f, g, i, j]) : News h₀ L h [a, e, f, g, i, j] := by
  refine fun q hq => N q ?_
  simp only [List.mem_cons, List.not_mem_nil, or_false] at hq ⊢
  rcases hq with h | h | h | h | h | h <;> simp [h]
theorem fdiv_five {r : Int} (h0 : 0 ≤ r) (h : r < 5) : r.fdiv 4 = 0 ∨ r.fdiv 4 = 1 := by
  have : r = 0 ∨ r = 1 ∨ r = 2 ∨ r = 3 ∨ r = 4 := by omega
  rcases this with rfl | rfl | rfl | rfl | rfl <;> decide
theorem law_deck {w : World} {p : Program} {loose : List Str} {mean : ExcName → Option Value} {mg mb : Str → Option Value}
    {dp un : Nat} {gd : Option (List Code)} {a : Addr} {ccd : Value} {outer : List Env} {A₀ : Around} {base h₀ : Heap} {L : Addr} {m₀ : Str → Option Value} {s : Shared} {Q : Flow → Shared → Prop} {E : Value → Shared → Prop}
    {dk l : Addr} {ws : List Value} {ns : List Int} {tt : Tok} {dc c : Nat} {o1 o2 : Obj}
    (B : Below A₀ base outer h₀) (X : (Mine.hd.heap_1 w.params).In h₀) (T : Top p loose mean mg mb h₀) (C : CodeHd base 113 111)
    (F : Fr h₀ L s.heap (fun y => if y = Str.ofString "deck" then some (.ref dk) else m₀ y))
    (N : News h₀ L s.heap [(dk, W.listOf #[.ref l, .int 0 tt] dc), (l, W.listOf ws.toArray c), (L + 1 + 1, o2), (L + 1, o1), (111, tabObj #[])])
    (hI : IntsAre ws ns) (hn : ns.length ≤ 9) (h1 : @LT.lt Nat _ l dk) (hl : @LT.lt Nat _ (L + 1 + 1) l) (h111 : @LT.lt Nat _ 111 L) (c1 : o1.data = .cell none) (c2 : o2.data = .cell none)
    (hd : dp + 40 < recursionLimit) (hu : un + 400 < cLine) (hE : PassesOwn (model PG w) (lawTop dp un gd L a ccd outer) (envL L a ccd) E)
    (hret : ∀ h' tk m' nw tb, Fr h₀ L h' m' → News h₀ L h' nw → (111, tabObj tb) ∈ nw → Q (.ret (.bool true)) { s with heap := h', toks := tk }) :
    wpAny (model PG w) (lawTop dp un gd L a ccd outer) (execs (lawBody.drop 1) (envL L a ccd)) Q E s := by
  have hb : lawBody.drop 1 = [_, _, _, _, _, _, _, _, _, _, _, _] := rfl
  rw [hb]
  (first | (k_unfold; (try dsimp only)) | (k_end; wrow_close) | walk1 | (dsimp only; walk1) | (leave1; walk_say "STEP leave1"; try dsimp only) | fail "no step"); (first | (k_unfold; (try dsimp only)) | (k_end; wrow_close) | walk1 | (dsimp only; walk1) | (leave1; walk_say "STEP leave1"; try dsimp only) | fail "no step"); (first | (k_unfold; (try dsimp only)) | (k_end; wrow_close) | walk1 | (dsimp only; walk1) | (leave1; walk_say "STEP leave1"; try dsimp only) | fail "no step")
  repeat ((fail_if_success (with_reducible show wpAny _ _ (execs (List.cons _ (List.cons _ (List.cons _ (List.cons _ (List.cons _ (List.cons _ (List.cons _ (List.cons _ (List.cons _ List.nil))))))))) _) _ _ _)); (first | (k_unfold; (try dsimp only)) | (k_end; wrow_close) | walk1 | (dsimp only; walk1) | (leave1; walk_say "STEP leave1"; try dsimp only) | fail "no step"))
  rename Fr h₀ L _ _ => kF
  rename News h₀ L _ _ => kN
  rename @LT.lt Int _ _ 5 => r5
  rename @LT.lt Nat _ dk _ ∧ _ => kl1

  rcases fdiv_five (by assumption) r5 with e | e
  · rw [e] at kF
    exact law_mid3 B X T C (Fr5 kF (by rfl) (by rfl) (by rfl) (by rfl) (by rfl)) (drop_tt kN) hI hn h1 hl (by omega) h111 (by assumption) c2 (by omega) hd hu hE hret
  · rw [e] at kF
    exact law_mid4 B X T C (Fr5 kF (by rfl) (by rfl) (by rfl) (by rfl) (by rfl)) (drop_tt kN) hI hn h1 hl (by omega) h111 (by assumption) c2 (by omega) hd hu hE hret
end
end
end
section
local macro_rules | `(tactic| k_room) => `(tactic| ktr_room)
section
section
open PyProof.Rows.LCg
set_option maxRecDepth 100000
set_option maxHeartbeats 3000000
theorem drop_3 {h₀ h : Heap} {L : Addr} {a b c d e f : Addr × Obj} (N : News h₀ L h [a, b, c, d, e, f]) : News h₀ L h [a, b, d, e, f] := by
  refine fun q hq => N q ?_
  simp only [List.mem_cons, List.not_mem_nil, or_false] at hq ⊢
  rcases hq with h | h | h | h | h <;> simp [h]
theorem z1 : PySem.Challenge.rw_xm0619_01.Holds := Mine.hd (by
  k_go0; (all_goals try k_fold)
  repeat ((fail_if_success (with_reducible show wpAny _ _ (execs (List.cons _ (List.cons _ (List.cons _ (List.cons _ (List.cons _ (List.cons _ (List.cons _ (List.cons _ (List.cons _ (List.cons _ (List.cons _ (List.cons _ List.nil)))))))))))) _) _ _ _)); (first | (k_unfold; (try dsimp only)) | (k_end; wrow_close) | walk1 | (dsimp only; walk1) | (leave1; walk_say "STEP leave1"; try dsimp only) | fail "no step"))
  rename Below callerA _ _ _ => kB
  rename Fr _ _ _ _ => kF
  rename News _ _ _ _ => kN
  refine law_deck (dp := callerA.depth + 1) (un := callerA.units + 3) (gd := some []) (outer := []) (A₀ := callerA) kB (by assumption) (by assumption) codeHd kF (drop_3 kN) (by assumption) ?hn (by omega) (by omega) (by first | assumption | omega) ?c1 ?c2 ?hd ?hu ?hE fun h9 tk9 m9 nw9 tb9 F9 N9 q9 => ?hr
  case hn => omega
  case c1 => assumption
  case c2 => assumption
  case hd => decide
  case hu => decide
  case hE => passes_own
  case hr =>
    dsimp only
    refine ⟨?_, ⟨_, (N9 _ q9).1⟩, trivial⟩
    refine goodW_bool (by exact F9) (by assumption) (raisesW_false ?hn) ?hp
    case hn => wrow_none_raised
    case hp => wrow_post)
end
end
end
end
end Mine
theorem PySem.Challenge.cw_xm0619_01_holds : PySem.Challenge.rw_xm0619_01.Holds := by
  exact Mine.z1
