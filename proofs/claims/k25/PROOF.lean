import PyProof.Rows.All
import Wide.All
import OpenK.AllK
import Wide.FinOn
import HandS.ForMost
import HandS.Exc
import HandS.Wide
import HandS.Zip
import HandS.SortRule
import HandS.Style
import KE.GoesEnum
import HandS.SortKw
import KE.KSortKey
import HandS.TupAny
import KE.KRevSl
import KE.GoesZip
import HandS.IsInst
import HandS.Flow
import PyProof.ReprRoads
import HandS.TupMul
import HandS.Deep
import HandS.WordsExc
import HandS.Star
import HandS.NoneIn
import HandS.Defaults
import HandS.Words
import HandS.Codes
import HandS.Ends
import PyProof.ReprLen
import PySem.Challenge.RW_stillgauge_k25_judges_of_rows_tables_and
set_option Elab.async false
set_option linter.all false
set_option maxRecDepth 100000
set_option maxHeartbeats 0
/-! Sr1: rules that the layer lacks: enumerate of a tuple, t[::-1], sorted of pairs by their first ints. -/
namespace SR
open PySem PySem.Spec PyProof.Rows L2

/-! ### enumerate(tuple) -/
def IteT (K : PySem.W.Frag) (a : Addr) : It :=
  ⟨fun i H => ∃ (xs : List V) (x : V), SqT K H a xs ∧ xs[i]? = some x, fun i H v H' => ∃ T x, v = .ref T ∧ H T = none ∧ H' = upd H T (.tup [.int (i : Nat), x]) ∧ ∀ xs, SqT K H a xs → xs[i]? = some x, fun i H => ∃ xs : List V, SqT K H a xs ∧ xs.length = i⟩
theorem turn_enumT {P : Program} {w : World} {K : PySem.W.Frag} {elts : List Expr} {kk : Nat} {tpos : Pos} (a e it : Addr) (hea : e ≠ a) (hia : it ≠ a) :
    Turn P w K (.Tuple elts kk tpos) (IteT K a) [e, it] e (fun i h => (∃ old, IsEnum h e it ((i : Nat) : Int) old) ∧ h.IsTupleIter it a i ∧ e ≠ it) where
  mem := by simp
  obj := fun i h st b hb => by
    obtain ⟨⟨old, he⟩, ⟨o, ho, hc, hd⟩, _⟩ := st
    have e' : b = e ∨ b = it := by simpa using hb
    rcases e' with z | z
    · rw [z]; exact ⟨_, he, fun v q => nomatch q⟩
    · rw [z]; exact ⟨o, ho, fun v q => by rw [hd] at q; cases q⟩
  keep := fun i h h' st k => let ⟨⟨old, he⟩, hi, hne⟩ := st; ⟨⟨old, k e (by simp) _ he⟩, hi.at fun o q => k it (by simp) o q, hne⟩
  item := by
    intro X hP hw hK hc i pins s σ H E I hf st hg
    subst hP hw hK
    obtain ⟨⟨old, he⟩, hit, hne⟩ := st
    obtain ⟨xs, x, hq, hx⟩ := hg
    obtain ⟨its, rv, p, hz⟩ := I.tuple hq
    obtain ⟨u, hu, ru⟩ := rv.get hx
    have hel : e < s.heap.objs.size := Heap.lt_size he
    have hil : it < s.heap.objs.size := by obtain ⟨_, q, _⟩ := hit; exact Heap.lt_size q
    have hlt : i < its.toArray.size := by
      have := (List.getElem?_eq_some_iff.mp hu).1
      simpa using this
    have D := Draws.tuple (prog := X.prog) (w := X.w) (A := X.A.in1) (show X.A.in1.handled = none from I.ok.hd hc) it a (Ne.symm hia) its.toArray
    refine wpAny_pyNext_enum_itemD D he ⟨hit, show s.heap.IsTuple a its.toArray from p⟩ hlt hne (by simp [hne, hea]) fun x' h' tk hP ho hst' hT hsz hk => ?_
    have hxu : x' = u := by
      have h1 : its.toArray[i]? = some u := by simpa using hu
      rw [h1] at hP
      exact (Option.some.inj hP).symm
    subst hxu
    refine ⟨_, rfl, wpAny_letOwnedTupleGo_enum (s := { s with heap := h', toks := tk + 1 }) ho fun h'' he' sb => ?_⟩
    have hT2 : h''.get? s.heap.objs.size = some { cls := .type "tuple", data := .seq #[.int i tk, x'] } := (sb.2 _ (Nat.ne_of_gt hel)).trans hT
    have new : ObjOk X.prog X.w (upd H s.heap.objs.size (.tup [.int (i : Nat), x])) h'' s.heap.objs.size (.tup [.int (i : Nat), x]) :=
      ⟨by show 2 ≤ sizeLine; decide, [.int i tk, x'], .cons ⟨_, rfl⟩ (.cons ru .nil), ⟨_, hT2, rfl, _, rfl⟩⟩
    have I1 : Inv X pins σ (upd H s.heap.objs.size (.tup [.int (i : Nat), x])) { s with heap := h'', toks := tk + 1 } :=
      I.turnedNew (ch := [e, it]) (fun b ob hb q => (sb.2 b (fun z => hb (by simp [z]))).trans (hk b ob (fun z => hb (by simp [z])) (fun z => hb (by simp [z])) q)) hf (Nat.le_refl _) new
    refine ⟨.ref s.heap.objs.size, _, I1, rfl, ⟨_, x, rfl, I.hok.fresh (Nat.le_refl _), rfl, fun ys hy => by rw [I.tuple_inj hy hq]; exact hx⟩, ⟨⟨x', ?_⟩, hst'.1.at fun o q => (sb.2 it (Ne.symm hne)).trans q, hne⟩, fun b hb => ?_⟩
    · have e1 : ((i + 1 : Nat) : Int) = (i : Int) + 1 := by omega
      rw [e1]; exact he'
    · have hb' : b < s.heap.objs.size := by
        have e' : b = e ∨ b = it := by simpa using hb
        rcases e' with z | z
        · rw [z]; exact hel
        · rw [z]; exact hil
      rw [upd_ne (Nat.ne_of_lt hb')]
      exact (hf b hb).1
  done := by
    intro X hP hw hK hc i pins s σ H E I hf st hg
    subst hP hw hK
    obtain ⟨⟨old, he⟩, hit, hne⟩ := st
    obtain ⟨xs, hq, hx⟩ := hg
    obtain ⟨its, rv, p, hz⟩ := I.tuple hq
    obtain ⟨f0, f1, f2, f3, f4, f5⟩ := hf it (by simp)
    have hl := rv.length
    have D := Draws.tuple (prog := X.prog) (w := X.w) (A := X.A.in1) (show X.A.in1.handled = none from I.ok.hd hc) it a (Ne.symm hia) its.toArray
    have hn : its.toArray.size = i := by rw [List.size_toArray]; omega
    exact wpAny_pyNext_enum_endD D he ⟨by rw [hn]; exact hit, show s.heap.IsTuple a its.toArray from p⟩ fun h' eb => ⟨rfl, I.turned (t' := s.toks) (fun b o hb q => eb b o hb q) f0 f1 f3 f4 f5⟩
  self := fun A i s Q E st h => let ⟨⟨_, he⟩, _⟩ := st; wpAny_pyIter_enum he h
theorem meets_enumerate_new1 {v : Value} {o : Obj} {H : Heap → Prop} (B : Begins v o H) :
    Meets (Builtin.«enumerate.__new__» ⟨[.type "enumerate", v], []⟩) (fun _ R s => H s.heap ∧
      R (.ok (.ret (.ref (s.heap.push o).objs.size))) { s with heap := (s.heap.push o).push { cls := .type "enumerate", data := .fields #[.none, .bool false, .ref s.heap.objs.size, rawInt 0, .none, .none] } }) :=
  .of_wp fun prog w A R s h => by
    obtain ⟨hp, g, d, tk, os⟩ := s; obtain ⟨h1, h⟩ := h
    have hsub := sub_enumerate
    have q1 : ∀ {A' : Around} {E : Value → Shared → Prop} {Q : Value → Shared → Prop}, Q (.ref hp.objs.size) ⟨hp.push o, g, d, tk, os⟩ → wpAny (model prog w) A' (pyIter v) Q E ⟨hp, g, d, tk, os⟩ :=
      fun q => B.iter prog w _ _ ⟨hp, g, d, tk, os⟩ _ h1 q
    wp_walk using q1
    refine wpAny_stack_any fun st => wpAny_pure ?_
    split
    · rename_i c _ _ _ _ _
      cases (c == Value.type "enumerate")
      · wp_walk using q1
        exact ⟨_, rfl, h⟩
      · wp_walk using q1
        exact ⟨_, rfl, h⟩
    · wp_walk using q1
      exact ⟨_, rfl, h⟩
theorem enum_begins1 {prog : Program} {w : World} {A : Around} {E : Value → Shared → Prop} {s : Shared} {v : Value} {o : Obj} {H : Heap → Prop} {Q : Value → Shared → Prop} (B : Begins v o H) (h1 : H s.heap)
    (h : ∀ h', IsEnum h' (s.heap.objs.size + 1) s.heap.objs.size 0 .none → h'.get? s.heap.objs.size = some o → h'.objs.size = s.heap.objs.size + 2 →
      (∀ b o, s.heap.get? b = some o → h'.get? b = some o) → Q (.ref (s.heap.objs.size + 1)) { s with heap := h' }) :
    wpAny (model prog w) A (call (.type "enumerate") [v]) Q E s := by
  refine callType_new F.called_enumerate (by decide) (F.typeCall_enumerate_1 _) (F.newCall_enumerate_1 _) (fun obj => F.args_object_init_2 obj _) F.entry_enumerate_new
    (meets_enumerate_new1 B) ⟨h1, ?_⟩
  have hz : (s.heap.push o).objs.size = s.heap.objs.size + 1 := Heap.size_push ..
  show _ ∧ _
  rw [hz]
  have he : IsEnum ((s.heap.push o).push { cls := .type "enumerate", data := .fields #[.none, .bool false, .ref s.heap.objs.size, rawInt 0, .none, .none] }) (s.heap.objs.size + 1) s.heap.objs.size 0 .none := by
    have := Heap.get?_push_size (s.heap.push o) (o := { cls := .type "enumerate", data := .fields #[.none, .bool false, .ref s.heap.objs.size, rawInt 0, .none, .none] }) rfl
    rw [hz] at this; exact this
  refine ⟨⟨_, he, rfl⟩, h _ he (Heap.get?_push_of_some _ (Heap.get?_push_size _ B.free)) (by rw [Heap.size_push, hz]) fun b o x => Heap.get?_push_of_some _ (Heap.get?_push_of_some _ x)⟩
def iEnumT (K : PySem.W.Frag) (ta : TA) : TI := fun σ H R => ta σ H fun vs H1 => ∃ a xs, vs = [.ref a] ∧ SqT K H1 a xs ∧ R (IteT K a) H1
theorem pi_enumT {X : Cx} {e : Expr} {ta : TA} {p pos tpos : Pos} {elts : List Expr} {kk : Nat} (hg : Gl X "enumerate") (hm : X.mg "enumerate" = none) (ha : PA X [e] ta) (hs : starEach [e] X.env = [(false, eval e X.env)] := by rfl) :
    PI X (.Tuple elts kk tpos) (.Call (.Name "enumerate" p) [e] [] pos) (iEnumT X.K ta) := by
  refine ⟨fun pins s σ H R I h => ?_⟩
  refine Call_ (ld_blt I hg hm boot_enumerate (PyProof.Rows.callWith_type1 (thn (ha.run pos pins s σ H _ I h) fun us s1 ⟨vs, H1, I1, r1, q1⟩ => ?_) hs rfl))
  obtain ⟨a, xs, ex, hq, q⟩ := q1
  subst ex
  cases r1 with
  | cons r rr =>
    cases rr
    cases r
    obtain ⟨its, rv, p', hz⟩ := I1.tuple hq
    have hT : s1.heap.IsTuple a its.toArray := p'
    have hal : a < s1.heap.objs.size := by obtain ⟨_, q, _⟩ := id hT; exact Heap.lt_size q
    refine enum_begins1 (begins_tuple a its.toArray) hT fun h' he hit hsz hk => wpAny_pyIter_enum he ?_
    have I2 : Inv X pins σ H1 { s1 with heap := h' } := I1.kept (t' := s1.toks) hk
    refine ⟨s1.heap.objs.size + 1, [s1.heap.objs.size + 1, s1.heap.objs.size], _, _, H1, rfl, I2, turn_enumT a (s1.heap.objs.size + 1) s1.heap.objs.size (Nat.ne_of_gt (Nat.lt_succ_of_lt hal)) (Nat.ne_of_gt hal), ⟨⟨.none, he⟩, ⟨_, hit, rfl, rfl⟩, Nat.succ_ne_self _⟩, fun b hb => ?_, q⟩
    have e' : b = s1.heap.objs.size + 1 ∨ b = s1.heap.objs.size := by simpa using hb
    have hle : s1.heap.objs.size ≤ b := by
      rcases e' with z | z
      · rw [z]; exact Nat.le_add_right _ _
      · rw [z]; exact Nat.le_refl _
    exact I1.fpOk hle (I1.hok.fresh hle)
end SR
/-! Sr2: sorted of pairs by their first ints, which differ. -/
namespace SR
open PySem PySem.Spec PyProof.Rows L2 SrtO

/-! ### a plain sort -/
section
variable {α β : Type}
def insS (lt : α → α → Bool) (y : α) (l : List α) : List α := l.takeWhile (fun x => !lt y x) ++ y :: l.dropWhile (fun x => !lt y x)
def isort (lt : α → α → Bool) (l : List α) : List α := l.foldl (fun acc y => insS lt y acc) []
theorem drop_head {p : α → Bool} : ∀ {l : List α} {x : α} {r : List α}, l.dropWhile p = x :: r → p x = false
  | [], _, _, h => by cases h
  | y :: l, x, r, h => by
    rw [List.dropWhile_cons] at h
    split at h
    · exact drop_head h
    · rename_i c
      cases h
      simpa using c
theorem take_all {p : α → Bool} : ∀ {l : List α}, ∀ x ∈ l.takeWhile p, p x = true
  | [], _, h => by cases h
  | y :: l, x, h => by
    rw [List.takeWhile_cons] at h
    split at h
    · rcases List.mem_cons.mp h with rfl | h
      · assumption
      · exact take_all x h
    · cases h
theorem insS_ok {lt : α → α → Bool} (O : Swo lt) {l m : List α} {y : α} (h : Srtd lt l) (s : Stb lt l m) : Srtd lt (insS lt y l) ∧ Stb lt (insS lt y l) (m ++ [y]) := by
  have e : l.takeWhile (fun x => !lt y x) ++ l.dropWhile (fun x => !lt y x) = l := List.takeWhile_append_dropWhile
  have h1 : ∀ x ∈ l.takeWhile (fun x => !lt y x), lt y x = false := fun x hx => by
    have := take_all x hx
    simpa using this
  have h2 : ∀ x ∈ l.dropWhile (fun x => !lt y x), lt y x = true := by
    cases q : l.dropWhile (fun x => !lt y x) with
    | nil => intro x hx; cases hx
    | cons z r =>
      have hz : lt y z = true := by
        have := drop_head q
        simpa using this
      have hs : Srtd lt (z :: r) := by
        rw [← q]
        rw [← e] at h
        exact (srtd_app.mp h).2.1
      exact O.lt_all hs hz
  have h' := h
  have s' := s
  rw [← e] at h' s'
  exact ⟨ins_srtd O h' h1 h2, ins_stb O h2 s'⟩
theorem isort_from {lt : α → α → Bool} (O : Swo lt) : ∀ (l acc m : List α), Srtd lt acc → Stb lt acc m → Srtd lt (l.foldl (fun acc y => insS lt y acc) acc) ∧ Stb lt (l.foldl (fun acc y => insS lt y acc) acc) (m ++ l)
  | [], acc, m, h, s => by simpa using ⟨h, s⟩
  | y :: l, acc, m, h, s => by
    obtain ⟨h1, h2⟩ := insS_ok O (y := y) h s
    have := isort_from O l (insS lt y acc) (m ++ [y]) h1 h2
    simpa using this
theorem isort_ok {lt : α → α → Bool} (O : Swo lt) (l : List α) : Srtd lt (isort lt l) ∧ Stb lt (isort lt l) l := by
  have := isort_from O l [] [] List.Pairwise.nil (Stb.refl [])
  rw [List.nil_append] at this
  exact this
theorem insS_map {lt : β → β → Bool} (f : α → β) (y : α) (l : List α) : (insS (fun a b => lt (f a) (f b)) y l).map f = insS lt (f y) (l.map f) := by
  unfold insS
  rw [List.map_append, List.map_cons, List.takeWhile_map, List.dropWhile_map]
  rfl
theorem isort_map {lt : β → β → Bool} (f : α → β) (l : List α) : (isort (fun a b => lt (f a) (f b)) l).map f = isort lt (l.map f) := by
  unfold isort
  have : ∀ (l acc : List α), (l.foldl (fun acc y => insS (fun a b => lt (f a) (f b)) y acc) acc).map f = (l.map f).foldl (fun acc y => insS lt y acc) (acc.map f) := by
    intro l
    induction l with
    | nil => intro acc; rfl
    | cons y l ih => intro acc; rw [List.foldl_cons, ih, insS_map]; rfl
  exact this l []
end
abbrev ltI {γ : Type} : Int × γ → Int × γ → Bool := fun p q => decide (p.1 < q.1)
theorem swo_of {α : Type} (k : α → Int) : Swo fun x y : α => decide (k x < k y) := by
  refine ⟨fun x y h => ?_, fun x y z h1 h2 => ?_⟩
  · have := of_decide_eq_true h
    exact decide_eq_false (by omega)
  · have a := of_decide_eq_false h1
    have b := of_decide_eq_false h2
    exact decide_eq_false (by omega)
/-- by the int that each has beside it -/
def sortK {γ : Type} (l : List (Int × γ)) : List γ := (isort ltI l).map (·.2)
theorem sortK_map {γ δ : Type} (f : γ → δ) (l : List (Int × γ)) : sortK (l.map fun p => (p.1, f p.2)) = (sortK l).map f := by
  unfold sortK
  rw [← isort_map (lt := ltI) (fun p : Int × γ => (p.1, f p.2)), List.map_map, List.map_map]
  rfl
theorem isort_rel {α β : Type} {R : α → β → Prop} {f : α → Int} {g : β → Int} : ∀ {l : List α} {m : List β}, (hl : Paired (fun a b => R a b ∧ f a = g b) l m) → Paired R (isort (fun x y => decide (f x < f y)) l) (isort (fun x y => decide (g x < g y)) m) := by
  have ins : ∀ {l : List α} {m : List β} {a : α} {b : β}, Paired (fun a b => R a b ∧ f a = g b) l m → (R a b ∧ f a = g b) → Paired (fun a b => R a b ∧ f a = g b) (insS (fun x y => decide (f x < f y)) a l) (insS (fun x y => decide (g x < g y)) b m) := by
    intro l m a b h hab
    unfold insS
    induction h with
    | nil => exact .cons hab .nil
    | @cons x y l m hxy h ih =>
      rw [List.takeWhile_cons, List.dropWhile_cons, List.takeWhile_cons, List.dropWhile_cons]
      have e : (!decide (f a < f x)) = (!decide (g b < g y)) := by rw [hab.2, hxy.2]
      dsimp only at ih ⊢
      rw [e]
      split
      · exact .cons hxy ih
      · exact .cons hab (.cons hxy h)
  have all : ∀ {l : List α} {m : List β} {acc : List α} {acc' : List β}, Paired (fun a b => R a b ∧ f a = g b) l m → Paired (fun a b => R a b ∧ f a = g b) acc acc' → Paired (fun a b => R a b ∧ f a = g b) (l.foldl (fun acc y => insS (fun x y => decide (f x < f y)) y acc) acc) (m.foldl (fun acc y => insS (fun x y => decide (g x < g y)) y acc) acc') := by
    intro l m acc acc' h
    induction h generalizing acc acc' with
    | nil => intro h'; exact h'
    | cons hxy h ih => intro h'; exact ih (ins h' hxy)
  have drop : ∀ {l : List α} {m : List β}, Paired (fun a b => R a b ∧ f a = g b) l m → Paired R l m := by
    intro l m h
    induction h with
    | nil => exact .nil
    | cons a _ ih => exact .cons a.1 ih
  intro l m hl
  exact drop (all hl .nil)

/-! ### pairs of an int and anything, the ints apart -/
def IsPF (h : Heap) (v : Value) (x : Int) : Prop := ∃ a o t u n, v = .ref a ∧ h.get? a = some o ∧ o.cls = .type "tuple" ∧ o.data = .seq #[.int x t, u] n
theorem IsPF.keeps {h h' : Heap} {v : Value} {x : Int} (p : IsPF h v x) (k : ∀ b o, h.get? b = some o → o.cls = .type "tuple" → h'.get? b = some o) : IsPF h' v x := by
  obtain ⟨a, o, t, u, n, e, ho, hc, hd⟩ := p
  exact ⟨a, o, t, u, n, e, k _ _ ho hc, hc, hd⟩
theorem firstsF {h : Heap} : ∀ {vs : List Value}, (∀ v ∈ vs, ∃ x, IsPF h v x) → ∃ fs : List Value, PySem.W.KatTups h vs fs ∧ fs.length = vs.length ∧ ∀ f ∈ fs, ∃ x t, f = Value.int x t
  | [], _ => ⟨[], PySem.W.KatTups.nil, rfl, fun _ hm => by simp at hm⟩
  | v :: vs, hp => by
    obtain ⟨fs, h1, h2, h3⟩ := firstsF (vs := vs) fun v' hm => hp v' (List.mem_cons_of_mem _ hm)
    obtain ⟨x, a, o, t, u, n, e, ho, hc, hd⟩ := hp v (List.mem_cons_self ..)
    subst e
    refine ⟨.int x t :: fs, PySem.W.KatTups.cons ho hc hd rfl h1, by rw [List.length_cons, List.length_cons, h2], fun f hm => ?_⟩
    rcases List.mem_cons.mp hm with rfl | hm
    · exact ⟨x, t, rfl⟩
    · exact h3 f hm
section
variable {prog : Program} {w : World} {A : Around} {E : Value → Shared → Prop} {s : Shared}
theorem pairF_cmp {vs : List Value} {k : Value → Int} (hp : ∀ v ∈ vs, IsPF s.heap v (k v)) (inj : ∀ v ∈ vs, ∀ u ∈ vs, k v = k u → v = u) : Cmp prog w A s (tuples' true) (fun p => p.1 ∈ vs) (lt2 fun v u => decide (k v < k u)) := by
  intro p q hm hm'
  have h1 := hp _ hm
  have h2 := hp _ hm'
  have hi := inj _ hm _ hm'
  show wpAny (model prog w) A (keyLt' (tuples' true) p.1 q.1) (fun r s' => s' = s ∧ r = decide (k p.1 < k q.1)) (fun _ _ => False) s
  generalize ek : k p.1 = x at h1 hi ⊢
  generalize ek' : k q.1 = x' at h2 hi ⊢
  by_cases hx : x = x'
  · have ev := hi hx
    rw [← ev]
    subst hx
    obtain ⟨a, o, t, u, n, e, ho, hc, hd⟩ := h1
    rw [e]
    refine PySem.W.kat_lt ho hd ho hd ?_
    show PySem.W.KatLex prog w A true (decide (2 < 2)) _ [(.int x t, .int x t), (u, u)] 0 s
    refine PySem.W.kat_cons (SeqAt.EqAt.same _ prog w _ _ ?_)
    refine PySem.W.kat_yes (PySem.W.kat_cons (SeqAt.EqAt.same _ prog w _ _ ?_))
    refine PySem.W.kat_yes (PySem.W.kat_nil ⟨rfl, ?_⟩)
    exact (decide_eq_false (Int.lt_irrefl _)).symm
  · obtain ⟨a, o, t, u, n, e, ho, hc, hd⟩ := h1
    obtain ⟨a', o', t', u', n', e', ho', hc', hd'⟩ := h2
    rw [e, e']
    refine PySem.W.kat_lt ho hd ho' hd' ?_
    show PySem.W.KatLex prog w A true (decide (2 < 2)) _ [(.int x t, .int x' t'), (u, u')] 0 s
    refine PySem.W.kat_cons (SeqAt.EqAt.int_int x t x' t' prog w _ _ ?_)
    refine PySem.W.kat_go (fun e1 => ?_) (fun e1 => ?_)
    · exact absurd (by simpa using e1) hx
    · exact PySem.W.kat_no (oneLt_int ⟨rfl, rfl⟩)
theorem pairsF_sortable {a : Addr} {vs : List Value} {k : Value → Int} (h0 : 0 < vs.length) (hp : ∀ v ∈ vs, IsPF s.heap v (k v)) (inj : ∀ v ∈ vs, ∀ u ∈ vs, k v = k u → v = u) (ha : ∀ o, s.heap.get? a = some o → o.cls ≠ .type "tuple") :
    SortableO prog w A s a vs fun v u => decide (k v < k u) := by
  intro h' keep
  have hp' : ∀ v ∈ vs, IsPF h' v (k v) := fun v hm => (hp v hm).keeps fun b o e c => keep b o (fun z => by subst z; exact ha o e c) e
  obtain ⟨fs, h1, h2, h3⟩ := firstsF fun v hm => ⟨_, hp' v hm⟩
  refine ⟨tuples' true, fun Q E hq => ?_, pairF_cmp hp' inj⟩
  refine PySem.W.kat_kind (T := .type "int") h1 (by omega) (fun f hm => ?_) (by rfl) ?_
  · obtain ⟨x, t, rfl⟩ := h3 f hm
    exact PySem.W.Looks.now
  · have e : (Value.type "int" != Value.type "tuple") = true := by first | decide +kernel | rfl | decide
    rw [e]
    exact hq
theorem sorted_pairsF {l : Addr} {vs : List Value} {k : Value → Int} {Q : Value → Shared → Prop} (hl : s.heap.IsList l vs.toArray) (hz : vs.length ≤ sizeLine) (hp : ∀ v ∈ vs, IsPF s.heap v (k v)) (inj : ∀ v ∈ vs, ∀ u ∈ vs, k v = k u → v = u)
    (h : ∀ (h' : Heap) (d : Addr) (out : List Value), Srtd (fun v u => decide (k v < k u)) out → Stb (fun v u => decide (k v < k u)) out vs → (∀ b o, s.heap.get? b = some o → h'.get? b = some o) → s.heap.objs.size ≤ d → (∃ n, h'.get? d = some (seqObj "list" out.toArray n)) → Q (.ref d) { s with heap := h' }) :
    wpAny (model prog w) A (call (.builtin "sorted") [.ref l]) Q E s := by
  refine sorted_ord (swo_of k) hl hz (fun h2 h₁ a ha kk => ?_) fun out hs hb => ?_
  · refine pairsF_sortable (s := { s with heap := h₁ }) (by omega) (fun v hm => (hp v hm).keeps fun b o e _ => (kk b o e).2) inj fun o e => ?_
    have e' : some o = some (seqObj "list" vs.toArray 0) := e.symm.trans ha
    cases e'
    intro c
    exact absurd (Value.type.inj c) (by decide)
  · exact h _ _ out hs hb (fun b o e => sortedAll_old e) (Nat.le_succ _) (sortedAll_at s.heap vs out.toArray)
end
/-- the first int of the pair at a value -/
def fstAt (h : Heap) : Value → Int
  | .ref a => match h.get? a with
    | some o => match o.data with
      | .seq its _ => match (its[0]? : Option Value) with
        | some (Value.int i _) => i
        | _ => 0
      | _ => 0
    | none => 0
  | _ => 0
theorem fstAt_of {h : Heap} {v : Value} {x : Int} (p : IsPF h v x) : fstAt h v = x := by
  obtain ⟨a, o, t, u, n, rfl, ho, hc, hd⟩ := p
  unfold fstAt
  dsimp only
  rw [ho]
  dsimp only
  rw [hd]
  rfl
/-- sorted(xs), xs a list of pairs of an int and something; the ints ks are apart -/
def rSortF (K : PySem.W.Frag) : List V → Hp → VK → Prop := fun vs H Q => ∃ (a : Addr) (xs : List V) (ks : List Int), vs = [V.ref a] ∧ SqL K H a xs ∧ ks.length = xs.length ∧ ks.Nodup ∧
  (∀ (j : Nat) (x : V) (i : Int), xs[j]? = some x → ks[j]? = some i → ∃ t u, x = V.ref t ∧ SqT K H t [.int i, u]) ∧ ∀ p, H p = none → Q (.ref p) (upd H p (.lst (sortK (ks.zip xs))))
theorem nodup_inj {ks : List Int} (hn : ks.Nodup) {i j : Nat} {x : Int} (h1 : ks[i]? = some x) (h2 : ks[j]? = some x) : i = j := by
  obtain ⟨a, b⟩ := List.getElem?_eq_some_iff.mp h1
  obtain ⟨c, d⟩ := List.getElem?_eq_some_iff.mp h2
  exact (List.getElem_inj hn).mp (b.trans d.symm)
theorem cr_sortF {X : Cx} : CallR X (.builtin "sorted") (rSortF X.K) := by
  intro pins s σ H vs us Q I r h
  obtain ⟨a, xs, ks, rfl, hs, hkl, hnd, hx, q⟩ := h
  obtain ⟨its, rv, hl, hz⟩ := I.list hs
  obtain ⟨u, rfl, ru⟩ := vals1 r
  obtain rfl : u = Value.ref a := ru
  have hlen := rv.length
  -- each value is a pair
  have pair : ∀ (j : Nat) (v : Value) (i : Int), its[j]? = some v → ks[j]? = some i → IsPF s.heap v i := fun j v i h1 h2 => by
    have hj : j < xs.length := by rw [← hkl]; exact (List.getElem?_eq_some_iff.mp h2).1
    obtain ⟨v', hv', rx⟩ := rv.get (List.getElem?_eq_getElem hj)
    rw [h1] at hv'
    cases hv'
    obtain ⟨t, u, e, ht⟩ := hx j _ i (List.getElem?_eq_getElem hj) h2
    rw [e] at rx
    obtain rfl : v = Value.ref t := rx
    obtain ⟨its2, r2, p2, _⟩ := I.tuple ht
    obtain ⟨u1, u2, rfl, ri, rj⟩ := vals2 r2
    obtain ⟨tk, rfl⟩ := ri
    obtain ⟨o, ho, hc, n, hd⟩ := id p2
    exact ⟨t, o, tk, u2, n, rfl, ho, hc, hd⟩
  have at_ : ∀ v ∈ its, ∃ (j : Nat) (i : Int), its[j]? = some v ∧ ks[j]? = some i ∧ fstAt s.heap v = i := fun v hv => by
    obtain ⟨j, hj, e⟩ := List.getElem_of_mem hv
    have hk : j < ks.length := by omega
    refine ⟨j, ks[j], by rw [List.getElem?_eq_getElem hj, e], List.getElem?_eq_getElem hk, ?_⟩
    exact fstAt_of (pair j v _ (by rw [List.getElem?_eq_getElem hj, e]) (List.getElem?_eq_getElem hk))
  refine sorted_pairsF (k := fstAt s.heap) hl.isList (by rw [← hlen]; exact hz) (fun v hv => ?_) (fun v hv u hu e => ?_) fun h' d out h1 h2 kp hd hn => ?_
  · obtain ⟨j, i, a1, a2, a3⟩ := at_ v hv
    rw [a3]
    exact pair j v i a1 a2
  · obtain ⟨j, i, a1, a2, a3⟩ := at_ v hv
    obtain ⟨j', i', b1, b2, b3⟩ := at_ u hu
    rw [a3, b3] at e
    subst e
    have := nodup_inj hnd a2 b2
    subst this
    rw [a1] at b1
    exact Option.some.inj b1
  · obtain ⟨n, hn⟩ := hn
    -- the sorted values are those of the plain sort
    have e1 : out = isort (fun v u => decide (fstAt s.heap v < fstAt s.heap u)) its := by
      obtain ⟨c1, c2⟩ := isort_ok (swo_of (fstAt s.heap)) its
      exact stb_uniq (swo_of (fstAt s.heap)) h1 c1 (h2.trans ⟨c2.perm.symm, fun x => (c2.cls x).symm⟩)
    have prd : Paired (fun (p : Int × V) v => RelV p.2 v ∧ p.1 = fstAt s.heap v) (ks.zip xs) its := by
      have gen : ∀ (ks : List Int) (xs : List V) (its : List Value), ks.length = xs.length → Vals xs its → (∀ (j : Nat) (v : Value) (i : Int), its[j]? = some v → ks[j]? = some i → fstAt s.heap v = i) → Paired (fun (p : Int × V) v => RelV p.2 v ∧ p.1 = fstAt s.heap v) (ks.zip xs) its := by
        intro ks
        induction ks with
        | nil =>
          intro xs its hl r _
          cases xs with
          | nil => cases r; exact .nil
          | cons _ _ => cases hl
        | cons k ks ih =>
          intro xs its hl r hh
          cases xs with
          | nil => cases hl
          | cons x xs =>
            cases r with
            | cons rx r =>
              refine .cons ⟨rx, (hh 0 _ _ rfl rfl).symm⟩ (ih xs _ (by simpa using hl) r fun j v i e1 e2 => hh (j + 1) v i (by simpa using e1) (by simpa using e2))
      exact gen ks xs its hkl rv fun j v i e1 e2 => fstAt_of (pair j v i e1 e2)
    have srt := isort_rel (R := fun (p : Int × V) v => RelV p.2 v) (f := fun p : Int × V => p.1) (g := fstAt s.heap) prd
    have vals : Vals (sortK (ks.zip xs)) out := by
      rw [e1]
      unfold sortK
      have gen : ∀ {l : List (Int × V)} {m : List Value}, Paired (fun (p : Int × V) v => RelV p.2 v) l m → Vals (l.map (·.2)) m := by
        intro l m h
        induction h with
        | nil => exact .nil
        | cons a _ ih => exact .cons a ih
      exact gen srt
    refine ⟨.ref d, upd H d (.lst (sortK (ks.zip xs))), I.laid (t' := s.toks) kp hd ⟨?_, out, n, vals, hn⟩, rfl, q d (I.hok.fresh hd)⟩
    rw [vals.length, h2.len, ← hlen]
    exact hz
end SR
/-! Sr3: sorted(xs, key=f), f a def of the program. -/
namespace SR
open PySem PySem.Spec PyProof.Rows L2 SrtO

section
variable {X : Cx} {pins : List (Addr × Obj)} {σ : L2.St} {H : Hp} {s : Shared}
/-- an object of ours, untracked as yet, is tracked -/
theorem adopt {D : Addr} {o : Obj} {ho : HO} (I : Inv X pins σ H s) (f : FpOk X pins H D) (e : s.heap.get? D = some o) (new : ObjOk X.prog X.w (upd H D ho) s.heap D ho) : Inv X pins σ (upd H D ho) s := by
  obtain ⟨f0, f1, f2, f3, f4, f5⟩ := f
  have ne : ∀ {b : Addr} {u : HO}, H b = some u → b ≠ D := fun {b u} q => ne_of_none q f0
  refine I.step (g' := s.gens) (d' := s.drawn) (t' := s.toks) (ch := [D]) (fun b hb => ?_) (fun b o _ _ _ q _ => q) (fun b o _ _ _ q _ => ⟨o.slots, q⟩) (fun b o hc _ n => ?_) (fun b o _ q => ⟨o, q⟩) (fun b xs q => by rw [upd_ne (ne q)]; exact q) (fun b o u q => by rw [upd_ne (ne q)]; exact q)
    (fun b ps q => ⟨#[], by rw [upd_ne (ne q), q]; simp⟩) (fun m hm => hm) (fun b u q => ?_) I.bare
  · have e : b = D := by simpa using hb
    rw [e]
    exact ⟨f3, f1, f4, f5⟩
  · rw [upd_ne (fun z => hc (by simp [z]))]
    exact n
  · by_cases hb : b = D
    · subst hb
      rw [upd_same] at q
      cases q
      exact new
    · rw [upd_ne hb] at q
      exact (I.hok b u q).stay (fun c v _ z => z) (fun c z => by rw [upd_ne (ne z)]; exact z) fun c xs z => by rw [upd_ne (ne z)]; exact z
/-- what stands beside the list in the making -/
structure KeySt (X : Cx) (pins : List (Addr × Obj)) (σ : L2.St) (D kS : Addr) (e1 : Nat) (ks : List Int) (W : Nat → Hp → Prop) (i : Nat) (s' : Shared) (kA : Array Value) (e : Nat) (H' : Hp) : Prop where
  inv : Inv X pins σ H' s'
  w : W i H'
  d : s'.heap.get? D = some (seqObj "list" #[] e1)
  k : s'.heap.get? kS = some (seqObj "list" kA e)
  fd : FpOk X pins H' D
  fk : FpOk X pins H' kS
  kz : IntsAre kA.toList (ks.take i)
theorem isIntsF {vs : List Value} {ns : List Int} : IntsAre vs ns → ∀ p : Keyed, p.1 ∈ vs → ∃ i t, p.1 = Value.int i t := fun h p hp => ints_mem h _ hp
theorem zip_fst {α β : Type} : ∀ {l : List α} {m : List β} {p : α × β}, p ∈ l.zip m → p.1 ∈ l := fun h => (List.of_mem_zip h).1
theorem key_tail {D kS : Addr} {e e1 : Nat} {vs : List Value} {xs : List V} {ks : List Int} {W : Nat → Hp → Prop} {keys : Array Value} {st : SortSt} {A : Around} {E : Value → Shared → Prop} {P : PySem.Fin → Shared → Prop}
    (hv : Vals xs vs) (hkl : ks.length = xs.length) (hz : xs.length ≤ sizeLine) (hkD : kS ≠ D) (S : KeySt X pins σ D kS e1 ks W xs.length s keys e H) (hs : Srtd (lt2 ltIv) (arrOf st).toList) (hb : Stb (lt2 ltIv) (arrOf st).toList (keys.toList.zip vs)) (hfl : failedOf st = none)
    (h : ∀ (H1 : Hp) (s' : Shared) (out : Array Value) (c : Nat), Inv X pins σ H1 s' → W xs.length H1 → s'.heap.get? D = some (seqObj "list" out c) → FpOk X pins H1 D → Vals (sortK (ks.zip xs)) out.toList → P (.done (.ret .none)) s') :
    wpAny (model X.prog X.w) A (ksk_tail D false e1 (.ref kS) st) P E s := by
  have hlen := hv.length
  have hka : IntsAre keys.toList ks := by
    have := S.kz
    rw [List.take_of_length_le (by omega)] at this
    exact this
  have hks : keys.size = vs.length := by
    have h1 := hka.length
    rw [Array.length_toList] at h1
    omega
  have hsz2 : (arrOf st).size = vs.length := by
    have := hb.len
    rw [Array.length_toList, List.length_zip, Array.length_toList, hks, Nat.min_self] at this
    exact this
  obtain ⟨hp, g, d, tk, os⟩ := s
  have nk := S.k
  have na := S.d
  have s1 := Heap.SameBut.update hp kS (Obj.mapSeq fun _ => (#[] : Array Value))
  have na1 : (hp.update kS (Obj.mapSeq fun _ => (#[] : Array Value))).get? D = some (seqObj "list" #[] e1) := (s1.2 D hkD.symm).trans na
  have s2 := Heap.SameBut.update (hp.update kS (Obj.mapSeq fun _ => (#[] : Array Value))) D (Obj.mapSeq fun _ => (arrOf st).map (·.2))
  obtain ⟨c2, hc2⟩ : ∃ c2, ((hp.update kS (Obj.mapSeq fun _ => (#[] : Array Value))).update D (Obj.mapSeq fun _ => (arrOf st).map (·.2))).get? D = some (seqObj "list" ((arrOf st).map (·.2)) c2) := ⟨_, get?_update_seq na1 fun _ => (arrOf st).map (·.2)⟩
  unfold ksk_tail
  try dsimp only
  refine wpAny_bind (listUpdate_at nk rfl ?_ (by rw [hks]; omega) (Nat.zero_le _))
  refine wpAny_bind (wpAny_letGo ?_)
  refine wpAny_bind (seqEpoch_at na1 rfl ?_)
  refine wpAny_bind (listUpdate_at na1 rfl ?_ (Nat.zero_le _) (by simp only [Bool.false_eq_true, if_false, Array.size_map]; omega))
  rw [hfl]
  simp only [bne_self_eq_false, Bool.false_eq_true, if_false]
  have I2 : Inv X pins σ H ⟨(hp.update kS (Obj.mapSeq fun _ => (#[] : Array Value))).update D (Obj.mapSeq fun _ => (arrOf st).map (·.2)), g, d, tk, os⟩ :=
    S.inv.turnedL (t' := tk) (ch := [D, kS]) (fun b o hb q => (s2.2 b (fun z => hb (by simp [z]))).trans ((s1.2 b (fun z => hb (by simp [z]))).trans q)) fun b hb => by
      have e' : b = D ∨ b = kS := by simpa using hb
      rcases e' with z | z
      · rw [z]; exact S.fd
      · rw [z]; exact S.fk
  refine wpAny_pure (h H _ ((arrOf st).map (·.2)) c2 I2 S.w hc2 S.fd ?_)
  -- what is sorted
  have e1' : (arrOf st).toList = isort (lt2 ltIv) (keys.toList.zip vs) := by
    obtain ⟨c1, c2⟩ := isort_ok (swo2 swo_int) (keys.toList.zip vs)
    exact stb_uniq (swo2 swo_int) hs c1 (hb.trans ⟨c2.perm.symm, fun x => (c2.cls x).symm⟩)
  have gen : ∀ (ks : List Int) (xs : List V) (kv vs : List Value), ks.length = xs.length → IntsAre kv ks → Vals xs vs → Paired (fun (p : Int × V) (q : Keyed) => RelV p.2 q.2 ∧ p.1 = iv q.1) (ks.zip xs) (kv.zip vs) := by
    intro ks
    induction ks with
    | nil =>
      intro xs kv vs hl hk r
      cases xs with
      | nil => cases r; cases hk; exact .nil
      | cons _ _ => cases hl
    | cons k ks ih =>
      intro xs kv vs hl hk r
      cases xs with
      | nil => cases hl
      | cons x xs =>
        cases hk with
        | cons n t hk =>
          cases r with
          | cons rx r => exact .cons ⟨rx, rfl⟩ (ih xs _ _ (by simpa using hl) hk r)
  have srt := isort_rel (R := fun (p : Int × V) (q : Keyed) => RelV p.2 q.2) (f := fun p : Int × V => p.1) (g := fun q : Keyed => iv q.1) (gen ks xs keys.toList vs hkl hka hv)
  rw [Array.toList_map, e1']
  unfold sortK
  have fin : ∀ {l : List (Int × V)} {m : List Keyed}, Paired (fun (p : Int × V) (q : Keyed) => RelV p.2 q.2) l m → Vals (l.map (·.2)) (m.map (·.2)) := by
    intro l m h
    induction h with
    | nil => exact .nil
    | cons a _ ih => exact .cons a ih
  exact fin srt
theorem key_end {D kS : Addr} {e e1 : Nat} {vs : List Value} {xs : List V} {ks : List Int} {W : Nat → Hp → Prop} {keys : Array Value} {A : Around} {E : Value → Shared → Prop} {P : PySem.Fin → Shared → Prop}
    (hv : Vals xs vs) (hkl : ks.length = xs.length) (hz : xs.length ≤ sizeLine) (hkD : kS ≠ D) (S : KeySt X pins σ D kS e1 ks W xs.length s keys e H)
    (h : ∀ (H1 : Hp) (s' : Shared) (out : Array Value) (c : Nat), Inv X pins σ H1 s' → W xs.length H1 → s'.heap.get? D = some (seqObj "list" out c) → FpOk X pins H1 D → Vals (sortK (ks.zip xs)) out.toList → P (.done (.ret .none)) s') :
    wpAny (model X.prog X.w) A (ksk_end D false vs.toArray e1 (.ref kS) keys) P E s := by
  have hlen := hv.length
  have hka : IntsAre keys.toList ks := by
    have := S.kz
    rw [List.take_of_length_le (by omega)] at this
    exact this
  have hks : keys.size = vs.length := by
    have h1 := hka.length
    rw [Array.length_toList] at h1
    omega
  have hzl : (keys.zip vs.toArray).toList = keys.toList.zip vs := ksk_zip keys vs
  unfold ksk_end
  try dsimp only
  simp only [Bool.false_eq_true, if_false]
  by_cases h2 : vs.toArray.size < 2
  · rw [if_pos h2, if_pos h2]
    refine wpAny_bind (wpAny_pure ?_)
    rw [StateT.run_pure]
    refine wpAny_bind (wpAny_pure ?_)
    try dsimp only
    refine key_tail (st := SortSt.mk' general' (keys.zip vs.toArray) #[] 7 none) hv hkl hz hkD S ?_ ?_ rfl h
    · show Srtd (lt2 ltIv) (keys.zip vs.toArray).toList
      rw [hzl]
      have hl : (keys.toList.zip vs).length < 2 := by
        rw [List.length_zip, Array.length_toList, hks, Nat.min_self]
        simpa using h2
      match keys.toList.zip vs, hl with
      | [], _ => exact List.Pairwise.nil
      | [v], _ => exact List.pairwise_singleton _ _
      | _ :: _ :: l, h => exact absurd h (by rw [List.length_cons, List.length_cons]; omega)
    · show Stb (lt2 ltIv) (keys.zip vs.toArray).toList _
      rw [hzl]
      exact Stb.refl _
  · rw [if_neg h2, if_neg h2]
    rw [List.size_toArray] at h2
    rw [ksk_kind hka (by rw [hks]; omega)]
    refine wpAny_bind (wpAny_pure ?_)
    have hall : AllL (fun p : Keyed => p.1 ∈ keys.toList) (keys.zip vs.toArray).toList := fun p hm => by
      rw [hzl] at hm
      exact zip_fst hm
    refine wpAny_bind (wpAny_mono (wpS_sortO (st0 := SortSt.mk' oneType' (keys.zip vs.toArray) #[] 7 none)
      (Q := fun _ st' => Srtd (lt2 ltIv) (arrOf st').toList ∧ Stb (lt2 ltIv) (arrOf st').toList (keys.toList.zip vs) ∧ failedOf st' = none) (swo2 swo_int) (int_cmp hka) rfl hall rfl rfl fun st' a1 a2 a3 => ⟨a1, by rw [← hzl]; exact a2, a3⟩) ?_ fun _ _ e => e)
    rintro ⟨⟨⟩, st'⟩ s' ⟨rfl, hp1, hp2, hf⟩
    try dsimp only
    exact key_tail hv hkl hz hkD S hp1 hp2 hf h
theorem key_rest {fa D kS : Addr} {e1 : Nat} {vs : List Value} {xs : List V} {ks : List Int} {W : Nat → Hp → Prop} {A : Around} {E : Value → Shared → Prop} {P : PySem.Fin → Shared → Prop}
    (hv : Vals xs vs) (hkl : ks.length = xs.length) (hz : xs.length ≤ sizeLine) (hkD : kS ≠ D) (S : KeySt X pins σ D kS e1 ks W 0 s #[] 0 H)
    (turn : ∀ (i : Nat) (x : V) (k : Int), xs[i]? = some x → ks[i]? = some k → ∀ (pins' : List (Addr × Obj)) (s1 : Shared) (H1 : Hp) (v : Value), Inv X pins' σ H1 s1 → W i H1 → RelV x v → wpAny (model X.prog X.w) A (call (.ref fa) [v]) (EP X pins' σ fun y H2 => y = .int k ∧ W (i + 1) H2) (fun _ _ => False) s1)
    (h : ∀ (H1 : Hp) (s' : Shared) (out : Array Value) (c : Nat), Inv X pins σ H1 s' → W xs.length H1 → s'.heap.get? D = some (seqObj "list" out c) → FpOk X pins H1 D → Vals (sortK (ks.zip xs)) out.toList → P (.done (.ret .none)) s') :
    wpAny (model X.prog X.w) A (ksk_rest D (.ref fa) false vs.toArray e1 (.ref kS)) P E s := by
  have hlen := hv.length
  unfold ksk_rest
  refine wpAny_bind (wpAny_rule ?_)
  first
    | rw [List.forIn_toArray]
    | (rw [← Array.forIn_toList]; simp only [List.toList_toArray])
    | rw [← Array.forIn_toList]
  refine wpAny_bind (ksk_fold (fun i s' => ∃ kA e H', KeySt X pins σ D kS e1 ks W i s' kA e H') vs 0 s ⟨#[], 0, H, S⟩ ?step ?done)
  case step =>
    rintro j v s' hx ⟨kA, e, H', S'⟩
    simp only [Nat.zero_add] at S' ⊢
    have hj : j < vs.length := (List.getElem?_eq_some_iff.mp hx).1
    obtain ⟨k, hkj⟩ : ∃ k, ks[j]? = some k := ⟨_, List.getElem?_eq_getElem (by omega)⟩
    obtain ⟨x, hxj⟩ : ∃ x, xs[j]? = some x := ⟨_, List.getElem?_eq_getElem (by omega)⟩
    obtain ⟨v', hv', rx⟩ := hv.get hxj
    rw [hx] at hv'
    cases hv'
    have hzk : kA.size ≤ vs.length := by
      have h1 := S'.kz.length
      rw [Array.length_toList, List.length_take] at h1
      omega
    have hD : ∀ b ∈ [D, kS], FpOk X pins H' b := fun b hb => by
      have e' : b = D ∨ b = kS := by simpa using hb
      rcases e' with z | z
      · rw [z]; exact S'.fd
      · rw [z]; exact S'.fk
    have IP := S'.inv.pinned (fp := [D, kS]) hD (fun b hb => by
      have e' : b = D ∨ b = kS := by simpa using hb
      rcases e' with z | z
      · rw [z]; exact ⟨_, S'.d, fun v q => by cases q⟩
      · rw [z]; exact ⟨_, S'.k, fun v q => by cases q⟩)
    refine wpAny_bind (wpAny_attempt (wpAny_mono (turn j x k hxj hkj _ s' H' v IP S'.w rx) (fun u s'' he => ?_) fun _ _ hF => hF.elim))
    obtain ⟨y, H2, I2, ry, ey, w2⟩ := he
    subst ey
    obtain ⟨t2, rfl⟩ := ry
    try dsimp only
    have pinD : (D, seqObj "list" #[] e1) ∈ pins ++ pinsAt [D, kS] s'.heap := List.mem_append_right _ (by
      unfold pinsAt
      simp [S'.d])
    have pinK : (kS, seqObj "list" kA e) ∈ pins ++ pinsAt [D, kS] s'.heap := List.mem_append_right _ (by
      unfold pinsAt
      simp [S'.k, S'.d])
    obtain ⟨qD, fD⟩ : s''.heap.get? D = some (seqObj "list" #[] e1) ∧ H2 D = none := ⟨(I2.pin _ (List.mem_append_right _ pinD)).1, (I2.pin _ (List.mem_append_right _ pinD)).2.1⟩
    obtain ⟨qK, fK⟩ : s''.heap.get? kS = some (seqObj "list" kA e) ∧ H2 kS = none := ⟨(I2.pin _ (List.mem_append_right _ pinK)).1, (I2.pin _ (List.mem_append_right _ pinK)).2.1⟩
    have I3 := I2.unpinned
    have FD : FpOk X pins H2 D := ⟨fD, S'.fd.2⟩
    have FK : FpOk X pins H2 kS := ⟨fK, S'.fk.2⟩
    obtain ⟨g, gg, dd, tk, os⟩ := s''
    have s1 := Heap.SameBut.update g kS (Obj.mapSeq (·.push (.int k t2)))
    obtain ⟨c2, hc2⟩ : ∃ c2, (g.update kS (Obj.mapSeq (·.push (.int k t2)))).get? kS = some (seqObj "list" (kA.push (.int k t2)) c2) := ⟨_, get?_update_seq qK (·.push (.int k t2))⟩
    have ek : ks.take (j + 1) = ks.take j ++ [k] := by rw [List.take_add_one, hkj]; simp
    have ea : (kA.push (Value.int k t2)).toList = kA.toList ++ [Value.int k t2] := by simp
    refine wpAny_bind (listUpdate_at qK rfl ?_ (by omega) (Nat.le_trans (Nat.le_of_eq (Array.size_push ..)) (by omega)))
    refine wpAny_pure ⟨rfl, kA.push (.int k t2), c2, H2, ?_, w2, (s1.2 D hkD.symm).trans qD, hc2, FD, FK, by rw [ea, ek]; exact ksk_snoc S'.kz⟩
    exact I3.turnedL (t' := tk) (ch := [kS]) (fun b o hb q => (s1.2 b (fun z => hb (by simp [z]))).trans q) fun b hb => by
      have e' : b = kS := by simpa using hb
      rw [e']; exact FK
  case done =>
    rintro s' ⟨kA, e, H', S'⟩
    rw [Nat.zero_add, ← hlen] at S'
    try dsimp only
    refine wpAny_bind (listItems_at S'.k rfl ?_)
    exact key_end hv hkl hz hkD S' h
theorem sorted_key {fa l : Addr} {xs : List V} {ks : List Int} {W : Nat → Hp → Prop} {Q : VK} (I : Inv X pins σ H s) (hs : SqL X.K H l xs) (hkl : ks.length = xs.length) (w0 : W 0 H)
    (turn : ∀ (i : Nat) (x : V) (k : Int), xs[i]? = some x → ks[i]? = some k → ∀ (pins' : List (Addr × Obj)) (s1 : Shared) (H1 : Hp) (v : Value), Inv X pins' σ H1 s1 → W i H1 → RelV x v → wpAny (model X.prog X.w) X.A.in1.in1 (call (.ref fa) [v]) (EP X pins' σ fun y H2 => y = .int k ∧ W (i + 1) H2) (fun _ _ => False) s1)
    (q : ∀ (H1 : Hp) (p : Addr), W xs.length H1 → H1 p = none → Q (.ref p) (upd H1 p (.lst (sortK (ks.zip xs))))) :
    wpAny (model X.prog X.w) X.A (call (.builtin "sorted") [.ref l] [(Str.ofString "key", .ref fa)]) (EP X pins σ Q) X.xe s := by
  obtain ⟨vs, rv, hl, hz⟩ := I.list hs
  have hlen := rv.length
  have hL := hl.isList
  obtain ⟨hp, g, d, tk, os⟩ := s
  refine call_function_entry_kw kind_sorted plain_sorted entry_sorted (ksk_s1 _ _) ?_
  unfold Builtin.«sorted»
  refine wpAny_bind (m := checkCount "sorted" 1 1 _) (wpAny_pure ?_)
  refine wpAny_bind (collect_list hL ?_ (by omega))
  refine wpAny_bind (wpAny_newList ?_ (by omega))
  have hsz : ((hp.push (seqObj "list" #[] 0)).update hp.objs.size (Obj.mapSeq (· ++ vs.toArray))).objs.size = hp.objs.size + 1 := by
    rw [Heap.size_update, size_push']
  have hoL : (((hp.push (seqObj "list" #[] 0)).update hp.objs.size (Obj.mapSeq (· ++ vs.toArray))).push (seqObj "list" vs.toArray 0)).get? (hp.objs.size + 1) = some (seqObj "list" vs.toArray 0) := by
    rw [← hsz]; exact Heap.get?_push_size _ rfl
  have keep : ∀ b o, hp.get? b = some o → (((hp.push (seqObj "list" #[] 0)).update hp.objs.size (Obj.mapSeq (· ++ vs.toArray))).push (seqObj "list" vs.toArray 0)).get? b = some o := fun b o q => by
    have hlt : b < hp.objs.size := Heap.lt_size q
    rw [Heap.get?_push_ne _ _ _ (by rw [hsz]; exact Nat.ne_of_lt (Nat.lt_succ_of_lt hlt)), Heap.get?_update_ne _ _ _ _ (Nat.ne_of_lt hlt), Heap.get?_push_ne _ _ _ (Nat.ne_of_lt hlt)]
    exact q
  show wpAny _ _ _ _ _ ⟨((hp.push (seqObj "list" #[] 0)).update hp.objs.size (Obj.mapSeq (· ++ vs.toArray))).push (seqObj "list" vs.toArray 0), g, d, tk, os⟩
  dsimp only
  rw [hsz]
  generalize hh1 : ((hp.push (seqObj "list" #[] 0)).update hp.objs.size (Obj.mapSeq (· ++ vs.toArray))).push (seqObj "list" vs.toArray 0) = h1 at hoL keep ⊢
  have hz1 : h1.objs.size = hp.objs.size + 2 := by rw [← hh1, size_push', hsz]
  refine wpAny_bind (wpAny_holding (wpAny_call_entry_kw slot_list_sort ⟨_, hoL, rfl⟩ entry_list_sort ?body (ksk_l1 _ _)))
  case body =>
    show wpAny (model X.prog X.w) X.A.in1.in1 (Builtin.«list.sort» ⟨[.ref (hp.objs.size + 1)], [(Str.ofString "key", .ref fa)]⟩) _ _ _
    rw [ksk_t1]
    generalize hD : hp.objs.size + 1 = D at hoL ⊢
    have hDlt : D < h1.objs.size := by rw [hz1, ← hD]; exact Nat.lt_succ_self _
    have s1 := Heap.SameBut.update h1 D (Obj.mapSeq fun _ => (#[] : Array Value))
    obtain ⟨e1, ho1⟩ : ∃ e1, (h1.update D (Obj.mapSeq fun _ => (#[] : Array Value))).get? D = some (seqObj "list" #[] e1) := ⟨_, get?_update_seq hoL fun _ => #[]⟩
    unfold ksk_tree
    refine wpAny_bind (listItems_at hoL rfl ?_)
    refine wpAny_bind (listUpdate_at hoL rfl ?_ (by rw [List.size_toArray]; omega) (Nat.zero_le _))
    refine wpAny_bind (seqEpoch_at ho1 rfl ?_)
    refine wpAny_bind (wpAny_newTuple ?_ (by show vs.length ≤ _; omega))
    refine wpAny_bind (wpAny_newList ?_ (Nat.zero_le _))
    refine wpAny_holding ?_
    have hkS : ((h1.update D (Obj.mapSeq fun _ => (#[] : Array Value))).push (seqObj "tuple" vs.toArray 0)).objs.size = h1.objs.size + 1 := by rw [size_push', Heap.size_update]
    have keep2 : ∀ b o, hp.get? b = some o → (((h1.update D (Obj.mapSeq fun _ => (#[] : Array Value))).push (seqObj "tuple" vs.toArray 0)).push (seqObj "list" #[] 0)).get? b = some o := fun b o q => by
      refine Heap.get?_push_of_some _ (Heap.get?_push_of_some _ ((s1.2 b ?_).trans (keep b o q)))
      have hlt : b < hp.objs.size := Heap.lt_size q
      rw [← hD]
      exact Nat.ne_of_lt (Nat.lt_succ_of_lt hlt)
    have fresh : ∀ b, hp.objs.size ≤ b → FpOk X pins H b := fun b hb => I.fpOk hb (I.hok.fresh hb)
    refine key_rest (s := ⟨((h1.update D (Obj.mapSeq fun _ => (#[] : Array Value))).push (seqObj "tuple" vs.toArray 0)).push (seqObj "list" #[] 0), g, d, tk, os⟩) (kS := ((h1.update D (Obj.mapSeq fun _ => (#[] : Array Value))).push (seqObj "tuple" vs.toArray 0)).objs.size) (xs := xs) (ks := ks) (W := W) rv hkl hz
      (by rw [hkS]; exact Nat.ne_of_gt (Nat.lt_succ_of_lt hDlt)) ⟨I.kept (t' := tk) keep2, w0, Heap.get?_push_of_some _ (Heap.get?_push_of_some _ ho1), Heap.get?_push_size _ rfl, fresh D (by rw [← hD]; exact Nat.le_succ _), fresh _ (by rw [hkS, hz1]; exact Nat.le_add_right _ 3), .nil⟩ turn ?_
    intro H1 s' out c I1 w1 hout fD hv
    refine ⟨_, rfl, wpAny_pure ⟨.ref D, rfl, .ref D, upd H1 D (.lst (sortK (ks.zip xs))), ?_, rfl, q H1 D w1 fD.1⟩⟩
    have hlo : (sortK (ks.zip xs)).length ≤ sizeLine := by
      unfold sortK
      rw [List.length_map, ((isort_ok (swo_of fun p : Int × V => p.1) (ks.zip xs)).2).len, List.length_zip]
      omega
    have new : ObjOk X.prog X.w (upd H1 D (.lst (sortK (ks.zip xs)))) s'.heap D (.lst (sortK (ks.zip xs))) := ⟨hlo, out.toList, c, hv, by rw [Array.toArray_toList]; exact hout⟩
    exact adopt I1 fD hout new
end
end SR
/-! Sr4: x[::-1], x a list or a tuple. -/
namespace SR
open PySem PySem.Spec PyProof.Rows L2 HT
section
variable {prog : Program} {w : World} {A : Around} {E : Value → Shared → Prop} {s : Shared}
theorem sliceApplied_rev {sl : Addr} {vl vu vs : Value} {n : Nat} {Q : Int × Int × Nat → Shared → Prop} (hs : s.heap.IsSliceOf sl vl vu vs) (pl : IsPart vl none) (pu : IsPart vu none) (ps : IsPart vs (some (-1)))
    (h : Q ((n : Int) - 1, -1, n) s) : wpAny (model prog w) A (Builtin.Slice.sliceApplied (.ref sl) (pure (n : Int))) Q E s := by
  obtain ⟨os, hos, hcs, hds⟩ := id hs
  unfold Builtin.Slice.sliceApplied Builtin.Slice.sliceFields
  refine wpAny_bind (wpAny_bind (wpAny_field hos hds (x := vl) rfl (wpAny_bind (wpAny_field hos hds (x := vu) rfl (wpAny_bind (wpAny_field hos hds (x := vs) rfl (wpAny_pure ?_)))))))
  refine wpAny_bind (slicePart_ ps ?_)
  show wpAny _ _ (if ((-1 : Int) == 0) = true then _ else _) _ _ s
  rw [if_neg (by decide)]
  refine wpAny_bind (slicePart_ pl (wpAny_bind (slicePart_ pu (wpAny_bind (wpAny_pure ?_)))))
  show wpAny _ _ (match Builtin.Slice.sliceAdjust none none (-1) (n : Int) with | (lo, hi) => pure (lo, (-1 : Int), Builtin.Slice.slicePlaces lo hi (-1))) _ _ s
  have e : Builtin.Slice.sliceAdjust none none (-1) (n : Int) = ((n : Int) - 1, -1) := by
    unfold Builtin.Slice.sliceAdjust
    simp
  rw [e]
  show wpAny _ _ (pure ((n : Int) - 1, (-1 : Int), Builtin.Slice.slicePlaces ((n : Int) - 1) (-1) (-1))) _ _ s
  have e2 : Builtin.Slice.slicePlaces ((n : Int) - 1) (-1) (-1) = n := by
    unfold Builtin.Slice.slicePlaces
    rw [if_neg (by decide)]
    by_cases hn : n = 0
    · subst hn; rfl
    · rw [if_pos (by omega), show -(-1 : Int) = 1 by decide, Int.ediv_one]
      omega
  rw [e2]
  exact wpAny_pure h
theorem fm_congr {α β : Type} {f g : α → Option β} : ∀ {l : List α}, (∀ m ∈ l, f m = g m) → l.filterMap f = l.filterMap g
  | [], _ => rfl
  | x :: l, h => by
    rw [List.filterMap_cons, List.filterMap_cons, h x List.mem_cons_self, fm_congr fun m hm => h m (List.mem_cons_of_mem _ hm)]
theorem pick_rev (xs : Array Value) : ((List.range xs.size).filterMap fun (m : Nat) => xs[(((xs.size : Int) - 1) + (m : Int) * (-1)).toNat]?).toArray = xs.toList.reverse.toArray := by
  have e : (List.range xs.size).filterMap (fun (m : Nat) => xs[(((xs.size : Int) - 1) + (m : Int) * (-1)).toNat]?) = ((List.range xs.size).map fun k => xs.size - 1 - k).filterMap (xs[·]?) := by
    rw [List.filterMap_map]
    refine fm_congr fun m hm => ?_
    have := List.mem_range.mp hm
    show xs[_]? = xs[_]?
    have e1 : (((xs.size : Int) - 1) + (m : Int) * (-1)).toNat = xs.size - 1 - m := by omega
    rw [e1]
  rw [e, PySem.W.krv_range, List.filterMap_reverse, PySem.W.krv_all]
theorem getItem_tuple_rev {t sl : Addr} {items : Array Value} {vl vu vs : Value} {Q : Value → Shared → Prop} (ht : IsTup s.heap t items) (hs : s.heap.IsSliceOf sl vl vu vs) (pl : IsPart vl none) (pu : IsPart vu none) (ps : IsPart vs (some (-1)))
    (h : Q (.ref s.heap.objs.size) { s with heap := s.heap.push { cls := .type "tuple", data := .seq items.toList.reverse.toArray } }) (hsz : items.size ≤ sizeLine) : wpAny (model prog w) A (getItem (.ref t) (.ref sl)) Q E s := by
  have htake : sizeOk (.seq items.toList.reverse.toArray) := by
    show items.toList.reverse.toArray.size ≤ sizeLine
    rw [List.size_toArray, List.length_reverse, Array.length_toList]
    exact hsz
  obtain ⟨os, hos, hcs, hds⟩ := id hs
  have hTs : s.TypeIs (.ref sl) "slice" := ⟨os, hos, hcs⟩
  unfold getItem
  try with_reducible refine wpAny_holding ?_
  first | refine wpAny_bind (wpAny_pure ?_) | skip
  refine wpAny_bind (wpAny_sequenceKey ht.typeIs (by decide) ?_)
  refine wpAny_bind (wpAny_callSpecial?_slot (name := Str.ofString "__getitem__") ht.typeIs PyProof.Rows.slot_tuple_getitem
    (wpAny_call_entry PyProof.Rows.slot_tuple_getitem ht.typeIs entry_tuple_getitem ?_ (args_tuple_getitem _ _)))
  show wpAny _ _ (Builtin.Tuple.tupleItemsOf (.ref t) >>= _) _ _ s
  refine wpAny_bind (tupleItemsOf_ ht ?_)
  refine wpAny_bind (wpAny_typeOf hTs ?_)
  rw [if_pos (by decide)]
  refine wpAny_bind (sliceApplied_rev hs pl pu ps ?_)
  have hno : ¬ ((((items.size : Int) - 1) == 0 && (-1 : Int) == 1 && items.size == items.size) = true) := by
    intro q
    rw [Bool.and_eq_true, Bool.and_eq_true] at q
    exact absurd q.1.2 (by decide)
  show wpAny _ _ (if (((items.size : Int) - 1) == 0 && (-1 : Int) == 1 && items.size == items.size) = true then _ else _) _ _ s
  rw [if_neg hno, pick_rev]
  first
    | exact wpAny_bind (m := Builtin.Tuple.tupleExact _) (wpAny_newObj_type (wpAny_pure ⟨_, rfl, wpAny_pure h⟩) htake)
    | exact wpAny_bind (m := Builtin.Tuple.tupleExact _) (wpAny_newObj_type (wpAny_bind (wpAny_pure (wpAny_pure ⟨_, rfl, wpAny_pure h⟩))) htake)
    | exact wpAny_bind (wpAny_bind (m := Builtin.Tuple.tupleExact _) (wpAny_newObj_type (wpAny_pure (wpAny_pure ⟨_, rfl, wpAny_pure h⟩)) htake))
    | exact wpAny_bind (wpAny_bind (m := Builtin.Tuple.tupleExact _) (wpAny_newObj_type (wpAny_pure ⟨_, rfl, wpAny_pure h⟩) htake))
end
section
variable {X : Cx}
def tRevA (K : PySem.W.Frag) (te : TE) : TE := fun σ H Q => te σ H fun x H1 => ∃ a xs, x = .ref a ∧ ((SqL K H1 a xs ∧ ∀ p, H1 p = none → Q (.ref p) (upd H1 p (.lst xs.reverse))) ∨ (SqT K H1 a xs ∧ ∀ p, H1 p = none → Q (.ref p) (upd H1 p (.tup xs.reverse))))
theorem pe_revA {e : Expr} {te : TE} {k : Nat} {p1 p2 p3 pos : Pos} (he : PE X e te) : PE X (.Subscript e (.Slice none none (some (.UnaryOp .USub (.Constant (.int 1) k p1) p2)) p3) pos) (tRevA X.K te) := by
  refine ⟨fun pins s σ H Q I h => ?_⟩
  refine Subscript_ (thn (he.run pins s σ H _ I h) fun v s1 ⟨x, H1, I1, r1, q1⟩ => ?_)
  obtain ⟨a, xs, ex, q1⟩ := q1
  subst ex
  cases r1
  have hst : PO X (some (.UnaryOp .USub (.Constant (.int 1) k p1) p2)) (tPart (tUn (rU fun i => .int (-i)) (tC (.int 1)))) := po_some (pe_un un_neg pe_int)
  refine wpAny_Slice (thn (po_none.run pins s1 σ H1 (fun o H2 => o = none ∧ H2 = H1) I1 ⟨rfl, rfl⟩) fun vl s2 ⟨l, H2, I2, pl, el, e2⟩ => ?_)
  subst el e2
  refine thn (po_none.run pins s2 σ H2 (fun o H3 => o = none ∧ H3 = H2) I2 ⟨rfl, rfl⟩) fun vu s3 ⟨u, H3, I3, pu, eu, e3⟩ => ?_
  subst eu e3
  refine thn (hst.run pins s3 σ H3 (fun o H4 => o = some (-1) ∧ H4 = H3) I3 ⟨1, rfl, -1, rfl, rfl, rfl⟩) fun vs s4 ⟨o, H4, I4, ps, eo, e4⟩ => ?_
  subst eo e4
  have I5 : Inv X pins σ H4 { s4 with heap := s4.heap.push { cls := .type "slice", data := .fields #[vl, vu, vs] } } := I4.kept (t' := s4.toks) fun b ob q => Heap.get?_push_of_some _ q
  show wpAny (model X.prog X.w) X.A (subscriptTail e (.Slice none none (some (.UnaryOp .USub (.Constant (.int 1) k p1) p2)) p3) (.ref a) (.ref s4.heap.objs.size)) (EP X pins σ Q) X.xe { s4 with heap := s4.heap.push { cls := .type "slice", data := .fields #[vl, vu, vs] } }
  rcases q1 with ⟨hx, q⟩ | ⟨hx, q⟩
  · obtain ⟨its, r, ht, hz⟩ := I5.list hx
    have hlen := r.length
    refine tail_any (ops := [.ref a, .ref s4.heap.objs.size]) ht.isList.typeIs (PySem.slot_list_getitem.lookup) ?_ (by with_unfolding_all rfl)
    refine wpAny_getItem_list_slice ht.isList (Heap.IsSliceOf.new _ vl vu vs) pl pu ps (by decide) ?_ (by rw [List.size_toArray]; omega)
    rw [PySem.W.krv_pick]
    refine ⟨.ref _, _, I5.laid (t' := s4.toks) (o := .lst xs.reverse) (fun b ob q => Heap.get?_push_of_some _ q) (Nat.le_refl _) ?_, rfl, q _ (I5.hok.fresh (Nat.le_refl _))⟩
    exact ⟨by rw [List.length_reverse]; exact hz, _, 0, r.reverse, Heap.get?_push_size _ rfl⟩
  · obtain ⟨its, r, ht, hz⟩ := I5.tuple hx
    have hlen := r.length
    refine tail_any (ops := [.ref a, .ref s4.heap.objs.size]) ht.typeIs (PyProof.Rows.slot_tuple_getitem.lookup) ?_ (by with_unfolding_all rfl)
    refine getItem_tuple_rev ht (Heap.IsSliceOf.new _ vl vu vs) pl pu ps ?_ (by rw [List.size_toArray]; omega)
    refine ⟨.ref _, _, I5.laid (t' := s4.toks) (o := .tup xs.reverse) (fun b ob q => Heap.get?_push_of_some _ q) (Nat.le_refl _) ?_, rfl, q _ (I5.hok.fresh (Nat.le_refl _))⟩
    exact ⟨by rw [List.length_reverse]; exact hz, _, r.reverse, IsTup.new _ _⟩
end
end SR
/-! Sr5: walks over lists and tuples alike: for x in s, enumerate(s), zip(s, t). -/
namespace SR
open PySem PySem.Spec PyProof.Rows L2

/-- a list (true) or a tuple -/
def SqB (K : PySem.W.Frag) (b : Bool) (H : Hp) (a : Addr) (xs : List V) : Prop := match b with
  | true => SqL K H a xs
  | false => SqT K H a xs
def ItB (b : Bool) (h : Heap) (it a : Addr) (i : Nat) : Prop := match b with
  | true => h.IsListIter it a i
  | false => h.IsTupleIter it a i
def StB (b : Bool) (h : Heap) (a : Addr) (its : Array Value) : Prop := match b with
  | true => h.IsList a its
  | false => h.IsTuple a its
def itObj (b : Bool) (a : Addr) : Obj := match b with
  | true => { cls := .type "list_iterator", data := .fields #[.ref a, .int 0 0] }
  | false => { cls := .type "tuple_iterator", data := .fields #[.ref a, .int 0 0] }
theorem begB (b : Bool) (a : Addr) (its : Array Value) : Begins (.ref a) (itObj b a) fun h => StB b h a its := by
  cases b
  · exact begins_tuple a its
  · exact begins_list a its
theorem ItB.start {b : Bool} {h : Heap} {it a : Addr} (e : h.get? it = some (itObj b a)) : ItB b h it a 0 := by
  cases b
  · exact ⟨_, e, rfl, rfl⟩
  · exact ⟨_, e, rfl, rfl⟩
theorem ItB.obj {b : Bool} {h : Heap} {it a : Addr} {i : Nat} (x : ItB b h it a i) : ∃ o, h.get? it = some o ∧ ∀ v, o.data ≠ .cell v := by
  cases b
  · obtain ⟨o, ho, hc, hd⟩ := x
    exact ⟨o, ho, fun v q => by rw [hd] at q; cases q⟩
  · obtain ⟨o, ho, hc, hd⟩ := x
    exact ⟨o, ho, fun v q => by rw [hd] at q; cases q⟩
theorem ItB.at {b : Bool} {h h' : Heap} {it a : Addr} {i : Nat} (x : ItB b h it a i) (k : ∀ o, h.get? it = some o → h'.get? it = some o) : ItB b h' it a i := by
  cases b
  · exact Heap.IsTupleIter.at x k
  · exact Heap.IsListIter.at x k
theorem drB {prog : Program} {w : World} {A : Around} (b : Bool) (hh : A.handled = none) (it a : Addr) (hne : a ≠ it) (items : Array Value) :
    Draws prog w A it [it, a] items.size (fun i v => items[i]? = some v) (fun i h => ItB b h it a i ∧ StB b h a items) := by
  cases b
  · exact Draws.tuple hh it a hne items
  · exact Draws.list hh it a hne items
section
variable {X : Cx} {pins : List (Addr × Obj)} {σ : L2.St} {H : Hp} {s : Shared} {a : Addr} {xs ys : List V} {b : Bool}
theorem inv_sqB (I : Inv X pins σ H s) (h : SqB X.K b H a xs) : ∃ its : List Value, Vals xs its ∧ StB b s.heap a its.toArray ∧ xs.length ≤ sizeLine ∧ a < s.heap.objs.size := by
  cases b
  · obtain ⟨its, rv, p, hz⟩ := I.tuple h
    have hT : s.heap.IsTuple a its.toArray := p
    exact ⟨its, rv, hT, hz, by obtain ⟨_, q, _⟩ := id hT; exact Heap.lt_size q⟩
  · obtain ⟨its, rv, p, hz⟩ := I.list h
    exact ⟨its, rv, p.isList, hz, p.lt⟩
theorem inv_sqB_inj (I : Inv X pins σ H s) (h : SqB X.K b H a xs) (h' : SqB X.K b H a ys) : xs = ys := by
  cases b
  · exact I.tuple_inj h h'
  · exact I.list_inj h h'
end
/-! ### for x in s -/
def iSeqA (K : PySem.W.Frag) (te : TE) : TI := fun σ H R => te σ H fun x H1 => ∃ a, x = .ref a ∧ (((∃ xs, SqL K H1 a xs) ∧ R (Itl K a) H1) ∨ ((∃ xs, SqT K H1 a xs) ∧ R (Itt K a) H1))
theorem pi_seqA {X : Cx} {tg l : Expr} {tl : TE} (hl : PE X l tl) : PI X tg l (iSeqA X.K tl) := by
  refine ⟨fun pins s σ H R I h => ?_⟩
  refine thn (hl.run pins s σ H _ I h) fun v s1 ⟨x, H1, I1, r1, q1⟩ => ?_
  obtain ⟨a, e, q⟩ := q1
  subst e
  cases r1
  rcases q with ⟨⟨xs, hq⟩, q⟩ | ⟨⟨xs, hq⟩, q⟩
  · obtain ⟨its, rv, p, hz⟩ := I1.list hq
    refine wpAny_pyIter_list p.isList ?_
    refine ⟨s1.heap.objs.size, [s1.heap.objs.size], _, _, H1, rfl, I1.kept (t' := s1.toks) fun b o e => Heap.get?_push_of_some _ e, turn_list a _, ⟨_, Heap.get?_push_size _ rfl, rfl, rfl⟩, fun b hb => ?_, q⟩
    have e : b = s1.heap.objs.size := by simpa using hb
    subst e
    exact I1.fpOk (Nat.le_refl _) (I1.hok.fresh (Nat.le_refl _))
  · obtain ⟨its, rv, p, hz⟩ := I1.tuple hq
    refine wpAny_pyIter_tuple (show s1.heap.IsTuple a its.toArray from p) ?_
    refine ⟨s1.heap.objs.size, [s1.heap.objs.size], _, _, H1, rfl, I1.kept (t' := s1.toks) fun b o e => Heap.get?_push_of_some _ e, turn_tuple a _, ⟨_, Heap.get?_push_size _ rfl, rfl, rfl⟩, fun b hb => ?_, q⟩
    have e : b = s1.heap.objs.size := by simpa using hb
    subst e
    exact I1.fpOk (Nat.le_refl _) (I1.hok.fresh (Nat.le_refl _))
/-! ### enumerate(s) -/
def iEnumA (K : PySem.W.Frag) (ta : TA) : TI := fun σ H R => ta σ H fun vs H1 => ∃ a xs, vs = [.ref a] ∧ ((SqL K H1 a xs ∧ R (Ite K a) H1) ∨ (SqT K H1 a xs ∧ R (IteT K a) H1))
theorem pi_enumA {X : Cx} {e : Expr} {ta : TA} {p pos tpos : Pos} {elts : List Expr} {kk : Nat} (hg : Gl X "enumerate") (hm : X.mg "enumerate" = none) (ha : PA X [e] ta) (hs : starEach [e] X.env = [(false, eval e X.env)] := by rfl) :
    PI X (.Tuple elts kk tpos) (.Call (.Name "enumerate" p) [e] [] pos) (iEnumA X.K ta) := by
  refine ⟨fun pins s σ H R I h => ?_⟩
  refine Call_ (ld_blt I hg hm boot_enumerate (PyProof.Rows.callWith_type1 (thn (ha.run pos pins s σ H _ I h) fun us s1 ⟨vs, H1, I1, r1, q1⟩ => ?_) hs rfl))
  obtain ⟨a, xs, ex, q⟩ := q1
  subst ex
  cases r1 with
  | cons r rr =>
    cases rr
    cases r
    have fresh2 : ∀ b ∈ [s1.heap.objs.size + 1, s1.heap.objs.size], FpOk X pins H1 b := fun b hb => by
      have e' : b = s1.heap.objs.size + 1 ∨ b = s1.heap.objs.size := by simpa using hb
      have hle : s1.heap.objs.size ≤ b := by
        rcases e' with z | z
        · rw [z]; exact Nat.le_add_right _ _
        · rw [z]; exact Nat.le_refl _
      exact I1.fpOk hle (I1.hok.fresh hle)
    rcases q with ⟨hq, q⟩ | ⟨hq, q⟩
    · obtain ⟨its, rv, p', hz⟩ := I1.list hq
      refine call_enumerate_list p'.isList fun h' he hit hsz hk => wpAny_pyIter_enum he ?_
      have I2 : Inv X pins σ H1 { s1 with heap := h' } := I1.kept (t' := s1.toks) hk
      exact ⟨s1.heap.objs.size + 1, [s1.heap.objs.size + 1, s1.heap.objs.size], _, _, H1, rfl, I2, turn_enum a (s1.heap.objs.size + 1) s1.heap.objs.size, ⟨⟨.none, he⟩, hit, Nat.succ_ne_self _⟩, fresh2, q⟩
    · obtain ⟨its, rv, p', hz⟩ := I1.tuple hq
      have hT : s1.heap.IsTuple a its.toArray := p'
      have hal : a < s1.heap.objs.size := by obtain ⟨_, q, _⟩ := id hT; exact Heap.lt_size q
      refine enum_begins1 (begins_tuple a its.toArray) hT fun h' he hit hsz hk => wpAny_pyIter_enum he ?_
      have I2 : Inv X pins σ H1 { s1 with heap := h' } := I1.kept (t' := s1.toks) hk
      exact ⟨s1.heap.objs.size + 1, [s1.heap.objs.size + 1, s1.heap.objs.size], _, _, H1, rfl, I2, turn_enumT a (s1.heap.objs.size + 1) s1.heap.objs.size (Nat.ne_of_gt (Nat.lt_succ_of_lt hal)) (Nat.ne_of_gt hal), ⟨⟨.none, he⟩, ⟨_, hit, rfl, rfl⟩, Nat.succ_ne_self _⟩, fresh2, q⟩
/-! ### zip(s, t) -/
def ItzA (K : PySem.W.Frag) (a b : Addr) (ka kb : Bool) (xs ys : List V) : It :=
  ⟨fun i H => i < xs.length ∧ i < ys.length ∧ SqB K ka H a xs ∧ SqB K kb H b ys,
    fun i H v H' => ∃ T x y, v = .ref T ∧ H T = none ∧ H' = upd H T (.tup [x, y]) ∧ xs[i]? = some x ∧ ys[i]? = some y,
    fun i H => i ≤ xs.length ∧ i ≤ ys.length ∧ (i = xs.length ∨ i = ys.length) ∧ SqB K ka H a xs ∧ SqB K kb H b ys⟩
structure Apt (z TI TO i1 i2 a b : Addr) : Prop where
  TIz : TI ≠ z
  TOz : TO ≠ z
  TITO : TI ≠ TO
  TIi1 : TI ≠ i1
  TIi2 : TI ≠ i2
  zi1 : z ≠ i1
  zi2 : z ≠ i2
  za : z ≠ a
  zb : z ≠ b
  Ti1 : TO ≠ i1
  Ti2 : TO ≠ i2
  Ta : TO ≠ a
  Tb : TO ≠ b
  i12 : i1 ≠ i2
  i1a : a ≠ i1
  i1b : i1 ≠ b
  i2a : i2 ≠ a
  i2b : b ≠ i2
theorem Apt.sep {z TI TO i1 i2 a b : Addr} (D : Apt z TI TO i1 i2 a b) : ZipSep2 z TI TO i1 i2 [i1, a] [i2, b] :=
  { TIz := D.TIz, TOz := D.TOz, TITO := D.TITO, TIi1 := D.TIi1, mem1 := by simp, zf1 := by simp [D.zi1, D.za], Tf1 := by simp [D.Ti1, D.Ta], TIi2 := D.TIi2, mem2 := by simp, zf2 := by simp [D.zi2, D.zb], Tf2 := by simp [D.Ti2, D.Tb],
    sep1_2 := by simp [D.i12, D.i1b], sep2_1 := by simp [Ne.symm D.i12, D.i2a] }
theorem turn_zipA {P : Program} {w : World} {K : PySem.W.Frag} {elts : List Expr} {kk : Nat} {tpos : Pos} {a b z TI TO i1 i2 : Addr} {ka kb : Bool} {xs ys : List V} (D : Apt z TI TO i1 i2 a b) :
    Turn P w K (.Tuple elts kk tpos) (ItzA K a b ka kb xs ys) [z, TI, TO, i1, i2] z (fun i h => IsZip h z TI TO .none ∧ IsTupOf2 h TI (.ref i1) (.ref i2) ∧ (∃ x y, IsTupOf2 h TO x y) ∧ ItB ka h i1 a i ∧ ItB kb h i2 b i) where
  mem := by simp
  obj := fun i h st c hc => by
    obtain ⟨hz, hTI, ⟨x, y, hTO⟩, h1, h2⟩ := st
    have e' : c = z ∨ c = TI ∨ c = TO ∨ c = i1 ∨ c = i2 := by simpa using hc
    rcases e' with q | q | q | q | q
    · rw [q]; exact ⟨_, hz, fun v q => nomatch q⟩
    · rw [q]; exact ⟨_, hTI, fun v q => nomatch q⟩
    · rw [q]; exact ⟨_, hTO, fun v q => nomatch q⟩
    · rw [q]; exact h1.obj
    · rw [q]; exact h2.obj
  keep := fun i h h' st k => by
    obtain ⟨hz, hTI, ⟨x, y, hTO⟩, h1, h2⟩ := st
    exact ⟨k z (by simp) _ hz, k TI (by simp) _ hTI, ⟨x, y, k TO (by simp) _ hTO⟩, h1.at fun o q => k i1 (by simp) o q, h2.at fun o q => k i2 (by simp) o q⟩
  item := by
    intro X hP hw hK hc i pins s σ H E I hf st hg
    subst hP hw hK
    obtain ⟨hz, hTI, ⟨x0, y0, hTO⟩, h1, h2⟩ := st
    obtain ⟨lx, ly, hqx, hqy⟩ := hg
    obtain ⟨its, rv, p, _, _⟩ := inv_sqB I hqx
    obtain ⟨its2, rv2, p2, _, _⟩ := inv_sqB I hqy
    have hx : xs[i]? = some xs[i] := List.getElem?_eq_getElem lx
    have hy : ys[i]? = some ys[i] := List.getElem?_eq_getElem ly
    obtain ⟨u, hu, ru⟩ := rv.get hx
    obtain ⟨u2, hu2, ru2⟩ := rv2.get hy
    have hzl : z < s.heap.objs.size := Heap.lt_size hz
    have l1 := rv.length
    have l2 := rv2.length
    have D1 := drB (prog := X.prog) (w := X.w) (A := X.A.in1) ka (show X.A.in1.handled = none from I.ok.hd hc) i1 a D.i1a its.toArray
    have D2 := drB (prog := X.prog) (w := X.w) (A := X.A.in1) kb (show X.A.in1.handled = none from I.ok.hd hc) i2 b D.i2b its2.toArray
    refine wpAny_pyNext_zipD2_item D.sep D1 D2 hz hTI hTO ⟨h1, p⟩ ⟨h2, p2⟩ (by rw [List.size_toArray]; omega) (by rw [List.size_toArray]; omega) fun x1 x2 h' tk P1 P2 z' TO' s1' s2' hT hsz hk => ?_
    have ex1 : x1 = u := by
      have e : its.toArray[i]? = some u := by simpa using hu
      rw [e] at P1
      exact (Option.some.inj P1).symm
    have ex2 : x2 = u2 := by
      have e : its2.toArray[i]? = some u2 := by simpa using hu2
      rw [e] at P2
      exact (Option.some.inj P2).symm
    subst ex1 ex2
    refine ⟨_, rfl, wpAny_letOwnedTupleGo_zip (s := { s with heap := h', toks := tk }) z' fun h'' z'' sb => ?_⟩
    have hT2 : h''.get? s.heap.objs.size = some { cls := .type "tuple", data := .seq #[x1, x2] } := (sb.2 _ (Nat.ne_of_gt hzl)).trans hT
    have new : ObjOk X.prog X.w (upd H s.heap.objs.size (.tup [xs[i], ys[i]])) h'' s.heap.objs.size (.tup [xs[i], ys[i]]) :=
      ⟨by show 2 ≤ sizeLine; decide, [x1, x2], .cons ru (.cons ru2 .nil), ⟨_, hT2, rfl, _, rfl⟩⟩
    have I1 : Inv X pins σ (upd H s.heap.objs.size (.tup [xs[i], ys[i]])) { s with heap := h'', toks := tk } :=
      I.turnedNew (t' := tk) (ch := [z, TI, TO, i1, i2]) (fun c o hb q => (sb.2 c (fun q' => hb (by simp [q']))).trans (hk c o (fun q' => hb (by simp [q'])) (fun q' => hb (by simp [q'])) (fun q' => hb (by simp [q'])) (fun q' => hb (by simp [q'])) q)) hf (Nat.le_refl _) new
    refine ⟨.ref s.heap.objs.size, _, I1, rfl, ⟨_, xs[i], ys[i], rfl, I.hok.fresh (Nat.le_refl _), rfl, hx, hy⟩, ⟨z'', ?_, ⟨x1, x2, ?_⟩, ?_, ?_⟩, fun c hcm => ?_⟩
    · exact (sb.2 _ D.TIz).trans (hk _ _ D.TIz D.TITO D.TIi1 D.TIi2 hTI)
    · exact (sb.2 _ D.TOz).trans TO'
    · exact s1'.1.at fun o q => (sb.2 _ (Ne.symm D.zi1)).trans q
    · exact s2'.1.at fun o q => (sb.2 _ (Ne.symm D.zi2)).trans q
    · have hlt : c < s.heap.objs.size := by
        have e' : c = z ∨ c = TI ∨ c = TO ∨ c = i1 ∨ c = i2 := by simpa using hcm
        rcases e' with q | q | q | q | q
        · rw [q]; exact hzl
        · rw [q]; exact Heap.lt_size hTI
        · rw [q]; exact Heap.lt_size hTO
        · rw [q]; obtain ⟨_, e1, _⟩ := h1.obj; exact Heap.lt_size e1
        · rw [q]; obtain ⟨_, e2, _⟩ := h2.obj; exact Heap.lt_size e2
      rw [upd_ne (Nat.ne_of_lt hlt)]
      exact (hf c hcm).1
  done := by
    intro X hP hw hK hc i pins s σ H E I hf st hg
    subst hP hw hK
    obtain ⟨hz, hTI, ⟨x0, y0, hTO⟩, h1, h2⟩ := st
    obtain ⟨lx, ly, hend, hqx, hqy⟩ := hg
    obtain ⟨its, rv, p, _, _⟩ := inv_sqB I hqx
    obtain ⟨its2, rv2, p2, _, _⟩ := inv_sqB I hqy
    have l1 := rv.length
    have l2 := rv2.length
    have D1 := drB (prog := X.prog) (w := X.w) (A := X.A.in1) ka (show X.A.in1.handled = none from I.ok.hd hc) i1 a D.i1a its.toArray
    have D2 := drB (prog := X.prog) (w := X.w) (A := X.A.in1) kb (show X.A.in1.handled = none from I.ok.hd hc) i2 b D.i2b its2.toArray
    exact wpAny_pyNext_zipD2_end D.sep D1 D2 hz hTI hTO ⟨h1, p⟩ ⟨h2, p2⟩ (by rw [List.size_toArray]; omega) (by rw [List.size_toArray]; omega) (by rw [List.size_toArray, List.size_toArray]; omega) fun h' tk hk => ⟨rfl, I.turnedL (t' := tk) (ch := [z, TI, TO, i1, i2]) (fun c o hb q =>
      hk c o (fun q' => hb (by simp [q'])) (fun q' => hb (by simp [q'])) (fun q' => hb (by simp [q'])) (fun q' => hb (by simp [q'])) q) hf⟩
  self := fun A i s Q E st h => wpAny_pyIter_zip st.1 h
def iZipX (K : PySem.W.Frag) (ta : TA) : TI := fun σ H R => ta σ H fun vs H1 => ∃ a b ka kb xs ys, vs = [.ref a, .ref b] ∧ SqB K ka H1 a xs ∧ SqB K kb H1 b ys ∧ R (ItzA K a b ka kb xs ys) H1
theorem apt_of (I a b : Nat) (h1 : a < I) (h2 : b < I) : Apt (I + 4) (I + 2) (I + 3) I (I + 1) a b := by
  constructor <;> (intro e; have e : (_ : Nat) = _ := e; omega)
theorem pi_zipX {X : Cx} {e e2 : Expr} {ta : TA} {p pos tpos : Pos} {elts : List Expr} {kk : Nat} (hg : Gl X "zip") (hm : X.mg "zip" = none) (ha : PA X [e, e2] ta)
    (hs : starEach [e, e2] X.env = (false, eval e X.env) :: starEach [e2] X.env := by rfl) (hpl : (backTo pos (starEach [e2] X.env)).any (·.1) = false := by rfl) :
    PI X (.Tuple elts kk tpos) (.Call (.Name "zip" p) [e, e2] [] pos) (iZipX X.K ta) := by
  refine ⟨fun pins s σ H R I h => ?_⟩
  refine Call_ (ld_blt I hg hm PyProof.Rows.boot_zip (PyProof.Rows.callWith_type1 (thn (ha.run pos pins s σ H _ I h) fun us s1 ⟨vs, H1, I1, r1, q1⟩ => ?_) hs hpl))
  obtain ⟨a, b, ka, kb, xs, ys, ex, hqx, hqy, q⟩ := q1
  subst ex
  cases r1 with
  | cons r rr =>
    cases rr with
    | cons r' rr =>
      cases rr
      cases r
      cases r'
      obtain ⟨its, rv, p1, _, hal⟩ := inv_sqB I1 hqx
      obtain ⟨its2, rv2, p2, _, hbl⟩ := inv_sqB I1 hqy
      have fresh5 : ∀ c, c ∈ [s1.heap.objs.size + 4, s1.heap.objs.size + 2, s1.heap.objs.size + 3, s1.heap.objs.size, s1.heap.objs.size + 1] → FpOk X pins H1 c := fun c hcm => by
        have e' : c = s1.heap.objs.size + 4 ∨ c = s1.heap.objs.size + 2 ∨ c = s1.heap.objs.size + 3 ∨ c = s1.heap.objs.size ∨ c = s1.heap.objs.size + 1 := by simpa using hcm
        have hle : s1.heap.objs.size ≤ c := by
          rcases e' with z | z | z | z | z
          · rw [z]; exact Nat.le_add_right _ _
          · rw [z]; exact Nat.le_add_right _ _
          · rw [z]; exact Nat.le_add_right _ _
          · rw [z]; exact Nat.le_refl _
          · rw [z]; exact Nat.le_add_right _ _
        exact I1.fpOk hle (I1.hok.fresh hle)
      refine zip_begins2 (begB ka a its.toArray) (begB kb b its2.toArray) p1 p2 fun h' hz hTI hTO h1 h2 hsz hk => wpAny_pyIter_zip hz ?_
      have I2 : Inv X pins σ H1 { s1 with heap := h' } := I1.kept (t' := s1.toks) hk
      exact ⟨s1.heap.objs.size + 4, [s1.heap.objs.size + 4, s1.heap.objs.size + 2, s1.heap.objs.size + 3, s1.heap.objs.size, s1.heap.objs.size + 1], _, _, H1, rfl, I2, turn_zipA (apt_of s1.heap.objs.size a b hal hbl), ⟨hz, hTI, ⟨_, _, hTO⟩, .start h1, .start h2⟩, fresh5, q⟩
end SR
/-! Sg1: data, slots, how data stand in the abstract heap, steps. -/
namespace SG
open PySem L2

/-- data: what is never changed while it is known as data -/
inductive D where
  | non
  | bl (b : Bool)
  | int (i : Int)
  | str (x : Str)
  | tup (l : List D)
  | lst (l : List D)
  | dic

/-- an error of the program's own: its class, the attribute that it keeps -/
structure Exn where
  cls : Str
  kept : Option (Str × D)

/-- what a slot holds: nothing, data, or a list that is this def's own (m: lent by the caller) -/
inductive S where
  | un
  | val (d : D)
  | own (m : Bool) (ds : List D)

mutual
inductive Rp (K : PySem.W.Frag) (G : Hp) : V → D → Prop
  | non : Rp K G .non .non
  | bl (b : Bool) : Rp K G (.bl b) (.bl b)
  | int (i : Int) : Rp K G (.int i) (.int i)
  | str (x : Str) : Rp K G (.str x) (.str x)
  | tup {a : Addr} {xs : List V} {ds : List D} : SqT K G a xs → Rps K G xs ds → Rp K G (.ref a) (.tup ds)
  | lst {a : Addr} {xs : List V} {ds : List D} : SqL K G a xs → Rps K G xs ds → Rp K G (.ref a) (.lst ds)
  | dic {a : Addr} {kvs : List (L2.Key × V)} : G a = some (.dK kvs) → Rp K G (.ref a) .dic
inductive Rps (K : PySem.W.Frag) (G : Hp) : List V → List D → Prop
  | nil : Rps K G [] []
  | cons {v : V} {vs : List V} {d : D} {ds : List D} : Rp K G v d → Rps K G vs ds → Rps K G (v :: vs) (d :: ds)
end

def Sub (G H : Hp) : Prop := ∀ b o, G b = some o → H b = some o
theorem Sub.refl (G : Hp) : Sub G G := fun _ _ h => h
theorem Sub.trans {A B C : Hp} (h : Sub A B) (k : Sub B C) : Sub A C := fun b o e => k b o (h b o e)
theorem Sub.rd {G H : Hp} (h : Sub G H) {a : Addr} {u : HO} (r : Rd G a u) : Rd H a u := by
  rcases r with r | ⟨o, r⟩
  · exact Or.inl (h _ _ r)
  · exact Or.inr ⟨o, h _ _ r⟩
theorem Sub.sqT {K : PySem.W.Frag} {G H : Hp} (h : Sub G H) {a : Addr} {xs : List V} (r : SqT K G a xs) : SqT K H a xs := by
  rcases r with r | r
  · exact Or.inl (h.rd r)
  · exact Or.inr r
theorem Sub.sqL {K : PySem.W.Frag} {G H : Hp} (h : Sub G H) {a : Addr} {xs : List V} (r : SqL K G a xs) : SqL K H a xs := by
  rcases r with r | r
  · exact Or.inl (h.rd r)
  · exact Or.inr r

mutual
theorem Rp.mono {K : PySem.W.Frag} {G H : Hp} (h : Sub G H) : ∀ {v : V} {d : D}, Rp K G v d → Rp K H v d
  | _, _, .non => .non
  | _, _, .bl b => .bl b
  | _, _, .int i => .int i
  | _, _, .str x => .str x
  | _, _, .tup s r => .tup (h.sqT s) (Rps.mono h r)
  | _, _, .lst s r => .lst (h.sqL s) (Rps.mono h r)
  | _, _, .dic e => .dic (h _ _ e)
theorem Rps.mono {K : PySem.W.Frag} {G H : Hp} (h : Sub G H) : ∀ {vs : List V} {ds : List D}, Rps K G vs ds → Rps K H vs ds
  | _, _, .nil => .nil
  | _, _, .cons a b => .cons (Rp.mono h a) (Rps.mono h b)
end
section
variable {K : PySem.W.Frag} {G : Hp}
theorem Rps.length : ∀ {vs : List V} {ds : List D}, Rps K G vs ds → vs.length = ds.length
  | _, _, .nil => rfl
  | _, _, .cons _ b => congrArg Nat.succ (Rps.length b)
theorem Rps.get : ∀ {vs : List V} {ds : List D} {i : Nat} {d : D}, Rps K G vs ds → ds[i]? = some d → ∃ v, vs[i]? = some v ∧ Rp K G v d
  | _, _, _, _, .nil, h => by simp at h
  | _, _, 0, _, .cons a _, h => by
    simp at h; subst h
    exact ⟨_, rfl, a⟩
  | _, _, i + 1, _, .cons _ b, h => by
    obtain ⟨v, h1, h2⟩ := Rps.get (i := i) b (by simpa using h)
    exact ⟨v, by simpa using h1, h2⟩
theorem Rps.getV : ∀ {vs : List V} {ds : List D} {i : Nat} {v : V}, Rps K G vs ds → vs[i]? = some v → ∃ d, ds[i]? = some d ∧ Rp K G v d
  | _, _, _, _, .nil, h => by simp at h
  | _, _, 0, _, .cons a _, h => by
    simp at h; subst h
    exact ⟨_, rfl, a⟩
  | _, _, i + 1, _, .cons _ b, h => by
    obtain ⟨v, h1, h2⟩ := Rps.getV (i := i) b (by simpa using h)
    exact ⟨v, by simpa using h1, h2⟩
theorem Rps.append : ∀ {vs ws : List V} {ds es : List D}, Rps K G vs ds → Rps K G ws es → Rps K G (vs ++ ws) (ds ++ es)
  | _, _, _, _, .nil, s => s
  | _, _, _, _, .cons a b, s => .cons a (Rps.append b s)
theorem Rps.one {v : V} {d : D} (h : Rp K G v d) : Rps K G [v] [d] := .cons h .nil
theorem Rps.snoc {vs : List V} {ds : List D} {v : V} {d : D} (h : Rps K G vs ds) (k : Rp K G v d) : Rps K G (vs ++ [v]) (ds ++ [d]) := h.append (.one k)
theorem Rps.take : ∀ {vs : List V} {ds : List D} (n : Nat), Rps K G vs ds → Rps K G (vs.take n) (ds.take n)
  | _, _, 0, _ => by simpa using Rps.nil
  | _, _, _ + 1, .nil => .nil
  | _, _, n + 1, .cons a b => .cons a (Rps.take n b)
theorem Rps.drop : ∀ {vs : List V} {ds : List D} (n : Nat), Rps K G vs ds → Rps K G (vs.drop n) (ds.drop n)
  | _, _, 0, h => h
  | _, _, _ + 1, .nil => .nil
  | _, _, n + 1, .cons _ b => Rps.drop n b
theorem Rps.set {v : V} {d : D} (k : Rp K G v d) : ∀ {vs : List V} {ds : List D} (n : Nat), Rps K G vs ds → Rps K G (vs.set n v) (ds.set n d)
  | _, _, _, .nil => .nil
  | _, _, 0, .cons _ b => .cons k b
  | _, _, n + 1, .cons a b => .cons a (Rps.set k n b)
theorem Rps.rep {v : V} {d : D} (k : Rp K G v d) : ∀ n : Nat, Rps K G (List.replicate n v) (List.replicate n d)
  | 0 => .nil
  | n + 1 => .cons k (Rps.rep k n)
theorem Rps.reverse {vs : List V} {ds : List D} (h : Rps K G vs ds) : Rps K G vs.reverse ds.reverse := by
  induction vs generalizing ds with
  | nil => cases h; exact .nil
  | cons v vs ih =>
    cases h with
    | cons a b =>
      rw [List.reverse_cons, List.reverse_cons]
      exact (ih b).snoc a
theorem Rps.eraseIdx : ∀ {vs : List V} {ds : List D} (n : Nat), Rps K G vs ds → Rps K G (vs.eraseIdx n) (ds.eraseIdx n)
  | _, _, _, .nil => .nil
  | _, _, 0, .cons _ b => b
  | _, _, n + 1, .cons a b => .cons a (Rps.eraseIdx n b)
theorem Rps.repl {vs : List V} {ds : List D} (h : Rps K G vs ds) : ∀ n : Nat, Rps K G (List.replicate n vs).flatten (List.replicate n ds).flatten
  | 0 => .nil
  | n + 1 => by
    simp only [List.replicate_succ, List.flatten_cons]
    exact h.append (Rps.repl h n)
end

/-- the list that a def owns by the name in a slot stands at b -/
def Owned (σ : L2.St) (st : List S) (b : Addr) : Prop := ∃ (i : Nat) (m : Bool) (ds : List D), st[i]? = some (S.own m ds) ∧ σ[i]? = some (some (.ref b))

/-- slots as they stand: G what is frozen, H what is tracked -/
structure Rl (K : PySem.W.Frag) (G H : Hp) (σ : L2.St) (st : List S) : Prop where
  sub : Sub G H
  len : st.length = σ.length
  val : ∀ (i : Nat) (d : D), st[i]? = some (.val d) → ∃ v, σ[i]? = some (some v) ∧ Rp K G v d
  own : ∀ (i : Nat) (m : Bool) (ds : List D), st[i]? = some (.own m ds) → ∃ (a : Addr) (xs : List V), σ[i]? = some (some (.ref a)) ∧ G a = none ∧ H a = some (.lst xs) ∧ Rps K G xs ds
  sep : ∀ (i j : Nat) (m : Bool) (ds : List D) (n : Bool) (es : List D), i ≠ j → st[i]? = some (.own m ds) → st[j]? = some (.own n es) → σ[i]? ≠ σ[j]?

/-- from one state to a later one -/
structure Stp (G H : Hp) (σ : L2.St) (st : List S) (G' H' : Hp) (σ' : L2.St) (st' : List S) : Prop where
  kp : ∀ b o, H b = some o → ¬ Owned σ st b → H' b = some o
  gr : Sub G G'
  old : ∀ b, H b ≠ none → ¬ Owned σ st b → G' b = G b
  ow : ∀ b, Owned σ' st' b → Owned σ st b ∨ H b = none
  nv : ∀ b, H b ≠ none → H' b ≠ none
  bor : ∀ (i : Nat) (ds : List D), st[i]? = some (.own true ds) → σ'[i]? = σ[i]? ∧ ∃ es : List D, st'[i]? = some (.own true es)

theorem Stp.refl {G H : Hp} {σ : L2.St} {st : List S} : Stp G H σ st G H σ st :=
  ⟨fun _ _ h _ => h, Sub.refl G, fun _ _ _ => rfl, fun _ h => .inl h, fun _ h => h, fun _ ds h => ⟨rfl, ds, h⟩⟩
theorem Stp.trans {G H G1 H1 G2 H2 : Hp} {σ σ1 σ2 : L2.St} {st st1 st2 : List S} (a : Stp G H σ st G1 H1 σ1 st1) (b : Stp G1 H1 σ1 st1 G2 H2 σ2 st2) : Stp G H σ st G2 H2 σ2 st2 := by
  have no : ∀ b, H b ≠ none → ¬ Owned σ st b → ¬ Owned σ1 st1 b := fun c h n o => by
    rcases a.ow c o with z | z
    · exact n z
    · exact h z
  refine ⟨fun c o h n => ?_, a.gr.trans b.gr, fun c h n => ?_, fun c h => ?_, fun c h => b.nv c (a.nv c h), fun i ds h => ?_⟩
  · exact b.kp c o (a.kp c o h n) (no c (by rw [h]; exact fun z => nomatch z) n)
  · have h1 := a.nv c h
    rw [b.old c h1 (no c h n), a.old c h n]
  · rcases b.ow c h with z | z
    · exact a.ow c z
    · refine Classical.byContradiction fun q => ?_
      have q' := not_or.mp q
      exact a.nv c q'.2 z
  · obtain ⟨h1, es, h2⟩ := a.bor i ds h
    obtain ⟨h3, es2, h4⟩ := b.bor i es h2
    exact ⟨h3.trans h1, es2, h4⟩

section
variable {K : PySem.W.Frag} {G H G' H' : Hp} {σ σ' : L2.St} {st st' : List S}
theorem Rl.notOwned_of_G (r : Rl K G H σ st) {b : Addr} {o : HO} (h : G b = some o) : ¬ Owned σ st b := fun ⟨i, m, ds, h1, h2⟩ => by
  obtain ⟨a, xs, e1, e2, _⟩ := r.own i m ds h1
  rw [h2] at e1
  cases e1
  rw [h] at e2
  cases e2
theorem Rl.notOwned_of_fresh (r : Rl K G H σ st) {b : Addr} (h : H b = none) : ¬ Owned σ st b := fun ⟨i, m, ds, h1, h2⟩ => by
  obtain ⟨a, xs, e1, _, e3, _⟩ := r.own i m ds h1
  rw [h2] at e1
  cases e1
  rw [h] at e3
  cases e3
theorem Rl.G_none (r : Rl K G H σ st) {b : Addr} (h : H b = none) : G b = none := by
  cases e : G b with
  | none => rfl
  | some o => rw [r.sub b o e] at h; cases h
theorem sub_upd {b : Addr} {o : HO} (h : G b = none) : Sub G (upd G b o) := fun c u e => by
  rw [upd_ne (ne_of_none e h)]
  exact e
/-- a new frozen object -/
theorem Rl.newF (r : Rl K G H σ st) {p : Addr} (o : HO) (hp : H p = none) : Rl K (upd G p o) (upd H p o) σ st := by
  have gp := r.G_none hp
  refine ⟨fun b u e => ?_, r.len, fun i d h => ?_, fun i m ds h => ?_, r.sep⟩
  · by_cases hb : b = p
    · subst hb; rw [upd_same] at e ⊢; exact e
    · rw [upd_ne hb] at e ⊢; exact r.sub b u e
  · obtain ⟨v, h1, h2⟩ := r.val i d h
    exact ⟨v, h1, h2.mono (sub_upd gp)⟩
  · obtain ⟨a, xs, h1, h2, h3, h4⟩ := r.own i m ds h
    have ne : a ≠ p := ne_of_none h3 hp
    exact ⟨a, xs, h1, by rw [upd_ne ne]; exact h2, by rw [upd_ne ne]; exact h3, h4.mono (sub_upd gp)⟩
theorem Stp.newF (r : Rl K G H σ st) {p : Addr} (o : HO) (hp : H p = none) : Stp G H σ st (upd G p o) (upd H p o) σ st := by
  have gp := r.G_none hp
  refine ⟨fun b u h _ => ?_, sub_upd gp, fun b h _ => ?_, fun b h => .inl h, fun b h => ?_, fun i ds h => ⟨rfl, ds, h⟩⟩
  · rw [upd_ne (ne_of_none h hp)]; exact h
  · have ne : b ≠ p := fun z => by subst z; exact h hp
    rw [upd_ne ne]
  · have ne : b ≠ p := fun z => by subst z; exact h hp
    rw [upd_ne ne]; exact h
/-- a new object that is not frozen -/
theorem Rl.newO (r : Rl K G H σ st) {p : Addr} (o : HO) (hp : H p = none) : Rl K G (upd H p o) σ st := by
  refine ⟨fun b u e => ?_, r.len, r.val, fun i m ds h => ?_, r.sep⟩
  · rw [upd_ne (ne_of_none (r.sub b u e) hp)]; exact r.sub b u e
  · obtain ⟨a, xs, h1, h2, h3, h4⟩ := r.own i m ds h
    exact ⟨a, xs, h1, h2, by rw [upd_ne (ne_of_none h3 hp)]; exact h3, h4⟩
theorem Stp.newO (r : Rl K G H σ st) {p : Addr} (o : HO) (hp : H p = none) : Stp G H σ st G (upd H p o) σ st := by
  refine ⟨fun b u h _ => ?_, Sub.refl G, fun b h _ => rfl, fun b h => .inl h, fun b h => ?_, fun i ds h => ⟨rfl, ds, h⟩⟩
  · rw [upd_ne (ne_of_none h hp)]; exact h
  · have ne : b ≠ p := fun z => by subst z; exact h hp
    rw [upd_ne ne]; exact h
/-- an object that nobody owns and that is not frozen, changed -/
theorem Rl.poke (r : Rl K G H σ st) {p : Addr} (o : HO) (hg : G p = none) (hn : ¬ Owned σ st p) : Rl K G (upd H p o) σ st := by
  refine ⟨fun b u e => ?_, r.len, r.val, fun i m ds h => ?_, r.sep⟩
  · rw [upd_ne (ne_of_none e hg)]; exact r.sub b u e
  · obtain ⟨a, xs, h1, h2, h3, h4⟩ := r.own i m ds h
    have ne : a ≠ p := fun z => hn ⟨i, m, ds, h, by rw [h1, z]⟩
    exact ⟨a, xs, h1, h2, by rw [upd_ne ne]; exact h3, h4⟩
/-- such an object is frozen -/
theorem Rl.frz (r : Rl K G H σ st) {p : Addr} {o : HO} (hp : H p = some o) (hg : G p = none) (hn : ¬ Owned σ st p) : Rl K (upd G p o) H σ st := by
  refine ⟨fun b u e => ?_, r.len, fun i d h => ?_, fun i m ds h => ?_, r.sep⟩
  · by_cases hb : b = p
    · subst hb; rw [upd_same] at e; cases e; exact hp
    · rw [upd_ne hb] at e; exact r.sub b u e
  · obtain ⟨v, h1, h2⟩ := r.val i d h
    exact ⟨v, h1, h2.mono (sub_upd hg)⟩
  · obtain ⟨a, xs, h1, h2, h3, h4⟩ := r.own i m ds h
    have ne : a ≠ p := fun z => hn ⟨i, m, ds, h, by rw [h1, z]⟩
    exact ⟨a, xs, h1, by rw [upd_ne ne]; exact h2, h3, h4.mono (sub_upd hg)⟩
theorem set_get {α : Type} {l : List α} {i j : Nat} {x y : α} (h : (l.set i x)[j]? = some y) : (j = i ∧ i < l.length ∧ y = x) ∨ (j ≠ i ∧ l[j]? = some y) := by
  by_cases e : j = i
  · subst e
    have hl : j < l.length := by
      have := (List.getElem?_eq_some_iff.mp h).1
      simpa using this
    rw [List.getElem?_set_self hl] at h
    cases h
    exact .inl ⟨rfl, hl, rfl⟩
  · rw [List.getElem?_set_ne (Ne.symm e)] at h
    exact .inr ⟨e, h⟩
theorem lt_of_get {α : Type} {l : List α} {i : Nat} {x : α} (h : l[i]? = some x) : i < l.length := (List.getElem?_eq_some_iff.mp h).1
/-- a name is given data -/
theorem Rl.setV (r : Rl K G H σ st) {i : Nat} {v : V} {d : D} (hr : Rp K G v d) : Rl K G H (σ.set i (some v)) (st.set i (.val d)) := by
  refine ⟨r.sub, by rw [List.length_set, List.length_set]; exact r.len, fun j e h => ?_, fun j m ds h => ?_, fun j k m ds n es hjk h1 h2 => ?_⟩
  · rcases set_get h with ⟨rfl, hl, e⟩ | ⟨hj, h⟩
    · cases e
      exact ⟨v, List.getElem?_set_self (by rw [← r.len]; exact hl), hr⟩
    · obtain ⟨u, h1, h2⟩ := r.val j e h
      exact ⟨u, by rw [List.getElem?_set_ne (Ne.symm hj)]; exact h1, h2⟩
  · rcases set_get h with ⟨_, _, e⟩ | ⟨hj, h⟩
    · cases e
    · obtain ⟨a, xs, h1, h2⟩ := r.own j m ds h
      exact ⟨a, xs, by rw [List.getElem?_set_ne (Ne.symm hj)]; exact h1, h2⟩
  · rcases set_get h1 with ⟨_, _, e⟩ | ⟨hj, h1⟩
    · cases e
    · rcases set_get h2 with ⟨_, _, e⟩ | ⟨hk, h2⟩
      · cases e
      · rw [List.getElem?_set_ne (Ne.symm hj), List.getElem?_set_ne (Ne.symm hk)]
        exact r.sep j k m ds n es hjk h1 h2
/-- may a slot be given something: not a lent list -/
def free (st : List S) (i : Nat) : Bool := match st[i]? with
  | some (.own true _) => false
  | some _ => true
  | none => false
theorem free_lt (h : free st i = true) : i < st.length := by
  unfold free at h
  cases e : st[i]? with
  | none => rw [e] at h; cases h
  | some s => exact lt_of_get e
theorem free_ne {i j : Nat} {ds : List D} (h : free st i = true) (k : st[j]? = some (.own true ds)) : j ≠ i := fun z => by
  subst z
  unfold free at h
  rw [k] at h
  cases h
theorem Stp.setV {i : Nat} {v : V} {d : D} (hf : free st i = true) : Stp G H σ st G H (σ.set i (some v)) (st.set i (.val d)) := by
  refine ⟨fun b o h _ => h, Sub.refl G, fun _ _ _ => rfl, fun b ⟨j, m, ds, h1, h2⟩ => ?_, fun _ h => h, fun j ds h => ?_⟩
  · rcases set_get h1 with ⟨_, _, e⟩ | ⟨hj, h1⟩
    · cases e
    · rw [List.getElem?_set_ne (Ne.symm hj)] at h2
      exact .inl ⟨j, m, ds, h1, h2⟩
  · have hj := free_ne hf h
    exact ⟨List.getElem?_set_ne (Ne.symm hj), ds, by rw [List.getElem?_set_ne (Ne.symm hj)]; exact h⟩
/-- a name is given a list of its own -/
theorem Rl.setO (r : Rl K G H σ st) {i : Nat} {a : Addr} {xs : List V} {ds : List D} (hg : G a = none) (ha : H a = some (.lst xs)) (hr : Rps K G xs ds) (hn : ¬ Owned σ st a) :
    Rl K G H (σ.set i (some (.ref a))) (st.set i (.own false ds)) := by
  refine ⟨r.sub, by rw [List.length_set, List.length_set]; exact r.len, fun j e h => ?_, fun j m es h => ?_, fun j k m ds n es hjk h1 h2 => ?_⟩
  · rcases set_get h with ⟨_, _, e⟩ | ⟨hj, h⟩
    · cases e
    · obtain ⟨u, h1, h2⟩ := r.val j e h
      exact ⟨u, by rw [List.getElem?_set_ne (Ne.symm hj)]; exact h1, h2⟩
  · rcases set_get h with ⟨rfl, hl, e⟩ | ⟨hj, h⟩
    · cases e
      exact ⟨a, xs, List.getElem?_set_self (by rw [← r.len]; exact hl), hg, ha, hr⟩
    · obtain ⟨c, zs, h1, h2⟩ := r.own j m es h
      exact ⟨c, zs, by rw [List.getElem?_set_ne (Ne.symm hj)]; exact h1, h2⟩
  · have ow : ∀ (j : Nat) (m : Bool) (ds : List D), j ≠ i → st[j]? = some (.own m ds) → σ[j]? ≠ some (some (.ref a)) := fun j m ds hj h z => hn ⟨j, m, ds, h, z⟩
    rcases set_get h1 with ⟨rfl, hl, e⟩ | ⟨hj, h1⟩
    · rcases set_get h2 with ⟨e2, _, _⟩ | ⟨hk, h2⟩
      · exact absurd e2.symm hjk
      · rw [List.getElem?_set_self (by rw [← r.len]; exact hl), List.getElem?_set_ne (Ne.symm hk)]
        exact fun z => ow k n es hk h2 z.symm
    · rcases set_get h2 with ⟨e2, hl, _⟩ | ⟨hk, h2⟩
      · rw [e2, List.getElem?_set_self (by rw [← r.len]; exact hl), List.getElem?_set_ne (Ne.symm hj)]
        exact ow j m ds hj h1
      · rw [List.getElem?_set_ne (Ne.symm hj), List.getElem?_set_ne (Ne.symm hk)]
        exact r.sep j k m ds n es hjk h1 h2
/-- .. seen from an elder state in which the list was not there -/
theorem Stp.setO {G0 H0 : Hp} {σ0 : L2.St} {st0 : List S} {i : Nat} {a : Addr} {ds : List D} (p : Stp G0 H0 σ0 st0 G H σ st) (hf : free st i = true) (h0 : H0 a = none) :
    Stp G0 H0 σ0 st0 G H (σ.set i (some (.ref a))) (st.set i (.own false ds)) := by
  refine ⟨p.kp, p.gr, p.old, fun b ⟨j, m, es, h1, h2⟩ => ?_, p.nv, fun j es h => ?_⟩
  · rcases set_get h1 with ⟨rfl, hl, e⟩ | ⟨hj, h1⟩
    · have hb : b = a := by
        rcases set_get h2 with ⟨_, _, e2⟩ | ⟨z, _⟩
        · cases e2; rfl
        · exact absurd rfl z
      subst hb
      exact .inr h0
    · rw [List.getElem?_set_ne (Ne.symm hj)] at h2
      exact p.ow b ⟨j, m, es, h1, h2⟩
  · obtain ⟨h1, es', h2⟩ := p.bor j es h
    have hj := free_ne hf h2
    exact ⟨by rw [List.getElem?_set_ne (Ne.symm hj)]; exact h1, es', by rw [List.getElem?_set_ne (Ne.symm hj)]; exact h2⟩
/-- the own list of a name is changed -/
theorem Rl.wr (r : Rl K G H σ st) {i : Nat} {m : Bool} {ds es : List D} {a : Addr} {xs ys : List V} (hi : st[i]? = some (.own m ds)) (hs : σ[i]? = some (some (.ref a))) (hr : Rps K G ys es) :
    Rl K G (upd H a (.lst ys)) σ (st.set i (.own m es)) := by
  obtain ⟨a', xs', e1, hg, ha, _⟩ := r.own i m ds hi
  rw [hs] at e1
  cases e1
  refine ⟨fun b u e => ?_, by rw [List.length_set]; exact r.len, fun j d h => ?_, fun j n fs h => ?_, fun j k n fs q gs hjk h1 h2 => ?_⟩
  · rw [upd_ne (ne_of_none e hg)]; exact r.sub b u e
  · rcases set_get h with ⟨_, _, e⟩ | ⟨hj, h⟩
    · cases e
    · exact r.val j d h
  · rcases set_get h with ⟨rfl, hl, e⟩ | ⟨hj, h⟩
    · cases e
      exact ⟨a, ys, hs, hg, upd_same, hr⟩
    · obtain ⟨c, zs, h1, h2, h3, h4⟩ := r.own j n fs h
      have ne : c ≠ a := fun z => by
        subst z
        exact r.sep j i n fs m ds hj h hi (h1.trans hs.symm)
      exact ⟨c, zs, h1, h2, by rw [upd_ne ne]; exact h3, h4⟩
  · rcases set_get h1 with ⟨rfl, _, _⟩ | ⟨hj, h1⟩
    · rcases set_get h2 with ⟨e2, _, _⟩ | ⟨hk, h2⟩
      · exact absurd e2.symm hjk
      · exact r.sep j k m ds q gs hjk hi h2
    · rcases set_get h2 with ⟨e2, _, _⟩ | ⟨hk, h2⟩
      · rw [e2]
        exact r.sep j i n fs m ds hj h1 hi
      · exact r.sep j k n fs q gs hjk h1 h2
theorem Stp.wr (r : Rl K G H σ st) {i : Nat} {m : Bool} {ds es : List D} {a : Addr} {ys : List V} (hi : st[i]? = some (.own m ds)) (hs : σ[i]? = some (some (.ref a))) :
    Stp G H σ st G (upd H a (.lst ys)) σ (st.set i (.own m es)) := by
  have ho : Owned σ st a := ⟨i, m, ds, hi, hs⟩
  refine ⟨fun b o h n => ?_, Sub.refl G, fun _ _ _ => rfl, fun b ⟨j, n, fs, h1, h2⟩ => ?_, fun b h => ?_, fun j fs h => ?_⟩
  · rw [upd_ne (fun z : b = a => n (by rw [z]; exact ho))]; exact h
  · rcases set_get h1 with ⟨rfl, _, e⟩ | ⟨hj, h1⟩
    · exact .inl ⟨j, m, ds, hi, h2⟩
    · exact .inl ⟨j, n, fs, h1, h2⟩
  · by_cases hb : b = a
    · subst hb; rw [upd_same]; exact fun z => nomatch z
    · rw [upd_ne hb]; exact h
  · by_cases hj : j = i
    · subst hj
      rw [hi] at h
      cases h
      exact ⟨rfl, es, List.getElem?_set_self (lt_of_get hi)⟩
    · exact ⟨rfl, fs, by rw [List.getElem?_set_ne (Ne.symm hj)]; exact h⟩
/-- an own list becomes data -/
theorem Rl.thaw (r : Rl K G H σ st) {i : Nat} {ds : List D} {a : Addr} {xs : List V} (hi : st[i]? = some (.own false ds)) (hs : σ[i]? = some (some (.ref a))) (ha : H a = some (.lst xs)) :
    Rl K (upd G a (.lst xs)) H σ (st.set i (.val (.lst ds))) ∧ Rp K (upd G a (.lst xs)) (.ref a) (.lst ds) := by
  obtain ⟨a', xs', e1, hg, ha', hr⟩ := r.own i false ds hi
  rw [hs] at e1
  cases e1
  rw [ha] at ha'
  cases ha'
  have rp : Rp K (upd G a (.lst xs)) (.ref a) (.lst ds) := .lst (.inl (.inl upd_same)) (hr.mono (sub_upd hg))
  refine ⟨⟨fun b u e => ?_, by rw [List.length_set]; exact r.len, fun j d h => ?_, fun j n fs h => ?_, fun j k n fs q gs hjk h1 h2 => ?_⟩, rp⟩
  · by_cases hb : b = a
    · subst hb; rw [upd_same] at e; cases e; exact ha
    · rw [upd_ne hb] at e; exact r.sub b u e
  · rcases set_get h with ⟨rfl, _, e⟩ | ⟨hj, h⟩
    · cases e
      exact ⟨.ref a, hs, rp⟩
    · obtain ⟨v, h1, h2⟩ := r.val j d h
      exact ⟨v, h1, h2.mono (sub_upd hg)⟩
  · rcases set_get h with ⟨_, _, e⟩ | ⟨hj, h⟩
    · cases e
    · obtain ⟨c, zs, h1, h2, h3, h4⟩ := r.own j n fs h
      have ne : c ≠ a := fun z => by
        subst z
        exact r.sep j i n fs false ds hj h hi (h1.trans hs.symm)
      exact ⟨c, zs, h1, by rw [upd_ne ne]; exact h2, h3, h4.mono (sub_upd hg)⟩
  · rcases set_get h1 with ⟨_, _, e⟩ | ⟨hj, h1⟩
    · cases e
    · rcases set_get h2 with ⟨_, _, e⟩ | ⟨hk, h2⟩
      · cases e
      · exact r.sep j k n fs q gs hjk h1 h2
theorem Stp.thaw (r : Rl K G H σ st) {i : Nat} {ds : List D} {a : Addr} {xs : List V} (hi : st[i]? = some (.own false ds)) (hs : σ[i]? = some (some (.ref a))) :
    Stp G H σ st (upd G a (.lst xs)) H σ (st.set i (.val (.lst ds))) := by
  have ho : Owned σ st a := ⟨i, false, ds, hi, hs⟩
  obtain ⟨a', xs', e1, hg, _, _⟩ := r.own i false ds hi
  rw [hs] at e1
  cases e1
  refine ⟨fun b o h _ => h, sub_upd hg, fun b _ n => ?_, fun b ⟨j, n, fs, h1, h2⟩ => ?_, fun b h => h, fun j fs h => ?_⟩
  · rw [upd_ne (fun z : b = a => n (by rw [z]; exact ho))]
  · rcases set_get h1 with ⟨_, _, e⟩ | ⟨hj, h1⟩
    · cases e
    · exact .inl ⟨j, n, fs, h1, h2⟩
  · have hj : j ≠ i := fun z => by
      subst z
      rw [hi] at h
      cases h
    exact ⟨rfl, fs, by rw [List.getElem?_set_ne (Ne.symm hj)]; exact h⟩
end
end SG
/-! Sg2: the small language and what it computes. -/
namespace SG
open PySem L2

/-- what an expression hands on: data, or the own list of a slot -/
inductive W where
  | v (d : D)
  | o (i : Nat)

inductive Op | add | sub | mul | fdiv | mod | pow
inductive Cm | lt | le | gt | ge | eq | ne | isn | nisn | isin | notin | isb | nisb
inductive B1 | len | abs | int | repr | tup | all | any | str

abbrev R (α : Type) := Option (Except Exn α × List S)
def bnd {α β : Type} (o : R α) (k : α → List S → R β) : R β := match o with
  | none => none
  | some (.error x, s) => some (.error x, s)
  | some (.ok a, s) => k a s
def ok {α : Type} (a : α) (s : List S) : R α := some (.ok a, s)

/-- a def as it is called: the content of the list that is lent (first argument), the other arguments; what comes back, and the lent list behind -/
structure Fn where
  name : Str
  lvl : Nat
  lend : Bool
  fresh : Bool
  many : Nat
  run : List D → List D → Option (Except Exn D × List D)

inductive Tg | nm (i : Nat) | two (i j : Nat) | thr (i j l : Nat)

mutual
inductive E where
  | var (i : Nat)
  | cst (d : D)
  | glb (x : Str) (d : D)
  | bin (o : Op) (a b : E)
  | neg (a : E)
  | cmp (o : Cm) (a b : E)
  | chain (o p : Cm) (a b c : E)
  | and (a b : E)
  | or (a b : E)
  | not (a : E)
  | ite (c a b : E)
  | tup (es : EL)
  | ix (a b : E)
  | slc (a : E) (lo hi : EO)
  | rev (a : E)
  | call (f : Fn) (es : EL)
  | b1 (b : B1) (a : E)
  | isi (a : E) (t : String)
  | max2 (a b : E)
  | min2 (a b : E)
  | fr (f : FE)
  | dic0
  | popI (i : Nat) (k : E)
  | callT (f : Fn) (g : FE)
inductive FE where
  | disp (es : EL)
  | comp (t : Tg) (it : IT) (c : EO) (e : E)
  | listOf (a : E)
  | cat (i : Nat) (f : FE)
  | callF (f : Fn) (es : EL)
  | plus (a b : E)
  | sortF (a : E)
  | sortK (f : Fn) (a : E)
inductive IT where
  | rng1 (a : E)
  | rng2 (a b : E)
  | seqT (a : E)
  | seqL (a : E)
  | zipT (a b : E)
  | zipL (a b : E)
  | enmL (a : E)
  | enmT (a : E)
  | seqA (a : E)
  | enmA (a : E)
  | zipA (a b : E)
inductive EL where
  | nil
  | cons (e : E) (r : EL)
  | star (e : E) (r : EL)
inductive EO where
  | no
  | yes (e : E)
end

/-! ### operations on data -/
def bitsOf (i : Int) : Nat := Builtin.Int.intBits i
def mulOk (i j : Int) : Bool := decide (bitsOf i ≤ 64 ∨ bitsOf j ≤ 64 ∨ bitsOf i + bitsOf j < 1000000)
def opD : Op → D → D → Option D
  | .add, .int i, .int j => some (.int (i + j))
  | .sub, .int i, .int j => some (.int (i - j))
  | .mul, .int i, .int j => if mulOk i j then some (.int (i * j)) else none
  | .fdiv, .int i, .int j => if 0 < j ∧ bitsOf j ≤ 9000 then some (.int (i / j)) else none
  | .mod, .int i, .int j => if 0 < j then some (.int (i % j)) else none
  | .pow, .int i, .int j => if 0 ≤ j ∧ (bitsOf i : Int) * j ≤ 2 ^ 27 then some (.int (i ^ j.toNat)) else none
  | .add, .tup xs, .tup ys => if xs.length + ys.length ≤ 100000 then some (.tup (xs ++ ys)) else none
  | .mul, .tup xs, .int k => if xs ≠ [] ∧ 0 ≤ k ∧ k ≤ 1000 ∧ xs.length ≤ 1000 then some (.tup (List.replicate k.toNat xs).flatten) else none
  | .add, .str x, .str y => if x.length + y.length ≤ 100000 then some (.str (x ++ y)) else none
  | _, _, _ => none
mutual
def D.toP : D → PyData
  | .non => .none
  | .bl b => .bool b
  | .int i => .int i
  | .str x => .str x
  | .tup l => .tuple (D.toPs l)
  | .lst l => .list (D.toPs l)
  | .dic => .none
def D.toPs : List D → List PyData
  | [] => []
  | d :: r => D.toP d :: D.toPs r
end
mutual
/-- no dict in it -/
def nodic : D → Bool
  | .dic => false
  | .tup l => nodics l
  | .lst l => nodics l
  | _ => true
def nodics : List D → Bool
  | [] => true
  | d :: r => nodic d && nodics r
end
def eqD (a b : D) : Bool := PyData.eqv a.toP b.toP
def shp (a : D) : Bool := nodic a && SeqAt.shaped a.toP
def cmD : Cm → D → D → Option Bool
  | .lt, .int i, .int j => some (decide (i < j))
  | .le, .int i, .int j => some (decide (i ≤ j))
  | .gt, .int i, .int j => some (decide (j < i))
  | .ge, .int i, .int j => some (decide (j ≤ i))
  | .eq, .str x, .str y => some (decide (x = y))
  | .ne, .str x, .str y => some (!decide (x = y))
  | .eq, a, b => if shp a && shp b then some (eqD a b) else none
  | .ne, a, b => if shp a && shp b then some (!eqD a b) else none
  | .isb, .bl a, .bl b => some (decide (a = b))
  | .nisb, .bl a, .bl b => some (!decide (a = b))
  | .isin, a, .lst l => if shp a && shp (.lst l) then some (l.any fun z => eqD z a) else none
  | .notin, a, .lst l => if shp a && shp (.lst l) then some (!l.any fun z => eqD z a) else none
  | _, _, _ => none
def isNon : D → Bool
  | .non => true
  | _ => false
def truD : D → Option Bool
  | .non => some false
  | .bl b => some b
  | .int i => some (i != 0)
  | .tup l => some (!l.isEmpty)
  | .lst l => some (!l.isEmpty)
  | _ => none
/-- an item -/
def atD : D → D → Option D
  | .tup l, .int i => atI l i
  | .lst l, .int i => atI l i
  | _, _ => none
def boolsOf : List D → Option (List Bool)
  | [] => some []
  | .bl b :: r => (boolsOf r).map (b :: ·)
  | _ => none
def shownOk (d : D) : Bool := nodic d && d.toP.showable && decide (d.toP.shown.length ≤ 1000000) && decide (d.toP.depth ≤ 30)
def b1D : B1 → D → Option D
  | .len, .tup l => some (.int l.length)
  | .len, .lst l => some (.int l.length)
  | .len, .str x => if x.length ≤ 100000 then some (.int x.length) else none
  | .abs, .int i => some (.int (if i < 0 then -i else i))
  | .int, .int i => some (.int i)
  | .int, .bl b => some (.int (if b then 1 else 0))
  | .tup, .tup l => some (.tup l)
  | .tup, .lst l => some (.tup l)
  | .all, .lst l => (boolsOf l).map fun bs => .bl (bs.all id)
  | .any, .lst l => (boolsOf l).map fun bs => .bl (bs.any id)
  | .repr, d => if shownOk d then some (.str d.toP.shown) else none
  | _, _ => none
def tyOf : D → String
  | .non => "NoneType"
  | .bl _ => "bool"
  | .int _ => "int"
  | .str _ => "str"
  | .tup _ => "tuple"
  | .lst _ => "list"
  | .dic => "dict"
def isiD (d : D) (t : String) : Option Bool := match t with
  | "int" => some (tyOf d == "int" || tyOf d == "bool")
  | "bool" => some (tyOf d == "bool")
  | "str" => some (tyOf d == "str")
  | "tuple" => some (tyOf d == "tuple")
  | "list" => some (tyOf d == "list")
  | "dict" => some (tyOf d == "dict")
  | _ => none

/-! ### slots -/
def rd (st : List S) : W → Option D
  | .v d => some d
  | .o i => match st[i]? with
    | some (.own _ ds) => some (.lst ds)
    | some (.val d) => some d
    | _ => none
/-- made data (an own list is given up) -/
def frz (st : List S) : W → Option (D × List S)
  | .v d => some (d, st)
  | .o i => match st[i]? with
    | some (.own false ds) => some (.lst ds, st.set i (.val (.lst ds)))
    | some (.val d) => some (d, st)
    | _ => none
def frzs (st : List S) : List W → Option (List D × List S)
  | [] => some ([], st)
  | w :: ws => match frz st w with
    | none => none
    | some (d, s1) => match frzs s1 ws with
      | none => none
      | some (ds, s2) => some (d :: ds, s2)
def frzR (o : R W) : R D := bnd o fun w s => match frz s w with
  | some (d, s') => some (.ok d, s')
  | none => none
def opt {α : Type} (o : Option α) (st : List S) : R α := match o with
  | none => none
  | some a => some (.ok a, st)
def slotOf (st : List S) (i : Nat) : R W := match st[i]? with
  | some (.val d) => ok (.v d) st
  | some (.own _ _) => ok (.o i) st
  | _ => none
def callD (f : Fn) (ws : List W) (st : List S) : R D := match f.lend with
  | false => match frzs st ws with
    | none => none
    | some (ds, s1) => if ds.length = f.many then match f.run [] ds with
        | none => none
        | some (r, _) => some (r, s1)
      else none
  | true => match ws with
    | .o i :: r => match frzs st r with
      | none => none
      | some (ds, s1) => if ds.length + 1 = f.many then match s1[i]? with
          | some (.own m es) => match f.run es ds with
            | none => none
            | some (r, es') => some (r, s1.set i (.own m es'))
          | _ => none
        else none
    | _ => none
/-- a def is lent a list made for it alone -/
def lentD (f : Fn) (es : List D) (st : List S) : R D := match f.lend, f.fresh with
  | true, false => if f.many = 1 then match f.run es [] with
      | none => none
      | some (r, _) => some (r, st)
    else none
  | _, _ => none
def setTg (st : List S) : Tg → D → Option (List S)
  | .nm i, d => if free st i then some (st.set i (.val d)) else none
  | .two i j, .tup [a, b] => if free st i then
      let s1 := st.set i (.val a)
      if free s1 j then some (s1.set j (.val b)) else none
    else none
  | .thr i j l, .tup [a, b, c] => if free st i then
      let s1 := st.set i (.val a)
      if free s1 j then
        let s2 := s1.set j (.val b)
        if free s2 l then some (s2.set l (.val c)) else none
      else none
    else none
  | _, _ => none
def Tg.slots : Tg → List Nat
  | .nm i => [i]
  | .two i j => [i, j]
  | .thr i j l => [i, j, l]
/-- may be a comprehension's own name: it holds no list of its own -/
def plainAt (st : List S) (i : Nat) : Bool := match st[i]? with
  | some (.own _ _) => false
  | some _ => true
  | none => false
def wipeS (st : List S) : List Nat → List S
  | [] => st
  | i :: r => (wipeS st r).set i .un
def restore (st0 st : List S) : List Nat → List S
  | [] => st
  | i :: r => match st0[i]? with
    | some s => (restore st0 st r).set i s
    | none => restore st0 st r
def pairs : List D → List D → List D
  | x :: xs, y :: ys => .tup [x, y] :: pairs xs ys
  | _, _ => []
def numbered : Nat → List D → List D
  | _, [] => []
  | n, x :: xs => .tup [.int n, x] :: numbered (n + 1) xs
def rngD (lo : Int) (n : Nat) : List D := (List.range n).map fun (i : Nat) => D.int (lo + (i : Int))
def cutD (l : List D) (lo hi : Option Int) : List D := (l.drop (HT.sIx l.length 0 lo)).take (HT.sIx l.length l.length hi - HT.sIx l.length 0 lo)
/-- the turns of a comprehension: test and element are given -/
def turns (tg : Tg) (test : List S → R Bool) (elt : List S → R D) : List D → List S → R (List D)
  | [], st => ok [] st
  | x :: xs, st => match setTg (wipeS st tg.slots) tg x with
    | none => none
    | some s1 => match test s1 with
      | some (.ok true, s2) => match elt s2 with
        | some (.ok d, s3) => match turns tg test elt xs s3 with
          | some (.ok ds, s4) => some (.ok (d :: ds), s4)
          | _ => none
        | _ => none
      | some (.ok false, s2) => turns tg test elt xs s2
      | _ => none

/-- a list's or a tuple's items -/
def seqD : D → Option (List D)
  | .lst l => some l
  | .tup l => some l
  | _ => none
/-- the ints that stand first in pairs -/
def firstsOf : List D → Option (List Int)
  | [] => some []
  | .tup [.int i, _] :: r => (firstsOf r).map (i :: ·)
  | _ => none
/-- what a def tells of each -/
def keysOf (f : Fn) : List D → Option (List Int)
  | [] => some []
  | d :: r => match f.run [] [d] with
    | some (.ok (.int i), _) => (keysOf f r).map (i :: ·)
    | _ => none
mutual
def evE : E → List S → R W
  | .var i, st => slotOf st i
  | .cst d, st => ok (.v d) st
  | .glb _ d, st => ok (.v d) st
  | .bin o a b, st => bnd (evE a st) fun x s1 => bnd (evE b s1) fun y s2 => match rd s2 x, rd s2 y with
    | some d, some e => bnd (opt (opD o d e) s2) fun f s3 => ok (.v f) s3
    | _, _ => none
  | .neg a, st => bnd (evE a st) fun x s1 => match rd s1 x with
    | some (.int i) => ok (.v (.int (-i))) s1
    | _ => none
  | .cmp .isn a _, st => bnd (evE a st) fun x s1 => match rd s1 x with
    | some d => ok (.v (.bl (isNon d))) s1
    | none => none
  | .cmp .nisn a _, st => bnd (evE a st) fun x s1 => match rd s1 x with
    | some d => ok (.v (.bl (!isNon d))) s1
    | none => none
  | .cmp o a b, st => bnd (evE a st) fun x s1 => bnd (evE b s1) fun y s2 => match rd s2 x, rd s2 y with
    | some d, some e => bnd (opt (cmD o d e) s2) fun f s3 => ok (.v (.bl f)) s3
    | _, _ => none
  | .chain o p a b c, st => bnd (evE a st) fun x s1 => bnd (evE b s1) fun y s2 => match rd s2 x, rd s2 y with
    | some d, some e => match cmD o d e with
      | some true => bnd (evE c s2) fun z s3 => match rd s3 y, rd s3 z with
        | some e', some g => bnd (opt (cmD p e' g) s3) fun f s4 => ok (.v (.bl f)) s4
        | _, _ => none
      | some false => ok (.v (.bl false)) s2
      | none => none
    | _, _ => none
  | .and a b, st => bnd (evE a st) fun x s1 => match x with
    | .v (.bl true) => bnd (evE b s1) fun y s2 => ok y s2
    | .v (.bl false) => ok (.v (.bl false)) s1
    | _ => none
  | .or a b, st => bnd (evE a st) fun x s1 => match x with
    | .v (.bl false) => bnd (evE b s1) fun y s2 => ok y s2
    | .v (.bl true) => ok (.v (.bl true)) s1
    | _ => none
  | .not a, st => bnd (evE a st) fun x s1 => match x with
    | .v (.bl b) => ok (.v (.bl (!b))) s1
    | _ => none
  | .ite c a b, st => bnd (evT c st) fun k s1 => if k then evE a s1 else evE b s1
  | .tup es, st => bnd (evL es st) fun ws s1 => match frzs s1 ws with
    | some (ds, s2) => if ds.length ≤ 100000 then ok (.v (.tup ds)) s2 else none
    | none => none
  | .ix a b, st => bnd (evE a st) fun x s1 => bnd (evE b s1) fun y s2 => match rd s2 x, rd s2 y with
    | some d, some e => bnd (opt (atD d e) s2) fun f s3 => ok (.v f) s3
    | _, _ => none
  | .slc a lo hi, st => bnd (evE a st) fun x s1 => bnd (evO lo s1) fun l s2 => bnd (evO hi s2) fun h s3 => match rd s3 x with
    | some (.tup ds) => ok (.v (.tup (cutD ds l h))) s3
    | some (.lst ds) => ok (.v (.lst (cutD ds l h))) s3
    | _ => none
  | .rev a, st => bnd (evE a st) fun x s1 => match rd s1 x with
    | some (.lst ds) => ok (.v (.lst ds.reverse)) s1
    | some (.tup ds) => ok (.v (.tup ds.reverse)) s1
    | _ => none
  | .call f es, st => bnd (evL es st) fun ws s1 => match f.fresh with
    | false => bnd (callD f ws s1) fun d s2 => ok (.v d) s2
    | true => none
  | .b1 b a, st => bnd (evE a st) fun x s1 => match rd s1 x with
    | some d => bnd (opt (b1D b d) s1) fun f s2 => ok (.v f) s2
    | none => none
  | .isi a t, st => bnd (evE a st) fun x s1 => match rd s1 x with
    | some d => bnd (opt (isiD d t) s1) fun f s2 => ok (.v (.bl f)) s2
    | none => none
  | .max2 a b, st => bnd (evE a st) fun x s1 => bnd (evE b s1) fun y s2 => match x, y with
    | .v (.int i), .v (.int j) => ok (.v (.int (if j > i then j else i))) s2
    | _, _ => none
  | .min2 a b, st => bnd (evE a st) fun x s1 => bnd (evE b s1) fun y s2 => match x, y with
    | .v (.int i), .v (.int j) => ok (.v (.int (if j < i then j else i))) s2
    | _, _ => none
  | .fr f, st => bnd (evF f st) fun ds s1 => ok (.v (.lst ds)) s1
  | .dic0, st => ok (.v .dic) st
  | .popI i k, st => match st[i]? with
    | some (.own _ _) => bnd (evE k st) fun y s1 => match y, s1[i]? with
      | .v (.int n), some (.own m ds) => if ds.length ≤ 100000 then match ixN ds.length n with
        | some j => match ds[j]? with
          | some d => ok (.v d) (s1.set i (.own m (ds.eraseIdx j)))
          | none => none
        | none => none
        else none
      | _, _ => none
    | _ => none
  | .callT f g, st => bnd (evF g st) fun es s1 => bnd (lentD f es s1) fun d s2 => ok (.v d) s2
def evT : E → List S → R Bool
  | .and a b, st => bnd (evT a st) fun k s1 => if k then evT b s1 else ok false s1
  | .or a b, st => bnd (evT a st) fun k s1 => if k then ok true s1 else evT b s1
  | .not a, st => bnd (evT a st) fun k s1 => ok (!k) s1
  | .var i, st => bnd (slotOf st i) fun x s1 => match (rd s1 x).bind truD with
    | some k => ok k s1
    | none => none
  | .cmp .isn a _, st => bnd (evE a st) fun x s1 => match rd s1 x with
    | some d => ok (isNon d) s1
    | none => none
  | .cmp .nisn a _, st => bnd (evE a st) fun x s1 => match rd s1 x with
    | some d => ok (!isNon d) s1
    | none => none
  | .cmp o a b, st => bnd (evE a st) fun x s1 => bnd (evE b s1) fun y s2 => match rd s2 x, rd s2 y with
    | some d, some e => bnd (opt (cmD o d e) s2) fun f s3 => ok f s3
    | _, _ => none
  | .chain o p a b c, st => bnd (evE a st) fun x s1 => bnd (evE b s1) fun y s2 => match rd s2 x, rd s2 y with
    | some d, some e => match cmD o d e with
      | some true => bnd (evE c s2) fun z s3 => match rd s3 y, rd s3 z with
        | some e', some g => bnd (opt (cmD p e' g) s3) fun f s4 => ok f s4
        | _, _ => none
      | some false => ok false s2
      | none => none
    | _, _ => none
  | .call f es, st => bnd (evL es st) fun ws s1 => match f.fresh with
    | false => bnd (callD f ws s1) fun d s2 => match truD d with
      | some k => ok k s2
      | none => none
    | true => none
  | .b1 b a, st => bnd (evE a st) fun x s1 => match rd s1 x with
    | some d => bnd (opt (b1D b d) s1) fun f s2 => match truD f with
      | some k => ok k s2
      | none => none
    | none => none
  | .isi a t, st => bnd (evE a st) fun x s1 => match rd s1 x with
    | some d => bnd (opt (isiD d t) s1) fun f s2 => ok f s2
    | none => none
  | .callT f g, st => bnd (evF g st) fun es s1 => bnd (lentD f es s1) fun d s2 => match truD d with
    | some k => ok k s2
    | none => none
  | _, _ => none
def evF : FE → List S → R (List D)
  | .disp es, st => bnd (evL es st) fun ws s1 => match frzs s1 ws with
    | some (ds, s2) => if ds.length ≤ 100000 then ok ds s2 else none
    | none => none
  | .comp tg it c e, st => bnd (evI it st) fun items s1 => if tg.slots.all (plainAt s1) && decide (items.length ≤ 100000) then
      match turns tg (fun s => evC c s) (fun s => frzR (evE e s)) items s1 with
      | some (.ok ds, s2) => ok ds (restore s1 s2 tg.slots)
      | _ => none
    else none
  | .listOf a, st => bnd (evE a st) fun x s1 => match rd s1 x with
    | some (.lst ds) => ok ds s1
    | some (.tup ds) => ok ds s1
    | _ => none
  | .cat i f, st => match st[i]? with
    | some (.own _ _) => bnd (evF f st) fun ds s1 => match s1[i]? with
      | some (.own _ es) => if es.length + ds.length ≤ 100000 then ok (es ++ ds) s1 else none
      | _ => none
    | _ => none
  | .callF f es, st => bnd (evL es st) fun ws s1 => match f.fresh with
    | true => bnd (callD f ws s1) fun d s2 => match d with
      | .lst ds => ok ds s2
      | _ => none
    | false => none
  | .plus a b, st => bnd (evE a st) fun x s1 => bnd (evE b s1) fun y s2 => match rd s2 x, rd s2 y with
    | some (.lst xs), some (.lst ys) => if xs.length + ys.length ≤ 100000 then ok (xs ++ ys) s2 else none
    | _, _ => none
  | .sortF a, st => bnd (evE a st) fun x s1 => match rd s1 x with
    | some (.lst ds) => match firstsOf ds with
      | some ks => if decide ks.Nodup then ok (SR.sortK (ks.zip ds)) s1 else none
      | none => none
    | _ => none
  | .sortK f a, st => bnd (evE a st) fun x s1 => match frz s1 x with
    | some (.lst ds, s2) => if f.lend = false ∧ f.fresh = false ∧ f.many = 1 ∧ ds.length ≤ 100000 then match keysOf f ds with
      | some ks => ok (SR.sortK (ks.zip ds)) s2
      | none => none
      else none
    | _ => none
def evI : IT → List S → R (List D)
  | .rng1 a, st => bnd (evE a st) fun x s1 => match x with
    | .v (.int j) => if -100000 ≤ j ∧ j ≤ 100000 then ok (rngD 0 j.toNat) s1 else none
    | _ => none
  | .rng2 a b, st => bnd (evE a st) fun x s1 => bnd (evE b s1) fun y s2 => match x, y with
    | .v (.int i), .v (.int j) => if -100000 ≤ i ∧ i ≤ 100000 ∧ -100000 ≤ j ∧ j ≤ 100000 then ok (rngD i (j - i).toNat) s2 else none
    | _, _ => none
  | .seqT a, st => bnd (evE a st) fun x s1 => match x with
    | .v (.tup l) => ok l s1
    | _ => none
  | .seqL a, st => bnd (evE a st) fun x s1 => match frz s1 x with
    | some (.lst l, s2) => ok l s2
    | _ => none
  | .zipT a b, st => bnd (evE a st) fun x s1 => bnd (evE b s1) fun y s2 => match x, y with
    | .v (.tup l), .v (.tup m) => if l.length = m.length then ok (pairs l m) s2 else none
    | _, _ => none
  | .zipL a b, st => bnd (evE a st) fun x s1 => bnd (evE b s1) fun y s2 => match frzs s2 [x, y] with
    | some ([.lst l, .lst m], s3) => if l.length = m.length then ok (pairs l m) s3 else none
    | _ => none
  | .enmL a, st => bnd (evE a st) fun x s1 => match frz s1 x with
    | some (.lst l, s2) => ok (numbered 0 l) s2
    | _ => none
  | .enmT a, st => bnd (evE a st) fun x s1 => match x with
    | .v (.tup l) => ok (numbered 0 l) s1
    | _ => none
  | .seqA a, st => bnd (evE a st) fun x s1 => match frz s1 x with
    | some (.lst l, s2) => ok l s2
    | some (.tup l, s2) => ok l s2
    | _ => none
  | .enmA a, st => bnd (evE a st) fun x s1 => match frz s1 x with
    | some (.lst l, s2) => ok (numbered 0 l) s2
    | some (.tup l, s2) => ok (numbered 0 l) s2
    | _ => none
  | .zipA a b, st => bnd (evE a st) fun x s1 => bnd (evE b s1) fun y s2 => match frzs s2 [x, y] with
    | some ([d, e], s3) => match seqD d, seqD e with
      | some l, some m => ok (pairs l m) s3
      | _, _ => none
    | _ => none
def evL : EL → List S → R (List W)
  | .nil, st => ok [] st
  | .cons e r, st => bnd (evE e st) fun x s1 => bnd (evL r s1) fun xs s2 => ok (x :: xs) s2
  | .star e r, st => bnd (evE e st) fun x s1 => match rd s1 x with
    | some (.tup ds) => bnd (evL r s1) fun xs s2 => ok (ds.map .v ++ xs) s2
    | some (.lst ds) => bnd (evL r s1) fun xs s2 => ok (ds.map .v ++ xs) s2
    | _ => none
def evC : EO → List S → R Bool
  | .no, st => ok true st
  | .yes e, st => evT e st
def evO : EO → List S → R (Option Int)
  | .no, st => ok none st
  | .yes e, st => bnd (evE e st) fun x s1 => match x with
    | .v (.int i) => ok (some i) s1
    | _ => none
end

/-! ### statements -/
inductive EF where
  | e (x : E)
  | f (x : FE)
mutual
inductive T where
  | asg (i : Nat) (x : EF)
  | par2 (i j : Nat) (a b : EF)
  | par3 (i j l : Nat) (a b c : EF)
  | unp (t : Tg) (e : E)
  | unpN (l : Bool) (is : List Nat) (e : E)
  | setI (i : Nat) (k e : E)
  | app (i : Nat) (e : E)
  | drop (e : E)
  | ret (e : E)
  | retF (f : FE)
  | retN
  | ife (c : E) (a b : TL)
  | forr (t : Tg) (it : IT) (b : TL)
  | whl (c : E) (m : List S → Nat) (b : TL)
  | brk
  | cont
  | pas
  | nev
inductive TL where
  | nil
  | cons (t : T) (r : TL)
end
inductive Fl where
  | nx
  | bk
  | ct
  | rt (d : D)
/-- behind a turn's body -/
def turnS (o : R Fl) (kk : List S → R Fl) : R Fl := match o with
  | none => none
  | some (.error x, s2) => some (.error x, s2)
  | some (.ok .nx, s2) => kk s2
  | some (.ok .ct, s2) => kk s2
  | some (.ok .bk, s2) => ok .nx s2
  | some (.ok (.rt d), s2) => ok (.rt d) s2
/-- the turns of a for: the body is given -/
def loopT (tg : Tg) (body : List S → R Fl) : List D → List S → R Fl
  | [], st => ok .nx st
  | x :: xs, st => match setTg st tg x with
    | none => none
    | some s1 => turnS (body s1) fun s => loopT tg body xs s
def whileT (c : List S → R Bool) (body : List S → R Fl) : Nat → List S → R Fl
  | 0, _ => none
  | n + 1, st => match c st with
    | none => none
    | some (.error x, s1) => some (.error x, s1)
    | some (.ok false, s1) => ok .nx s1
    | some (.ok true, s1) => turnS (body s1) fun s => whileT c body n s
/-- what is to be stored: data, or a list of its own -/
def evX : EF → List S → R S
  | .e x, st => bnd (evE x st) fun w s1 => match frz s1 w with
    | some (d, s2) => ok (.val d) s2
    | none => none
  | .f x, st => bnd (evF x st) fun ds s1 => ok (.own false ds) s1
/-- names in a row -/
def setNs (st : List S) : List Nat → List D → Option (List S)
  | [], [] => some st
  | i :: is, d :: ds => if free st i then setNs (st.set i (.val d)) is ds else none
  | _, _ => none
def setS (st : List S) (i : Nat) (s : S) : Option (List S) := if free st i then some (st.set i s) else none
mutual
def exT : T → List S → R Fl
  | .asg i x, st => bnd (evX x st) fun s s1 => bnd (opt (setS s1 i s) s1) fun s2 _ => ok .nx s2
  | .par2 i j a b, st => bnd (evX a st) fun x s1 => bnd (evX b s1) fun y s2 => bnd (opt (setS s2 i x) s2) fun s3 _ => bnd (opt (setS s3 j y) s3) fun s4 _ => ok .nx s4
  | .par3 i j l a b c, st => bnd (evX a st) fun x s1 => bnd (evX b s1) fun y s2 => bnd (evX c s2) fun z s3 => bnd (opt (setS s3 i x) s3) fun s4 _ => bnd (opt (setS s4 j y) s4) fun s5 _ => bnd (opt (setS s5 l z) s5) fun s6 _ => ok .nx s6
  | .unp t e, st => bnd (evE e st) fun x s1 => match x with
    | .v d => bnd (opt (setTg s1 t d) s1) fun s2 _ => ok .nx s2
    | _ => none
  | .unpN l is e, st => bnd (evE e st) fun x s1 => match l, x with
    | false, .v (.tup ds) => bnd (opt (setNs s1 is ds) s1) fun s2 _ => ok .nx s2
    | true, .v (.lst ds) => bnd (opt (setNs s1 is ds) s1) fun s2 _ => ok .nx s2
    | _, _ => none
  | .setI i k e, st => bnd (evX (.e e) st) fun x s2 => match x, s2[i]? with
    | .val d, some (.own _ _) => bnd (evE k s2) fun y s3 => match y, s3[i]? with
      | .v (.int n), some (.own m ds) => match ixN ds.length n with
        | some j => ok .nx (s3.set i (.own m (ds.set j d)))
        | none => none
      | _, _ => none
    | _, _ => none
  | .app i e, st => match st[i]? with
    | some (.own _ _) => bnd (evX (.e e) st) fun x s2 => match x, s2[i]? with
      | .val d, some (.own m ds) => if ds.length ≤ 100000 then ok .nx (s2.set i (.own m (ds ++ [d]))) else none
      | _, _ => none
    | _ => none
  | .drop e, st => bnd (evE e st) fun _ s1 => ok .nx s1
  | .ret e, st => bnd (evE e st) fun x s1 => match frz s1 x with
    | some (d, s2) => ok (.rt d) s2
    | none => none
  | .retF f, st => bnd (evF f st) fun ds s1 => ok (.rt (.lst ds)) s1
  | .retN, st => ok (.rt .non) st
  | .ife c a b, st => bnd (evT c st) fun k s1 => if k then exL a s1 else exL b s1
  | .forr t it b, st => bnd (evI it st) fun items s1 => if items.length ≤ 100000 then loopT t (fun s => exL b s) items s1 else none
  | .whl c m b, st => whileT (fun s => evT c s) (fun s => exL b s) (m st) st
  | .brk, st => ok .bk st
  | .cont, st => ok .ct st
  | .pas, st => ok .nx st
  | .nev, _ => none
def exL : TL → List S → R Fl
  | .nil, st => ok .nx st
  | .cons t r, st => match exT t st with
    | none => none
    | some (.error x, s1) => some (.error x, s1)
    | some (.ok .nx, s1) => exL r s1
    | some (.ok f, s1) => some (.ok f, s1)
end
def argS (lend : Bool) (es ds : List D) : List S := if lend then .own true es :: ds.map .val else ds.map .val
/-- a def's body run -/
def runDef (n : Nat) (lend fr : Bool) (body : TL) (es ds : List D) : Option (Except Exn D × List D) :=
  match exL body (argS lend es ds ++ List.replicate (n - (argS lend es ds).length) .un) with
  | none => none
  | some (r, st) =>
    let back : List D := match (st[0]? : Option S) with | some (S.own true zs) => zs | _ => []
    match r with
    | .error x => some (.error x, back)
    | .ok (.rt d) => some (.ok d, back)
    | .ok .nx => if fr then none else some (.ok .non, back)
    | .ok _ => none
def mLen (i : Nat) (st : List S) : Nat := match (st[i]? : Option S) with
  | some (.own _ ds) => ds.length + 1
  | _ => 0
def mInt (i : Nat) (st : List S) : Nat := match (st[i]? : Option S) with
  | some (.val (.int n)) => n.natAbs + 1
  | _ => 0
end SG
/-! Sg3: readings of the small language; operations. -/
namespace SG
open PySem L2 PyProof.Rows

def ErrOk (K : PySem.W.Frag) (mg : Str → Option Value) (G H : Hp) (cls : Value) (dx : Option Addr) (x : Exn) : Prop :=
  ∃ C : Addr, mg x.cls = some (.ref C) ∧ cls = .ref C ∧ match x.kept with
    | none => True
    | some (f, d) => ∃ (a : Addr) (v : V), dx = some a ∧ H a = some (.xd [(f, v)]) ∧ Rp K G v d

/-- what is asked behind a run -/
def Wp {α : Type} (K : PySem.W.Frag) (mg : Str → Option Value) (Wx : WX) (o : R α) (G H : Hp) (σ : L2.St) (st : List S) (k : α → List S → Hp → Hp → Prop) : Prop :=
  match o with
  | none => False
  | some (.error x, s1) => ∀ cls dx G' H', Stp G H σ st G' H' σ s1 → Rl K G' H' σ s1 → ErrOk K mg G' H' cls dx x → Wx cls dx σ H'
  | some (.ok a, s1) => ∀ G' H', Stp G H σ st G' H' σ s1 → Rl K G' H' σ s1 → k a s1 G' H'

def Vw (K : PySem.W.Frag) (G : Hp) (σ : L2.St) (v : V) : W → Prop
  | .v d => Rp K G v d
  | .o i => σ[i]? = some (some v)
def Vws (K : PySem.W.Frag) (G : Hp) (σ : L2.St) : List V → List W → Prop
  | [], [] => True
  | v :: vs, w :: ws => Vw K G σ v w ∧ Vws K G σ vs ws
  | _, _ => False
/-- read as data for now -/
def RpW (K : PySem.W.Frag) (G H : Hp) (v : V) (d : D) : Prop := Rp K G v d ∨ ∃ (a : Addr) (xs : List V) (ds : List D), v = .ref a ∧ d = .lst ds ∧ H a = some (.lst xs) ∧ Rps K G xs ds

def tW (K : PySem.W.Frag) (mg : Str → Option Value) (Wx : WX) (f : List S → R W) : TE := fun σ H Q =>
  ∃ G st, Rl K G H σ st ∧ Wp K mg Wx (f st) G H σ st fun w _ G' H' => ∀ v, Vw K G' σ v w → Q v H'
def tWs (K : PySem.W.Frag) (mg : Str → Option Value) (Wx : WX) (f : List S → R (List W)) : TA := fun σ H Q =>
  ∃ G st, Rl K G H σ st ∧ Wp K mg Wx (f st) G H σ st fun w _ G' H' => ∀ v, Vws K G' σ v w → Q v H'
def tWt (K : PySem.W.Frag) (mg : Str → Option Value) (Wx : WX) (f : List S → R Bool) : TT := fun σ H Q =>
  ∃ G st, Rl K G H σ st ∧ Wp K mg Wx (f st) G H σ st fun b _ _ H' => Q b H'
/-- a new list that nobody owns -/
def NewL (K : PySem.W.Frag) (G H G' H' : Hp) (σ : L2.St) (st' : List S) (v : V) (ds : List D) : Prop := ∃ (a : Addr) (xs : List V), v = .ref a ∧ H a = none ∧ G' a = none ∧ H' a = some (.lst xs) ∧ Rps K G' xs ds ∧ ¬ Owned σ st' a
def tWf (K : PySem.W.Frag) (mg : Str → Option Value) (Wx : WX) (f : List S → R (List D)) : TE := fun σ H Q =>
  ∃ G st, Rl K G H σ st ∧ Wp K mg Wx (f st) G H σ st fun ds s1 G' H' => ∀ v, NewL K G H G' H' σ s1 v ds → Q v H'

section
variable {K : PySem.W.Frag} {mg : Str → Option Value} {Wx : WX} {G H G' H' : Hp} {σ : L2.St} {st st' : List S}
theorem PE.to {X : Cx} {e : Expr} {t t' : TE} (h : PE X e t) (k : ∀ σ H Q, t' σ H Q → t σ H Q) : PE X e t' := ⟨fun pins s σ H Q I q => h.run pins s σ H Q I (k σ H Q q)⟩
theorem PT.to {X : Cx} {e : Expr} {t t' : TT} (h : PT X e t) (k : ∀ σ H Q, t' σ H Q → t σ H Q) : PT X e t' := ⟨fun pins s σ H Q I q => h.run pins s σ H Q I (k σ H Q q)⟩
theorem PA.to {X : Cx} {e : List Expr} {t t' : TA} (h : PA X e t) (k : ∀ σ H Q, t' σ H Q → t σ H Q) : PA X e t' := ⟨fun pos pins s σ H Q I q => h.run pos pins s σ H Q I (k σ H Q q)⟩
theorem PS.to {X : Cx} {e : Stmt} {t t' : TS} (h : PS X e t) (k : ∀ D σ H, t' D σ H → t D σ H) : PS X e t' := ⟨fun pins s σ H D I q => h.run pins s σ H D I (k D σ H q)⟩
theorem PSs.to {X : Cx} {e : List Stmt} {t t' : TS} (h : PSs X e t) (k : ∀ D σ H, t' D σ H → t D σ H) : PSs X e t' := ⟨fun pins s σ H D I q => h.run pins s σ H D I (k D σ H q)⟩

theorem Wp.bnd {α β : Type} {o : R α} {f : α → List S → R β} {k : β → List S → Hp → Hp → Prop} (h : Wp K mg Wx (SG.bnd o f) G H σ st k) :
    Wp K mg Wx o G H σ st fun a s1 G1 H1 => Wp K mg Wx (f a s1) G1 H1 σ s1 k := by
  match o, h with
  | some (.error x, s1), h => exact h
  | some (.ok a, s1), h =>
    intro G1 H1 p r
    have h : Wp K mg Wx (f a s1) G H σ st k := h
    show Wp K mg Wx (f a s1) G1 H1 σ s1 k
    match e : f a s1 with
    | none => rw [e] at h; exact h
    | some (.error x, s2) =>
      rw [e] at h
      exact fun cls dx G' H' q => h cls dx G' H' (p.trans q)
    | some (.ok b, s2) =>
      rw [e] at h
      exact fun G' H' q => h G' H' (p.trans q)
theorem Wp.imp {α : Type} {o : R α} {k k' : α → List S → Hp → Hp → Prop} (h : Wp K mg Wx o G H σ st k) (f : ∀ a s1 G' H', o = some (.ok a, s1) → Stp G H σ st G' H' σ s1 → Rl K G' H' σ s1 → k a s1 G' H' → k' a s1 G' H') : Wp K mg Wx o G H σ st k' := by
  match o, h with
  | some (.error x, s1), h => exact h
  | some (.ok a, s1), h => exact fun G' H' p r => f a s1 G' H' rfl p r (h G' H' p r)
theorem Wp.ok {α : Type} {a : α} {k : α → List S → Hp → Hp → Prop} (h : Wp K mg Wx (SG.ok a st) G H σ st k) (r : Rl K G H σ st) : k a st G H := h G H .refl r
theorem Wp.now {α : Type} {a : α} {k : α → List S → Hp → Hp → Prop} {st1 : List S} (h : Wp K mg Wx (SG.ok a st1) G H σ st k) : ∀ G' H', Stp G H σ st G' H' σ st1 → Rl K G' H' σ st1 → k a st1 G' H' := h

theorem Vw.mono (h : Sub G G') {v : V} : ∀ {w : W}, Vw K G σ v w → Vw K G' σ v w
  | .v _, k => Rp.mono h k
  | .o _, k => k
theorem Vws.mono (h : Sub G G') : ∀ {vs : List V} {ws : List W}, Vws K G σ vs ws → Vws K G' σ vs ws
  | [], [], _ => trivial
  | _ :: _, _ :: _, ⟨a, b⟩ => ⟨Vw.mono h a, Vws.mono h b⟩
  | [], _ :: _, k => k.elim
  | _ :: _, [], k => k.elim
theorem rd_ok (r : Rl K G H σ st) {v : V} {d : D} : ∀ {w : W}, Vw K G σ v w → rd st w = some d → RpW K G H v d
  | .v e, k, h => by
    have h' : e = d := Option.some.inj h
    subst h'
    exact .inl k
  | .o i, k, h => by
    have k : σ[i]? = some (some v) := k
    simp only [rd] at h
    split at h
    · rename_i m ds e
      cases h
      obtain ⟨a, xs, h1, h2, h3, h4⟩ := r.own i m ds e
      rw [k] at h1
      cases h1
      exact .inr ⟨a, xs, ds, rfl, rfl, h3, h4⟩
    · rename_i d' e
      cases h
      obtain ⟨u, h1, h2⟩ := r.val i _ e
      rw [k] at h1
      cases h1
      exact .inl h2
    · cases h
/-- data made of what was handed on -/
theorem frz_ok (r : Rl K G H σ st) {v : V} {d : D} {st1 : List S} : ∀ {w : W}, Vw K G σ v w → frz st w = some (d, st1) →
    ∃ G1, Stp G H σ st G1 H σ st1 ∧ Rl K G1 H σ st1 ∧ Rp K G1 v d
  | .v e, k, h => by
    have h' : (e, st) = (d, st1) := Option.some.inj h
    cases h'
    exact ⟨G, .refl, r, k⟩
  | .o i, k, h => by
    have k : σ[i]? = some (some v) := k
    simp only [frz] at h
    split at h
    · rename_i ds e
      cases h
      obtain ⟨a, xs, h1, h2, h3, h4⟩ := r.own i false ds e
      have k' := k
      rw [h1] at k'
      cases k'
      obtain ⟨r1, r2⟩ := r.thaw e h1 h3
      exact ⟨_, Stp.thaw r e h1, r1, r2⟩
    · rename_i d' e
      cases h
      obtain ⟨u, h1, h2⟩ := r.val i _ e
      rw [k] at h1
      cases h1
      exact ⟨G, .refl, r, h2⟩
    · cases h
theorem frzs_ok : ∀ {ws : List W} {vs : List V} {ds : List D} {G : Hp} {st st1 : List S}, Rl K G H σ st → Vws K G σ vs ws → frzs st ws = some (ds, st1) →
    ∃ G1, Stp G H σ st G1 H σ st1 ∧ Rl K G1 H σ st1 ∧ Rps K G1 vs ds
  | [], [], ds, G, st, st1, r, _, h => by
    have h' : (([] : List D), st) = (ds, st1) := Option.some.inj h
    cases h'
    exact ⟨G, .refl, r, .nil⟩
  | w :: ws, v :: vs, ds, G, st, st1, r, k, h => by
    unfold frzs at h
    split at h
    · cases h
    · rename_i d s1 e1
      split at h
      · cases h
      · rename_i es s2 e2
        cases h
        obtain ⟨G1, p1, r1, q1⟩ := frz_ok r k.1 e1
        obtain ⟨G2, p2, r2, q2⟩ := frzs_ok r1 (k.2.mono p1.gr) e2
        exact ⟨G2, p1.trans p2, r2, .cons (q1.mono p2.gr) q2⟩
  | [], _ :: _, _, _, _, _, _, k, _ => k.elim
  | _ :: _, [], _, _, _, _, _, k, _ => k.elim

/-- a result: as it stands, or a new object -/
def Res (K : PySem.W.Frag) (G H : Hp) (f : D) (Q : VK) : Prop := (∀ v, Rp K G v f → Q v H) ∧ ∀ p o, H p = none → Rp K (upd G p o) (.ref p) f → Q (.ref p) (upd H p o)
theorem Res.of (r : Rl K G H σ st) {f : D} {Q : VK} (h : ∀ G' H', Stp G H σ st G' H' σ st → Rl K G' H' σ st → ∀ v, Rp K G' v f → Q v H') : Res K G H f Q :=
  ⟨fun v k => h G H .refl r v k, fun p o hp k => h _ _ (Stp.newF r o hp) (r.newF o hp) _ k⟩

mutual
theorem dp_rp (h : Sub G H) : ∀ {v : V} {d : D}, nodic d = true → Rp K G v d → Dp K H v d.toP
  | _, _, _, .non => by unfold D.toP; exact .non
  | _, _, _, .bl b => by unfold D.toP; exact .bl b
  | _, _, _, .int i => by unfold D.toP; exact .int i
  | _, _, _, .str x => by unfold D.toP; exact .str x
  | _, _, n, .tup s r => by unfold nodic at n; unfold D.toP; exact .tup (h.sqT s) (dp_rps h n r)
  | _, _, n, .lst s r => by unfold nodic at n; unfold D.toP; exact .lst (h.sqL s) (dp_rps h n r)
  | _, _, n, .dic _ => by unfold nodic at n; cases n
theorem dp_rps (h : Sub G H) : ∀ {vs : List V} {ds : List D}, nodics ds = true → Rps K G vs ds → DpAll K H vs (D.toPs ds)
  | _, _, _, .nil => by unfold D.toPs; exact .nil
  | _, _, n, .cons a b => by
    unfold nodics at n
    rw [Bool.and_eq_true] at n
    unfold D.toPs
    exact .cons (dp_rp h n.1 a) (dp_rps h n.2 b)
end
theorem dp_of (h : Sub G H) {v : V} {d : D} (n : nodic d = true) (k : RpW K G H v d) : Dp K H v d.toP := by
  rcases k with k | ⟨a, xs, ds, rfl, rfl, h1, h2⟩
  · exact dp_rp h n k
  · unfold nodic at n
    unfold D.toP
    exact .lst (.inl (.inl h1)) (dp_rps h n h2)
theorem toPs_any (d : D) : ∀ l : List D, (l.any fun z => eqD z d) = (D.toPs l).any fun z => PyData.eqv z d.toP
  | [] => rfl
  | x :: l => by unfold D.toPs; rw [List.any_cons, List.any_cons, toPs_any d l]; rfl
theorem RpW.int {v : V} {i : Int} (h : RpW K G H v (.int i)) : v = .int i := by
  rcases h with h | ⟨_, _, _, _, e, _⟩
  · cases h; rfl
  · cases e
theorem RpW.bl {v : V} {b : Bool} (h : RpW K G H v (.bl b)) : v = .bl b := by
  rcases h with h | ⟨_, _, _, _, e, _⟩
  · cases h; rfl
  · cases e
theorem RpW.str {v : V} {b : Str} (h : RpW K G H v (.str b)) : v = .str b := by
  rcases h with h | ⟨_, _, _, _, e, _⟩
  · cases h; rfl
  · cases e
theorem RpW.tup {v : V} {ds : List D} (hs : Sub G H) (h : RpW K G H v (.tup ds)) : ∃ a xs, v = .ref a ∧ SqT K H a xs ∧ Rps K G xs ds := by
  rcases h with h | ⟨_, _, _, _, e, _⟩
  · cases h with
    | tup s r => exact ⟨_, _, rfl, hs.sqT s, r⟩
  · cases e
theorem RpW.lst {v : V} {ds : List D} (hs : Sub G H) (h : RpW K G H v (.lst ds)) : ∃ a xs, v = .ref a ∧ SqL K H a xs ∧ Rps K G xs ds := by
  rcases h with h | ⟨a, xs, es, rfl, e, h1, h2⟩
  · cases h with
    | lst s r => exact ⟨_, _, rfl, hs.sqL s, r⟩
  · cases e
    exact ⟨a, xs, rfl, .inl (.inl h1), h2⟩
end

/-! ### operators -/
def Op.ast : Op → Operator
  | .add => .Add
  | .sub => .Sub
  | .mul => .Mult
  | .fdiv => .FloorDiv
  | .mod => .Mod
  | .pow => .Pow
def Cm.ast : Cm → CmpOp
  | .lt => .Lt
  | .le => .LtE
  | .gt => .Gt
  | .ge => .GtE
  | .eq => .Eq
  | .ne => .NotEq
  | .isn => .Is
  | .nisn => .IsNot
  | .isin => .In
  | .notin => .NotIn
  | .isb => .Is
  | .nisb => .IsNot
theorem mulOk_ok {i j : Int} (h : mulOk i j = true) : IntMulOk i j := by
  unfold mulOk bitsOf at h
  rcases of_decide_eq_true h with h | h | h
  · exact .of_left h
  · exact .of_right h
  · have e : bitsLine = 134217728 := by decide
    unfold IntMulOk
    intro z
    rw [Bool.and_eq_true] at z
    have z2 := z.2
    unfold Builtin.Int.intTooBig at z2
    have z3 := of_decide_eq_true z2
    rw [e] at z3
    omega
theorem fdivOk_ok {j : Int} (h : bitsOf j ≤ 9000) : j.natAbs.log2 < 9000 := by
  unfold bitsOf Builtin.Int.intBits at h
  split at h
  · rename_i z
    have : j = 0 := by simpa using z
    subst this
    decide
  · omega
theorem small_line {n : Nat} (h : n ≤ 100000) : n ≤ sizeLine := by rw [sizeLine_eq]; omega
/-! ### a tuple none or one time -/
theorem mul_one_tup (l : Addr) (items : Array Value) (n : Nat) (dd : Option Addr) (sl : Array (Option Value)) (u : Tok) :
    Meets (Builtin.«tuple.__mul__» ⟨[.ref l, .int 1 u], []⟩) (fun _ R s => s.heap.get? l = some { cls := .type "tuple", dict := dd, data := .seq items n, slots := sl } ∧ R (.ok (.ret (Value.ref l))) s) :=
  .of_wp fun prog w A R s h => by
    obtain ⟨hp, g, d, tk, os⟩ := s
    obtain ⟨hl, h⟩ := h
    have f1 := AutoSeq1.idx_int
    have c1 : (items.isEmpty || (1 : Int) == 1) = true := by rw [Bool.or_eq_true]; exact .inr rfl
    wp_walk using wpAny_loadPart' hl
    exact ⟨_, rfl, h⟩
theorem mul_none_tup (l : Addr) (items : Array Value) (n : Nat) (dd : Option Addr) (sl : Array (Option Value)) (u : Tok) (hi : items.isEmpty = false) :
    Meets (Builtin.«tuple.__mul__» ⟨[.ref l, .int 0 u], []⟩) (fun _ R s => s.heap.get? l = some { cls := .type "tuple", dict := dd, data := .seq items n, slots := sl } ∧
      R (.ok (.ret (Value.ref s.heap.objs.size))) { s with heap := s.heap.push { cls := Value.type "tuple", data := Data.seq #[] }, toks := s.toks }) :=
  .of_wp fun prog w A R s h => by
    obtain ⟨hp, g, d, tk, os⟩ := s
    obtain ⟨hl, h⟩ := h
    have f1 := AutoSeq1.idx_int
    have c1 : (items.isEmpty || (0 : Int) == 1) = false := by rw [hi]; rfl
    wp_walk using wpAny_loadPart' hl
    exact ⟨_, rfl, h⟩
def rRep (K : PySem.W.Frag) : R2 := fun x y H Q => ∃ l k xs, x = .ref l ∧ y = .int k ∧ SqT K H l xs ∧ xs ≠ [] ∧ xs.length ≤ 1000 ∧ 0 ≤ k ∧ k ≤ 1000 ∧ (k = 1 → Q (.ref l) H) ∧ (k ≠ 1 → ∀ p, H p = none → Q (.ref p) (upd H p (.tup (List.replicate k.toNat xs).flatten)))
theorem op_rep {X : Cx} : OpR X (binaryOp .Mult) (rRep X.K) := by
  intro pins s σ H x y v u Q I rx ry h
  obtain ⟨l, k, xs, rfl, rfl, hT, hne, hz, k0, k1, q1, q2⟩ := h
  by_cases h2 : 2 ≤ k
  · exact op_repT pins s σ H _ _ v u Q I rx ry ⟨l, k, xs, rfl, rfl, hT, hne, h2, k1, hz, q2 (by omega)⟩
  · cases rx
    obtain ⟨t, rfl⟩ := ry
    obtain ⟨its, r, ⟨⟨cls, dd, data, sl⟩, ho, hc, n, hd⟩, hs⟩ := I.tuple hT
    simp only at hc hd
    subst hc hd
    have none' : its.toArray.isEmpty = false := by
      cases its with
      | nil => exact absurd (List.eq_nil_of_length_eq_zero r.length) hne
      | cons _ _ => rfl
    by_cases e : k = 1
    · subst e
      exact wpAny_binaryOp_repeat_ref (T := "tuple") (U := "int") (by decide) ⟨_, ho, rfl⟩ (fun s' => typeIs_int s' 1 t) noFill_tuple_mul F.fills_int_mul F.slot_int_rmul repeat_tuple F.slot_int_index.lookup
        (call_meets F.slot_int_rmul (typeIs_int s 1 t) F.entry_int_rmul (F.args_int_rmul_2 _ _) (int_rmul_tuple 1 t l its.toArray n dd sl)
          ⟨ho, rfl, ⟨_, ho, rfl⟩, call_meets F.slot_tuple_mul ⟨_, ho, rfl⟩ F.entry_tuple_mul (F.args_tuple_mul_2 _ _) (mul_one_tup l its.toArray n dd sl t) ⟨ho, .ref l, H, I, rfl, q1 rfl⟩⟩)
    · have e0 : k = 0 := by omega
      subst e0
      refine wpAny_binaryOp_repeat_ref (T := "tuple") (U := "int") (by decide) ⟨_, ho, rfl⟩ (fun s' => typeIs_int s' 0 t) noFill_tuple_mul F.fills_int_mul F.slot_int_rmul repeat_tuple F.slot_int_index.lookup
        (call_meets F.slot_int_rmul (typeIs_int s 0 t) F.entry_int_rmul (F.args_int_rmul_2 _ _) (int_rmul_tuple 0 t l its.toArray n dd sl)
          ⟨ho, rfl, ⟨_, ho, rfl⟩, call_meets F.slot_tuple_mul ⟨_, ho, rfl⟩ F.entry_tuple_mul (F.args_tuple_mul_2 _ _) (mul_none_tup l its.toArray n dd sl t none') ⟨ho, ?_⟩⟩)
      refine ⟨.ref s.heap.objs.size, _, I.laid (t' := s.toks) (o := .tup []) (fun b ob q => Heap.get?_push_of_some _ q) (Nat.le_refl _) ?_, rfl, q2 (by omega) _ (I.hok.fresh (Nat.le_refl _))⟩
      exact ⟨Nat.zero_le _, [], .nil, IsTup.new _ _⟩
def rBin (K : PySem.W.Frag) (o : Op) : R2 := fun x y H Q => ∃ G d e f, Sub G H ∧ RpW K G H x d ∧ RpW K G H y e ∧ opD o d e = some f ∧ Res K G H f Q
section
variable {X : Cx}
theorem op_bin (o : Op) : OpR X (binaryOp o.ast) (rBin X.K o) := by
  intro pins s σ H x y v u Q I rx ry h
  obtain ⟨G, d, e, f, hs, h1, h2, h3, q⟩ := h
  unfold opD at h3
  split at h3
  · cases h3
    obtain rfl := h1.int
    obtain rfl := h2.int
    exact op_add pins s σ H _ _ v u Q I rx ry ⟨_, _, rfl, rfl, q.1 _ (.int _)⟩
  · cases h3
    obtain rfl := h1.int
    obtain rfl := h2.int
    exact op_sub pins s σ H _ _ v u Q I rx ry ⟨_, _, rfl, rfl, q.1 _ (.int _)⟩
  · split at h3
    · rename_i c
      cases h3
      obtain rfl := h1.int
      obtain rfl := h2.int
      obtain ⟨t, rfl⟩ := rx
      obtain ⟨t', rfl⟩ := ry
      exact mul_int ⟨.int _, H, I.tok _, ⟨_, rfl⟩, q.1 _ (.int _)⟩ (mulOk_ok c)
    · cases h3
  · split at h3
    · rename_i c
      cases h3
      obtain rfl := h1.int
      obtain rfl := h2.int
      exact op_fdivW pins s σ H _ _ v u Q I rx ry ⟨_, _, rfl, rfl, ⟨c.1, fdivOk_ok c.2⟩, q.1 _ (.int _)⟩
    · cases h3
  · split at h3
    · rename_i c
      cases h3
      obtain rfl := h1.int
      obtain rfl := h2.int
      exact op_mod pins s σ H _ _ v u Q I rx ry ⟨_, _, rfl, rfl, c, q.1 _ (.int _)⟩
    · cases h3
  · split at h3
    · rename_i c
      cases h3
      obtain rfl := h1.int
      obtain rfl := h2.int
      obtain ⟨t, rfl⟩ := rx
      obtain ⟨t', rfl⟩ := ry
      exact PyProof.Rows.pow_int c.1 c.2 ⟨.int _, H, I.tok _, ⟨_, rfl⟩, q.1 _ (.int _)⟩
    · cases h3
  · split at h3
    · rename_i xs ys c
      cases h3
      obtain ⟨a, vs, rfl, s1, r1⟩ := h1.tup hs
      obtain ⟨b, ws, rfl, s2, r2⟩ := h2.tup hs
      have l1 := r1.length
      have l2 := r2.length
      refine op_catA pins s σ H _ _ v u Q I rx ry ⟨a, b, vs, ws, rfl, rfl, s1, s2, by rw [l1, l2]; exact small_line c, fun z => ?_, fun _ z => ?_, fun _ z p hp => ?_⟩
      · rw [z] at l1
        have : xs = [] := List.length_eq_zero_iff.mp l1.symm
        subst this
        have h2' : Rp X.K G (.ref b) (.tup ys) := by
          rcases h2 with h | ⟨_, _, _, _, e, _⟩
          · exact h
          · cases e
        exact q.1 _ h2'
      · rw [z] at l2
        have : ys = [] := List.length_eq_zero_iff.mp l2.symm
        subst this
        have h1' : Rp X.K G (.ref a) (.tup xs) := by
          rcases h1 with h | ⟨_, _, _, _, e, _⟩
          · exact h
          · cases e
        exact q.1 _ (by rw [List.append_nil]; exact h1')
      · refine q.2 p (.tup (vs ++ ws)) hp (.tup (.inl (.inl upd_same)) ?_)
        have gp : G p = none := by
          cases e : G p with
          | none => rfl
          | some o => rw [hs p o e] at hp; cases hp
        exact (r1.append r2).mono (sub_upd gp)
    · cases h3
  · split at h3
    · rename_i xs k c
      cases h3
      obtain rfl := h2.int
      have h1' : Rp X.K G x (.tup xs) := by
        rcases h1 with h | ⟨_, _, _, _, e, _⟩
        · exact h
        · cases e
      obtain ⟨a, vs, rfl, s1, r1⟩ := h1.tup hs
      have l1 := r1.length
      refine op_rep pins s σ H _ _ v u Q I rx ry ⟨a, k, vs, rfl, rfl, s1, fun z => c.1 ?_, by rw [l1]; exact c.2.2.2, c.2.1, c.2.2.1, fun e => ?_, fun _ p hp => ?_⟩
      · rw [z] at l1
        exact List.length_eq_zero_iff.mp l1.symm
      · subst e
        exact q.1 _ (by simpa using h1')
      · refine q.2 p _ hp (.tup (.inl (.inl upd_same)) ((r1.repl k.toNat).mono (sub_upd ?_)))
        cases e : G p with
        | none => rfl
        | some o => rw [hs p o e] at hp; cases hp
    · cases h3
  · split at h3
    · rename_i c
      cases h3
      obtain rfl := h1.str
      obtain rfl := h2.str
      exact op_add_str pins s σ H _ _ v u Q I rx ry ⟨_, _, rfl, rfl, small_line c, q.1 _ (.str _)⟩
    · cases h3
  · cases h3
def rCmp (K : PySem.W.Frag) (o : Cm) : R2 := fun x y H Q => ∃ G d e b, Sub G H ∧ RpW K G H x d ∧ RpW K G H y e ∧ cmD o d e = some b ∧ Q (.bl b) H
theorem dec_strD {i j : Str} : decide (V.str i = V.str j) = decide (i = j) := by
  by_cases e : i = j
  · subst e; simp
  · rw [decide_eq_false e, decide_eq_false fun z => e (V.str.inj z)]
theorem op_cmp (hu' : X.A.units + 65 < cLine) (o : Cm) : OpR X (compareOp o.ast) (rCmp X.K o) := by
  intro pins s σ H x y v u Q I rx ry h
  have hu : X.A.units + 64 < cLine := by omega
  obtain ⟨G, d, e, f, hs, h1, h2, h3, q⟩ := h
  unfold cmD at h3
  split at h3
  · cases h3
    obtain rfl := h1.int
    obtain rfl := h2.int
    exact op_lt pins s σ H _ _ v u Q I rx ry ⟨_, _, rfl, rfl, q⟩
  · cases h3
    obtain rfl := h1.int
    obtain rfl := h2.int
    exact op_le pins s σ H _ _ v u Q I rx ry ⟨_, _, rfl, rfl, q⟩
  · cases h3
    obtain rfl := h1.int
    obtain rfl := h2.int
    exact op_gt pins s σ H _ _ v u Q I rx ry ⟨_, _, rfl, rfl, q⟩
  · cases h3
    obtain rfl := h1.int
    obtain rfl := h2.int
    exact op_ge pins s σ H _ _ v u Q I rx ry ⟨_, _, rfl, rfl, q⟩
  · cases h3
    obtain rfl := h1.str
    obtain rfl := h2.str
    exact op_eq pins s σ H _ _ v u Q I rx ry ⟨rfl, by rw [show decide (V.str _ = V.str _) = _ from dec_strD]; exact q⟩
  · cases h3
    obtain rfl := h1.str
    obtain rfl := h2.str
    exact op_ne pins s σ H _ _ v u Q I rx ry ⟨rfl, by rw [show decide (V.str _ = V.str _) = _ from dec_strD]; exact q⟩
  · split at h3
    · rename_i c
      cases h3
      simp only [shp, Bool.and_eq_true] at c
      exact op_eqD hu pins s σ H _ _ v u Q I rx ry ⟨_, _, dp_of hs c.1.1 h1, dp_of hs c.2.1 h2, c.1.2, c.2.2, q⟩
    · cases h3
  · split at h3
    · rename_i c
      cases h3
      simp only [shp, Bool.and_eq_true] at c
      exact op_neD hu pins s σ H _ _ v u Q I rx ry ⟨_, _, dp_of hs c.1.1 h1, dp_of hs c.2.1 h2, c.1.2, c.2.2, q⟩
    · cases h3
  · cases h3
    obtain rfl := h1.bl
    obtain rfl := h2.bl
    exact op_isBl pins s σ H _ _ v u Q I rx ry ⟨_, _, rfl, rfl, q⟩
  · cases h3
    obtain rfl := h1.bl
    obtain rfl := h2.bl
    exact op_notBl pins s σ H _ _ v u Q I rx ry ⟨_, _, rfl, rfl, q⟩
  · split at h3
    · rename_i l c
      cases h3
      simp only [shp, Bool.and_eq_true] at c
      have d1 := dp_of hs c.1.1 h1
      have d2 := dp_of hs c.2.1 h2
      have c2 := c.2.2
      unfold D.toP at d2 c2
      exact op_inD hu' pins s σ H _ _ v u Q I rx ry ⟨_, _, d1, d2, c.1.2, c2, by rw [toPs_any] at q; exact q⟩
    · cases h3
  · split at h3
    · rename_i l c
      cases h3
      simp only [shp, Bool.and_eq_true] at c
      have d1 := dp_of hs c.1.1 h1
      have d2 := dp_of hs c.2.1 h2
      have c2 := c.2.2
      unfold D.toP at d2 c2
      exact op_notInD hu' pins s σ H _ _ v u Q I rx ry ⟨_, _, d1, d2, c.1.2, c2, by rw [toPs_any] at q; exact q⟩
    · cases h3
  · cases h3
/-- list + list -/
def rCatL (K : PySem.W.Frag) : R2 := fun x y H Q => ∃ l b xs zs, x = .ref l ∧ y = .ref b ∧ SqL K H l xs ∧ SqL K H b zs ∧ xs.length + zs.length ≤ sizeLine ∧ ∀ p, H p = none → Q (.ref p) (upd H p (.lst (xs ++ zs)))
theorem op_catL : OpR X (binaryOp .Add) (rCatL X.K) := by
  intro pins s σ H x y v u Q I rx ry h
  obtain ⟨l, b, xs, zs, rfl, rfl, hH, hB, hz, q⟩ := h
  cases rx
  cases ry
  obtain ⟨its, r, pl, _⟩ := I.list hH
  obtain ⟨its2, r2, pl2, _⟩ := I.list hB
  obtain ⟨⟨cls, dd, data, sl⟩, ho, hc, n, hd⟩ := id pl.isList
  obtain ⟨⟨cls2, dd2, data2, sl2⟩, ho2, hc2, n2, hd2⟩ := id pl2.isList
  simp only at hc hd hc2 hd2
  subst hc hd hc2 hd2
  have l1 := r.length
  have l2 := r2.length
  refine concat_meets ⟨_, ho, rfl⟩ ⟨_, ho2, rfl⟩ noFill_list_add seq_list_add PySem.F.slot_list_add PySem.F.entry_list_add (PySem.F.args_list_add_2 _ _) (list_addW l b its.toArray its2.toArray n n2 dd dd2 sl sl2 (by rw [List.size_toArray, List.size_toArray]; omega)) ⟨ho, ho2, ?_⟩
  have ea : its.toArray ++ its2.toArray = (its ++ its2).toArray := by simp
  rw [ea]
  exact ⟨.ref _, _, I.lnew (t' := s.toks) (r.append r2) (by rw [List.length_append]; omega), rfl, q _ I.fresh⟩
/-- an item -/
def rAt (K : PySem.W.Frag) : R2 := fun x y H Q => ∃ G d e f, Sub G H ∧ RpW K G H x d ∧ RpW K G H y e ∧ atD d e = some f ∧ ∀ v, Rp K G v f → Q v H
theorem atI_rps {K : PySem.W.Frag} {G : Hp} {vs : List V} {ds : List D} {i : Int} {f : D} (r : Rps K G vs ds) (h : atI ds i = some f) : ∃ v, atI vs i = some v ∧ Rp K G v f := by
  unfold atI at h ⊢
  rw [r.length]
  cases e : ixN ds.length i with
  | none => rw [e] at h; cases h
  | some j =>
    rw [e] at h
    have h' : ds[j]? = some f := h
    obtain ⟨v, h1, h2⟩ := r.get h'
    exact ⟨v, h1, h2⟩
theorem ix_at : IxR X (rAt X.K) := by
  intro ev es pins s σ H x y v u Q I rx ry h hsub
  obtain ⟨G, d, e, f, hs, h1, h2, h3, q⟩ := h
  unfold atD at h3
  split at h3
  · obtain rfl := h2.int
    obtain ⟨a, vs, rfl, s1, r1⟩ := h1.tup hs
    obtain ⟨v', a1, a2⟩ := atI_rps r1 h3
    exact ix_tup ev es pins s σ H _ _ v u Q I rx ry ⟨a, vs, _, v', rfl, rfl, s1, a1, q v' a2⟩ hsub
  · obtain rfl := h2.int
    obtain ⟨a, vs, rfl, s1, r1⟩ := h1.lst hs
    obtain ⟨v', a1, a2⟩ := atI_rps r1 h3
    exact ix_list ev es pins s σ H _ _ v u Q I rx ry ⟨a, vs, _, v', rfl, rfl, s1, a1, q v' a2⟩ hsub
  · cases h3
/-! ### truth -/
theorem tru_D {K : PySem.W.Frag} {G H : Hp} (hs : Sub G H) {v : V} {d : D} {k : Bool} (h : RpW K G H v d) (e : truD d = some k) : TruV K v H k := by
  unfold truD at e
  split at e
  · cases e
    rcases h with h | ⟨_, _, _, _, e, _⟩
    · cases h; exact rfl
    · cases e
  · cases e
    obtain rfl := h.bl
    exact rfl
  · cases e
    obtain rfl := h.int
    exact rfl
  · cases e
    obtain ⟨a, xs, rfl, s1, r1⟩ := h.tup hs
    refine .inr (.inl ⟨xs, s1, ?_⟩)
    cases r1 <;> rfl
  · cases e
    obtain ⟨a, xs, rfl, s1, r1⟩ := h.lst hs
    refine .inl ⟨xs, s1, ?_⟩
    cases r1 <;> rfl
  · cases e
end
end SG
/-! Sg4: built-ins, the contract of a def. -/
namespace SG
open PySem L2 PyProof.Rows

def B1.word : B1 → Str
  | .len => "len"
  | .abs => "abs"
  | .int => "int"
  | .repr => "repr"
  | .tup => "tuple"
  | .all => "all"
  | .any => "any"
  | .str => "str"
def B1.isTy : B1 → Bool
  | .int | .tup | .str => true
  | _ => false
def B1.id : B1 → String
  | .len => "len"
  | .abs => "abs"
  | .int => "int"
  | .repr => "repr"
  | .tup => "tuple"
  | .all => "all"
  | .any => "any"
  | .str => "str"
def B1.v (b : B1) : Value := if b.isTy then .type b.id else .builtin b.id
theorem b1_boot (b : B1) : bootBuiltins b.word = some b.v := by cases b <;> decide +kernel

mutual
theorem toP_nodict : ∀ d : D, d.toP.hasDict = false
  | .non => by unfold D.toP; rfl
  | .bl _ => by unfold D.toP; rfl
  | .int _ => by unfold D.toP; rfl
  | .str _ => by unfold D.toP; rfl
  | .tup l => by unfold D.toP PyData.hasDict; exact toPs_nodict l
  | .lst l => by unfold D.toP PyData.hasDict; exact toPs_nodict l
  | .dic => by unfold D.toP; rfl
theorem toPs_nodict : ∀ l : List D, PyData.hasDictAll (D.toPs l) = false
  | [] => by unfold D.toPs; rfl
  | d :: r => by unfold D.toPs PyData.hasDictAll; rw [toP_nodict d, toPs_nodict r]; rfl
end
theorem bools_rps {K : PySem.W.Frag} {G : Hp} : ∀ {ds : List D} {xs : List V} {bs : List Bool}, Rps K G xs ds → boolsOf ds = some bs → xs = bs.map V.bl
  | [], _, bs, h, e => by
    cases h
    cases e
    rfl
  | d :: ds, _, bs, h, e => by
    cases h with
    | cons a b =>
      cases d with
      | bl k =>
        unfold boolsOf at e
        cases e1 : boolsOf ds with
        | none => rw [e1] at e; cases e
        | some cs =>
          rw [e1] at e
          cases e
          cases a
          rw [bools_rps b e1]
          rfl
      | _ => cases e
def rB1 (K : PySem.W.Frag) (b : B1) : List V → Hp → VK → Prop := fun xs H Q => ∃ x G d f, xs = [x] ∧ Sub G H ∧ RpW K G H x d ∧ b1D b d = some f ∧ Res K G H f Q
section
variable {X : Cx}
theorem call_b1 (hc : X.calm = true) (hg : X.A.guards = some []) (hu : X.A.units + 64 < cLine) (b : B1) : CallR X b.v (rB1 X.K b) := by
  intro pins s σ H xs us Q I r h
  obtain ⟨x, G, d, f, rfl, hs, h1, h2, q⟩ := h
  have tupRp : ∀ {l : List D}, RpW X.K G H x (.tup l) → Rp X.K G x (.tup l) := fun h => by
    rcases h with h | ⟨_, _, _, _, e, _⟩
    · exact h
    · cases e
  cases b with
  | len =>
    cases d with
    | tup l =>
      cases h2
      obtain ⟨a, vs, rfl, s1, r1⟩ := h1.tup hs
      exact call_len pins s σ H _ us Q I r ⟨_, _, rfl, .inr ⟨vs, s1, rfl⟩, q.1 _ (by rw [r1.length]; exact .int _)⟩
    | lst l =>
      cases h2
      obtain ⟨a, vs, rfl, s1, r1⟩ := h1.lst hs
      exact call_len pins s σ H _ us Q I r ⟨_, _, rfl, .inl ⟨vs, s1, rfl⟩, q.1 _ (by rw [r1.length]; exact .int _)⟩
    | str y =>
      simp only [b1D] at h2
      split at h2
      · rename_i c
        cases h2
        obtain rfl := h1.str
        exact call_len pins s σ H _ us Q I r ⟨_, _, rfl, ⟨small_line c, rfl⟩, q.1 _ (.int _)⟩
      · cases h2
    | _ => cases h2
  | abs =>
    cases d with
    | int i =>
      cases h2
      obtain rfl := h1.int
      exact call_abs pins s σ H _ us Q I r ⟨_, rfl, q.1 _ (.int _)⟩
    | _ => cases h2
  | int =>
    cases d with
    | int i =>
      cases h2
      obtain rfl := h1.int
      exact call_int1 pins s σ H _ us Q I r (.inl ⟨_, rfl, q.1 _ (.int _)⟩)
    | bl k =>
      cases h2
      obtain rfl := h1.bl
      exact call_int1 pins s σ H _ us Q I r (.inr ⟨_, rfl, q.1 _ (.int _)⟩)
    | _ => cases h2
  | tup =>
    cases d with
    | tup l =>
      cases h2
      have hr := tupRp h1
      obtain ⟨a, vs, rfl, s1, r1⟩ := h1.tup hs
      exact call_tuple_of pins s σ H _ us Q I r ⟨a, vs, rfl, .inr ⟨s1, q.1 _ hr⟩⟩
    | lst l =>
      cases h2
      obtain ⟨a, vs, rfl, s1, r1⟩ := h1.lst hs
      refine call_tuple_of pins s σ H _ us Q I r ⟨a, vs, rfl, .inl ⟨s1, fun p hp => q.2 p _ hp (.tup (.inl (.inl upd_same)) (r1.mono (sub_upd ?_)))⟩⟩
      cases e : G p with
      | none => rfl
      | some o => rw [hs p o e] at hp; cases hp
    | _ => cases h2
  | all =>
    cases d with
    | lst l =>
      simp only [b1D] at h2
      cases e : boolsOf l with
      | none => rw [e] at h2; cases h2
      | some bs =>
        rw [e] at h2
        cases h2
        obtain ⟨a, vs, rfl, s1, r1⟩ := h1.lst hs
        exact cr_all hc pins s σ H _ us Q I r ⟨a, bs, rfl, by rw [← bools_rps r1 e]; exact s1, q.1 _ (.bl _)⟩
    | _ => cases h2
  | any =>
    cases d with
    | lst l =>
      simp only [b1D] at h2
      cases e : boolsOf l with
      | none => rw [e] at h2; cases h2
      | some bs =>
        rw [e] at h2
        cases h2
        obtain ⟨a, vs, rfl, s1, r1⟩ := h1.lst hs
        exact cr_any hc pins s σ H _ us Q I r ⟨a, bs, rfl, by rw [← bools_rps r1 e]; exact s1, q.1 _ (.bl _)⟩
    | _ => cases h2
  | str => cases d <;> cases h2
  | repr =>
    simp only [b1D] at h2
    split at h2
    · rename_i c
      cases h2
      unfold shownOk at c
      simp only [Bool.and_eq_true, decide_eq_true_eq] at c
      obtain ⟨⟨⟨c0, c1⟩, c2⟩, c3⟩ := c
      obtain ⟨u, rfl, rx⟩ := vals1 r
      have hz : d.toP.shown.length ≤ sizeLine := by rw [sizeLine_eq]; omega
      obtain ⟨as, rr⟩ := Dp.reads I d.toP x u (dp_of hs c0 h1) rx
      have fin : ∀ h' t tk, (∀ b o, s.heap.get? b = some o → h'.get? b = some o) → EP X pins σ Q (.str d.toP.shown t) { s with heap := h', toks := tk } := fun h' t tk k => ⟨.str d.toP.shown, H, I.kept k, ⟨_, rfl⟩, q.1 _ (.str _)⟩
      cases d with
      | non =>
        rcases h1 with h | ⟨_, _, _, _, e, _⟩
        · cases h
          cases rx
          exact PySem.P.repr_of_none (fin s.heap _ _ fun _ _ e => e)
        · cases e
      | bl k =>
        obtain rfl := h1.bl
        cases rx
        exact PySem.P.repr_of_bool (fin s.heap _ _ fun _ _ e => e)
      | int i =>
        obtain rfl := h1.int
        obtain ⟨t, rfl⟩ := rx
        exact PySem.P.repr_of_int (of_decide_eq_true c1) (fin s.heap _ _ fun _ _ e => e)
      | str y =>
        obtain rfl := h1.str
        obtain ⟨t, rfl⟩ := rx
        exact PySem.P.repr_of_str (fin s.heap _ _ fun _ _ e => e) hz
      | tup l =>
        obtain ⟨a, vs, rfl, s1, r1⟩ := h1.tup hs
        cases rx
        exact repr_of_reads' rr c1 (PyData.noDict_hsm (toP_nodict _)) hg (by omega) (fun _ _ e => e) fin hz
      | lst l =>
        obtain ⟨a, vs, rfl, s1, r1⟩ := h1.lst hs
        cases rx
        exact repr_of_reads' rr c1 (PyData.noDict_hsm (toP_nodict _)) hg (by omega) (fun _ _ e => e) fin hz
      | dic => unfold nodic at c0; cases c0
    · cases h2
/-! ### isinstance -/
theorem ty_D {K : PySem.W.Frag} {G H : Hp} (hs : Sub G H) {v : V} {d : D} (h : RpW K G H v d) : TyX K H v (.type (tyOf d)) := by
  cases d with
  | non =>
    rcases h with h | ⟨_, _, _, _, e, _⟩
    · cases h; exact .base .non
    · cases e
  | bl k => obtain rfl := h.bl; exact .base (.bl _)
  | int k => obtain rfl := h.int; exact .base (.int _)
  | str k => obtain rfl := h.str; exact .base (.str _)
  | tup l =>
    obtain ⟨a, vs, rfl, s1, r1⟩ := h.tup hs
    rcases s1 with (s1 | ⟨o, s1⟩) | ⟨o, its, n, e, c, _⟩
    · exact .base (.tup s1)
    · exact .fTuple s1
    · exact .kTuple e c
  | lst l =>
    obtain ⟨a, vs, rfl, s1, r1⟩ := h.lst hs
    rcases s1 with (s1 | ⟨o, s1⟩) | ⟨o, its, n, e, c, _⟩
    · exact .base (.lst s1)
    · exact .base (.frz s1)
    · exact .kList e c
  | dic =>
    rcases h with h | ⟨_, _, _, _, e, _⟩
    · cases h with
      | dic e => exact .base (.dK (hs _ _ e))
    · cases e
theorem isi_D {K : PySem.W.Frag} {d : D} {t : String} {b : Bool} (h : isiD d t = some b) : PySem.W.kitOne K (.type (tyOf d)) (.type t) = some b := by
  have ty : tyOf d = "NoneType" ∨ tyOf d = "bool" ∨ tyOf d = "int" ∨ tyOf d = "str" ∨ tyOf d = "tuple" ∨ tyOf d = "list" ∨ tyOf d = "dict" := by
    cases d <;> simp [tyOf]
  unfold isiD at h
  split at h
  all_goals first
    | (cases h; done)
    | (rcases ty with e | e | e | e | e | e | e <;> (try rw [e] at h) <;> rw [e] <;> cases h <;> exact kit_ty (by decide +kernel))
def isTyName (t : String) : Bool := ["int", "bool", "str", "tuple", "list", "dict"].contains t
theorem ty_boot {t : String} (h : isTyName t = true) : bootBuiltins (Str.ofString t) = some (.type t) := by
  unfold isTyName at h
  simp only [List.contains_cons, List.contains_nil, Bool.or_false, Bool.or_eq_true, beq_iff_eq] at h
  rcases h with rfl | rfl | rfl | rfl | rfl | rfl <;> decide +kernel

/-! ### the contract of a def -/
structure FnG (P : Program) (w : World) (K : PySem.W.Frag) (mg : Str → Option Value) (base : Heap) (k : Nat) (f : Addr) (fd : FuncData) (ps : List Str) (sp : Sp) : Prop where
  len : ∀ vs H Q E, sp vs H Q E → vs.length = ps.length
  go : ∀ (A : Around) (outer : List Env) (s : Shared) (H : Hp) (args : Args) (us : List Value) (vs : List V) (Q : VK) (E : XK), Room k A → A.guards = some [] → Env0 P w K mg base A outer s H → BindsTo s fd args (ps.zip us) →
    Vals vs us → sp vs H Q E → codeAny (model P w) A (.call (.ref f) args) (CR (L2.CX P w) outer P w H s Q E) s
/-- what comes back -/
def RetOk (K : PySem.W.Frag) (G H G' H' : Hp) (fresh : Bool) (v : V) (d : D) : Prop :=
  match fresh with
  | false => Rp K G' v d
  | true => ∃ (a : Addr) (xs : List V) (es : List D), d = .lst es ∧ v = .ref a ∧ H a = none ∧ G' a = none ∧ H' a = some (.lst xs) ∧ Rps K G' xs es
/-- the promise of a def, all its parameters given -/
def spFn (K : PySem.W.Frag) (mg : Str → Option Value) (f : Fn) : Sp := fun vs H Q E =>
  ∃ G es ds, Rl K G H (vs.map some) (argS f.lend es ds) ∧ (argS f.lend es ds).length = f.many ∧
    match f.run es ds with
    | none => False
    | some (.ok d, es') => ∀ v G' H', Stp G H (vs.map some) (argS f.lend es ds) G' H' (vs.map some) (argS f.lend es' ds) → Rl K G' H' (vs.map some) (argS f.lend es' ds) → RetOk K G H G' H' f.fresh v d → Q v H'
    | some (.error x, es') => ∀ cls dx G' H', Stp G H (vs.map some) (argS f.lend es ds) G' H' (vs.map some) (argS f.lend es' ds) → Rl K G' H' (vs.map some) (argS f.lend es' ds) → ErrOk K mg G' H' cls dx x → E cls dx H'
/-- a def as it stands behind the top; dfl: the defaults that fill up -/
structure FnSnd (P : Program) (w : World) (K : PySem.W.Frag) (mg : Str → Option Value) (base : Heap) (f : Fn) : Prop where
  ex : ∃ (g : Fn) (fa : Addr) (fd : FuncData) (ps : List Str) (ds : List Value) (dvs : List V) (dfl : List D), mg f.name = some (.ref fa) ∧ PySem.W.keepIn K (.ref fa) = true ∧ FnG P w K mg base f.lvl fa fd ps (spFn K mg g) ∧ Binds K fd ps ds ∧ Vals dvs ds ∧
    Rps K (fun _ => none) dvs dfl ∧ (∀ es as, f.run es as = g.run es (as ++ dfl)) ∧ f.lend = g.lend ∧ f.fresh = g.fresh ∧ f.many + dfl.length = g.many
/-- the callee runs -/
theorem run_fnG {X : Cx} {k : Nat} {f : Addr} {fd : FuncData} {ps : List Str} {sp : Sp} {dvs : List V} {ds : List Value} {E : XK} {pins : List (Addr × Obj)} {σ : L2.St} {H : Hp} {s : Shared} {Q : VK} {us : List Value} {vs : List V}
    (F : FnG X.prog X.w X.K X.mg X.base k f fd ps sp) (hr : Room k X.A) (hg : X.A.guards = some []) (hb : Binds X.K fd ps ds) (hd : Vals dvs ds) (hx : Passes (L2.CX X.prog X.w) X E)
    (I : Inv X pins σ H s) (r : Vals vs us) (h : sp (vs ++ dvs) H Q E) : wpAny (model X.prog X.w) X.A (call (.ref f) us) (EP X pins σ Q) X.xe s := by
  have rr := r.append hd
  have ll : (us ++ ds).length = ps.length := by
    rw [← rr.length]
    exact F.len _ _ _ _ h
  have run := F.go X.A X.stack s H ⟨us, []⟩ (us ++ ds) (vs ++ dvs) Q E hr hg I.env0 (hb s us I.kIn ll) rr h
  refine wpAny_call (codeAny_mono run fun res s' hq => ?_)
  match res, hq with
  | .error e, hq => exact hx pins σ H s e s' I hq
  | .ok (.ret u), hq => exact I.after hq
  | .ok .next, hq => exact hq.elim
  | .ok .brk, hq => exact hq.elim
  | .ok .cont, hq => exact hq.elim
theorem pe_callG {X : Cx} {k : Nat} {f : Addr} {fd : FuncData} {ps : List Str} {sp : Sp} {dvs : List V} {ds : List Value} {E : L2.St → XK} {x : Str} {p pos : Pos} {e : Expr} {es : List Expr} {t : TA}
    (F : FnG X.prog X.w X.K X.mg X.base k f fd ps sp) (hr : Room k X.A) (hgd : X.A.guards = some []) (hg : Gl X x) (hm : X.mg x = some (.ref f)) (hk : PySem.W.keepIn X.K (.ref f) = true) (hb : Binds X.K fd ps ds) (hd : Vals dvs ds)
    (hx : ∀ (pins : List (Addr × Obj)) (σ : L2.St) (H : Hp) (s : Shared) (e : Value) (s' : Shared), Inv X pins σ H s → L2.CX X.prog X.w X.stack H s (E σ) e s' → X.xe e s') (ha : PA X (e :: es) t) (hdb : (x == ("__debug__" : Str)) = false)
    (he : starEach (e :: es) X.env = (false, eval e X.env) :: starEach es X.env) (hpl : (backTo pos (starEach es X.env)).any (·.1) = false) :
    PE X (.Call (.Name x p) (e :: es) [] pos) (fun σ H Q => t σ H fun vs H1 => sp (vs ++ dvs) H1 Q (E σ)) := by
  refine ⟨fun pins s σ H Q I h => ?_⟩
  refine wpAny_Call_Name_kw (ld_glob I hg hm ?_ hdb)
  have inner := ha.run pos pins s σ H _ I h
  refine PySem.W.callWith_K (h₀ := X.base) I.ok.mod.kin hk (thn inner fun us s1 hu => ?_) he hpl
  obtain ⟨vs, H1, I1, r, q⟩ := hu
  refine ⟨I1.kIn, ?_⟩
  have rr := r.append hd
  have ll : (us ++ ds).length = ps.length := by
    rw [← rr.length]
    exact F.len _ _ _ _ q
  have run := F.go X.A X.stack s1 H1 ⟨us, []⟩ (us ++ ds) (vs ++ dvs) Q (E σ) hr hgd I1.env0 (hb s1 us I1.kIn ll) rr q
  refine wpAny_call (codeAny_mono run fun res s' hq => ?_)
  match res, hq with
  | .error e, hq => exact hx pins σ H1 s1 e s' I1 hq
  | .ok (.ret u), hq => exact I1.after hq
  | .ok .next, hq => exact hq.elim
  | .ok .brk, hq => exact hq.elim
  | .ok .cont, hq => exact hq.elim
end
end SG
/-! Sg5: is a tree what a small program says; expressions are sound. -/
namespace SG
open PySem L2 PyProof.Rows

def visB (sc : Scope) (x : Str) : Bool := match sc.names.lookup x with
  | some .local | some .cell | some .free => true
  | _ => false
def locB (sc : Scope) (x : Str) : Bool := match sc.names.lookup x with
  | some .local | some .cell => true
  | _ => false
def glB (sc : Scope) (x : Str) : Bool := match sc.names.lookup x with
  | some .globalImplicit => true
  | _ => false
def dbg (x : Str) : Bool := !(x == ("__debug__" : Str)) && !(x == ("__classdict__" : Str))
def plainCm : Cm → Bool
  | .isn | .nisn => false
  | _ => true
/-- not a comparison by in -/
def outCm : Cm → Bool
  | .isn | .nisn | .isin | .notin => false
  | _ => true
def plainL : EL → Bool
  | .nil => true
  | .cons _ r => plainL r
  | .star _ _ => false
def eqOp (a b : Operator) : Bool := decide (a = b)
def eqCm (a b : CmpOp) : Bool := decide (a = b)
def isSet : Expr → Bool
  | .Set .. => true
  | _ => false
/-- a target: names in their slots; at: the kinds that it may have -/
def okTg (N : List Str) (sc : Scope) : Tg → Expr → Bool
  | .nm i, .Name x _ => decide (N[i]? = some x) && locB sc x
  | .two i j, .Tuple [.Name x _, .Name y _] _ _ => decide (N[i]? = some x) && locB sc x && decide (N[j]? = some y) && locB sc y
  | .thr i j l, .Tuple [.Name x _, .Name y _, .Name z _] _ _ => decide (N[i]? = some x) && locB sc x && decide (N[j]? = some y) && locB sc y && decide (N[l]? = some z) && locB sc z
  | _, _ => false
def isTup : Expr → Bool
  | .Tuple .. => true
  | _ => false
def ownOf (N : List Str) (t : Tg) : List (Str × Nat) := t.slots.map fun i => ((N[i]?).getD "", i)
mutual
def okE (N : List Str) (k : Nat) : E → Scope → Expr → Bool
  | .var i => fun sc e => match e with
    | .Name x _ => decide (N[i]? = some x) && visB sc x && dbg x
    | _ => false
  | .cst d => fun sc e => match e with
    | .Constant c _ _ => match c, d with
      | .int n, .int m => decide (n = m)
      | .bool n, .bl m => decide (n = m)
      | .none, .non => true
      | .str x, .str y => decide (x = y)
      | _, _ => false
    | _ => false
  | .glb y _ => fun sc e => match e with
    | .Name x _ => decide (x = y) && glB sc x && dbg x
    | _ => false
  | .bin o a b => fun sc e => match e with
    | .BinOp l op r _ => eqOp op o.ast && okE N k a sc l && okE N k b sc r
    | _ => false
  | .neg a => fun sc e => match e with
    | .UnaryOp .USub x _ => okE N k a sc x
    | _ => false
  | .cmp o a b => fun sc e => match e with
    | .Compare l [op] [r] _ => match o with
      | .isn => match op, r with
        | .Is, .Constant .none _ _ => okE N k a sc l
        | _, _ => false
      | .nisn => match op, r with
        | .IsNot, .Constant .none _ _ => okE N k a sc l
        | _, _ => false
      | o => plainCm o && eqCm op o.ast && okE N k a sc l && okE N k b sc r && !behindInMarks op r
    | _ => false
  | .chain o p a b c => fun sc e => match e with
    | .Compare l [op, oq] [m, r] _ => plainCm o && outCm p && eqCm op o.ast && eqCm oq p.ast && okE N k a sc l && okE N k b sc m && okE N k c sc r
    | _ => false
  | .and a b => fun sc e => match e with
    | .BoolOp .And (x :: y :: r) p => match r with
      | [] => okE N k a sc x && okE N k b sc y
      | z :: s => okE N k a sc x && okE N k b sc (.BoolOp .And (y :: z :: s) p)
    | _ => false
  | .or a b => fun sc e => match e with
    | .BoolOp .Or (x :: y :: r) p => match r with
      | [] => okE N k a sc x && okE N k b sc y
      | z :: s => okE N k a sc x && okE N k b sc (.BoolOp .Or (y :: z :: s) p)
    | _ => false
  | .not a => fun sc e => match e with
    | .UnaryOp .Not x _ => okE N k a sc x
    | _ => false
  | .ite c a b => fun sc e => match e with
    | .IfExp t x y _ => okE N k c sc t && okE N k a sc x && okE N k b sc y
    | _ => false
  | .tup es => fun sc e => match e with
    | .Tuple xs _ _ => okL N k es sc xs
    | _ => false
  | .ix a b => fun sc e => match e with
    | .Subscript x y _ => okE N k a sc x && okE N k b sc y
    | _ => false
  | .slc a lo hi => fun sc e => match e with
    | .Subscript x (.Slice l u none _) _ => okE N k a sc x && okO N k lo sc l && okO N k hi sc u
    | _ => false
  | .rev a => fun sc e => match e with
    | .Subscript x (.Slice none none (some (.UnaryOp .USub (.Constant (.int 1) _ _) _)) _) _ => okE N k a sc x
    | _ => false
  | .call f es => fun sc e => match e with
    | .Call (.Name x _) (y :: ys) [] _ => decide (x = f.name) && glB sc x && dbg x && decide (f.lvl ≤ k) && plainL es && okL N k es sc (y :: ys)
    | _ => false
  | .b1 b a => fun sc e => match e with
    | .Call (.Name x _) [y] [] _ => decide (x = b.word) && glB sc x && okE N k a sc y
    | _ => false
  | .isi a t => fun sc e => match e with
    | .Call (.Name x _) [y, .Name z _] [] _ => decide (x = "isinstance") && glB sc x && isTyName t && decide (z = Str.ofString t) && glB sc z && okE N k a sc y
    | _ => false
  | .max2 a b => fun sc e => match e with
    | .Call (.Name x _) [y, z] [] _ => decide (x = "max") && glB sc x && okE N k a sc y && okE N k b sc z
    | _ => false
  | .min2 a b => fun sc e => match e with
    | .Call (.Name x _) [y, z] [] _ => decide (x = "min") && glB sc x && okE N k a sc y && okE N k b sc z
    | _ => false
  | .fr f => fun sc e => okF N k f sc e
  | .dic0 => fun sc e => match e with
    | .Dict [] [] _ => true
    | _ => false
  | .popI i n => fun sc e => match e with
    | .Call (.Attribute (.Name x _) at_ apos) [v] [] cpos => decide (N[i]? = some x) && visB sc x && dbg x && decide (at_ = "pop") && (apos.endLine == cpos.line) && okE N k n sc v
    | _ => false
  | .callT f g => fun sc e => match e with
    | .Call (.Name x _) [y] [] _ => decide (x = f.name) && glB sc x && dbg x && decide (f.lvl ≤ k) && okF N k g sc y
    | _ => false
def okF (N : List Str) (k : Nat) : FE → Scope → Expr → Bool
  | .disp es => fun sc e => match e with
    | .List xs _ => okL N k es sc xs
    | _ => false
  | .comp t it c el => fun sc e => match e with
    | .ListComp elt [⟨tg, iter, ifs, a⟩] scope _ => decide (a = 0) && blkC N sc scope (ownOf N t) && okTg N scope t tg && okI N k it sc tg iter && okE N k el (relS scope sc) elt &&
        (match ifs with
          | [] => okO N k c (relS scope sc) none
          | [x] => okO N k c (relS scope sc) (some x)
          | _ => false)
    | _ => false
  | .listOf a => fun sc e => match e with
    | .Call (.Name x _) [y] [] _ => decide (x = "list") && glB sc x && okE N k a sc y
    | _ => false
  | .cat i f => fun sc e => match e with
    | .BinOp (.Name x _) .Add r _ => decide (N[i]? = some x) && visB sc x && dbg x && okF N k f sc r
    | _ => false
  | .callF f es => fun sc e => match e with
    | .Call (.Name x _) (y :: ys) [] _ => decide (x = f.name) && glB sc x && dbg x && decide (f.lvl ≤ k) && plainL es && okL N k es sc (y :: ys)
    | _ => false
  | .plus a b => fun sc e => match e with
    | .BinOp l op r _ => eqOp op .Add && okE N k a sc l && okE N k b sc r
    | _ => false
  | .sortF a => fun sc e => match e with
    | .Call (.Name x _) [y] [] _ => decide (x = "sorted") && glB sc x && okE N k a sc y
    | _ => false
  | .sortK f a => fun sc e => match e with
    | .Call (.Name x _) [y] [⟨some kw, .Name z _, _⟩] _ => decide (x = "sorted") && glB sc x && decide (kw = "key") && decide (z = f.name) && glB sc z && dbg z && decide (f.lvl + 2 ≤ k) && okE N k a sc y
    | _ => false
def okI (N : List Str) (k : Nat) : IT → Scope → Expr → Expr → Bool
  | .rng1 a => fun sc _ e => match e with
    | .Call (.Name x _) [y] [] _ => decide (x = "range") && glB sc x && okE N k a sc y
    | _ => false
  | .rng2 a b => fun sc _ e => match e with
    | .Call (.Name x _) [y, z] [] _ => decide (x = "range") && glB sc x && okE N k a sc y && okE N k b sc z
    | _ => false
  | .seqT a => fun sc _ e => okE N k a sc e
  | .seqL a => fun sc _ e => okE N k a sc e
  | .zipT a b => fun sc t e => isTup t && match e with
    | .Call (.Name x _) [y, z] [] _ => decide (x = "zip") && glB sc x && okE N k a sc y && okE N k b sc z
    | _ => false
  | .zipL a b => fun sc t e => isTup t && match e with
    | .Call (.Name x _) [y, z] [] _ => decide (x = "zip") && glB sc x && okE N k a sc y && okE N k b sc z
    | _ => false
  | .enmL a => fun sc t e => isTup t && match e with
    | .Call (.Name x _) [y] [] _ => decide (x = "enumerate") && glB sc x && okE N k a sc y
    | _ => false
  | .enmT a => fun sc t e => isTup t && match e with
    | .Call (.Name x _) [y] [] _ => decide (x = "enumerate") && glB sc x && okE N k a sc y
    | _ => false
  | .seqA a => fun sc _ e => okE N k a sc e
  | .enmA a => fun sc t e => isTup t && match e with
    | .Call (.Name x _) [y] [] _ => decide (x = "enumerate") && glB sc x && okE N k a sc y
    | _ => false
  | .zipA a b => fun sc t e => isTup t && match e with
    | .Call (.Name x _) [y, z] [] _ => decide (x = "zip") && glB sc x && okE N k a sc y && okE N k b sc z
    | _ => false
def okL (N : List Str) (k : Nat) : EL → Scope → List Expr → Bool
  | .nil => fun _ es => match es with
    | [] => true
    | _ => false
  | .cons a r => fun sc es => match es with
    | e :: es => okE N k a sc e && okL N k r sc es
    | _ => false
  | .star a r => fun sc es => match es with
    | .Starred e _ :: es => okE N k a sc e && okL N k r sc es
    | _ => false
def okO (N : List Str) (k : Nat) : EO → Scope → Option Expr → Bool
  | .no => fun _ e => match e with
    | none => true
    | _ => false
  | .yes a => fun sc e => match e with
    | some x => okE N k a sc x
    | _ => false
end
/-- what is asked of the defs and constants that a program names -/
structure Ask where
  f : Fn → Prop
  g : Str → D → Prop
mutual
def prE (P : Ask) : E → Prop
  | .var _ => True
  | .cst _ => True
  | .glb x d => P.g x d
  | .bin _ a b => prE P a ∧ prE P b
  | .neg a => prE P a
  | .cmp _ a b => prE P a ∧ prE P b
  | .chain _ _ a b c => prE P a ∧ prE P b ∧ prE P c
  | .and a b => prE P a ∧ prE P b
  | .or a b => prE P a ∧ prE P b
  | .not a => prE P a
  | .ite c a b => prE P c ∧ prE P a ∧ prE P b
  | .tup es => prL P es
  | .ix a b => prE P a ∧ prE P b
  | .slc a l h => prE P a ∧ prO P l ∧ prO P h
  | .rev a => prE P a
  | .call f es => P.f f ∧ prL P es
  | .b1 _ a => prE P a
  | .isi a _ => prE P a
  | .max2 a b => prE P a ∧ prE P b
  | .min2 a b => prE P a ∧ prE P b
  | .fr f => prF P f
  | .dic0 => True
  | .popI _ n => prE P n
  | .callT f g => P.f f ∧ prF P g
def prF (P : Ask) : FE → Prop
  | .disp es => prL P es
  | .comp _ it c e => prI P it ∧ prO P c ∧ prE P e
  | .listOf a => prE P a
  | .cat _ f => prF P f
  | .callF f es => P.f f ∧ prL P es
  | .plus a b => prE P a ∧ prE P b
  | .sortF a => prE P a
  | .sortK f a => P.f f ∧ prE P a
def prI (P : Ask) : IT → Prop
  | .rng1 a => prE P a
  | .rng2 a b => prE P a ∧ prE P b
  | .seqT a => prE P a
  | .seqL a => prE P a
  | .zipT a b => prE P a ∧ prE P b
  | .zipL a b => prE P a ∧ prE P b
  | .enmL a => prE P a
  | .enmT a => prE P a
  | .seqA a => prE P a
  | .enmA a => prE P a
  | .zipA a b => prE P a ∧ prE P b
def prL (P : Ask) : EL → Prop
  | .nil => True
  | .cons e r => prE P e ∧ prL P r
  | .star e r => prE P e ∧ prL P r
def prO (P : Ask) : EO → Prop
  | .no => True
  | .yes e => prE P e
end
/-- a constant of the module -/
def Glo (K : PySem.W.Frag) (mg : Str → Option Value) (x : Str) (d : D) : Prop := ∃ (v : V) (u : Value), mg x = some u ∧ RelV v u ∧ Rp K (fun _ => none) v d
def askX (X : Cx) : Ask := ⟨FnSnd X.prog X.w X.K X.mg X.base, Glo X.K X.mg⟩
def bltWords : List Str := ["len", "abs", "int", "repr", "tuple", "all", "any", "str", "isinstance", "bool", "list", "dict", "max", "min", "range", "zip", "enumerate", "sorted"]
/-- where one stands -/
structure Amb (X : Cx) (k : Nat) : Prop where
  room : Room k X.A
  gd : X.A.guards = some []
  calm : X.calm = true
  nd : X.N.Nodup
  blt : ∀ x ∈ bltWords, X.mg x = none
theorem Amb.hu {X : Cx} {k : Nat} (a : Amb X k) : X.A.units + 64 < cLine := by have := a.room.un; omega
theorem Amb.hu' {X : Cx} {k : Nat} (a : Amb X k) : X.A.units + 65 < cLine := by have := a.room.un; omega

section
variable {X : Cx} {k : Nat} {sc : Scope}
theorem vis_of {x : Str} (h : visB sc x = true) : Vis sc x := by
  unfold visB at h
  split at h
  · exact .inl (by assumption)
  · exact .inr (.inl (by assumption))
  · exact .inr (.inr (by assumption))
  · cases h
theorem loc_of {x : Str} (h : locB sc x = true) : Loc sc x := by
  unfold locB at h
  split at h
  · exact .inl (by assumption)
  · exact .inr (by assumption)
  · cases h
theorem gl_of {x : Str} (h : glB X.env.scope x = true) : Gl X x := by
  unfold glB at h
  split at h
  · rename_i e; exact e
  · cases h
theorem dbg_of {x : Str} (h : dbg x = true) : (x == ("__debug__" : Str)) = false ∧ (x == ("__classdict__" : Str)) = false := by
  unfold dbg at h
  rw [Bool.and_eq_true] at h
  exact ⟨by simpa using h.1, by simpa using h.2⟩
def nostar : Expr → Bool
  | .Starred .. => false
  | _ => true
theorem star_cons {e : Expr} (h : nostar e = true) (es : List Expr) (env : Env) : starEach (e :: es) env = (false, eval e env) :: starEach es env := by
  cases e <;> first
    | rfl
    | cases h
theorem star_plain : ∀ (es : List Expr) (env : Env) (pos : Pos), es.all nostar = true → (backTo pos (starEach es env)).any (·.1) = false
  | [], _, _, _ => rfl
  | e :: es, env, pos, h => by
    rw [List.all_cons, Bool.and_eq_true] at h
    rw [star_cons h.1]
    show (false || (backTo pos (starEach es env)).any (·.1)) = false
    rw [star_plain es env pos h.2]
    rfl
def isSlice : Expr → Bool
  | .Slice .. => true
  | _ => false
theorem plainIx {e : Expr} (h : isSlice e = false) : PlainIx e := by
  intro o i
  cases e <;> first
    | rfl
    | cases h
theorem noSet {e : Expr} (h : isSet e = false) (env : Env) (x : Value) : foldedSetIterable e env x = pure x := by
  cases e <;> first
    | rfl
    | cases h
/-- what a tree that passes is not -/
structure Shape (e : Expr) : Prop where
  st : nostar e = true
  sl : isSlice e = false
  se : isSet e = false
theorem okF_shape {N : List Str} : ∀ (f : FE) (e : Expr), okF N k f sc e = true → Shape e := by
  intro f e h
  cases f <;> cases e <;> first
    | (refine ⟨rfl, rfl, rfl⟩; done)
    | (exact absurd (show false = true from h) Bool.false_ne_true)
theorem okE_shape {N : List Str} : ∀ (i : E) (e : Expr), okE N k i sc e = true → Shape e := by
  intro i e h
  cases i <;> first
    | exact okF_shape _ e h
    | (cases e <;> first
      | (refine ⟨rfl, rfl, rfl⟩; done)
      | (exact absurd (show false = true from h) Bool.false_ne_true))
theorem okL_star {N : List Str} : ∀ (i : EL) (es : List Expr), plainL i = true → okL N k i sc es = true → es.all nostar = true
  | .nil, [], _, _ => rfl
  | .nil, _ :: _, _, h => absurd (show false = true from h) Bool.false_ne_true
  | .cons _ _, [], _, h => absurd (show false = true from h) Bool.false_ne_true
  | .cons a r, e :: es, p, h => by
    have h : (okE N k a sc e && okL N k r sc es) = true := h
    rw [Bool.and_eq_true] at h
    rw [List.all_cons, (okE_shape a e h.1).st, okL_star r es p h.2]
    rfl
  | .star _ _, _, p, _ => absurd (show false = true from p) Bool.false_ne_true
end
end SG
/-! Sg6: targets, iterators, comprehensions. -/
namespace SG
open PySem L2 PyProof.Rows RZ SR

section
variable {K : PySem.W.Frag} {mg : Str → Option Value} {Wx : WX} {G H G' H' : Hp} {σ : L2.St} {st st' : List S}

/-! ### slots wiped and given back -/
theorem wipeS_len (st : List S) : ∀ vs : List Nat, (wipeS st vs).length = st.length
  | [] => rfl
  | v :: vs => by unfold wipeS; rw [List.length_set, wipeS_len st vs]
theorem wipeS_get (st : List S) (j : Nat) : ∀ vs : List Nat, (wipeS st vs)[j]? = if j ∈ vs then (st[j]?).map (fun _ => S.un) else st[j]?
  | [] => by simp [wipeS]
  | v :: vs => by
    unfold wipeS
    have ih := wipeS_get st j vs
    by_cases h : j = v
    · subst h
      rw [if_pos List.mem_cons_self]
      by_cases hl : j < st.length
      · rw [List.getElem?_set_self (by rw [wipeS_len]; exact hl), List.getElem?_eq_getElem hl]
        rfl
      · rw [List.getElem?_eq_none (by rw [List.length_set, wipeS_len]; omega), List.getElem?_eq_none (by omega)]
        rfl
    · rw [List.getElem?_set_ne (Ne.symm h), ih]
      by_cases h2 : j ∈ vs
      · rw [if_pos h2, if_pos (List.mem_cons_of_mem _ h2)]
      · rw [if_neg h2, if_neg (fun z => (List.mem_cons.mp z).elim h h2)]
theorem wipe_get (σ : L2.St) (j : Nat) : ∀ vs : List Nat, (wipe σ vs)[j]? = if j ∈ vs then (σ[j]?).map (fun _ => none) else σ[j]?
  | [] => by simp [wipe]
  | v :: vs => by
    unfold wipe
    have ih := wipe_get σ j vs
    by_cases h : j = v
    · subst h
      rw [if_pos List.mem_cons_self]
      by_cases hl : j < σ.length
      · rw [List.getElem?_set_self (by rw [wipe_length]; exact hl), List.getElem?_eq_getElem hl]
        rfl
      · rw [List.getElem?_eq_none (by rw [List.length_set, wipe_length]; omega), List.getElem?_eq_none (by omega)]
        rfl
    · rw [List.getElem?_set_ne (Ne.symm h), ih]
      by_cases h2 : j ∈ vs
      · rw [if_pos h2, if_pos (List.mem_cons_of_mem _ h2)]
      · rw [if_neg h2, if_neg (fun z => (List.mem_cons.mp z).elim h h2)]
theorem restore_len (s0 st : List S) : ∀ vs : List Nat, (restore s0 st vs).length = st.length
  | [] => rfl
  | v :: vs => by
    unfold restore
    split
    · rw [List.length_set, restore_len s0 st vs]
    · exact restore_len s0 st vs
theorem restore_get (s0 st : List S) (hl : s0.length = st.length) (j : Nat) : ∀ vs : List Nat, (restore s0 st vs)[j]? = if j ∈ vs then s0[j]? else st[j]?
  | [] => by simp [restore]
  | v :: vs => by
    unfold restore
    have ih := restore_get s0 st hl j vs
    by_cases h : j = v
    · subst h
      rw [if_pos List.mem_cons_self]
      split
      · rename_i s e
        rw [List.getElem?_set_self (by rw [restore_len, ← hl]; exact lt_of_get e), e]
      · rename_i e
        rw [e]
        rw [List.getElem?_eq_none_iff] at e ⊢
        rw [restore_len]
        omega
    · have e2 : (if j ∈ v :: vs then s0[j]? else st[j]?) = if j ∈ vs then s0[j]? else st[j]? := by
        by_cases h2 : j ∈ vs
        · rw [if_pos h2, if_pos (List.mem_cons_of_mem _ h2)]
        · rw [if_neg h2, if_neg (fun z => (List.mem_cons.mp z).elim h h2)]
      rw [e2]
      split
      · rw [List.getElem?_set_ne (Ne.symm h), ih]
      · exact ih
theorem plain_no {vs : List Nat} (h : vs.all (plainAt st) = true) {i : Nat} (hi : i ∈ vs) {m : Bool} {ds : List D} : st[i]? ≠ some (.own m ds) := fun z => by
  have h1 := List.all_eq_true.mp h i hi
  unfold plainAt at h1
  rw [z] at h1
  cases h1
theorem own_wipe {vs : List Nat} {b : Addr} : Owned (wipe σ vs) (wipeS st vs) b → Owned σ st b := fun ⟨i, m, ds, h1, h2⟩ => by
  rw [wipeS_get] at h1
  rw [wipe_get] at h2
  by_cases hi : i ∈ vs
  · rw [if_pos hi] at h1
    cases e : st[i]? with
    | none => rw [e] at h1; cases h1
    | some s => rw [e] at h1; cases h1
  · rw [if_neg hi] at h1 h2
    exact ⟨i, m, ds, h1, h2⟩
theorem own_unwipe {vs : List Nat} (hp : vs.all (plainAt st) = true) {b : Addr} : Owned σ st b → Owned (wipe σ vs) (wipeS st vs) b := fun ⟨i, m, ds, h1, h2⟩ => by
  have hi : i ∉ vs := fun z => plain_no hp z h1
  exact ⟨i, m, ds, by rw [wipeS_get, if_neg hi]; exact h1, by rw [wipe_get, if_neg hi]; exact h2⟩
theorem Rl.wipe {vs : List Nat} (r : Rl K G H σ st) : Rl K G H (L2.wipe σ vs) (wipeS st vs) := by
  have un : ∀ {i : Nat} {s : S}, (wipeS st vs)[i]? = some s → s ≠ .un → i ∉ vs ∧ st[i]? = some s := fun {i s} h n => by
    rw [wipeS_get] at h
    by_cases hi : i ∈ vs
    · rw [if_pos hi] at h
      cases e : st[i]? with
      | none => rw [e] at h; cases h
      | some s' => rw [e] at h; cases h; exact absurd rfl n
    · rw [if_neg hi] at h
      exact ⟨hi, h⟩
  refine ⟨r.sub, by rw [wipeS_len, wipe_length]; exact r.len, fun i d h => ?_, fun i m ds h => ?_, fun i j m ds n es hij h1 h2 => ?_⟩
  · obtain ⟨hi, h⟩ := un h (fun z => nomatch z)
    obtain ⟨v, h1, h2⟩ := r.val i d h
    exact ⟨v, by rw [wipe_get, if_neg hi]; exact h1, h2⟩
  · obtain ⟨hi, h⟩ := un h (fun z => nomatch z)
    obtain ⟨a, xs, h1, h2⟩ := r.own i m ds h
    exact ⟨a, xs, by rw [wipe_get, if_neg hi]; exact h1, h2⟩
  · obtain ⟨hi, h1⟩ := un h1 (fun z => nomatch z)
    obtain ⟨hj, h2⟩ := un h2 (fun z => nomatch z)
    rw [wipe_get, wipe_get, if_neg hi, if_neg hj]
    exact r.sep i j m ds n es hij h1 h2
theorem Rl.back {vs : List Nat} {s0 : List S} {G0 H0 : Hp} (r0 : Rl K G0 H0 σ s0) (hp : vs.all (plainAt s0) = true) (hs : Sub G0 G) (r : Rl K G H (L2.wipe σ vs) (wipeS st vs)) : Rl K G H σ (restore s0 st vs) := by
  have hl : s0.length = st.length := by
    have := r.len
    rw [wipeS_len, wipe_length] at this
    rw [r0.len, this]
  refine ⟨r.sub, by rw [restore_len, ← hl]; exact r0.len, fun i d h => ?_, fun i m ds h => ?_, fun i j m ds n es hij h1 h2 => ?_⟩
  · rw [restore_get s0 st hl] at h
    by_cases hi : i ∈ vs
    · rw [if_pos hi] at h
      obtain ⟨v, h1, h2⟩ := r0.val i d h
      exact ⟨v, h1, h2.mono hs⟩
    · rw [if_neg hi] at h
      obtain ⟨v, h1, h2⟩ := r.val i d (by rw [wipeS_get, if_neg hi]; exact h)
      rw [wipe_get, if_neg hi] at h1
      exact ⟨v, h1, h2⟩
  · rw [restore_get s0 st hl] at h
    by_cases hi : i ∈ vs
    · rw [if_pos hi] at h
      exact absurd h (plain_no hp hi)
    · rw [if_neg hi] at h
      obtain ⟨a, xs, h1, h2⟩ := r.own i m ds (by rw [wipeS_get, if_neg hi]; exact h)
      rw [wipe_get, if_neg hi] at h1
      exact ⟨a, xs, h1, h2⟩
  · rw [restore_get s0 st hl] at h1 h2
    by_cases hi : i ∈ vs
    · rw [if_pos hi] at h1
      exact absurd h1 (plain_no hp hi)
    · by_cases hj : j ∈ vs
      · rw [if_pos hj] at h2
        exact absurd h2 (plain_no hp hj)
      · rw [if_neg hi] at h1
        rw [if_neg hj] at h2
        have q := r.sep i j m ds n es hij (by rw [wipeS_get, if_neg hi]; exact h1) (by rw [wipeS_get, if_neg hj]; exact h2)
        rw [wipe_get, wipe_get, if_neg hi, if_neg hj] at q
        exact q
theorem own_back {vs : List Nat} {s0 : List S} (hl : s0.length = st.length) (hp : vs.all (plainAt s0) = true) {b : Addr} : Owned σ (restore s0 st vs) b → Owned (wipe σ vs) (wipeS st vs) b := fun ⟨i, m, ds, h1, h2⟩ => by
  rw [restore_get s0 st hl] at h1
  by_cases hi : i ∈ vs
  · rw [if_pos hi] at h1
    exact absurd h1 (plain_no hp hi)
  · rw [if_neg hi] at h1
    exact ⟨i, m, ds, by rw [wipeS_get, if_neg hi]; exact h1, by rw [wipe_get, if_neg hi]; exact h2⟩
theorem Stp.back {vs : List Nat} {s0 : List S} {G0 H0 : Hp} (hl : s0.length = st.length) (hp : vs.all (plainAt s0) = true) (p : Stp G0 H0 (wipe σ vs) (wipeS s0 vs) G H (wipe σ vs) (wipeS st vs)) :
    Stp G0 H0 σ s0 G H σ (restore s0 st vs) := by
  refine ⟨fun b o h n => p.kp b o h fun z => n (own_wipe z), p.gr, fun b h n => p.old b h fun z => n (own_wipe z), fun b h => ?_, p.nv, fun i ds h => ?_⟩
  · rcases p.ow b (own_back hl hp h) with z | z
    · exact .inl (own_wipe z)
    · exact .inr z
  · have hi : i ∉ vs := fun z => plain_no hp z h
    obtain ⟨_, es, h2⟩ := p.bor i ds (by rw [wipeS_get, if_neg hi]; exact h)
    rw [wipeS_get, if_neg hi] at h2
    exact ⟨rfl, es, by rw [restore_get s0 st hl, if_neg hi]; exact h2⟩

/-! ### targets -/
def gT (K : PySem.W.Frag) : Tg → TG
  | .nm i => gName i
  | .two i j => gTup K 2 (gCons (gName i) (gCons (gName j) gNil))
  | .thr i j l => gTup K 3 (gCons (gName i) (gCons (gName j) (gCons (gName l) gNil)))
theorem set_wipe {vs : List Nat} {i : Nat} (hi : i ∈ vs) {τ : L2.St} (x : Option V) (h : L2.wipe τ vs = L2.wipe σ vs) : L2.wipe (τ.set i x) vs = L2.wipe σ vs := by
  rw [← h]
  refine List.ext_getElem? fun j => ?_
  rw [wipe_get, wipe_get]
  by_cases hj : j ∈ vs
  · rw [if_pos hj, if_pos hj]
    by_cases e : j = i
    · subst e
      by_cases hl : j < τ.length
      · rw [List.getElem?_set_self hl, List.getElem?_eq_getElem hl]
        rfl
      · rw [List.getElem?_eq_none (by rw [List.length_set]; omega), List.getElem?_eq_none (by omega)]
    · rw [List.getElem?_set_ne (Ne.symm e)]
  · rw [if_neg hj, if_neg hj, List.getElem?_set_ne (fun z : i = j => hj (by rw [← z]; exact hi))]
theorem wipe_wipe {vs : List Nat} : L2.wipe (L2.wipe σ vs) vs = L2.wipe σ vs := by
  refine List.ext_getElem? fun j => ?_
  rw [wipe_get]
  by_cases hj : j ∈ vs
  · rw [if_pos hj, wipe_get, if_pos hj]
    cases σ[j]? <;> rfl
  · rw [if_neg hj]
theorem wipeS_wipeS {vs : List Nat} : wipeS (wipeS st vs) vs = wipeS st vs := by
  refine List.ext_getElem? fun j => ?_
  rw [wipeS_get]
  by_cases hj : j ∈ vs
  · rw [if_pos hj, wipeS_get, if_pos hj]
    cases st[j]? <;> rfl
  · rw [if_neg hj]
/-- a target is given data -/
theorem tg_ok {t : Tg} {d : D} {st1 : List S} {x : V} (r : Rl K G H σ st) (hx : Rp K G x d) (h : setTg st t d = some st1) {Q : L2.St → Hp → Prop}
    (q : ∀ σ', L2.wipe σ' t.slots = L2.wipe σ t.slots → Stp G H σ st G H σ' st1 → Rl K G H σ' st1 → Q σ' H) : gT K t x σ H Q := by
  cases t with
  | nm i =>
    simp only [setTg] at h
    split at h
    · rename_i c
      cases h
      exact q _ (set_wipe (by simp [Tg.slots]) _ rfl) (Stp.setV c) (r.setV hx)
    · cases h
  | two i j =>
    unfold setTg at h
    split at h
    · rename_i e; cases e
    · rename_i i' j' a b e1
      cases e1
      split at h
      · rename_i c1
        dsimp only at h
        split at h
        · rename_i c2
          cases h
          cases hx with
          | tup s1 rs =>
            rename_i p xs
            cases rs with
            | cons ra rs =>
              cases rs with
              | cons rb rs =>
                cases rs
                refine ⟨p, _, rfl, r.sub.sqT s1, rfl, _, _, rfl, _, _, rfl, rfl, ?_⟩
                refine q _ ?_ ((Stp.setV c1).trans (Stp.setV c2)) ((r.setV ra).setV rb)
                exact set_wipe (by simp [Tg.slots]) _ (set_wipe (by simp [Tg.slots]) _ rfl)
        · cases h
      · cases h
    · rename_i e; cases e
    · cases h
  | thr i j l =>
    unfold setTg at h
    split at h
    · rename_i e; cases e
    · rename_i e; cases e
    · rename_i i' j' l' a b c e1
      cases e1
      split at h
      · rename_i c1
        dsimp only at h
        split at h
        · rename_i c2
          split at h
          · rename_i c3
            cases h
            cases hx with
            | tup s1 rs =>
              rename_i p xs
              cases rs with
              | cons ra rs =>
                cases rs with
                | cons rb rs =>
                  cases rs with
                  | cons rc rs =>
                    cases rs
                    refine ⟨p, _, rfl, r.sub.sqT s1, rfl, _, _, rfl, _, _, rfl, _, _, rfl, rfl, ?_⟩
                    refine q _ ?_ (((Stp.setV c1).trans (Stp.setV c2)).trans (Stp.setV c3)) (((r.setV ra).setV rb).setV rc)
                    exact set_wipe (by simp [Tg.slots]) _ (set_wipe (by simp [Tg.slots]) _ (set_wipe (by simp [Tg.slots]) _ rfl))
          · cases h
        · cases h
      · cases h
    · cases h

/-! ### what is walked -/
structure Yld (K : PySem.W.Frag) (G0 : Hp) (J : It) (items : List D) : Prop where
  go : ∀ (i : Nat) (d : D) (G H : Hp), items[i]? = some d → Sub G0 G → Sub G H → J.go i H
  yl : ∀ (i : Nat) (d : D) (G H : Hp) (x : V) (H' : Hp), items[i]? = some d → Sub G0 G → Sub G H → J.yld i H x H' → (H' = H ∧ Rp K G x d) ∨ ∃ p o, H p = none ∧ H' = upd H p o ∧ x = .ref p ∧ Rp K (upd G p o) x d
  st : ∀ (G H : Hp), Sub G0 G → Sub G H → J.stop items.length H
def tWi (K : PySem.W.Frag) (mg : Str → Option Value) (Wx : WX) (f : List S → R (List D)) : TI := fun σ H R =>
  ∃ G st, Rl K G H σ st ∧ Wp K mg Wx (f st) G H σ st fun items _ G' H' => ∀ J, Yld K G' J items → R J H'
theorem PI.to {X : Cx} {tg e : Expr} {t t' : TI} (h : PI X tg e t) (k : ∀ σ H Q, t' σ H Q → t σ H Q) : PI X tg e t' := ⟨fun pins s σ H Q I q => h.run pins s σ H Q I (k σ H Q q)⟩
theorem yld_list {a : Addr} {xs : List V} {ds : List D} (s : SqL K G a xs) (r : Rps K G xs ds) : Yld K G (Itl K a) ds where
  go := fun i d G' H' h s1 s2 => by
    obtain ⟨v, h1, _⟩ := r.get h
    exact ⟨xs, v, (s1.trans s2).sqL s, h1⟩
  yl := fun i d G' H' x H2 h s1 s2 y => by
    obtain ⟨e, y⟩ := y
    obtain ⟨v, h1, h2⟩ := r.get h
    have := y xs ((s1.trans s2).sqL s)
    rw [h1] at this
    cases this
    exact .inl ⟨e, h2.mono s1⟩
  st := fun G' H' s1 s2 => ⟨xs, (s1.trans s2).sqL s, Nat.le_of_eq r.length⟩
theorem yld_tup {a : Addr} {xs : List V} {ds : List D} (s : SqT K G a xs) (r : Rps K G xs ds) : Yld K G (Itt K a) ds where
  go := fun i d G' H' h s1 s2 => by
    obtain ⟨v, h1, _⟩ := r.get h
    exact ⟨xs, v, (s1.trans s2).sqT s, h1⟩
  yl := fun i d G' H' x H2 h s1 s2 y => by
    obtain ⟨e, y⟩ := y
    obtain ⟨v, h1, h2⟩ := r.get h
    have := y xs ((s1.trans s2).sqT s)
    rw [h1] at this
    cases this
    exact .inl ⟨e, h2.mono s1⟩
  st := fun G' H' s1 s2 => ⟨xs, (s1.trans s2).sqT s, Nat.le_of_eq r.length⟩
theorem rngD_get {lo : Int} {n i : Nat} {d : D} (h : (rngD lo n)[i]? = some d) : i < n ∧ d = .int (lo + (i : Int)) := by
  unfold rngD at h
  rw [List.getElem?_map] at h
  cases e : (List.range n)[i]? with
  | none => rw [e] at h; cases h
  | some j =>
    rw [e] at h
    cases h
    obtain ⟨hl, e2⟩ := List.getElem?_eq_some_iff.mp e
    rw [List.getElem_range] at e2
    subst e2
    rw [List.length_range] at hl
    exact ⟨hl, rfl⟩
theorem rngD_len (lo : Int) (n : Nat) : (rngD lo n).length = n := by unfold rngD; rw [List.length_map, List.length_range]
theorem yld_rng (lo : Int) (n : Nat) : Yld K G (Itr lo n) (rngD lo n) where
  go := fun i d _ _ h _ _ => (rngD_get h).1
  yl := fun i d _ _ x H2 h _ _ y => by
    obtain ⟨e, y⟩ := y
    subst y
    rw [(rngD_get h).2]
    exact .inl ⟨e, .int _⟩
  st := fun _ _ _ _ => by rw [rngD_len]; exact Nat.le_refl _
theorem pairs_get : ∀ {l m : List D} {i : Nat} {d : D}, (pairs l m)[i]? = some d → ∃ a b, l[i]? = some a ∧ m[i]? = some b ∧ d = .tup [a, b]
  | x :: l, y :: m, 0, d, h => ⟨x, y, rfl, rfl, (Option.some.inj h).symm⟩
  | x :: l, y :: m, i + 1, d, h => pairs_get (l := l) (m := m) (i := i) h
  | [], _, _, _, h => by simp [pairs] at h
  | _ :: _, [], _, _, h => by simp [pairs] at h
theorem pairs_len : ∀ {l m : List D}, l.length = m.length → (pairs l m).length = l.length
  | [], _, _ => by simp [pairs]
  | x :: l, [], h => by simp at h
  | x :: l, y :: m, h => by
    simp only [pairs, List.length_cons] at h ⊢
    rw [pairs_len (by omega)]
theorem yld_zipL {a b : Addr} {xs ys : List V} {ds es : List D} (s : SqL K G a xs) (t : SqL K G b ys) (r : Rps K G xs ds) (q : Rps K G ys es) (hl : ds.length = es.length) : Yld K G (Itz K a b) (pairs ds es) where
  go := fun i d G' H' h s1 s2 => by
    obtain ⟨u, v, e1, e2, _⟩ := pairs_get h
    obtain ⟨x, h1, _⟩ := r.get e1
    obtain ⟨y, h2, _⟩ := q.get e2
    exact ⟨xs, ys, x, y, (s1.trans s2).sqL s, (s1.trans s2).sqL t, h1, h2⟩
  yl := fun i d G' H' x H2 h s1 s2 y => by
    obtain ⟨u, v, e1, e2, rfl⟩ := pairs_get h
    obtain ⟨x1, h1, k1⟩ := r.get e1
    obtain ⟨y1, h2, k2⟩ := q.get e2
    obtain ⟨T, x2, y2, ex, hn, eh, f1, f2⟩ := y
    have a1 := f1 xs ((s1.trans s2).sqL s)
    have a2 := f2 ys ((s1.trans s2).sqL t)
    rw [h1] at a1
    rw [h2] at a2
    cases a1
    cases a2
    have gn : G' T = none := by
      cases e : G' T with
      | none => rfl
      | some o => rw [s2 T o e] at hn; cases hn
    subst ex
    exact .inr ⟨T, _, hn, eh, rfl, .tup (.inl (.inl upd_same)) (.cons (k1.mono (s1.trans (sub_upd gn))) (.cons (k2.mono (s1.trans (sub_upd gn))) .nil))⟩
  st := fun G' H' s1 s2 => ⟨xs, ys, (s1.trans s2).sqL s, (s1.trans s2).sqL t, .inl (by rw [pairs_len hl, r.length]; exact Nat.le_refl _)⟩
theorem yld_zipT {a b : Addr} {xs ys : List V} {ds es : List D} (s : SqT K G a xs) (t : SqT K G b ys) (r : Rps K G xs ds) (q : Rps K G ys es) (hl : ds.length = es.length) : Yld K G (ItzT K a b) (pairs ds es) where
  go := fun i d G' H' h s1 s2 => by
    obtain ⟨u, v, e1, e2, _⟩ := pairs_get h
    obtain ⟨x, h1, _⟩ := r.get e1
    obtain ⟨y, h2, _⟩ := q.get e2
    exact ⟨xs, ys, x, y, (s1.trans s2).sqT s, (s1.trans s2).sqT t, h1, h2⟩
  yl := fun i d G' H' x H2 h s1 s2 y => by
    obtain ⟨u, v, e1, e2, rfl⟩ := pairs_get h
    obtain ⟨x1, h1, k1⟩ := r.get e1
    obtain ⟨y1, h2, k2⟩ := q.get e2
    obtain ⟨T, x2, y2, ex, hn, eh, f1, f2⟩ := y
    have a1 := f1 xs ((s1.trans s2).sqT s)
    have a2 := f2 ys ((s1.trans s2).sqT t)
    rw [h1] at a1
    rw [h2] at a2
    cases a1
    cases a2
    have gn : G' T = none := by
      cases e : G' T with
      | none => rfl
      | some o => rw [s2 T o e] at hn; cases hn
    subst ex
    exact .inr ⟨T, _, hn, eh, rfl, .tup (.inl (.inl upd_same)) (.cons (k1.mono (s1.trans (sub_upd gn))) (.cons (k2.mono (s1.trans (sub_upd gn))) .nil))⟩
  st := fun G' H' s1 s2 => ⟨xs, ys, (s1.trans s2).sqT s, (s1.trans s2).sqT t, .inl (by rw [pairs_len hl, r.length]; exact Nat.le_refl _)⟩
theorem numbered_get : ∀ {l : List D} {n i : Nat} {d : D}, (numbered n l)[i]? = some d → ∃ a, l[i]? = some a ∧ d = .tup [.int ((n + i : Nat) : Int), a]
  | x :: l, n, 0, d, h => ⟨x, rfl, (Option.some.inj h).symm⟩
  | x :: l, n, i + 1, d, h => by
    obtain ⟨a, h1, h2⟩ := numbered_get (l := l) (n := n + 1) (i := i) h
    exact ⟨a, h1, by rw [h2, Nat.add_right_comm n 1 i]; rfl⟩
  | [], _, _, _, h => by simp [numbered] at h
theorem numbered_len : ∀ (l : List D) (n : Nat), (numbered n l).length = l.length
  | [], _ => rfl
  | x :: l, n => by simp only [numbered, List.length_cons]; rw [numbered_len l (n + 1)]
theorem yld_enmL {a : Addr} {xs : List V} {ds : List D} (s : SqL K G a xs) (r : Rps K G xs ds) : Yld K G (Ite K a) (numbered 0 ds) where
  go := fun i d G' H' h s1 s2 => by
    obtain ⟨u, e1, _⟩ := numbered_get h
    obtain ⟨x, h1, _⟩ := r.get e1
    exact ⟨xs, x, (s1.trans s2).sqL s, h1⟩
  yl := fun i d G' H' x H2 h s1 s2 y => by
    obtain ⟨u, e1, rfl⟩ := numbered_get h
    obtain ⟨x1, h1, k1⟩ := r.get e1
    obtain ⟨T, x2, ex, hn, eh, f1⟩ := y
    have a1 := f1 xs ((s1.trans s2).sqL s)
    rw [h1] at a1
    cases a1
    have gn : G' T = none := by
      cases e : G' T with
      | none => rfl
      | some o => rw [s2 T o e] at hn; cases hn
    subst ex
    refine .inr ⟨T, _, hn, eh, rfl, .tup (.inl (.inl upd_same)) (.cons ?_ (.cons (k1.mono (s1.trans (sub_upd gn))) .nil))⟩
    rw [Nat.zero_add]
    exact .int _
  st := fun G' H' s1 s2 => ⟨xs, (s1.trans s2).sqL s, by rw [numbered_len, r.length]; exact Nat.le_refl _⟩
theorem yld_enmT {a : Addr} {xs : List V} {ds : List D} (s : SqT K G a xs) (r : Rps K G xs ds) : Yld K G (IteT K a) (numbered 0 ds) where
  go := fun i d G' H' h s1 s2 => by
    obtain ⟨u, e1, _⟩ := numbered_get h
    obtain ⟨x, h1, _⟩ := r.get e1
    exact ⟨xs, x, (s1.trans s2).sqT s, h1⟩
  yl := fun i d G' H' x H2 h s1 s2 y => by
    obtain ⟨u, e1, rfl⟩ := numbered_get h
    obtain ⟨x1, h1, k1⟩ := r.get e1
    obtain ⟨T, x2, ex, hn, eh, f1⟩ := y
    have a1 := f1 xs ((s1.trans s2).sqT s)
    rw [h1] at a1
    cases a1
    have gn : G' T = none := by
      cases e : G' T with
      | none => rfl
      | some o => rw [s2 T o e] at hn; cases hn
    subst ex
    refine .inr ⟨T, _, hn, eh, rfl, .tup (.inl (.inl upd_same)) (.cons ?_ (.cons (k1.mono (s1.trans (sub_upd gn))) .nil))⟩
    rw [Nat.zero_add]
    exact .int _
  st := fun G' H' s1 s2 => ⟨xs, (s1.trans s2).sqT s, by rw [numbered_len, r.length]⟩
theorem pairs_min : ∀ (l m : List D), (pairs l m).length = min l.length m.length
  | [], _ => by simp [pairs]
  | x :: l, [] => by simp [pairs]
  | x :: l, y :: m => by simp only [pairs, List.length_cons, pairs_min l m]; omega
theorem Sub.sqB {G H : Hp} (h : Sub G H) {b : Bool} {a : Addr} {xs : List V} (r : SqB K b G a xs) : SqB K b H a xs := by
  cases b
  · exact h.sqT r
  · exact h.sqL r
theorem rp_sqB {v : V} {d : D} {l : List D} (h : Rp K G v d) (e : seqD d = some l) : ∃ (a : Addr) (b : Bool) (xs : List V), v = .ref a ∧ SqB K b G a xs ∧ Rps K G xs l := by
  cases h with
  | tup s r =>
    cases e
    exact ⟨_, false, _, rfl, s, r⟩
  | lst s r =>
    cases e
    exact ⟨_, true, _, rfl, s, r⟩
  | _ => cases e
theorem yld_zipA {a b : Addr} {ka kb : Bool} {xs ys : List V} {ds es : List D} (s : SqB K ka G a xs) (t : SqB K kb G b ys) (r : Rps K G xs ds) (q : Rps K G ys es) : Yld K G (ItzA K a b ka kb xs ys) (pairs ds es) where
  go := fun i d G' H' h s1 s2 => by
    obtain ⟨u, v, e1, e2, _⟩ := pairs_get h
    exact ⟨by rw [r.length]; exact lt_of_get e1, by rw [q.length]; exact lt_of_get e2, Sub.sqB (s1.trans s2) s, Sub.sqB (s1.trans s2) t⟩
  yl := fun i d G' H' x H2 h s1 s2 y => by
    obtain ⟨u, v, e1, e2, rfl⟩ := pairs_get h
    obtain ⟨x1, h1, k1⟩ := r.get e1
    obtain ⟨y1, h2, k2⟩ := q.get e2
    obtain ⟨T, x2, y2, ex, hn, eh, a1, a2⟩ := y
    rw [h1] at a1
    rw [h2] at a2
    cases a1
    cases a2
    have gn : G' T = none := by
      cases e : G' T with
      | none => rfl
      | some o => rw [s2 T o e] at hn; cases hn
    subst ex
    exact .inr ⟨T, _, hn, eh, rfl, .tup (.inl (.inl upd_same)) (.cons (k1.mono (s1.trans (sub_upd gn))) (.cons (k2.mono (s1.trans (sub_upd gn))) .nil))⟩
  st := fun G' H' s1 s2 => by
    rw [pairs_min]
    have l1 := r.length
    have l2 := q.length
    exact ⟨by omega, by omega, by omega, Sub.sqB (s1.trans s2) s, Sub.sqB (s1.trans s2) t⟩
end
end SG
/-! Sg7: comprehensions. -/
namespace SG
open PySem L2 PyProof.Rows

section
variable {K : PySem.W.Frag} {mg : Str → Option Value} {Wx : WX} {G H G' H' : Hp} {σ σ' : L2.St} {st st' : List S}
theorem Stp.wipeR {vs : List Nat} (p : Stp G H (wipe σ vs) (wipeS st vs) G' H' σ' st') (hw : wipe σ' vs = wipe σ vs) : Stp G H (wipe σ vs) (wipeS st vs) G' H' (wipe σ vs) (wipeS st' vs) := by
  refine ⟨p.kp, p.gr, p.old, fun b h => p.ow b (own_wipe (by rw [hw]; exact h)), p.nv, fun i ds h => ⟨rfl, ?_⟩⟩
  have hi : i ∉ vs := fun z => by
    rw [wipeS_get, if_pos z] at h
    cases e : st[i]? with
    | none => rw [e] at h; cases h
    | some s => rw [e] at h; cases h
  obtain ⟨_, es, h2⟩ := p.bor i ds h
  exact ⟨es, by rw [wipeS_get, if_neg hi]; exact h2⟩
theorem Stp.poke (p : Stp G H σ st G' H' σ' st') {a : Addr} {o : HO} (ha : H a = none) : Stp G H σ st G' (upd H' a o) σ' st' := by
  have ne : ∀ b, H b ≠ none → b ≠ a := fun b h z => by subst z; exact h ha
  refine ⟨fun b u h n => ?_, p.gr, p.old, p.ow, fun b h => ?_, p.bor⟩
  · rw [upd_ne (ne b (by rw [h]; exact fun z => nomatch z))]
    exact p.kp b u h n
  · rw [upd_ne (ne b h)]
    exact p.nv b h
/-- what stands aside through a step: a list in the making -/
structure Aside (G H : Hp) (σ : L2.St) (st : List S) (a : Addr) (o : HO) : Prop where
  h : H a = some o
  g : G a = none
  n : ¬ Owned σ st a
theorem Aside.step {a : Addr} {o : HO} (x : Aside G H σ st a o) (p : Stp G H σ st G' H' σ' st') : Aside G' H' σ' st' a o := by
  have hn : H a ≠ none := by rw [x.h]; exact fun z => nomatch z
  refine ⟨p.kp a o x.h x.n, ?_, fun z => ?_⟩
  · rw [p.old a hn x.n]; exact x.g
  · rcases p.ow a z with q | q
    · exact x.n q
    · exact hn q
abbrev W0 : WX := fun _ _ _ _ => False
def tIfs (K : PySem.W.Frag) (mg : Str → Option Value) : EO → TT
  | .no => tYes
  | .yes e => tWt K mg W0 (evT e)
abbrev tstOf (c : EO) : List S → R Bool := fun s => evC c s
abbrev eltOf (e : E) : List S → R D := fun s => frzR (evE e s)
theorem evF_comp (t : Tg) (it : IT) (c : EO) (e : E) (st : List S) : evF (.comp t it c e) st = bnd (evI it st) fun items s1 => if t.slots.all (plainAt s1) && decide (items.length ≤ 100000) then
      match turns t (tstOf c) (eltOf e) items s1 with
      | some (.ok ds, s2) => ok ds (restore s1 s2 t.slots)
      | _ => none
    else none := by rw [evF] <;> rfl
/-- where a comprehension stands ahead of a turn -/
def Mid (K : PySem.W.Frag) (t : Tg) (c : EO) (e : E) (items ds : List D) (s2 : List S) (G1 H1 : Hp) (σ : L2.St) (s1 : List S) (Dn : Addr) (i : Nat) (H' : Hp) : Prop :=
  ∃ (G' : Hp) (st' : List S) (done rest : List D) (acc : List V), Rl K G' H' (wipe σ t.slots) (wipeS st' t.slots) ∧ Stp G1 H1 (wipe σ t.slots) (wipeS s1 t.slots) G' H' (wipe σ t.slots) (wipeS st' t.slots) ∧
    Aside G' H' (wipe σ t.slots) (wipeS st' t.slots) Dn (.lst acc) ∧ Rps K G' acc done ∧ done.length ≤ i ∧ turns t (tstOf c) (eltOf e) (items.drop i) st' = some (.ok rest, s2) ∧ ds = done ++ rest
theorem mid_next {t : Tg} {c : EO} {e : E} {items ds : List D} {s2 s1 : List S} {G1 H1 : Hp} {Dn : Addr} {i : Nat} {d : D} (hn : H1 Dn = none) (hd : items[i]? = some d) (hi : items.length ≤ 100000) {J : It} (y : Yld K G1 J items)
    (m : Mid K t c e items ds s2 G1 H1 σ s1 Dn i H') {x : V} {H2 : Hp} (yy : J.yld i H' x H2) :
    gT K t x (wipe σ t.slots) H2 fun σ2 H3 => wipe σ2 t.slots = wipe σ t.slots ∧ tIfs K mg c σ2 H3 fun b H4 =>
      if b = true then tW K mg W0 (evE e) σ2 H4 fun v H5 => ∃ acc, H5 Dn = some (.lst acc) ∧ acc.length < sizeLine ∧ Mid K t c e items ds s2 G1 H1 σ s1 Dn (i + 1) (upd H5 Dn (.lst (acc ++ [v]))) else Mid K t c e items ds s2 G1 H1 σ s1 Dn (i + 1) H4 := by
  obtain ⟨G', st', done, rest, acc, r, p, a, rp, hl, ht, hds⟩ := m
  have hdrop : items.drop i = d :: items.drop (i + 1) := by
    obtain ⟨h1, h2⟩ := List.getElem?_eq_some_iff.mp hd
    rw [List.drop_eq_getElem_cons h1, h2]
  rw [hdrop] at ht
  have hil : i < items.length := lt_of_get hd
  -- the item has come
  obtain ⟨G2, p2, r2, hx⟩ : ∃ G2, Stp G' H' (wipe σ t.slots) (wipeS st' t.slots) G2 H2 (wipe σ t.slots) (wipeS st' t.slots) ∧ Rl K G2 H2 (wipe σ t.slots) (wipeS st' t.slots) ∧ Rp K G2 x d := by
    rcases y.yl i d G' H' x H2 hd p.gr r.sub yy with ⟨e1, e2⟩ | ⟨q, o, e1, e2, e3, e4⟩
    · subst e1
      exact ⟨G', .refl, r, e2⟩
    · subst e2
      exact ⟨_, Stp.newF r o e1, r.newF o e1, e4⟩
  unfold turns at ht
  split at ht
  · cases ht
  · rename_i s1' hset
    refine tg_ok r2 hx hset fun σ2 hw p3 r3 => ?_
    rw [wipe_wipe] at hw
    refine ⟨hw, ?_⟩
    have p23 := p2.trans p3
    have a3 := a.step p23
    -- behind the turn, whatever it gave
    have fin : ∀ {G5 H5 : Hp} {s5 : List S} {d5 : List D} {v5 : List V} {rest5 : List D}, Stp G2 H2 σ2 s1' G5 H5 σ2 s5 → Rl K G5 H5 σ2 s5 → Rps K G5 v5 d5 → d5.length ≤ 1 → turns t (tstOf c) (eltOf e) (items.drop (i + 1)) s5 = some (.ok rest5, s2) → rest = d5 ++ rest5 →
        Mid K t c e items ds s2 G1 H1 σ s1 Dn (i + 1) (upd H5 Dn (.lst (acc ++ v5))) := fun {G5 H5 s5 d5 v5 rest5} p5 r5 rv hz ht5 he => by
      have a5 := a3.step p5
      have pw := (p23.trans p5).wipeR hw
      have rw5 : Rl K G5 H5 (wipe σ t.slots) (wipeS s5 t.slots) := by
        have := r5.wipe (vs := t.slots)
        rw [hw] at this
        exact this
      have aw := a.step pw
      refine ⟨G5, s5, done ++ d5, rest5, acc ++ v5, rw5.poke _ aw.g aw.n, (p.trans pw).poke hn, ⟨upd_same, aw.g, aw.n⟩, (rp.mono pw.gr).append rv, ?_, ht5, ?_⟩
      · rw [List.length_append]; omega
      · rw [hds, he, List.append_assoc]
    have keep : ∀ {G5 H5 : Hp} {s5 : List S}, Stp G2 H2 σ2 s1' G5 H5 σ2 s5 → upd H5 Dn (.lst (acc ++ [])) = H5 := fun {G5 H5 s5} p5 => by
      have a5 := a3.step p5
      funext b
      by_cases hb : b = Dn
      · subst hb; rw [upd_same, List.append_nil, a5.h]
      · rw [upd_ne hb]
    -- the test
    have tst : ∀ {Q : Bool → Hp → Prop}, (∀ b s3 G4 H4, tstOf c s1' = some (.ok b, s3) → Stp G2 H2 σ2 s1' G4 H4 σ2 s3 → Rl K G4 H4 σ2 s3 → Q b H4) → tIfs K mg c σ2 H2 Q := fun {Q} q => by
      cases c with
      | no => exact q true s1' G2 H2 rfl .refl r3
      | yes ee =>
        refine ⟨G2, s1', r3, ?_⟩
        have ht' := ht
        match e1 : evT ee s1' with
        | none => rw [show tstOf (.yes ee) s1' = none from e1] at ht'; cases ht'
        | some (.error z, s3) => rw [show tstOf (.yes ee) s1' = some (.error z, s3) from e1] at ht'; cases ht'
        | some (.ok b, s3) => exact fun G4 H4 p4 r4 => q b s3 G4 H4 e1 p4 r4
    refine tst fun b s3 G4 H4 etst p4 r4 => ?_
    rw [etst] at ht
    cases b with
    | false =>
      have ht : turns t (tstOf c) (eltOf e) (items.drop (i + 1)) s3 = some (.ok rest, s2) := ht
      have := fin (v5 := []) (d5 := []) p4 r4 .nil (Nat.zero_le _) ht rfl
      rw [keep p4] at this
      exact this
    | true =>
      show tW K mg W0 (evE e) σ2 H4 _
      dsimp only at ht
      split at ht
      · rename_i d5 s5 eelt
        split at ht
        · rename_i rest5 s6 eturn
          cases ht
          refine ⟨G4, s3, r4, ?_⟩
          unfold eltOf frzR at eelt
          match e1 : evE e s3, eelt with
          | some (.ok w, s4), eelt =>
            intro G5 H5 p5 r5 v hv
            simp only [bnd] at eelt
            split at eelt
            · rename_i dd ss efrz
              cases eelt
              obtain ⟨G6, p6, r6, hv6⟩ := frz_ok r5 hv efrz
              have a6 := a3.step (p4.trans (p5.trans p6))
              refine ⟨acc, a6.h, ?_, fin ((p4.trans p5).trans p6) r6 (.one hv6) (by simp) eturn rfl⟩
              have := rp.length
              rw [sizeLine_eq]
              omega
            · cases eelt
          | some (.error z, s4), eelt => cases eelt
          | none, eelt => cases eelt
        · cases ht
      · cases ht
theorem comp_le {t : Tg} {it : IT} {c : EO} {e : E} : ∀ σ H Q, tWf K mg Wx (evF (.comp t it c e)) σ H Q → tLc (tWi K mg Wx (evI it)) (gT K t) (tIfs K mg c) (tW K mg W0 (evE e)) t.slots σ H Q := fun σ H Q hq => by
  obtain ⟨G, st, r, h⟩ := hq
  rw [evF_comp] at h
  refine ⟨G, st, r, h.bnd.imp fun items s1 G1 H1 e1 p1 r1 h1 => ?_⟩
  intro J y Dn hDn
  split at h1
  · rename_i cond
    rw [Bool.and_eq_true] at cond
    have hp := cond.1
    have hlen := of_decide_eq_true cond.2
    split at h1
    · rename_i ds s2 eturn
      refine ⟨fun i m H' => m = items.length - i ∧ i ≤ items.length ∧ Mid K t c e items ds s2 G1 H1 σ s1 Dn i H', ⟨_, rfl, Nat.zero_le _, ?_⟩, ?_⟩
      · have rw1 := r1.wipe (vs := t.slots)
        refine ⟨G1, s1, [], ds, [], rw1.newO _ hDn, Stp.newO rw1 _ hDn, ⟨upd_same, r1.G_none hDn, fun z => r1.notOwned_of_fresh hDn (own_wipe z)⟩, .nil, Nat.zero_le _, eturn, rfl⟩
      · rintro i m H' ⟨rfl, hi, md⟩
        by_cases hlt : i < items.length
        · obtain ⟨d, hd⟩ : ∃ d, items[i]? = some d := ⟨items[i], List.getElem?_eq_getElem hlt⟩
          refine .inr ⟨?_, Mid K t c e items ds s2 G1 H1 σ s1 Dn (i + 1), fun H2 m2 => ⟨items.length - (i + 1), by omega, rfl, hlt, m2⟩, fun x H2 yy => mid_next hDn hd hlen y md yy⟩
          obtain ⟨G', st', _, _, _, r', p', _⟩ := md
          exact y.go i d G' H' hd p'.gr r'.sub
        · have hie : i = items.length := by omega
          subst hie
          obtain ⟨G', st', done, rest, acc, r', p', a', rp, hl, ht', hds⟩ := md
          rw [List.drop_length] at ht'
          have ht' : some (Except.ok ([] : List D), st') = some (Except.ok rest, s2) := ht'
          cases ht'
          rw [List.append_nil] at hds
          subst hds
          refine .inl ⟨y.st G' H' p'.gr r'.sub, ?_⟩
          have hl2 : s1.length = s2.length := by
            have := r'.len
            rw [wipeS_len, wipe_length] at this
            rw [r1.len, this]
          have pb := Stp.back hl2 hp p'
          have rb := Rl.back r1 hp p'.gr r'
          refine h1 G' H' pb rb (.ref Dn) ⟨Dn, acc, rfl, ?_, a'.g, a'.h, rp, fun z => a'.n (own_back hl2 hp z)⟩
          refine Classical.byContradiction fun z => ?_
          exact p1.nv Dn z hDn
    · exact h1.elim
  · exact h1.elim
theorem comp_ok {X : Cx} {k : Nat} {t : Tg} {it : IT} {c : EO} {e : E} {elt tg iter : Expr} {ifs : List Expr} {scope : Scope} {own : List (Str × Nat)} {pos : Pos} (am : Amb X k) (hi : PI X tg iter (tWi X.K X.mg Wx (evI it))) (okb : BlkOk X.N X.env.scope scope own)
    (hown : own.map (·.2) = t.slots)
    (hg : ∀ (s : Shared) (H : Hp) (C : Addr) (cl : List (Str × Addr)) (fp : List Addr), PG (X.blk s H scope (compEnvC scope cl C X.env) fp) tg (gT X.K t))
    (ht : ∀ (s : Shared) (H : Hp) (C : Addr) (cl : List (Str × Addr)) (fp : List Addr), PTs (X.blk s H scope (compEnvC scope cl C X.env) fp) ifs (tIfs X.K X.mg c))
    (he : ∀ (s : Shared) (H : Hp) (C : Addr) (cl : List (Str × Addr)) (fp : List Addr), PE (X.blk s H scope (compEnvC scope cl C X.env) fp) elt (tW X.K X.mg W0 (evE e))) (hs : ∀ x, foldedSetIterable iter X.env x = pure x) :
    PE X (.ListComp elt [⟨tg, iter, ifs, 0⟩] scope pos) (tWf X.K X.mg Wx (evF (.comp t it c e))) := by
  have base := pe_lc (pos := pos) am.calm am.nd hi okb hg ht he hs
  rw [hown] at base
  exact PE.to base comp_le
end
end SG
/-! Sg8: calls. -/
namespace SG
open PySem L2 PyProof.Rows

section
variable {K : PySem.W.Frag} {mg : Str → Option Value} {Wx : WX} {G H G' H' : Hp} {σ : L2.St} {st : List S}
theorem argS_no (ds : List D) : argS false [] ds = ds.map .val := rfl
theorem argS_ye (es ds : List D) : argS true es ds = .own true es :: ds.map .val := rfl
theorem vals_get {ds : List D} {i : Nat} {s : S} (h : (ds.map S.val)[i]? = some s) : ∃ d, ds[i]? = some d ∧ s = .val d := by
  rw [List.getElem?_map] at h
  cases e : ds[i]? with
  | none => rw [e] at h; cases h
  | some d => rw [e] at h; exact ⟨d, rfl, (Option.some.inj h).symm⟩
theorem vals_getS {s0 : S} {ds : List D} {i : Nat} {s : S} (h : (s0 :: ds.map S.val)[i + 1]? = some s) : ∃ d, ds[i]? = some d ∧ s = .val d := by
  rw [List.getElem?_cons_succ] at h
  exact vals_get h
/-- arguments without a lent list -/
theorem Rl.args (hs : Sub G H) {vs : List V} {ds : List D} (r : Rps K G vs ds) : Rl K G H (vs.map some) (ds.map .val) := by
  refine ⟨hs, by rw [List.length_map, List.length_map, r.length], fun i d h => ?_, fun i m es h => ?_, fun i j m es n fs hij h1 h2 => ?_⟩
  · obtain ⟨d', h1, e⟩ := vals_get h
    cases e
    obtain ⟨v, h2, h3⟩ := r.get h1
    exact ⟨v, by rw [List.getElem?_map, h2]; rfl, h3⟩
  · obtain ⟨d', _, e⟩ := vals_get h
    cases e
  · obtain ⟨d', _, e⟩ := vals_get h1
    cases e
theorem not_owned_vals {vs : L2.St} {ds : List D} {b : Addr} : ¬ Owned vs (ds.map .val) b := fun ⟨i, m, es, h1, _⟩ => by
  obtain ⟨d', _, e⟩ := vals_get h1
  cases e
/-- .. with a lent list -/
theorem Rl.argsL {a : Addr} {xs : List V} {es : List D} (hs : Sub G H) (hg : G a = none) (ha : H a = some (.lst xs)) (hx : Rps K G xs es) {vs : List V} {ds : List D} (r : Rps K G vs ds) :
    Rl K G H ((.ref a :: vs).map some) (.own true es :: ds.map .val) := by
  refine ⟨hs, by rw [List.length_map, List.length_cons, List.length_cons, List.length_map, r.length], fun i d h => ?_, fun i m fs h => ?_, fun i j m fs n gs hij h1 h2 => ?_⟩
  · cases i with
    | zero => cases h
    | succ i =>
      obtain ⟨d', h1, e⟩ := vals_getS h
      cases e
      obtain ⟨v, h2, h3⟩ := r.get h1
      refine ⟨v, ?_, h3⟩
      rw [List.map_cons, List.getElem?_cons_succ, List.getElem?_map, h2]
      rfl
  · cases i with
    | zero =>
      cases h
      exact ⟨a, xs, rfl, hg, ha, hx⟩
    | succ i =>
      obtain ⟨d', _, e⟩ := vals_getS h
      cases e
  · cases i with
    | zero =>
      cases j with
      | zero => exact absurd rfl hij
      | succ j =>
        obtain ⟨d', _, e⟩ := vals_getS h2
        cases e
    | succ i =>
      obtain ⟨d', _, e⟩ := vals_getS h1
      cases e
theorem owned_lent {a b : Addr} {vs : List V} {es ds : List D} (h : Owned ((V.ref a :: vs).map some) (.own true es :: ds.map .val) b) : b = a := by
  obtain ⟨i, m, fs, h1, h2⟩ := h
  cases i with
  | zero =>
    have h2 : some (some (V.ref a)) = some (some (V.ref b)) := h2
    cases h2
    rfl
  | succ i =>
    obtain ⟨d', _, e⟩ := vals_getS h1
    cases e
/-- behind a call that lent nothing -/
theorem Rl.over (r : Rl K G H σ st) (hs : Sub G' H') (kp : ∀ b o, H b = some o → H' b = some o) (gr : Sub G G') (old : ∀ b, H b ≠ none → G' b = G b) : Rl K G' H' σ st ∧ Stp G H σ st G' H' σ st := by
  refine ⟨⟨hs, r.len, fun i d h => ?_, fun i m ds h => ?_, r.sep⟩, ⟨fun b o h _ => kp b o h, gr, fun b h _ => old b h, fun b h => .inl h, fun b h => ?_, fun i ds h => ⟨rfl, ds, h⟩⟩⟩
  · obtain ⟨v, h1, h2⟩ := r.val i d h
    exact ⟨v, h1, h2.mono gr⟩
  · obtain ⟨a, xs, h1, h2, h3, h4⟩ := r.own i m ds h
    exact ⟨a, xs, h1, by rw [old a (by rw [h3]; exact fun z => nomatch z)]; exact h2, kp a _ h3, h4.mono gr⟩
  · cases e : H b with
    | none => exact absurd e h
    | some o => rw [kp b o e]; exact fun z => nomatch z
/-- behind a call that was lent the list of slot i -/
theorem Rl.lent (r : Rl K G H σ st) {i : Nat} {m : Bool} {es es' : List D} {a : Addr} {xs : List V} (hi : st[i]? = some (.own m es)) (ha : σ[i]? = some (some (.ref a))) (hs : Sub G' H') (kp : ∀ b o, b ≠ a → H b = some o → H' b = some o) (gr : Sub G G')
    (old : ∀ b, b ≠ a → H b ≠ none → G' b = G b) (hg : G' a = none) (hx : H' a = some (.lst xs)) (rx : Rps K G' xs es') : Rl K G' H' σ (st.set i (.own m es')) ∧ Stp G H σ st G' H' σ (st.set i (.own m es')) := by
  have ho : Owned σ st a := ⟨i, m, es, hi, ha⟩
  have ne : ∀ (j : Nat) (n : Bool) (ds : List D) (c : Addr), j ≠ i → st[j]? = some (.own n ds) → σ[j]? = some (some (.ref c)) → c ≠ a := fun j n ds c hj h1 h2 z => by
    subst z
    exact r.sep j i n ds m es hj h1 hi (h2.trans ha.symm)
  refine ⟨⟨hs, by rw [List.length_set]; exact r.len, fun j d h => ?_, fun j n ds h => ?_, fun j l n ds q fs hjl h1 h2 => ?_⟩, ⟨fun b o h n => kp b o (fun z => n (by rw [z]; exact ho)) h, gr, fun b h n => old b (fun z => n (by rw [z]; exact ho)) h, fun b ⟨j, n, ds, h1, h2⟩ => ?_, fun b h => ?_, fun j ds h => ?_⟩⟩
  · rcases set_get h with ⟨_, _, e⟩ | ⟨hj, h⟩
    · cases e
    · obtain ⟨v, h1, h2⟩ := r.val j d h
      exact ⟨v, h1, h2.mono gr⟩
  · rcases set_get h with ⟨rfl, _, e⟩ | ⟨hj, h⟩
    · cases e
      exact ⟨a, xs, ha, hg, hx, rx⟩
    · obtain ⟨c, zs, h1, h2, h3, h4⟩ := r.own j n ds h
      have nc := ne j n ds c hj h h1
      exact ⟨c, zs, h1, by rw [old c nc (by rw [h3]; exact fun z => nomatch z)]; exact h2, kp c _ nc h3, h4.mono gr⟩
  · have back : ∀ {j : Nat} {n : Bool} {ds : List D}, (st.set i (.own m es'))[j]? = some (.own n ds) → ∃ n' ds', st[j]? = some (.own n' ds') := fun {j n ds} h => by
      rcases set_get h with ⟨rfl, _, _⟩ | ⟨_, h⟩
      · exact ⟨m, es, hi⟩
      · exact ⟨n, ds, h⟩
    obtain ⟨_, _, k1⟩ := back h1
    obtain ⟨_, _, k2⟩ := back h2
    exact r.sep j l _ _ _ _ hjl k1 k2
  · rcases set_get h1 with ⟨rfl, _, _⟩ | ⟨_, h1⟩
    · exact .inl ⟨_, m, es, hi, h2⟩
    · exact .inl ⟨j, n, ds, h1, h2⟩
  · by_cases hb : b = a
    · subst hb; rw [hx]; exact fun z => nomatch z
    · cases e : H b with
      | none => exact absurd e h
      | some o => rw [kp b o hb e]; exact fun z => nomatch z
  · by_cases hj : j = i
    · subst hj
      rw [hi] at h
      cases h
      exact ⟨rfl, es', List.getElem?_set_self (lt_of_get hi)⟩
    · exact ⟨rfl, ds, by rw [List.getElem?_set_ne (Ne.symm hj)]; exact h⟩

/-- a call by the promise: what is asked of it -/
theorem call_sp {g : Fn} {f : Fn} {dvs : List V} {dfl : List D} {E : XK} {Q : VK} {ws : List W} {vs : List V} (hdf : Rps K (fun _ => none) dvs dfl) (hrun : ∀ es as, f.run es as = g.run es (as ++ dfl)) (hl : f.lend = g.lend) (hm : f.many + dfl.length = g.many)
    (r : Rl K G H σ st) (hv : Vws K G σ vs ws) (k : D → List S → Hp → Hp → Prop) (kx : ∀ x s1 cls dx G' H', callD f ws st = some (.error x, s1) → Stp G H σ st G' H' σ s1 → Rl K G' H' σ s1 → ErrOk K mg G' H' cls dx x → E cls dx H')
    (h : ∃ o, callD f ws st = some o)
    (hq : ∀ d s1 v G' H', callD f ws st = some (.ok d, s1) → Stp G H σ st G' H' σ s1 → Rl K G' H' σ s1 → RetOk K G H G' H' g.fresh v d → (∀ a, H a = none → ¬ Owned σ s1 a) → Q v H') : spFn K mg g (vs ++ dvs) H Q E := by
  obtain ⟨o, ho⟩ := h
  have hd : ∀ G, Rps K G dvs dfl := fun G => hdf.mono (fun b o z => by cases z)
  have ho' := ho
  unfold callD at ho
  split at ho
  · rename_i e0
    split at ho
    · cases ho
    · rename_i ds s1 efr
      split at ho
      · rename_i hlen
        split at ho
        · cases ho
        · rename_i res es' erun
          cases ho
          obtain ⟨G2, p2, r2, rp⟩ := frzs_ok r hv efr
          refine ⟨G2, [], ds ++ dfl, ?_, ?_, ?_⟩
          · rw [← hl, e0, argS_no]
            exact Rl.args r2.sub (rp.append (hd G2))
          · rw [← hl, e0, argS_no, List.length_map, List.length_append]
            omega
          · rw [← hrun, erun]
            have step : ∀ {G' H' : Hp} {zs : List D}, Stp G2 H ((vs ++ dvs).map some) (argS g.lend [] (ds ++ dfl)) G' H' ((vs ++ dvs).map some) (argS g.lend zs (ds ++ dfl)) → Rl K G' H' ((vs ++ dvs).map some) (argS g.lend zs (ds ++ dfl)) →
                Rl K G' H' σ s1 ∧ Stp G H σ st G' H' σ s1 := fun {G' H' zs} p' r' => by
              rw [← hl, e0, argS_no] at p'
              obtain ⟨a1, a2⟩ := r2.over r'.sub (fun b o h => p'.kp b o h not_owned_vals) p'.gr (fun b h => p'.old b h not_owned_vals)
              exact ⟨a1, p2.trans a2⟩
            match res with
            | .ok d =>
              intro v G' H' p' r' ret
              obtain ⟨a1, a2⟩ := step p' r'
              refine hq d s1 v G' H' ho' a2 a1 ?_ fun a ha => r2.notOwned_of_fresh ha
              unfold RetOk at ret ⊢
              split
              · rename_i e; rw [e] at ret; exact ret
              · rename_i e; rw [e] at ret; exact ret
            | .error x =>
              intro cls dx G' H' p' r' ee
              obtain ⟨a1, a2⟩ := step p' r'
              exact kx x s1 cls dx G' H' ho' a2 a1 ee
      · cases ho
  · rename_i e0
    split at ho
    · rename_i i rr
      cases vs with
      | nil => exact hv.elim
      | cons v0 vr =>
        have hv0 : σ[i]? = some (some v0) := hv.1
        split at ho
        · cases ho
        · rename_i ds s1 efr
          split at ho
          · rename_i hlen
            split at ho
            · rename_i m es eown
              split at ho
              · cases ho
              · rename_i res es' erun
                cases ho
                obtain ⟨G2, p2, r2, rp⟩ := frzs_ok r hv.2 efr
                obtain ⟨a, xs, ea, ga, ha, rx⟩ := r2.own i m es eown
                rw [hv0] at ea
                cases ea
                refine ⟨G2, es, ds ++ dfl, ?_, ?_, ?_⟩
                · rw [← hl, e0, argS_ye]
                  exact Rl.argsL r2.sub ga ha rx (rp.append (hd G2))
                · rw [← hl, e0, argS_ye, List.length_cons, List.length_map, List.length_append]
                  omega
                · rw [← hrun, erun]
                  have step : ∀ {G' H' : Hp}, Stp G2 H ((V.ref a :: vr ++ dvs).map some) (argS g.lend es (ds ++ dfl)) G' H' ((V.ref a :: vr ++ dvs).map some) (argS g.lend es' (ds ++ dfl)) → Rl K G' H' ((V.ref a :: vr ++ dvs).map some) (argS g.lend es' (ds ++ dfl)) →
                      Rl K G' H' σ (s1.set i (.own m es')) ∧ Stp G H σ st G' H' σ (s1.set i (.own m es')) := fun {G' H'} p' r' => by
                    rw [← hl, e0, argS_ye] at p'
                    rw [← hl, e0, argS_ye] at r'
                    obtain ⟨a', xs', b1, b2, b3, b4⟩ := r'.own 0 true es' rfl
                    have b1 : some (some (V.ref a)) = some (some (V.ref a')) := b1
                    cases b1
                    obtain ⟨a1, a2⟩ := r2.lent eown hv0 r'.sub (fun b o hb h => p'.kp b o h fun z => hb (owned_lent z)) p'.gr (fun b hb h => p'.old b h fun z => hb (owned_lent z)) b2 b3 b4
                    exact ⟨a1, p2.trans a2⟩
                  match res with
                  | .ok d =>
                    intro v G' H' p' r' ret
                    obtain ⟨a1, a2⟩ := step p' r'
                    refine hq d _ v G' H' ho' a2 a1 ?_ fun b hb ow => ?_
                    · unfold RetOk at ret ⊢
                      split
                      · rename_i e; rw [e] at ret; exact ret
                      · rename_i e; rw [e] at ret; exact ret
                    · obtain ⟨j, n, fs, h1, h2⟩ := ow
                      refine r2.notOwned_of_fresh hb ?_
                      rcases set_get h1 with ⟨rfl, _, _⟩ | ⟨_, h1⟩
                      · exact ⟨_, m, es, eown, h2⟩
                      · exact ⟨j, n, fs, h1, h2⟩
                  | .error x =>
                    intro cls dx G' H' p' r' ee
                    obtain ⟨a1, a2⟩ := step p' r'
                    exact kx x _ cls dx G' H' ho' a2 a1 ee
            · cases ho
          · cases ho
    · cases ho
end
end SG
/-! Sg9: expressions are sound. -/
namespace SG
open PySem L2 PyProof.Rows RZ

section
variable {K : PySem.W.Frag} {mg : Str → Option Value} {Wx : WX} {G H G' H' : Hp} {σ : L2.St} {st : List S}
theorem tW_1 {f : List S → R W} {kf : W → List S → R W} {r1 : V → Hp → VK → Prop}
    (leaf : ∀ {G H : Hp} {σ : L2.St} {st : List S} {x : W} {v : V} {Q : VK}, Rl K G H σ st → Vw K G σ v x → Wp K mg Wx (kf x st) G H σ st (fun w _ G' H' => ∀ v, Vw K G' σ v w → Q v H') → r1 v H Q) :
    ∀ σ H Q, tW K mg Wx (fun st => bnd (f st) kf) σ H Q → tW K mg Wx f σ H fun v H1 => r1 v H1 Q := fun σ H Q ⟨G, st, r, h⟩ =>
  ⟨G, st, r, h.bnd.imp fun _ _ _ _ _ _ r1 h1 _ hv => leaf r1 hv h1⟩
theorem tW_2 {f g : List S → R W} {kf : W → W → List S → R W} {r2 : R2}
    (leaf : ∀ {G H : Hp} {σ : L2.St} {st : List S} {x y : W} {v u : V} {Q : VK}, Rl K G H σ st → Vw K G σ v x → Vw K G σ u y → Wp K mg Wx (kf x y st) G H σ st (fun w _ G' H' => ∀ v, Vw K G' σ v w → Q v H') → r2 v u H Q) :
    ∀ σ H Q, tW K mg Wx (fun st => bnd (f st) fun x s1 => bnd (g s1) fun y s2 => kf x y s2) σ H Q → tOp r2 (tW K mg Wx f) (tW K mg Wx g) σ H Q := fun σ H Q ⟨G, st, r, h⟩ =>
  ⟨G, st, r, h.bnd.imp fun _ s1 G1 _ _ _ r1 h1 _ hv => ⟨G1, s1, r1, h1.bnd.imp fun _ _ _ _ _ p2 r2 h2 _ hu => leaf r2 (hv.mono p2.gr) hu h2⟩⟩
theorem tT_2 {f g : List S → R W} {kf : W → W → List S → R Bool} {r2 : R2}
    (leaf : ∀ {G H : Hp} {σ : L2.St} {st : List S} {x y : W} {v u : V} {Q : Bool → Hp → Prop}, Rl K G H σ st → Vw K G σ v x → Vw K G σ u y → Wp K mg Wx (kf x y st) G H σ st (fun b _ _ H' => Q b H') → r2 v u H fun z H' => ∃ b, z = .bl b ∧ Q b H') :
    ∀ σ H Q, tWt K mg Wx (fun st => bnd (f st) fun x s1 => bnd (g s1) fun y s2 => kf x y s2) σ H Q → tTest (tOp r2 (tW K mg Wx f) (tW K mg Wx g)) σ H Q := fun σ H Q ⟨G, st, r, h⟩ =>
  ⟨G, st, r, h.bnd.imp fun _ s1 G1 _ _ _ r1 h1 _ hv => ⟨G1, s1, r1, h1.bnd.imp fun _ _ _ _ _ p2 r2 h2 _ hu => leaf r2 (hv.mono p2.gr) hu h2⟩⟩
theorem tT_1 {f : List S → R W} {kf : W → List S → R Bool} {r1 : V → Hp → (Bool → Hp → Prop) → Prop}
    (leaf : ∀ {G H : Hp} {σ : L2.St} {st : List S} {x : W} {v : V} {Q : Bool → Hp → Prop}, Rl K G H σ st → Vw K G σ v x → Wp K mg Wx (kf x st) G H σ st (fun b _ _ H' => Q b H') → r1 v H Q) :
    ∀ σ H Q, tWt K mg Wx (fun st => bnd (f st) kf) σ H Q → tW K mg Wx f σ H fun v H1 => r1 v H1 Q := fun σ H Q ⟨G, st, r, h⟩ =>
  ⟨G, st, r, h.bnd.imp fun _ _ _ _ _ _ r1 h1 _ hv => leaf r1 hv h1⟩
theorem Wp.opt {α β : Type} {o : Option α} {f : α → List S → R β} {k : β → List S → Hp → Hp → Prop} (h : Wp K mg Wx (SG.bnd (SG.opt o st) f) G H σ st k) : ∃ a, o = some a ∧ Wp K mg Wx (f a st) G H σ st k := by
  cases o with
  | none => exact h.elim
  | some a => exact ⟨a, rfl, h⟩

/-- lists of slots without a lent or owned one do not matter: a loaded name -/
theorem slot_ok (r : Rl K G H σ st) {i : Nat} {Q : VK} (h : Wp K mg Wx (slotOf st i) G H σ st (fun w _ G' H' => ∀ v, Vw K G' σ v w → Q v H')) : ∃ v, σ[i]? = some (some v) ∧ Q v H := by
  unfold slotOf at h
  split at h
  · rename_i d e
    obtain ⟨v, h1, h2⟩ := r.val i d e
    exact ⟨v, h1, h.ok r v h2⟩
  · rename_i m ds e
    obtain ⟨a, xs, h1, _⟩ := r.own i m ds e
    exact ⟨.ref a, h1, h.ok r _ h1⟩
  · exact h.elim
theorem cst_ok {X : Cx} {c : Const} {j : Nat} {pos : Pos} {d : D} (h : (match c, d with
      | .int n, .int m => decide (n = m)
      | .bool n, .bl m => decide (n = m)
      | .none, .non => true
      | .str x, .str y => decide (x = y)
      | _, _ => false) = true) : ∃ v, (∀ K G, Rp K G v d) ∧ PE X (.Constant c j pos) (tC v) := by
  split at h
  · cases of_decide_eq_true h
    exact ⟨_, fun _ _ => .int _, pe_int⟩
  · cases of_decide_eq_true h
    exact ⟨_, fun _ _ => .bl _, pe_bl⟩
  · exact ⟨_, fun _ _ => .non, pe_non⟩
  · cases of_decide_eq_true h
    exact ⟨_, fun _ _ => .str _, pe_str⟩
  · cases h
/-- a target's rule -/
theorem pg_ok {X : Cx} {scT : Scope} {t : Tg} {tg : Expr} (hc : X.calm = true) (nd : X.N.Nodup) (hf : ∀ x, locB scT x = true → Loc X.env.scope x ∧ (X.fn x = true ∨ X.env.scope.names.lookup x = some .local)) (h : okTg X.N scT t tg = true) : PG X tg (gT X.K t) := by
  unfold okTg at h
  split at h
  · rw [Bool.and_eq_true] at h
    obtain ⟨h1, h2⟩ := hf _ h.2
    exact pg_name nd (of_decide_eq_true h.1) h1 h2
  · simp only [Bool.and_eq_true, decide_eq_true_eq] at h
    obtain ⟨⟨⟨a1, a2⟩, b1⟩, b2⟩ := h
    obtain ⟨h1, h2⟩ := hf _ a2
    obtain ⟨h3, h4⟩ := hf _ b2
    exact pg_tup hc (pgs_cons (pg_name nd a1 h1 h2) (pgs_cons (pg_name nd b1 h3 h4) pgs_nil))
  · simp only [Bool.and_eq_true, decide_eq_true_eq] at h
    obtain ⟨⟨⟨⟨⟨a1, a2⟩, b1⟩, b2⟩, c1⟩, c2⟩ := h
    obtain ⟨h1, h2⟩ := hf _ a2
    obtain ⟨h3, h4⟩ := hf _ b2
    obtain ⟨h5, h6⟩ := hf _ c2
    exact pg_tup hc (pgs_cons (pg_name nd a1 h1 h2) (pgs_cons (pg_name nd b1 h3 h4) (pgs_cons (pg_name nd c1 h5 h6) pgs_nil)))
  · cases h
theorem cmp_leaf {o : Cm} {x y : W} {v u : V} {b : Bool} (r : Rl K G H σ st) (hx : Vw K G σ v x) (hy : Vw K G σ u y) {d e : D} (e1 : rd st x = some d) (e2 : rd st y = some e) (e3 : cmD o d e = some b) {Q : VK} (q : Q (.bl b) H) : rCmp K o v u H Q :=
  ⟨G, d, e, b, r.sub, rd_ok r hx e1, rd_ok r hy e2, e3, q⟩
end
theorem plain_in {o : Cm} (h : outCm o = true) : o.ast ≠ .In ∧ o.ast ≠ .NotIn := by
  cases o <;> first
    | exact ⟨by decide, by decide⟩
    | cases h
theorem chain_marks {o p : Cm} (h : outCm p = true) (b c : Expr) : lastMarks [o.ast, p.ast] [b, c] = false := nomark c (plain_in h).1 (plain_in h).2
theorem evE_cmp {o : Cm} (h : plainCm o = true) (a b : E) : evE (.cmp o a b) = fun st => bnd (evE a st) fun x s1 => bnd (evE b s1) fun y s2 => match rd s2 x, rd s2 y with
    | some d, some e => bnd (opt (cmD o d e) s2) fun f s3 => ok (.v (.bl f)) s3
    | _, _ => none := by
  funext st
  cases o <;> first
    | (cases h; done)
    | rw [evE]
  all_goals first
    | rfl
    | (intro z; cases z)
theorem evT_cmp {o : Cm} (h : plainCm o = true) (a b : E) : evT (.cmp o a b) = fun st => bnd (evE a st) fun x s1 => bnd (evE b s1) fun y s2 => match rd s2 x, rd s2 y with
    | some d, some e => bnd (opt (cmD o d e) s2) fun f s3 => ok f s3
    | _, _ => none := by
  funext st
  cases o <;> first
    | (cases h; done)
    | rw [evT]
  all_goals first
    | rfl
    | (intro z; cases z)
theorem blk_tg {X : Cx} {s : Shared} {H : Hp} {scope : Scope} {C : Addr} {cl : List (Str × Addr)} {fp : List Addr} (x : Str) (h : locB scope x = true) :
    Loc (X.blk s H scope (compEnvC scope cl C X.env) fp).env.scope x ∧ ((X.blk s H scope (compEnvC scope cl C X.env) fp).fn x = true ∨ (X.blk s H scope (compEnvC scope cl C X.env) fp).env.scope.names.lookup x = some .local) := by
  have keep : ∀ {k : NameKind}, k ≠ .free → scope.names.lookup x = some k → (relS scope X.env.scope).names.lookup x = some k := fun hk e => lookup_relS_keep hk e
  rcases loc_of h with e | e
  · have q := keep (by decide) e
    exact ⟨.inl q, .inr q⟩
  · have q := keep (by decide) e
    refine ⟨.inr q, .inl ?_⟩
    show (scope.names.lookup x == some .cell) = true
    rw [e]
    rfl
theorem amb_blk {X : Cx} {k : Nat} (a : Amb X k) (s : Shared) (H : Hp) (scope : Scope) (cenv : Env) (fp : List Addr) : Amb (X.blk s H scope cenv fp) k := ⟨a.room, a.gd, a.calm, a.nd, a.blt⟩
theorem own_slots {N : List Str} {t : Tg} : (ownOf N t).map (·.2) = t.slots := by
  unfold ownOf
  rw [List.map_map]
  exact List.map_id _
end SG
/-! Sg10: expressions are sound, all of them. -/
namespace SG
open PySem L2 PyProof.Rows RZ

theorem blt_in {x : Str} (h : bltWords.contains x = true) : x ∈ bltWords := by simpa using h
/-- what the call of a def asks -/
theorem call_read {X : Cx} {k : Nat} {Wx : WX} {f : Fn} {es : EL} {y : Expr} {ys : List Expr} {x : Str} {p pos : Pos} (am : Amb X k) (tk : Takes X Wx) (hx : x = f.name) (hgl : glB X.env.scope x = true) (hdb : dbg x = true) (hk : f.lvl ≤ k)
    (hst : (y :: ys).all nostar = true) (ha : PA X (y :: ys) (tWs X.K X.mg Wx (evL es))) (snd : FnSnd X.prog X.w X.K X.mg X.base f) :
    ∃ (g : Fn) (dvs : List V) (dfl : List D), f.fresh = g.fresh ∧ f.lend = g.lend ∧ f.many + dfl.length = g.many ∧ (∀ es as, f.run es as = g.run es (as ++ dfl)) ∧ Rps X.K (fun _ => none) dvs dfl ∧
      PE X (.Call (.Name x p) (y :: ys) [] pos) (fun σ H Q => tWs X.K X.mg Wx (evL es) σ H fun vs H1 => spFn X.K X.mg g (vs ++ dvs) H1 Q fun cls dx H' => Wx cls dx σ H') := by
  obtain ⟨g, fa, fd, ps, ds, dvs, dfl, h1, h2, h3, h4, h5, h6, h7, h8, h9, h10⟩ := snd.ex
  subst hx
  rw [List.all_cons, Bool.and_eq_true] at hst
  refine ⟨g, dvs, dfl, h9, h8, h10, h7, h6, ?_⟩
  exact pe_callG (E := fun σ cls dx H' => Wx cls dx σ H') h3 (am.room.mono hk) am.gd (gl_of hgl) h1 h2 h4 h5 (fun pins σ H s e s' I c => tk _ _ (XE.of_call I (fun cls d H' z => z) c)) ha (dbg_of hdb).1 (star_cons hst.1 ys _) (star_plain ys _ _ hst.2)
/-- .. of a def whose one argument is made for it -/
theorem call_readT {X : Cx} {k : Nat} {Wx : WX} {f : Fn} {t : TE} {y : Expr} {x : Str} {p pos : Pos} (am : Amb X k) (tk : Takes X Wx) (hx : x = f.name) (hgl : glB X.env.scope x = true) (hdb : dbg x = true) (hk : f.lvl ≤ k)
    (hst : nostar y = true) (ha : PE X y t) (snd : FnSnd X.prog X.w X.K X.mg X.base f) :
    ∃ (g : Fn) (dvs : List V) (dfl : List D), f.fresh = g.fresh ∧ f.lend = g.lend ∧ f.many + dfl.length = g.many ∧ (∀ es as, f.run es as = g.run es (as ++ dfl)) ∧ Rps X.K (fun _ => none) dvs dfl ∧
      PE X (.Call (.Name x p) [y] [] pos) (fun σ H Q => t σ H fun v H1 => spFn X.K X.mg g (v :: dvs) H1 Q fun cls dx H' => Wx cls dx σ H') := by
  obtain ⟨g, fa, fd, ps, ds, dvs, dfl, h1, h2, h3, h4, h5, h6, h7, h8, h9, h10⟩ := snd.ex
  subst hx
  refine ⟨g, dvs, dfl, h9, h8, h10, h7, h6, ?_⟩
  exact pe_callG (E := fun σ cls dx H' => Wx cls dx σ H') h3 (am.room.mono hk) am.gd (gl_of hgl) h1 h2 h4 h5 (fun pins σ H s e s' I c => tk _ _ (XE.of_call I (fun cls d H' z => z) c)) (pa_cons ha pa_nil (star_cons hst [] _)) (dbg_of hdb).1 (star_cons hst [] _) rfl
theorem lent_leaf {K : PySem.W.Frag} {mg : Str → Option Value} {G H G1 H1 : Hp} {σ : L2.St} {st s1 : List S} {g f : Fn} {dvs : List V} {dfl : List D} {es : List D} {v : V} {Q : VK} {E : XK} (hfr : f.fresh = g.fresh) (hl : f.lend = g.lend) (hm : f.many + dfl.length = g.many) (hrun : ∀ es as, f.run es as = g.run es (as ++ dfl)) (hd : Rps K (fun _ => none) dvs dfl)
    (p1 : Stp G H σ st G1 H1 σ s1) (r1 : Rl K G1 H1 σ s1) (hv : NewL K G H G1 H1 σ s1 v es)
    (h : ∃ r, lentD f es s1 = some r) (hx : ∀ x cls dx G' H', lentD f es s1 = some (.error x, s1) → Stp G H σ st G' H' σ s1 → Rl K G' H' σ s1 → ErrOk K mg G' H' cls dx x → E cls dx H')
    (hq : ∀ d u G' H', lentD f es s1 = some (.ok d, s1) → Stp G H σ st G' H' σ s1 → Rl K G' H' σ s1 → Rp K G' u d → Q u H') : spFn K mg g (v :: dvs) H1 Q E := by
  obtain ⟨a, xs, rfl, ha0, hg, hxs, rx, now⟩ := hv
  obtain ⟨o, ho⟩ := h
  have ho' := ho
  unfold lentD at ho
  split at ho
  · rename_i e0 e1
    split at ho
    · rename_i hmany
      split at ho
      · cases ho
      · rename_i res es' erun
        cases ho
        have hd1 : Rps K G1 dvs dfl := hd.mono (fun b o z => by cases z)
        refine ⟨G1, es, dfl, ?_, ?_, ?_⟩
        · rw [← hl, e0, argS_ye]
          exact Rl.argsL r1.sub hg hxs rx hd1
        · rw [← hl, e0, argS_ye, List.length_cons, List.length_map]
          omega
        · have er : g.run es dfl = some (res, es') := by rw [← erun, hrun]; rfl
          rw [er]
          have ne : ∀ {b : Addr} {o : HO}, H b = some o → b ≠ a := fun {b o} hb z => by subst z; rw [ha0] at hb; cases hb
          have step : ∀ {G' H' : Hp}, Stp G1 H1 ((V.ref a :: dvs).map some) (argS g.lend es dfl) G' H' ((V.ref a :: dvs).map some) (argS g.lend es' dfl) → Rl K G' H' ((V.ref a :: dvs).map some) (argS g.lend es' dfl) →
              Stp G H σ st G' H' σ s1 ∧ Rl K G' H' σ s1 := fun {G' H'} p' r' => by
            rw [← hl, e0, argS_ye] at p'
            rw [← hl, e0, argS_ye] at r'
            have low : ∀ {b : Addr}, b ≠ a → ¬ Owned ((V.ref a :: dvs).map some) (.own true es :: dfl.map .val) b := fun hb z => hb (owned_lent z)
            refine ⟨⟨fun b o hb hn => p'.kp b o (p1.kp b o hb hn) (low (ne hb)), p1.gr.trans p'.gr, fun b hb hn => ?_, p1.ow, fun b hb => ?_, p1.bor⟩, ⟨r'.sub, r1.len, fun i d h => ?_, fun i m ds h => ?_, r1.sep⟩⟩
            · have hba : b ≠ a := fun z => by subst z; exact hb ha0
              rw [p'.old b (p1.nv b hb) (low hba)]
              exact p1.old b hb hn
            · exact p'.nv b (p1.nv b hb)
            · obtain ⟨u, h1, h2⟩ := r1.val i d h
              exact ⟨u, h1, h2.mono p'.gr⟩
            · obtain ⟨c, zs, h1, h2, h3, h4⟩ := r1.own i m ds h
              have hca : c ≠ a := fun z => by subst z; exact now ⟨i, m, ds, h, h1⟩
              exact ⟨c, zs, h1, by rw [p'.old c (by rw [h3]; exact fun z => nomatch z) (low hca)]; exact h2, p'.kp c _ h3 (low hca), h4.mono p'.gr⟩
          match res with
          | .ok d =>
            intro u G' H' p' r' ret
            obtain ⟨a1, a2⟩ := step p' r'
            rw [← hfr, e1] at ret
            exact hq d u G' H' ho' a1 a2 ret
          | .error x =>
            intro cls dx G' H' p' r' ee
            obtain ⟨a1, a2⟩ := step p' r'
            exact hx x cls dx G' H' ho' a1 a2 ee
    · cases ho
  · cases ho
theorem Wp.callD {K : PySem.W.Frag} {mg : Str → Option Value} {Wx : WX} {G H : Hp} {σ : L2.St} {st : List S} {α : Type} {o : Option (Except Exn D × List S)} {kf : D → List S → R α} {k : α → List S → Hp → Hp → Prop} (h : Wp K mg Wx (SG.bnd o kf) G H σ st k) : ∃ r, o = some r := by
  cases o with
  | none => exact h.elim
  | some r => exact ⟨r, rfl⟩
section
variable {K : PySem.W.Frag} {mg : Str → Option Value} {Wx : WX} {G H : Hp} {σ : L2.St} {st : List S}
theorem call_leaf {g f : Fn} {dvs : List V} {dfl : List D} {ws : List W} {vs : List V} {Q : VK} (hfr : f.fresh = g.fresh) (hl : f.lend = g.lend) (hm : f.many + dfl.length = g.many) (hrun : ∀ es as, f.run es as = g.run es (as ++ dfl)) (hd : Rps K (fun _ => none) dvs dfl)
    (r : Rl K G H σ st) (hv : Vws K G σ vs ws) {α : Type} {kf : D → List S → R α} {kk : α → List S → Hp → Hp → Prop} (h : Wp K mg Wx (bnd (callD f ws st) kf) G H σ st kk)
    (hq : ∀ d s1 v G' H', Stp G H σ st G' H' σ s1 → Rl K G' H' σ s1 → RetOk K G H G' H' f.fresh v d → (∀ a, H a = none → ¬ Owned σ s1 a) → Wp K mg Wx (kf d s1) G' H' σ s1 kk → Q v H') :
    spFn K mg g (vs ++ dvs) H Q fun cls dx H' => Wx cls dx σ H' := by
  refine call_sp (f := f) (g := g) hd hrun hl hm r hv (fun _ _ _ _ => True) (fun x s1 cls dx G' H' e p r' ee => ?_) (Wp.callD h) fun d s1 v G' H' e p r' ret ow => ?_
  · rw [e] at h
    exact h cls dx G' H' p r' ee
  · have hb := h.bnd
    rw [e] at hb
    rw [← hfr] at ret
    exact hq d s1 v G' H' p r' ret ow (hb G' H' p r')
end

section
variable {K : PySem.W.Frag} {mg : Str → Option Value} {Wx : WX} {G H G' H' G0 H0 : Hp} {σ : L2.St} {st st0 : List S}
theorem Vw.toB {v : V} {b : Bool} (h : Vw K G σ v (.v (.bl b))) : v = .bl b := by
  have h : Rp K G v (.bl b) := h
  cases h; rfl
theorem Vw.toI {v : V} {b : Int} (h : Vw K G σ v (.v (.int b))) : v = .int b := by
  have h : Rp K G v (.int b) := h
  cases h; rfl
theorem isNon_ok {v : V} {d : D} (h : RpW K G H v d) : decide (v = .non) = isNon d := by
  rcases h with h | ⟨_, _, _, rfl, rfl, _⟩
  · cases h <;> rfl
  · rfl
theorem truB {d : D} {k : Bool} {v : V} (r : Rl K G H σ st) (h : Rp K G v d) (e : truD d = some k) : TruV K v H k := tru_D r.sub (.inl h) e
/-- a list just laid -/
theorem newL_of (p : Stp G0 H0 σ st0 G H σ st) (r : Rl K G H σ st) {a : Addr} {xs : List V} {ds : List D} (hp : H a = none) (rx : Rps K G xs ds) :
    Rl K G (upd H a (.lst xs)) σ st ∧ Stp G H σ st G (upd H a (.lst xs)) σ st ∧ NewL K G0 H0 G (upd H a (.lst xs)) σ st (.ref a) ds := by
  refine ⟨r.newO _ hp, Stp.newO r _ hp, a, xs, rfl, ?_, r.G_none hp, upd_same, rx, r.notOwned_of_fresh hp⟩
  exact Classical.byContradiction fun z => p.nv a z hp
/-- given up at once -/
theorem newL_frz {v : V} {ds : List D} (p : Stp G0 H0 σ st0 G H σ st) (r : Rl K G H σ st) (h : NewL K G0 H0 G H σ st v ds) : ∃ G', Stp G0 H0 σ st0 G' H σ st ∧ Rl K G' H σ st ∧ Rp K G' v (.lst ds) := by
  obtain ⟨a, xs, rfl, h1, h2, h3, h4, h5⟩ := h
  refine ⟨_, ?_, r.frz h3 h2 h5, ?_⟩
  · refine ⟨p.kp, p.gr.trans (sub_upd h2), fun b hb n => ?_, p.ow, p.nv, p.bor⟩
    rw [upd_ne (show b ≠ a from fun z => by subst z; exact hb h1)]
    exact p.old b hb n
  · exact .lst (.inl (.inl upd_same)) (h4.mono (sub_upd h2))
end
section
variable {X : Cx} {k : Nat}
theorem pt_of {e : Expr} {t : TE} (ha : PE X e t) (he : ∀ whole, isTrue e X.env whole = (do let v ← whole; standAt e.pos; holding [v] (truthy v))) : PT X e (fun σ H Q => t σ H fun x H' => ∃ k, TruV X.K x H' k ∧ Q k H') := pt_truth ha he
theorem pe_b1 (am : Amb X k) (b : B1) {x : Str} {y : Expr} {p pos : Pos} {t : TE} (hx : x = b.word) (hg : glB X.env.scope x = true) (ha : PE X y t) (hs : nostar y = true) :
    PE X (.Call (.Name x p) [y] [] pos) (fun σ H Q => t σ H fun v H1 => rB1 X.K b [v] H1 Q) := by
  subst hx
  have hm : X.mg b.word = none := am.blt _ (by cases b <;> exact blt_in (by decide))
  have pa : PA X [y] (tCons t tNil) := pa_cons ha pa_nil (star_cons hs [] _)
  have cr := call_b1 (X := X) am.calm am.gd am.hu b
  have hb := b1_boot b
  cases b <;> first
    | exact pe_callTy cr (gl_of hg) hm hb pa (by decide) (by decide) (star_cons hs [] _) rfl
    | exact pe_callB cr (gl_of hg) hm hb pa (by decide) (by decide) (star_cons hs [] _) rfl
theorem pe_isi (am : Amb X k) {x z : Str} {y : Expr} {p pz pos : Pos} {t : TE} {ty : String} (hx : x = "isinstance") (hg : glB X.env.scope x = true) (hty : isTyName ty = true) (hz : z = Str.ofString ty) (hgz : glB X.env.scope z = true) (ha : PE X y t) (hs : nostar y = true) :
    PE X (.Call (.Name x p) [y, .Name z pz] [] pos) (fun σ H Q => t σ H fun v H1 => rIsi X.K [v, .ty ty] H1 Q) := by
  subst hx hz
  have hm : X.mg "isinstance" = none := am.blt _ (blt_in (by decide))
  have hmz : X.mg (Str.ofString ty) = none := am.blt _ (by
    have hty' := hty
    unfold isTyName at hty'
    simp only [List.contains_cons, List.contains_nil, Bool.or_false, Bool.or_eq_true, beq_iff_eq] at hty'
    rcases hty' with rfl | rfl | rfl | rfl | rfl | rfl <;> exact blt_in (by decide +kernel))
  have hn : Str.ofString ty ≠ "__name__" ∧ (Str.ofString ty == ("__debug__" : Str)) = false := by
    have hty' := hty
    unfold isTyName at hty'
    simp only [List.contains_cons, List.contains_nil, Bool.or_false, Bool.or_eq_true, beq_iff_eq] at hty'
    rcases hty' with rfl | rfl | rfl | rfl | rfl | rfl <;> exact ⟨by decide +kernel, by decide +kernel⟩
  have pc : PE X (.Name (Str.ofString ty) pz) (tC (.ty ty)) := pe_bltn (gl_of hgz) hmz (ty_boot hty) rfl hn.1 hn.2
  have pa : PA X [y, .Name (Str.ofString ty) pz] (tCons t (tCons (tC (.ty ty)) tNil)) := pa_cons ha (pa_cons pc pa_nil (star_cons rfl [] _)) (star_cons hs _ _)
  exact pe_callB call_isi (gl_of hg) hm (by decide +kernel) pa (by decide) (by decide) (star_cons hs _ _) rfl
theorem isi_leaf {K : PySem.W.Frag} {G H : Hp} {v : V} {d : D} {ty : String} {b : Bool} {Q : VK} (hs : Sub G H) (h : RpW K G H v d) (e : isiD d ty = some b) (q : Q (.bl b) H) : rIsi K [v, .ty ty] H Q :=
  ⟨v, .ty ty, _, _, b, rfl, .ty ty, ty_D hs h, isi_D e, q⟩
theorem pe_two (am : Amb X k) {r : List V → Hp → VK → Prop} {id : String} {w x : Str} {y z : Expr} {p pos : Pos} {t u : TE} (hx : x = w) (hw : w ∈ bltWords) (hn : w ≠ "__name__" ∧ (w == ("__debug__" : Str)) = false) (hb : bootBuiltins w = some (.builtin id)) (cr : CallR X (.builtin id) r)
    (hg : glB X.env.scope x = true) (ha : PE X y t) (hs : nostar y = true) (hc : PE X z u) (hsz : nostar z = true) :
    PE X (.Call (.Name x p) [y, z] [] pos) (fun σ H Q => t σ H fun v H1 => u σ H1 fun v' H2 => r [v, v'] H2 Q) := by
  subst hx
  have pa : PA X [y, z] (tCons t (tCons u tNil)) := pa_cons ha (pa_cons hc pa_nil (star_cons hsz [] _)) (star_cons hs _ _)
  exact pe_callB cr (gl_of hg) (am.blt _ hw) hb pa hn.1 hn.2 (star_cons hs _ _) (star_plain [z] _ _ (by rw [List.all_cons, hsz]; rfl))
end
end SG
/-! Sg11: expressions are sound, all of them. -/
namespace SG
open PySem L2 PyProof.Rows RZ StX

def isBo : Expr → Bool
  | .BoolOp .. => true
  | _ => false
theorem okI_set {N : List Str} {k : Nat} {sc : Scope} : ∀ (i : IT) (t e : Expr), okI N k i sc t e = true → isSet e = false := by
  intro i t e h
  cases i <;> first
    | exact (okE_shape _ e h).se
    | (cases e <;> first
      | rfl
      | (unfold okI at h; exact absurd h Bool.false_ne_true)
      | (unfold okI at h; rw [Bool.and_eq_true] at h; exact absurd h.2 Bool.false_ne_true))
section
variable {K : PySem.W.Frag} {mg : Str → Option Value} {Wx : WX} {G H : Hp} {σ : L2.St} {st : List S}
theorem Wp.frL {o : R (List D)} {Q : VK} (h : Wp K mg Wx (SG.bnd o fun ds s1 => SG.ok (.v (.lst ds)) s1) G H σ st fun w _ G' H' => ∀ v, Vw K G' σ v w → Q v H') : Wp K mg Wx o G H σ st fun ds s1 G' H' => ∀ v, NewL K G H G' H' σ s1 v ds → Q v H' := by
  match o, h with
  | some (.error x, s1), h => exact h
  | some (.ok ds, s1), h =>
    intro G' H' p r v hv
    obtain ⟨G2, q, r2, hx⟩ := newL_frz p r hv
    exact h G2 H' q r2 v hx
theorem tru_leaf {x : W} {v : V} {k : Bool} (r : Rl K G H σ st) (hv : Vw K G σ v x) (e : (rd st x).bind truD = some k) : TruV K v H k := by
  obtain ⟨d, e1, e2⟩ := Option.bind_eq_some_iff.mp e
  exact tru_D r.sub (rd_ok r hv e1) e2
theorem pt_none {X : Cx} {e : Expr} {f : List S → R Bool} (h : ∀ st, f st = none) : PT X e (tWt X.K X.mg Wx f) ∧ (isBo e = true → PW X e (tWt X.K X.mg Wx f)) := by
  have z : ∀ {σ H Q}, tWt X.K X.mg Wx f σ H Q → False := fun ⟨G, st, r, hw⟩ => by rw [h] at hw; exact hw.elim
  exact ⟨⟨fun _ _ _ _ _ _ q => (z q).elim⟩, fun _ => ⟨fun _ _ _ _ _ _ _ q => (z q).elim⟩⟩
end
/-! ### sorted(xs, key=f) -/
def rSortK (K : PySem.W.Frag) (fa : Addr) (sp : Sp) (dvs : List V) : List V → List V → Hp → VK → Prop := fun vs zs H Q => ∃ (a : Addr) (xs : List V) (ks : List Int) (W : Nat → Hp → Prop), vs = [V.ref a] ∧ zs = [V.ref fa] ∧ SqL K H a xs ∧ ks.length = xs.length ∧ W 0 H ∧
  (∀ (i : Nat) (x : V) (k : Int) (H1 : Hp), xs[i]? = some x → ks[i]? = some k → W i H1 → sp ([x] ++ dvs) H1 (fun y H2 => y = .int k ∧ W (i + 1) H2) fun _ _ _ => False) ∧
  ∀ (H1 : Hp) (p : Addr), W xs.length H1 → H1 p = none → Q (.ref p) (upd H1 p (.lst (SR.sortK (ks.zip xs))))
theorem cr_sortK {X : Cx} {k : Nat} {fa : Addr} {fd : FuncData} {ps : List Str} {sp : Sp} {dvs : List V} {ds : List Value} (F : FnG X.prog X.w X.K X.mg X.base k fa fd ps sp) (hr : Room (k + 2) X.A) (hg : X.A.guards = some []) (hb : Binds X.K fd ps ds) (hd : Vals dvs ds) :
    CallRK X (.builtin "sorted") [Str.ofString "key"] (rSortK X.K fa sp dvs) := by
  intro pins s σ H vs zs us ws Q I r rz h
  obtain ⟨a, xs, ks, W, rfl, rfl, hs, hk, w0, turn, q⟩ := h
  obtain ⟨u, rfl, ru⟩ := vals1 r
  obtain ⟨w, rfl, rww⟩ := vals1 rz
  obtain rfl : u = Value.ref a := ru
  obtain rfl : w = Value.ref fa := rww
  have hr2 : Room k X.A.in1.in1 := (show Room (k + 1) X.A.in1 from Room.in1 hr).in1
  refine SR.sorted_key I hs hk w0 (fun i x kk h1 h2 pins' s1 H1 v I1 w1 rx => ?_) q
  have hsp := turn i x kk H1 h1 h2 w1
  have rr : Vals ([x] ++ dvs) ([v] ++ ds) := Vals.append (.cons rx .nil) hd
  have ll : ([v] ++ ds).length = ps.length := by
    rw [← rr.length]
    exact F.len _ _ _ _ hsp
  have run := F.go X.A.in1.in1 X.stack s1 H1 ⟨[v], []⟩ ([v] ++ ds) ([x] ++ dvs) _ _ hr2 hg I1.env0.in1.in1 (hb s1 [v] I1.kIn ll) rr hsp
  refine wpAny_call (codeAny_mono run fun res s' hq => ?_)
  match res, hq with
  | .error e, hq =>
    obtain ⟨_, _, _, _, _, _, _, _, _, _, _, _, z⟩ := hq
    exact z.elim
  | .ok (.ret u), hq => exact I1.after hq
  | .ok .next, hq => exact hq.elim
  | .ok .brk, hq => exact hq.elim
  | .ok .cont, hq => exact hq.elim
theorem keys_rps {K : PySem.W.Frag} {G : Hp} {f : Fn} : ∀ {ds : List D} {xs : List V} {ks : List Int}, Rps K G xs ds → keysOf f ds = some ks → ks.length = xs.length ∧ ∀ (j : Nat) (x : V) (i : Int), xs[j]? = some x → ks[j]? = some i → ∃ d b, Rp K G x d ∧ f.run [] [d] = some (.ok (.int i), b)
  | [], _, _, .nil, e => by
    cases e
    exact ⟨rfl, fun j x i h => by simp at h⟩
  | d :: ds, _, ks, .cons a b, e => by
    unfold keysOf at e
    split at e
    · rename_i i b' e0
      cases e1 : keysOf f ds with
      | none => rw [e1] at e; cases e
      | some ks' =>
        rw [e1] at e
        cases e
        obtain ⟨k1, k2⟩ := keys_rps b e1
        refine ⟨congrArg Nat.succ k1, fun j x i' h1 h2 => ?_⟩
        cases j with
        | zero =>
          cases h1
          cases h2
          exact ⟨d, b', a, e0⟩
        | succ j => exact k2 j x i' h1 h2
    · cases e
/-- items handed on -/
theorem vws_vals {K : PySem.W.Frag} {G : Hp} {σ : L2.St} : ∀ {xs : List V} {ds : List D}, Rps K G xs ds → Vws K G σ xs (ds.map .v)
  | _, _, .nil => trivial
  | _, _, .cons a b => ⟨a, vws_vals b⟩
theorem Vws.app {K : PySem.W.Frag} {G : Hp} {σ : L2.St} : ∀ {xs ys : List V} {ws us : List W}, Vws K G σ xs ws → Vws K G σ ys us → Vws K G σ (xs ++ ys) (ws ++ us)
  | [], _, [], _, _, h => h
  | _ :: _, _, _ :: _, _, ⟨a, b⟩, h => ⟨a, Vws.app b h⟩
  | [], _, _ :: _, _, h, _ => h.elim
  | _ :: _, _, [], _, h, _ => h.elim
/-- pairs of an int and something -/
theorem firsts_rps {K : PySem.W.Frag} {G H : Hp} (hs : Sub G H) : ∀ {ds : List D} {xs : List V} {ks : List Int}, Rps K G xs ds → firstsOf ds = some ks → ks.length = xs.length ∧ ∀ (j : Nat) (x : V) (i : Int), xs[j]? = some x → ks[j]? = some i → ∃ t u, x = V.ref t ∧ SqT K H t [.int i, u]
  | [], _, _, .nil, e => by
    cases e
    exact ⟨rfl, fun j x i h => by simp at h⟩
  | d :: ds, _, ks, .cons a b, e => by
    unfold firstsOf at e
    split at e
    · contradiction
    · rename_i i e0 r ed
      cases ed
      cases e1 : firstsOf ds with
      | none => rw [e1] at e; cases e
      | some ks' =>
        rw [e1] at e
        cases e
        obtain ⟨k1, k2⟩ := firsts_rps hs b e1
        refine ⟨congrArg Nat.succ k1, fun j x i' h1 h2 => ?_⟩
        cases j with
        | zero =>
          cases h1
          cases h2
          cases a with
          | tup s rs => cases rs with
            | cons ra rs => cases rs with
              | cons rb rs =>
                cases rs
                cases ra
                exact ⟨_, _, rfl, hs.sqT s⟩
        | succ j => exact k2 j x i' h1 h2
    · cases e
theorem sort_rps {K : PySem.W.Frag} {G : Hp} {ks : List Int} {xs : List V} {ds : List D} (r : Rps K G xs ds) : Rps K G (SR.sortK (ks.zip xs)) (SR.sortK (ks.zip ds)) := by
  have gen : ∀ (ks : List Int) {xs : List V} {ds : List D}, Rps K G xs ds → Paired (fun (p : Int × V) (q : Int × D) => Rp K G p.2 q.2 ∧ p.1 = q.1) (ks.zip xs) (ks.zip ds) := by
    intro ks
    induction ks with
    | nil => intro xs ds _; exact .nil
    | cons k ks ih =>
      intro xs ds r
      cases r with
      | nil => exact .nil
      | cons a b => exact .cons ⟨a, rfl⟩ (ih b)
  have srt := SR.isort_rel (R := fun (p : Int × V) (q : Int × D) => Rp K G p.2 q.2) (f := fun p : Int × V => p.1) (g := fun q : Int × D => q.1) (gen ks r)
  unfold SR.sortK
  have fin : ∀ {l : List (Int × V)} {m : List (Int × D)}, Paired (fun (p : Int × V) (q : Int × D) => Rp K G p.2 q.2) l m → Rps K G (l.map (·.2)) (m.map (·.2)) := by
    intro l m h
    induction h with
    | nil => exact .nil
    | cons a _ ih => exact .cons a ih
  exact fin srt
def tWo (K : PySem.W.Frag) (mg : Str → Option Value) (Wx : WX) (f : List S → R (Option Int)) : TO := fun σ H Q =>
  ∃ G st, Rl K G H σ st ∧ Wp K mg Wx (f st) G H σ st fun o _ _ H' => Q o H'
theorem PO.to {X : Cx} {e : Option Expr} {t t' : TO} (h : PO X e t) (k : ∀ σ H Q, t' σ H Q → t σ H Q) : PO X e t' := ⟨fun pins s σ H Q I q => h.run pins s σ H Q I (k σ H Q q)⟩
theorem cut_rps {K : PySem.W.Frag} {G : Hp} {xs : List V} {ds : List D} {l u : Option Int} (r : Rps K G xs ds) : Rps K G (cutV xs l u) (cutD ds l u) := by
  unfold cutV cutD
  rw [r.length]
  exact (r.drop _).take _
theorem cut_whole {ds : List D} {l u : Option Int} (h : HT.sIx ds.length 0 l = 0 ∧ HT.sIx ds.length ds.length u = ds.length) : cutD ds l u = ds := by
  unfold cutD
  rw [h.1, h.2, Nat.sub_zero, List.drop_zero, List.take_length]
mutual
theorem sE : ∀ (i : E) {X : Cx} {k : Nat} {Wx : WX} (e : Expr), Amb X k → Takes X Wx → okE X.N k i X.env.scope e = true → prE (askX X) i → PE X e (tW X.K X.mg Wx (evE i))
  | .var i, X, k, Wx, e, am, tk, h, pr => by
    unfold okE at h
    split at h
    · simp only [Bool.and_eq_true, decide_eq_true_eq] at h
      obtain ⟨⟨h1, h2⟩, h3⟩ := h
      obtain ⟨d1, d2⟩ := dbg_of h3
      exact PE.to (pe_var h1 (vis_of h2) d1 d2) fun σ H Q ⟨G, st, r, hw⟩ => slot_ok r hw
    · cases h
  | .cst d, X, k, Wx, e, am, tk, h, pr => by
    unfold okE at h
    split at h
    · obtain ⟨v, h1, h2⟩ := cst_ok h
      exact PE.to h2 fun σ H Q ⟨G, st, r, hw⟩ => hw.ok r v (h1 _ _)
    · cases h
  | .glb y d, X, k, Wx, e, am, tk, h, pr => by
    unfold okE at h
    split at h
    · simp only [Bool.and_eq_true, decide_eq_true_eq] at h
      obtain ⟨⟨h1, h2⟩, h3⟩ := h
      subst h1
      obtain ⟨v, u, g1, g2, g3⟩ := pr
      exact PE.to (pe_glob (gl_of h2) g1 g2 (dbg_of h3).1) fun σ H Q ⟨G, st, r, hw⟩ => hw.ok r v (g3.mono fun _ _ z => by cases z)
    · cases h
  | .bin o a b, X, k, Wx, e, am, tk, h, pr => by
    unfold okE at h
    split at h
    · simp only [Bool.and_eq_true] at h
      obtain ⟨⟨h1, h2⟩, h3⟩ := h
      cases (of_decide_eq_true (show decide _ = true from h1))
      refine PE.to (pe_op (op_bin o) (sE a _ am tk h2 pr.1) (sE b _ am tk h3 pr.2)) ?_
      rw [show evE (.bin o a b) = _ from funext fun st => evE.eq_4 st o a b]
      refine tW_2 fun r hx hy hw => ?_
      split at hw
      · rename_i d e e1 e2
        obtain ⟨f, e3, hw⟩ := hw.opt
        exact ⟨_, d, e, f, r.sub, rd_ok r hx e1, rd_ok r hy e2, e3, Res.of r fun G' H' p r' v hv => hw G' H' p r' v hv⟩
      · exact hw.elim
    · cases h
  | .neg a, X, k, Wx, e, am, tk, h, pr => by
    unfold okE at h
    split at h
    · refine PE.to (pe_un un_neg (sE a _ am tk h pr)) ?_
      rw [show evE (.neg a) = _ from funext fun st => evE.eq_5 st a]
      refine tW_1 fun r hx hw => ?_
      split at hw
      · rename_i i e1
        exact ⟨i, (rd_ok r hx e1).int, hw.ok r _ (.int _)⟩
      · exact hw.elim
    · cases h
  | .cmp o a b, X, k, Wx, e, am, tk, h, pr => by
    unfold okE at h
    split at h
    · split at h
      · split at h
        · refine PE.to (pe_cmp (pc_isN (sE a _ am tk h pr.1))) ?_
          rw [show evE (.cmp .isn a b) = _ from funext fun st => evE.eq_6 st a b]
          refine tW_1 (r1 := fun x H1 Q => Q (.bl (decide (x = .non))) H1) fun r hx hw => ?_
          split at hw
          · rename_i d e1
            rw [isNon_ok (rd_ok r hx e1)]
            exact hw.ok r _ (.bl _)
          · exact hw.elim
        · cases h
      · split at h
        · refine PE.to (pe_cmp (pc_notN (sE a _ am tk h pr.1))) ?_
          rw [show evE (.cmp .nisn a b) = _ from funext fun st => evE.eq_7 st a b]
          refine tW_1 (r1 := fun x H1 Q => Q (.bl (!decide (x = .non))) H1) fun r hx hw => ?_
          split at hw
          · rename_i d e1
            rw [isNon_ok (rd_ok r hx e1)]
            exact hw.ok r _ (.bl _)
          · exact hw.elim
        · cases h
      · simp only [Bool.and_eq_true] at h
        simp only [Bool.not_eq_true'] at h
        obtain ⟨⟨⟨⟨h1, h2⟩, h3⟩, h4⟩, h5⟩ := h
        cases (of_decide_eq_true (show decide _ = true from h2))
        refine PE.to (pe_cmpR (op_cmp am.hu' _) (sE a _ am tk h3 pr.1) (sE b _ am tk h4 pr.2) h5) ?_
        rw [evE_cmp h1]
        refine tW_2 fun r hx hy hw => ?_
        split at hw
        · rename_i d e e1 e2
          obtain ⟨f, e3, hw⟩ := hw.opt
          exact cmp_leaf r hx hy e1 e2 e3 (hw.ok r _ (.bl _))
        · exact hw.elim
    · cases h
  | .chain o p a b c, X, k, Wx, e, am, tk, h, pr => by
    unfold okE at h
    split at h
    · simp only [Bool.and_eq_true] at h
      obtain ⟨⟨⟨⟨⟨⟨h1, h2⟩, h3⟩, h4⟩, h5⟩, h6⟩, h7⟩ := h
      cases (of_decide_eq_true (show decide _ = true from h3))
      cases (of_decide_eq_true (show decide _ = true from h4))
      refine PE.to (pe_chain (op_cmp am.hu' _) (op_cmp am.hu' _) (sE a _ am tk h5 pr.1) (sE b _ am tk h6 pr.2.1) (sE c _ am tk h7 pr.2.2) (chain_marks h2 _ _)) fun σ H Q ⟨G, st, r, hw⟩ => ?_
      rw [evE] at hw
      refine ⟨G, st, r, hw.bnd.imp fun x s1 G1 H1 _ p1 r1 h1 v hv => ⟨G1, s1, r1, h1.bnd.imp fun y s2 G2 H2 _ p2 r2 h2 u hu => ?_⟩⟩
      split at h2
      · rename_i d e e1 e2
        split at h2
        · rename_i e3
          refine cmp_leaf r2 (hv.mono p2.gr) hu e1 e2 e3 ⟨true, rfl, ?_⟩
          show tW X.K X.mg Wx (evE c) σ H2 _
          refine ⟨G2, s2, r2, h2.bnd.imp fun z s3 G3 H3 _ p3 r3 h3 w hw3 => ?_⟩
          split at h3
          · rename_i e' g e4 e5
            obtain ⟨f, e6, h3⟩ := h3.opt
            exact cmp_leaf r3 (hu.mono p3.gr) hw3 e4 e5 e6 (h3.ok r3 _ (.bl _))
          · exact h3.elim
        · rename_i e3
          exact cmp_leaf r2 (hv.mono p2.gr) hu e1 e2 e3 ⟨false, rfl, h2.ok r2 _ (.bl _)⟩
        · exact h2.elim
      · exact h2.elim
    · cases h
  | .and a b, X, k, Wx, e, am, tk, h, pr => by
    unfold okE at h
    split at h
    · rename_i x y rr p
      have key : ∀ {tl : Expr}, PE X tl (tW X.K X.mg Wx (evE b)) → ∀ σ H Q, tW X.K X.mg Wx (evE (.and a b)) σ H Q → tAndV (tW X.K X.mg Wx (evE a)) (tW X.K X.mg Wx (evE b)) σ H Q := fun {tl} _ σ H Q ⟨G, st, r, hw⟩ => by
        rw [evE] at hw
        refine ⟨G, st, r, hw.bnd.imp fun x s1 G1 H1 _ p1 r1 h1 v hv => ?_⟩
        split at h1
        · exact ⟨true, hv.toB, ⟨G1, s1, r1, h1.bnd.imp fun y s2 G2 H2 _ p2 r2 h2 => h2.ok r2⟩⟩
        · exact ⟨false, hv.toB, h1.ok r1 _ (.bl _)⟩
        · exact h1.elim
      cases rr with
      | nil =>
        rw [Bool.and_eq_true] at h
        have pb := sE b y am tk h.2 pr.2
        exact PE.to (pe_and (sE a x am tk h.1 pr.1) (pe_one pb)) (key pb)
      | cons z s =>
        rw [Bool.and_eq_true] at h
        have pb := sE b _ am tk h.2 pr.2
        exact PE.to (pe_and (sE a x am tk h.1 pr.1) pb) (key pb)
    · cases h
  | .or a b, X, k, Wx, e, am, tk, h, pr => by
    unfold okE at h
    split at h
    · rename_i x y rr p
      have key : ∀ {tl : Expr}, PE X tl (tW X.K X.mg Wx (evE b)) → ∀ σ H Q, tW X.K X.mg Wx (evE (.or a b)) σ H Q → tOrV (tW X.K X.mg Wx (evE a)) (tW X.K X.mg Wx (evE b)) σ H Q := fun {tl} _ σ H Q ⟨G, st, r, hw⟩ => by
        rw [evE] at hw
        refine ⟨G, st, r, hw.bnd.imp fun x s1 G1 H1 _ p1 r1 h1 v hv => ?_⟩
        split at h1
        · exact ⟨false, hv.toB, ⟨G1, s1, r1, h1.bnd.imp fun y s2 G2 H2 _ p2 r2 h2 => h2.ok r2⟩⟩
        · exact ⟨true, hv.toB, h1.ok r1 _ (.bl _)⟩
        · exact h1.elim
      cases rr with
      | nil =>
        rw [Bool.and_eq_true] at h
        have pb := sE b y am tk h.2 pr.2
        exact PE.to (pe_or (sE a x am tk h.1 pr.1) (pe_one pb)) (key pb)
      | cons z s =>
        rw [Bool.and_eq_true] at h
        have pb := sE b _ am tk h.2 pr.2
        exact PE.to (pe_or (sE a x am tk h.1 pr.1) pb) (key pb)
    · cases h
  | .not a, X, k, Wx, e, am, tk, h, pr => by
    unfold okE at h
    split at h
    · refine PE.to (pe_not (sE a _ am tk h pr)) fun σ H Q ⟨G, st, r, hw⟩ => ?_
      rw [evE] at hw
      refine ⟨G, st, r, hw.bnd.imp fun x s1 G1 H1 _ p1 r1 h1 v hv => ?_⟩
      split at h1
      · exact ⟨_, hv.toB, h1.ok r1 _ (.bl _)⟩
      · exact h1.elim
    · cases h
  | .ite c a b, X, k, Wx, e, am, tk, h, pr => by
    unfold okE at h
    split at h
    · simp only [Bool.and_eq_true] at h
      obtain ⟨⟨h1, h2⟩, h3⟩ := h
      refine PE.to (pe_ifExp (sT c _ am tk h1 pr.1).1 (sE a _ am tk h2 pr.2.1) (sE b _ am tk h3 pr.2.2)) fun σ H Q ⟨G, st, r, hw⟩ => ?_
      rw [evE] at hw
      refine ⟨G, st, r, hw.bnd.imp fun q s1 G1 H1 _ p1 r1 h1 => ?_⟩
      cases q with
      | true => exact ⟨G1, s1, r1, h1⟩
      | false => exact ⟨G1, s1, r1, h1⟩
    · cases h
  | .tup es, X, k, Wx, e, am, tk, h, pr => by
    unfold okE at h
    split at h
    · refine PE.to (pe_tup (sL es _ am tk h pr)) fun σ H Q ⟨G, st, r, hw⟩ => ?_
      rw [evE] at hw
      refine ⟨G, st, r, hw.bnd.imp fun ws s1 G1 H1 _ p1 r1 h1 vs hv => ?_⟩
      split at h1
      · rename_i ds s2 e1
        split at h1
        · rename_i hl
          obtain ⟨G2, p2, r2, rv⟩ := frzs_ok r1 hv e1
          refine ⟨by rw [rv.length]; exact small_line hl, fun p hp => ?_⟩
          exact h1 _ _ (p2.trans (Stp.newF r2 _ hp)) (r2.newF _ hp) _ (.tup (.inl (.inl upd_same)) (rv.mono (sub_upd (r2.G_none hp))))
        · exact h1.elim
      · exact h1.elim
    · cases h
  | .ix a b, X, k, Wx, e, am, tk, h, pr => by
    unfold okE at h
    split at h
    · rw [Bool.and_eq_true] at h
      refine PE.to (pe_ix ix_at (sE a _ am tk h.1 pr.1) (sE b _ am tk h.2 pr.2) (plainIx (okE_shape _ _ h.2).sl)) ?_
      rw [show evE (.ix a b) = _ from funext fun st => evE.eq_15 st a b]
      refine tW_2 fun r hx hy hw => ?_
      split at hw
      · rename_i d e e1 e2
        obtain ⟨f, e3, hw⟩ := hw.opt
        exact ⟨_, d, e, f, r.sub, rd_ok r hx e1, rd_ok r hy e2, e3, fun v hv => hw.ok r v hv⟩
      · exact hw.elim
    · cases h
  | .slc a lo hi, X, k, Wx, e, am, tk, h, pr => by
    unfold okE at h
    split at h
    · simp only [Bool.and_eq_true] at h
      obtain ⟨⟨h1, h2⟩, h3⟩ := h
      refine PE.to (pe_slice (sl_tupA.or sl_list) (sE a _ am tk h1 pr.1) (sO lo _ am tk h2 pr.2.1) (sO hi _ am tk h3 pr.2.2)) fun σ H Q ⟨G, st, r, hw⟩ => ?_
      rw [evE] at hw
      refine ⟨G, st, r, hw.bnd.imp fun x s1 G1 H1 _ p1 r1 h1 v hv => ⟨G1, s1, r1, h1.bnd.imp fun l s2 G2 H2 _ p2 r2 h2 => ⟨G2, s2, r2, h2.bnd.imp fun u s3 G3 H3 _ p3 r3 h3 => ?_⟩⟩⟩
      have hv3 := (hv.mono p2.gr).mono p3.gr
      split at h3
      · rename_i ds e1
        have q := rd_ok r3 hv3 e1
        have q' : Rp X.K G3 v (.tup ds) := by
          rcases q with q | ⟨_, _, _, _, z, _⟩
          · exact q
          · cases z
        obtain ⟨b, xs, rfl, sq, rr⟩ := q.tup r3.sub
        refine .inl ⟨b, xs, rfl, sq, fun w => ?_, fun _ p hp => ?_⟩
        · rw [rr.length] at w
          rw [cut_whole w] at h3
          exact h3.ok r3 _ q'
        · exact h3 _ _ (Stp.newF r3 _ hp) (r3.newF _ hp) _ (.tup (.inl (.inl upd_same)) ((cut_rps rr).mono (sub_upd (r3.G_none hp))))
      · rename_i ds e1
        obtain ⟨b, xs, rfl, sq, rr⟩ := (rd_ok r3 hv3 e1).lst r3.sub
        refine .inr ⟨b, xs, rfl, sq, fun p hp => ?_⟩
        exact h3 _ _ (Stp.newF r3 _ hp) (r3.newF _ hp) _ (.lst (.inl (.inl upd_same)) ((cut_rps rr).mono (sub_upd (r3.G_none hp))))
      · exact h3.elim
    · cases h
  | .rev a, X, k, Wx, e, am, tk, h, pr => by
    unfold okE at h
    split at h
    · refine PE.to (SR.pe_revA (sE a _ am tk h pr)) fun σ H Q ⟨G, st, r, hw⟩ => ?_
      rw [evE] at hw
      refine ⟨G, st, r, hw.bnd.imp fun x s1 G1 H1 _ p1 r1 h1 v hv => ?_⟩
      split at h1
      · rename_i ds e1
        obtain ⟨b, xs, rfl, s1, rr⟩ := (rd_ok r1 hv e1).lst r1.sub
        refine ⟨b, xs, rfl, .inl ⟨s1, fun p hp => ?_⟩⟩
        exact h1 _ _ (Stp.newF r1 _ hp) (r1.newF _ hp) _ (.lst (.inl (.inl upd_same)) (rr.reverse.mono (sub_upd (r1.G_none hp))))
      · rename_i ds e1
        obtain ⟨b, xs, rfl, s1, rr⟩ := (rd_ok r1 hv e1).tup r1.sub
        refine ⟨b, xs, rfl, .inr ⟨s1, fun p hp => ?_⟩⟩
        exact h1 _ _ (Stp.newF r1 _ hp) (r1.newF _ hp) _ (.tup (.inl (.inl upd_same)) (rr.reverse.mono (sub_upd (r1.G_none hp))))
      · exact h1.elim
    · cases h
  | .call f es, X, k, Wx, e, am, tk, h, pr => by
    unfold okE at h
    split at h
    · simp only [Bool.and_eq_true, decide_eq_true_eq] at h
      obtain ⟨⟨⟨⟨⟨h1, h2⟩, h3⟩, h4⟩, hpl⟩, h5⟩ := h
      obtain ⟨g, dvs, dfl, fr, ld, mn, rn, hd, pe⟩ := call_read am tk h1 h2 h3 h4 (okL_star es _ hpl h5) (sL es _ am tk h5 pr.2) pr.1
      refine PE.to pe fun σ H Q ⟨G, st, r, hw⟩ => ?_
      rw [evE] at hw
      refine ⟨G, st, r, hw.bnd.imp fun ws s1 G1 H1 _ p1 r1 h1 vs hv => ?_⟩
      split at h1
      · rename_i efr
        refine call_leaf fr ld mn rn hd r1 hv h1 fun d s2 v G' H' p' r' ret _ h2 => ?_
        rw [efr] at ret
        exact h2.ok r' v ret
      · exact h1.elim
    · cases h
  | .b1 b a, X, k, Wx, e, am, tk, h, pr => by
    unfold okE at h
    split at h
    · simp only [Bool.and_eq_true, decide_eq_true_eq] at h
      obtain ⟨⟨h1, h2⟩, h3⟩ := h
      refine PE.to (pe_b1 am b h1 h2 (sE a _ am tk h3 pr) (okE_shape _ _ h3).st) ?_
      rw [show evE (.b1 b a) = _ from funext fun st => evE.eq_19 st b a]
      refine tW_1 (r1 := fun v H1 Q => rB1 X.K b [v] H1 Q) fun r hx hw => ?_
      split at hw
      · rename_i d e1
        obtain ⟨f, e3, hw⟩ := hw.opt
        exact ⟨_, _, d, f, rfl, r.sub, rd_ok r hx e1, e3, Res.of r fun G' H' p r' v hv => hw G' H' p r' v hv⟩
      · exact hw.elim
    · cases h
  | .isi a t, X, k, Wx, e, am, tk, h, pr => by
    unfold okE at h
    split at h
    · simp only [Bool.and_eq_true, decide_eq_true_eq] at h
      obtain ⟨⟨⟨⟨⟨h1, h2⟩, h3⟩, h4⟩, h5⟩, h6⟩ := h
      refine PE.to (pe_isi am h1 h2 h3 h4 h5 (sE a _ am tk h6 pr) (okE_shape _ _ h6).st) ?_
      rw [show evE (.isi a t) = _ from funext fun st => evE.eq_20 st a t]
      refine tW_1 (r1 := fun v H1 Q => rIsi X.K [v, .ty t] H1 Q) fun r hx hw => ?_
      split at hw
      · rename_i d e1
        obtain ⟨f, e3, hw⟩ := hw.opt
        exact isi_leaf r.sub (rd_ok r hx e1) e3 (hw.ok r _ (.bl _))
      · exact hw.elim
    · cases h
  | .max2 a b, X, k, Wx, e, am, tk, h, pr => by
    unfold okE at h
    split at h
    · simp only [Bool.and_eq_true, decide_eq_true_eq] at h
      obtain ⟨⟨⟨h1, h2⟩, h3⟩, h4⟩ := h
      refine PE.to (pe_two am h1 (blt_in (by decide)) ⟨by decide, by decide⟩ (by decide +kernel) (call_max2 am.calm) h2 (sE a _ am tk h3 pr.1) (okE_shape _ _ h3).st (sE b _ am tk h4 pr.2) (okE_shape _ _ h4).st) ?_
      rw [show evE (.max2 a b) = _ from funext fun st => evE.eq_21 st a b]
      refine tW_2 (r2 := fun v u H1 Q => ∃ i j, [v, u] = [.int i, .int j] ∧ Q (.int (if j > i then j else i)) H1) fun r hx hy hw => ?_
      split at hw
      · exact ⟨_, _, by rw [hx.toI, hy.toI], hw.ok r _ (.int _)⟩
      · exact hw.elim
    · cases h
  | .min2 a b, X, k, Wx, e, am, tk, h, pr => by
    unfold okE at h
    split at h
    · simp only [Bool.and_eq_true, decide_eq_true_eq] at h
      obtain ⟨⟨⟨h1, h2⟩, h3⟩, h4⟩ := h
      refine PE.to (pe_two am h1 (blt_in (by decide)) ⟨by decide, by decide⟩ (by decide +kernel) (call_min2 am.calm) h2 (sE a _ am tk h3 pr.1) (okE_shape _ _ h3).st (sE b _ am tk h4 pr.2) (okE_shape _ _ h4).st) ?_
      rw [show evE (.min2 a b) = _ from funext fun st => evE.eq_22 st a b]
      refine tW_2 (r2 := fun v u H1 Q => ∃ i j, [v, u] = [.int i, .int j] ∧ Q (.int (if j < i then j else i)) H1) fun r hx hy hw => ?_
      split at hw
      · exact ⟨_, _, by rw [hx.toI, hy.toI], hw.ok r _ (.int _)⟩
      · exact hw.elim
    · cases h
  | .fr f, X, k, Wx, e, am, tk, h, pr => by
    unfold okE at h
    refine PE.to (sF f _ am tk h pr) fun σ H Q ⟨G, st, r, hw⟩ => ?_
    rw [evE] at hw
    exact ⟨G, st, r, Wp.frL hw⟩
  | .dic0, X, k, Wx, e, am, tk, h, pr => by
    unfold okE at h
    split at h
    · refine PE.to pe_dnewK fun σ H Q ⟨G, st, r, hw⟩ p hp => ?_
      rw [evE] at hw
      exact hw.now _ _ (Stp.newF r _ hp) (r.newF _ hp) _ (.dic upd_same)
    · cases h
  | .callT f g, X, k, Wx, e, am, tk, h, pr => by
    unfold okE at h
    split at h
    · simp only [Bool.and_eq_true, decide_eq_true_eq] at h
      obtain ⟨⟨⟨⟨h1, h2⟩, h3⟩, h4⟩, h5⟩ := h
      obtain ⟨g', dvs, dfl, fr, ld, mn, rn, hd, pe⟩ := call_readT am tk h1 h2 h3 h4 (okF_shape _ _ h5).st (sF g _ am tk h5 pr.2) pr.1
      refine PE.to pe fun σ H Q ⟨G, st, r, hw⟩ => ⟨G, st, r, ?_⟩
      rw [evE] at hw
      cases eo : evF g st with
      | none => rw [eo] at hw; exact hw.elim
      | some o =>
        rw [eo] at hw
        obtain ⟨res, s1⟩ := o
        match res with
        | .error x => exact hw
        | .ok es =>
          intro G1 H1 p1 r1 v hv
          cases el : lentD f es s1 with
          | none => rw [show (bnd (some (Except.ok es, s1)) fun es s1 => bnd (lentD f es s1) fun d s2 => ok (W.v d) s2) = bnd (lentD f es s1) fun d s2 => ok (W.v d) s2 from rfl, el] at hw; exact hw.elim
          | some o2 =>
            rw [show (bnd (some (Except.ok es, s1)) fun es s1 => bnd (lentD f es s1) fun d s2 => ok (W.v d) s2) = bnd (lentD f es s1) fun d s2 => ok (W.v d) s2 from rfl] at hw
            refine lent_leaf fr ld mn rn hd p1 r1 hv ⟨_, el⟩ (fun x cls dx G' H' e2 p' r' ee => ?_) fun d u G' H' e2 p' r' ru => ?_
            · rw [e2] at hw
              exact hw cls dx G' H' p' r' ee
            · rw [e2] at hw
              exact hw G' H' p' r' u ru
    · cases h
  | .popI i n, X, k, Wx, e, am, tk, h, pr => by
    unfold okE at h
    split at h
    · rename_i x px at' apos v cpos
      simp only [Bool.and_eq_true, decide_eq_true_eq] at h
      obtain ⟨⟨⟨⟨⟨h1, h2⟩, h3⟩, h4⟩, h5⟩, h6⟩ := h
      obtain ⟨d1, d2⟩ := dbg_of h3
      subst h4
      have hs := (okE_shape _ _ h6).st
      refine PE.to (pe_bm PySem.F.plainAttrs_list PySem.F.slot_list_pop PySem.F.type_list_pop mt_popAt (pe_var h1 (vis_of h2) d1 d2) (pa_cons (sE n v am tk h6 pr) pa_nil (star_cons hs [] _)) rfl
        (by rw [star_cons hs]; rfl) h5 (star_cons hs [] _) rfl) fun σ H Q ⟨G, st, r, hw⟩ => ?_
      rw [evE] at hw
      split at hw
      · rename_i m0 es0 e0
        obtain ⟨a, ys, b1, b2, b3, b4⟩ := r.own i m0 es0 e0
        refine ⟨_, b1, .inl ⟨rfl, ys, .inl (.inl b3)⟩, G, st, r, hw.bnd.imp fun y s1 G1 H1 _ p1 r1 h1 u hu => ?_⟩
        split at h1
        · rename_i nn m ds e1 _
          split at h1
          · rename_i hz
            split at h1
            · rename_i j e2
              split at h1
              · rename_i d e3
                obtain ⟨a', xs, c1, c2, c3, c4⟩ := r1.own i m ds e1
                rw [b1] at c1
                cases c1
                obtain ⟨w, w1, w2⟩ := c4.get e3
                obtain ⟨q1, q2, q3, q4⟩ := ixN_seq e2
                refine ⟨a, xs, nn, j, w, rfl, by rw [hu.toI], c3, by omega, by omega, by rw [c4.length]; exact q1, w1, ?_⟩
                exact h1 _ _ (Stp.wr r1 e1 b1) (Rl.wr (xs := xs) r1 e1 b1 (c4.eraseIdx j)) w w2
              · exact h1.elim
            · exact h1.elim
          · exact h1.elim
        · exact h1.elim
      · exact hw.elim
    · cases h
theorem sT : ∀ (i : E) {X : Cx} {k : Nat} {Wx : WX} (e : Expr), Amb X k → Takes X Wx → okE X.N k i X.env.scope e = true → prE (askX X) i → PT X e (tWt X.K X.mg Wx (evT i)) ∧ (isBo e = true → PW X e (tWt X.K X.mg Wx (evT i)))
  | .and a b, X, k, Wx, e, am, tk, h, pr => by
    unfold okE at h
    split at h
    · rename_i x y rr p
      have key : ∀ σ H Q, tWt X.K X.mg Wx (evT (.and a b)) σ H Q → tAnd (tWt X.K X.mg Wx (evT a)) (tWt X.K X.mg Wx (evT b)) σ H Q := fun σ H Q ⟨G, st, r, hw⟩ => by
        rw [evT] at hw
        refine ⟨G, st, r, hw.bnd.imp fun q s1 G1 H1 _ p1 r1 h1 => ?_⟩
        cases q with
        | true => exact ⟨G1, s1, r1, h1⟩
        | false => exact (show Wp _ _ _ (ok false s1) G1 H1 σ s1 _ from h1).ok r1
      have fin : PW X (.BoolOp .And (x :: y :: rr) p) (tAnd (tWt X.K X.mg Wx (evT a)) (tWt X.K X.mg Wx (evT b))) := by
        cases rr with
        | nil =>
          rw [Bool.and_eq_true] at h
          exact pw_and (sT a x am tk h.1 pr.1).1 (pw_and1 (sT b y am tk h.2 pr.2).1)
        | cons z s =>
          rw [Bool.and_eq_true] at h
          exact pw_and (sT a x am tk h.1 pr.1).1 ((sT b _ am tk h.2 pr.2).2 rfl)
      have fin2 : PW X (.BoolOp .And (x :: y :: rr) p) (tWt X.K X.mg Wx (evT (.and a b))) := ⟨fun wh pins s σ H Q I q => fin.run wh pins s σ H Q I (key σ H Q q)⟩
      exact ⟨fin2.pt, fun _ => fin2⟩
    · cases h
  | .or a b, X, k, Wx, e, am, tk, h, pr => by
    unfold okE at h
    split at h
    · rename_i x y rr p
      have key : ∀ σ H Q, tWt X.K X.mg Wx (evT (.or a b)) σ H Q → tOr (tWt X.K X.mg Wx (evT a)) (tWt X.K X.mg Wx (evT b)) σ H Q := fun σ H Q ⟨G, st, r, hw⟩ => by
        rw [evT] at hw
        refine ⟨G, st, r, hw.bnd.imp fun q s1 G1 H1 _ p1 r1 h1 => ?_⟩
        cases q with
        | false => exact ⟨G1, s1, r1, h1⟩
        | true => exact (show Wp _ _ _ (ok true s1) G1 H1 σ s1 _ from h1).ok r1
      have fin : PW X (.BoolOp .Or (x :: y :: rr) p) (tOr (tWt X.K X.mg Wx (evT a)) (tWt X.K X.mg Wx (evT b))) := by
        cases rr with
        | nil =>
          rw [Bool.and_eq_true] at h
          exact pw_or (sT a x am tk h.1 pr.1).1 (pw_or1 (sT b y am tk h.2 pr.2).1)
        | cons z s =>
          rw [Bool.and_eq_true] at h
          exact pw_or (sT a x am tk h.1 pr.1).1 ((sT b _ am tk h.2 pr.2).2 rfl)
      have fin2 : PW X (.BoolOp .Or (x :: y :: rr) p) (tWt X.K X.mg Wx (evT (.or a b))) := ⟨fun wh pins s σ H Q I q => fin.run wh pins s σ H Q I (key σ H Q q)⟩
      exact ⟨fin2.pt, fun _ => fin2⟩
    · cases h
  | .not a, X, k, Wx, e, am, tk, h, pr => by
    unfold okE at h
    split at h
    · refine ⟨PT.to (pt_not (sT a _ am tk h pr).1) fun σ H Q ⟨G, st, r, hw⟩ => ?_, fun z => by cases z⟩
      rw [evT] at hw
      exact ⟨G, st, r, hw.bnd.imp fun q s1 G1 H1 _ p1 r1 h1 => h1.ok r1⟩
    · cases h
  | .var i, X, k, Wx, e, am, tk, h, pr => by
    unfold okE at h
    split at h
    · simp only [Bool.and_eq_true, decide_eq_true_eq] at h
      obtain ⟨⟨h1, h2⟩, h3⟩ := h
      obtain ⟨d1, d2⟩ := dbg_of h3
      refine ⟨PT.to (pt_of (PE.to (t' := tW X.K X.mg Wx fun st => slotOf st i) (pe_var h1 (vis_of h2) d1 d2) fun σ H Q ⟨G, st, r, hw⟩ => slot_ok r hw) fun _ => rfl) ?_, fun z => by cases z⟩
      intro σ H Q ⟨G, st, r, hw⟩
      rw [evT] at hw
      refine ⟨G, st, r, hw.bnd.imp fun x s1 G1 H1 _ p1 r1 h1 v hv => ?_⟩
      split at h1
      · rename_i q e1
        exact ⟨q, tru_leaf r1 hv e1, h1.ok r1⟩
      · exact h1.elim
    · cases h
  | .cmp o a b, X, k, Wx, e, am, tk, h, pr => by
    unfold okE at h
    split at h
    · split at h
      · split at h
        · refine ⟨PT.to (pt_cmp (pc_isN (sE a _ am tk h pr.1))) ?_, fun z => by cases z⟩
          rw [show evT (.cmp .isn a b) = _ from funext fun st => evT.eq_5 st a b]
          refine tT_1 (r1 := fun x H1 Q => ∃ c, V.bl (decide (x = .non)) = .bl c ∧ Q c H1) fun r hx hw => ?_
          split at hw
          · rename_i d e1
            rw [isNon_ok (rd_ok r hx e1)]
            exact ⟨_, rfl, hw.ok r⟩
          · exact hw.elim
        · cases h
      · split at h
        · refine ⟨PT.to (pt_cmp (pc_notN (sE a _ am tk h pr.1))) ?_, fun z => by cases z⟩
          rw [show evT (.cmp .nisn a b) = _ from funext fun st => evT.eq_6 st a b]
          refine tT_1 (r1 := fun x H1 Q => ∃ c, V.bl (!decide (x = .non)) = .bl c ∧ Q c H1) fun r hx hw => ?_
          split at hw
          · rename_i d e1
            rw [isNon_ok (rd_ok r hx e1)]
            exact ⟨_, rfl, hw.ok r⟩
          · exact hw.elim
        · cases h
      · simp only [Bool.and_eq_true] at h
        simp only [Bool.not_eq_true'] at h
        obtain ⟨⟨⟨⟨h1, h2⟩, h3⟩, h4⟩, h5⟩ := h
        cases (of_decide_eq_true (show decide _ = true from h2))
        refine ⟨PT.to (pt_cmpR (op_cmp am.hu' _) (sE a _ am tk h3 pr.1) (sE b _ am tk h4 pr.2) h5) ?_, fun z => by cases z⟩
        rw [evT_cmp h1]
        refine tT_2 fun r hx hy hw => ?_
        split at hw
        · rename_i d e e1 e2
          obtain ⟨f, e3, hw⟩ := hw.opt
          exact cmp_leaf r hx hy e1 e2 e3 ⟨f, rfl, hw.ok r⟩
        · exact hw.elim
    · cases h
  | .chain o p a b c, X, k, Wx, e, am, tk, h, pr => by
    unfold okE at h
    split at h
    · simp only [Bool.and_eq_true] at h
      obtain ⟨⟨⟨⟨⟨⟨h1, h2⟩, h3⟩, h4⟩, h5⟩, h6⟩, h7⟩ := h
      cases (of_decide_eq_true (show decide _ = true from h3))
      cases (of_decide_eq_true (show decide _ = true from h4))
      refine ⟨PT.to (pt_chain (op_cmp am.hu' _) (op_cmp am.hu' _) (sE a _ am tk h5 pr.1) (sE b _ am tk h6 pr.2.1) (sE c _ am tk h7 pr.2.2) (chain_marks h2 _ _)) fun σ H Q ⟨G, st, r, hw⟩ => ?_, fun z => by cases z⟩
      rw [evT] at hw
      refine ⟨G, st, r, hw.bnd.imp fun x s1 G1 H1 _ p1 r1 h1 v hv => ⟨G1, s1, r1, h1.bnd.imp fun y s2 G2 H2 _ p2 r2 h2 u hu => ?_⟩⟩
      split at h2
      · rename_i d e e1 e2
        split at h2
        · rename_i e3
          refine cmp_leaf r2 (hv.mono p2.gr) hu e1 e2 e3 ⟨true, rfl, ?_⟩
          show tW X.K X.mg Wx (evE c) σ H2 _
          refine ⟨G2, s2, r2, h2.bnd.imp fun z s3 G3 H3 _ p3 r3 h3 w hw3 => ?_⟩
          split at h3
          · rename_i e' g e4 e5
            obtain ⟨f, e6, h3⟩ := h3.opt
            exact cmp_leaf r3 (hu.mono p3.gr) hw3 e4 e5 e6 ⟨f, rfl, h3.ok r3⟩
          · exact h3.elim
        · rename_i e3
          exact cmp_leaf r2 (hv.mono p2.gr) hu e1 e2 e3 ⟨false, rfl, false, rfl, h2.ok r2⟩
        · exact h2.elim
      · exact h2.elim
    · cases h
  | .call f es, X, k, Wx, e, am, tk, h, pr => by
    unfold okE at h
    split at h
    · simp only [Bool.and_eq_true, decide_eq_true_eq] at h
      obtain ⟨⟨⟨⟨⟨h1, h2⟩, h3⟩, h4⟩, hpl⟩, h5⟩ := h
      obtain ⟨g, dvs, dfl, fr, ld, mn, rn, hd, pe⟩ := call_read am tk h1 h2 h3 h4 (okL_star es _ hpl h5) (sL es _ am tk h5 pr.2) pr.1
      refine ⟨PT.to (pt_of pe fun _ => rfl) fun σ H Q ⟨G, st, r, hw⟩ => ?_, fun z => by cases z⟩
      rw [evT] at hw
      refine ⟨G, st, r, hw.bnd.imp fun ws s1 G1 H1 _ p1 r1 h1 vs hv => ?_⟩
      split at h1
      · rename_i efr
        refine call_leaf fr ld mn rn hd r1 hv h1 fun d s2 v G' H' p' r' ret _ h2 => ?_
        rw [efr] at ret
        split at h2
        · rename_i q e1
          exact ⟨q, truB r' ret e1, h2.ok r'⟩
        · exact h2.elim
      · exact h1.elim
    · cases h
  | .b1 b a, X, k, Wx, e, am, tk, h, pr => by
    unfold okE at h
    split at h
    · simp only [Bool.and_eq_true, decide_eq_true_eq] at h
      obtain ⟨⟨h1, h2⟩, h3⟩ := h
      refine ⟨PT.to (pt_of (pe_b1 am b h1 h2 (sE a _ am tk h3 pr) (okE_shape _ _ h3).st) fun _ => rfl) ?_, fun z => by cases z⟩
      rw [show evT (.b1 b a) = _ from funext fun st => evT.eq_10 st b a]
      refine tT_1 (r1 := fun v H1 Q => rB1 X.K b [v] H1 fun x H' => ∃ k, TruV X.K x H' k ∧ Q k H') fun r hx hw => ?_
      split at hw
      · rename_i d e1
        obtain ⟨f, e3, hw⟩ := hw.opt
        split at hw
        · rename_i q e4
          exact ⟨_, _, d, f, rfl, r.sub, rd_ok r hx e1, e3, Res.of r fun G' H' p r' v hv => ⟨q, truB r' hv e4, hw G' H' p r'⟩⟩
        · exact hw.elim
      · exact hw.elim
    · cases h
  | .isi a t, X, k, Wx, e, am, tk, h, pr => by
    unfold okE at h
    split at h
    · simp only [Bool.and_eq_true, decide_eq_true_eq] at h
      obtain ⟨⟨⟨⟨⟨h1, h2⟩, h3⟩, h4⟩, h5⟩, h6⟩ := h
      refine ⟨PT.to (pt_of (pe_isi am h1 h2 h3 h4 h5 (sE a _ am tk h6 pr) (okE_shape _ _ h6).st) fun _ => rfl) ?_, fun z => by cases z⟩
      rw [show evT (.isi a t) = _ from funext fun st => evT.eq_11 st a t]
      refine tT_1 (r1 := fun v H1 Q => rIsi X.K [v, .ty t] H1 fun x H' => ∃ k, TruV X.K x H' k ∧ Q k H') fun r hx hw => ?_
      split at hw
      · rename_i d e1
        obtain ⟨f, e3, hw⟩ := hw.opt
        exact isi_leaf r.sub (rd_ok r hx e1) e3 ⟨f, rfl, hw.ok r⟩
      · exact hw.elim
    · cases h
  | .cst _, _, _, _, _, _, _, _, _ => pt_none fun _ => by rw [evT] <;> (intros; contradiction)
  | .glb _ _, _, _, _, _, _, _, _, _ => pt_none fun _ => by rw [evT] <;> (intros; contradiction)
  | .bin _ _ _, _, _, _, _, _, _, _, _ => pt_none fun _ => by rw [evT] <;> (intros; contradiction)
  | .neg _, _, _, _, _, _, _, _, _ => pt_none fun _ => by rw [evT] <;> (intros; contradiction)
  | .ite _ _ _, _, _, _, _, _, _, _, _ => pt_none fun _ => by rw [evT] <;> (intros; contradiction)
  | .tup _, _, _, _, _, _, _, _, _ => pt_none fun _ => by rw [evT] <;> (intros; contradiction)
  | .ix _ _, _, _, _, _, _, _, _, _ => pt_none fun _ => by rw [evT] <;> (intros; contradiction)
  | .slc _ _ _, _, _, _, _, _, _, _, _ => pt_none fun _ => by rw [evT] <;> (intros; contradiction)
  | .rev _, _, _, _, _, _, _, _, _ => pt_none fun _ => by rw [evT] <;> (intros; contradiction)
  | .max2 _ _, _, _, _, _, _, _, _, _ => pt_none fun _ => by rw [evT] <;> (intros; contradiction)
  | .min2 _ _, _, _, _, _, _, _, _, _ => pt_none fun _ => by rw [evT] <;> (intros; contradiction)
  | .fr _, _, _, _, _, _, _, _, _ => pt_none fun _ => by rw [evT] <;> (intros; contradiction)
  | .dic0, _, _, _, _, _, _, _, _ => pt_none fun _ => by rw [evT] <;> (intros; contradiction)
  | .callT f g, X, k, Wx, e, am, tk, h, pr => by
    unfold okE at h
    split at h
    · simp only [Bool.and_eq_true, decide_eq_true_eq] at h
      obtain ⟨⟨⟨⟨h1, h2⟩, h3⟩, h4⟩, h5⟩ := h
      obtain ⟨g', dvs, dfl, fr, ld, mn, rn, hd, pe⟩ := call_readT am tk h1 h2 h3 h4 (okF_shape _ _ h5).st (sF g _ am tk h5 pr.2) pr.1
      refine ⟨PT.to (pt_of pe fun _ => rfl) fun σ H Q ⟨G, st, r, hw⟩ => ⟨G, st, r, ?_⟩, fun z => by cases z⟩
      rw [evT] at hw
      cases eo : evF g st with
      | none => rw [eo] at hw; exact hw.elim
      | some o =>
        rw [eo] at hw
        obtain ⟨res, s1⟩ := o
        match res with
        | .error x => exact hw
        | .ok es =>
          intro G1 H1 p1 r1 v hv
          cases el : lentD f es s1 with
          | none =>
            change Wp _ _ _ (bnd (lentD f es s1) _) G H σ st _ at hw
            rw [el] at hw
            exact hw.elim
          | some o2 =>
            change Wp _ _ _ (bnd (lentD f es s1) _) G H σ st _ at hw
            refine lent_leaf fr ld mn rn hd p1 r1 hv ⟨_, el⟩ (fun x cls dx G' H' e2 p' r' ee => ?_) fun d u G' H' e2 p' r' ru => ?_
            · rw [e2] at hw
              exact hw cls dx G' H' p' r' ee
            · rw [e2] at hw
              change Wp _ _ _ (match truD d with | some k => ok k s1 | none => none) G H σ st _ at hw
              split at hw
              · rename_i q e3
                exact ⟨q, truB r' ru e3, hw G' H' p' r'⟩
              · exact hw.elim
    · cases h
  | .popI _ _, _, _, _, _, _, _, _, _ => pt_none fun _ => by rw [evT] <;> (intros; contradiction)
theorem sF : ∀ (i : FE) {X : Cx} {k : Nat} {Wx : WX} (e : Expr), Amb X k → Takes X Wx → okF X.N k i X.env.scope e = true → prF (askX X) i → PE X e (tWf X.K X.mg Wx (evF i))
  | .disp es, X, k, Wx, e, am, tk, h, pr => by
    unfold okF at h
    split at h
    · refine PE.to (pe_lst (sL es _ am tk h pr)) fun σ H Q ⟨G, st, r, hw⟩ => ?_
      rw [evF] at hw
      refine ⟨G, st, r, hw.bnd.imp fun ws s1 G1 H1 _ p1 r1 h1 vs hv => ?_⟩
      split at h1
      · rename_i ds s2 e1
        split at h1
        · rename_i hl
          obtain ⟨G2, p2, r2, rv⟩ := frzs_ok r1 hv e1
          refine ⟨by rw [rv.length]; exact small_line hl, fun p hp => ?_⟩
          obtain ⟨ra, rb, rc⟩ := newL_of (p1.trans p2) r2 hp rv
          exact h1 _ _ (p2.trans rb) ra _ rc
        · exact h1.elim
      · exact h1.elim
    · cases h
  | .comp t it c el, X, k, Wx, e, am, tk, h, pr => by
    unfold okF at h
    split at h
    · rename_i elt tg iter ifs a scope pos
      simp only [Bool.and_eq_true, decide_eq_true_eq] at h
      obtain ⟨⟨⟨⟨⟨h1, h2⟩, h3⟩, h4⟩, h5⟩, h6⟩ := h
      subst h1
      refine comp_ok am (sI it tg iter am tk h4 pr.1) (blkOk_by h2) own_slots (fun s H C cl fp => pg_ok am.calm am.nd (fun x hx => blk_tg x hx) h3) (fun s H C cl fp => ?_) (fun s H C cl fp => ?_) (noSet (okI_set it _ _ h4) _)
      · have h6' : okO X.N k c (relS scope X.env.scope) ifs.head? = true ∧ ifs.length ≤ 1 := by
          split at h6
          · exact ⟨h6, by decide⟩
          · exact ⟨h6, Nat.le_refl _⟩
          · cases h6
        have base := sC c (X := X.blk s H scope (compEnvC scope cl C X.env) fp) ifs.head? (amb_blk am s H scope _ fp) h6'.1 pr.2.1
        match ifs, h6' with
        | [], _ => exact base
        | [x], _ => exact base
        | _ :: _ :: _, ⟨_, z⟩ => exact absurd z (by simp)
      · exact sE el (X := X.blk s H scope (compEnvC scope cl C X.env) fp) elt (amb_blk am s H scope _ fp) takes0 h5 pr.2.2
    · cases h
  | .listOf a, X, k, Wx, e, am, tk, h, pr => by
    unfold okF at h
    split at h
    · simp only [Bool.and_eq_true, decide_eq_true_eq] at h
      obtain ⟨⟨h1, h2⟩, h3⟩ := h
      subst h1
      have hs := (okE_shape _ _ h3).st
      refine PE.to (pe_callTy call_list_of (gl_of h2) (am.blt _ (blt_in (by decide))) (by decide +kernel) (pa_cons (sE a _ am tk h3 pr) pa_nil (star_cons hs [] _)) (by decide) (by decide) (star_cons hs [] _) rfl) fun σ H Q ⟨G, st, r, hw⟩ => ?_
      rw [evF] at hw
      refine ⟨G, st, r, hw.bnd.imp fun x s1 G1 H1 _ p1 r1 h1 v hv => ?_⟩
      split at h1
      · rename_i ds e1
        obtain ⟨b, xs, rfl, s1, rr⟩ := (rd_ok r1 hv e1).lst r1.sub
        refine ⟨b, xs, rfl, .inl s1, fun p hp => ?_⟩
        obtain ⟨ra, rb, rc⟩ := newL_of p1 r1 hp rr
        exact h1 _ _ rb ra _ rc
      · rename_i ds e1
        obtain ⟨b, xs, rfl, s1, rr⟩ := (rd_ok r1 hv e1).tup r1.sub
        refine ⟨b, xs, rfl, .inr s1, fun p hp => ?_⟩
        obtain ⟨ra, rb, rc⟩ := newL_of p1 r1 hp rr
        exact h1 _ _ rb ra _ rc
      · exact h1.elim
    · cases h
  | .cat i f, X, k, Wx, e, am, tk, h, pr => by
    unfold okF at h
    split at h
    · simp only [Bool.and_eq_true, decide_eq_true_eq] at h
      obtain ⟨⟨⟨h1, h2⟩, h3⟩, h4⟩ := h
      obtain ⟨d1, d2⟩ := dbg_of h3
      refine PE.to (pe_op op_cat (pe_var h1 (vis_of h2) d1 d2) (sF f _ am tk h4 pr)) fun σ H Q ⟨G, st, r, hw⟩ => ?_
      rw [evF] at hw
      split at hw
      · rename_i m es0 e0
        obtain ⟨b, ys, b1, _, b3, _⟩ := r.own i m es0 e0
        refine ⟨_, b1, G, st, r, hw.bnd.imp fun ds s1 G1 H1 _ p1 r1 h1 v hv => ?_⟩
        split at h1
        · rename_i m' es e1
          split at h1
          · rename_i hl
            obtain ⟨b', zs, c1, c2, c3, c4⟩ := r1.own i m' es e1
            rw [b1] at c1
            cases c1
            obtain ⟨a, xs, rfl, q1, q2, q3, q4, q5⟩ := hv
            refine ⟨b, a, zs, xs, rfl, rfl, c3, q3, by rw [c4.length, q4.length]; exact small_line hl, fun p hp => ?_⟩
            obtain ⟨ra, rb, rc⟩ := newL_of p1 r1 hp (c4.append q4)
            exact h1 _ _ rb ra _ rc
          · exact h1.elim
        · exact h1.elim
      · exact hw.elim
    · cases h
  | .callF f es, X, k, Wx, e, am, tk, h, pr => by
    unfold okF at h
    split at h
    · simp only [Bool.and_eq_true, decide_eq_true_eq] at h
      obtain ⟨⟨⟨⟨⟨h1, h2⟩, h3⟩, h4⟩, hpl⟩, h5⟩ := h
      obtain ⟨g, dvs, dfl, fr, ld, mn, rn, hd, pe⟩ := call_read am tk h1 h2 h3 h4 (okL_star es _ hpl h5) (sL es _ am tk h5 pr.2) pr.1
      refine PE.to pe fun σ H Q ⟨G, st, r, hw⟩ => ?_
      rw [evF] at hw
      refine ⟨G, st, r, hw.bnd.imp fun ws s1 G1 H1 _ p1 r1 h1 vs hv => ?_⟩
      split at h1
      · rename_i efr
        refine call_leaf fr ld mn rn hd r1 hv h1 fun d s2 v G' H' p' r' ret ow h2 => ?_
        rw [efr] at ret
        obtain ⟨a, xs, es, rfl, rfl, q1, q2, q3, q4⟩ := ret
        exact h2.ok r' _ ⟨a, xs, rfl, Classical.byContradiction fun z => p1.nv a z q1, q2, q3, q4, ow a q1⟩
      · exact h1.elim
    · cases h
  | .plus a b, X, k, Wx, e, am, tk, h, pr => by
    unfold okF at h
    split at h
    · simp only [Bool.and_eq_true] at h
      obtain ⟨⟨h1, h2⟩, h3⟩ := h
      cases (of_decide_eq_true (show decide _ = true from h1))
      refine PE.to (pe_op op_catL (sE a _ am tk h2 pr.1) (sE b _ am tk h3 pr.2)) fun σ H Q ⟨G, st, r, hw⟩ => ?_
      rw [evF] at hw
      refine ⟨G, st, r, hw.bnd.imp fun x s1 G1 H1 _ p1 r1 h1 v hv => ⟨G1, s1, r1, h1.bnd.imp fun y s2 G2 H2 _ p2 r2 h2 u hu => ?_⟩⟩
      split at h2
      · rename_i xs ys e1 e2
        split at h2
        · rename_i hl
          obtain ⟨c, vs, rfl, sq1, rr1⟩ := (rd_ok r2 (hv.mono p2.gr) e1).lst r2.sub
          obtain ⟨d, ws, rfl, sq2, rr2⟩ := (rd_ok r2 hu e2).lst r2.sub
          refine ⟨c, d, vs, ws, rfl, rfl, sq1, sq2, by rw [rr1.length, rr2.length]; exact small_line hl, fun p hp => ?_⟩
          obtain ⟨ra, rb, rc⟩ := newL_of (p1.trans p2) r2 hp (rr1.append rr2)
          exact h2 _ _ rb ra _ rc
        · exact h2.elim
      · exact h2.elim
    · cases h
  | .sortF a, X, k, Wx, e, am, tk, h, pr => by
    unfold okF at h
    split at h
    · simp only [Bool.and_eq_true, decide_eq_true_eq] at h
      obtain ⟨⟨h1, h2⟩, h3⟩ := h
      subst h1
      have hs := (okE_shape _ _ h3).st
      refine PE.to (pe_callB SR.cr_sortF (gl_of h2) (am.blt _ (blt_in (by decide))) (by decide +kernel) (pa_cons (sE a _ am tk h3 pr) pa_nil (star_cons hs [] _)) (by decide) (by decide) (star_cons hs [] _) rfl) fun σ H Q ⟨G, st, r, hw⟩ => ?_
      rw [evF] at hw
      refine ⟨G, st, r, hw.bnd.imp fun x s1 G1 H1 _ p1 r1 h1 v hv => ?_⟩
      split at h1
      · rename_i ds e1
        split at h1
        · rename_i ks e2
          split at h1
          · rename_i hn
            obtain ⟨b, xs, rfl, sq, rr⟩ := (rd_ok r1 hv e1).lst r1.sub
            obtain ⟨k1, k2⟩ := firsts_rps r1.sub rr e2
            refine ⟨b, xs, ks, rfl, sq, k1, of_decide_eq_true hn, k2, fun p hp => ?_⟩
            obtain ⟨ra, rb, rc⟩ := newL_of p1 r1 hp (sort_rps (ks := ks) rr)
            exact h1 _ _ rb ra _ rc
          · exact h1.elim
        · exact h1.elim
      · exact h1.elim
    · cases h
  | .sortK f a, X, k, Wx, e, am, tk, h, pr => by
    unfold okF at h
    split at h
    · rename_i x px y kw z pz kpos pos
      simp only [Bool.and_eq_true, decide_eq_true_eq] at h
      obtain ⟨⟨⟨⟨⟨⟨⟨h1, h2⟩, h3⟩, h4⟩, h5⟩, h6⟩, h7⟩, h8⟩ := h
      subst h1 h3 h4
      have hs := (okE_shape _ _ h8).st
      obtain ⟨g, fa, fd, ps, ds, dvs, dfl, e1, e2, FG, bi, vd, rd', er, el, ef, em⟩ := pr.1.ex
      refine PE.to (pe_callBK (ks := [Str.ofString "key"]) (cr_sortK FG (am.room.mono h7) am.gd bi vd) (gl_of h2) (am.blt _ (blt_in (by decide))) (by decide +kernel) (pa_cons (sE a _ am tk h8 pr.2) pa_nil (star_cons hs [] _)) (pk_cons (pe_glob (gl_of h5) e1 (show RelV (.ref fa) (.ref fa) from rfl) (dbg_of h6).1) pk_nil) (by decide) (by decide) (by rw [star_cons hs]; rfl)
        (by rw [star_cons hs]; rfl)) fun σ H Q ⟨G, st, r, hw⟩ => ?_
      rw [evF] at hw
      refine ⟨G, st, r, hw.bnd.imp fun x s1 G1 H1 _ p1 r1 h1 v hv => ?_⟩
      split at h1
      · rename_i dd s2 e3
        split at h1
        · rename_i c
          obtain ⟨c1, c2, c3, c4⟩ := c
          split at h1
          · rename_i ks e4
            obtain ⟨G2, p2, r2, hx⟩ := frz_ok r1 hv e3
            cases hx with
            | lst sq rr =>
              rename_i b xs
              obtain ⟨k1, k2⟩ := keys_rps rr e4
              refine ⟨b, xs, ks, fun i H' => ∃ G', Rl X.K G' H' σ s2 ∧ Stp G2 H1 σ s2 G' H' σ s2, rfl, rfl, r2.sub.sqL sq, k1, ⟨G2, r2, .refl⟩, fun i x kk H' a1 a2 ⟨G', r', p'⟩ => ?_, fun H' p ⟨G', r', p'⟩ hp => ?_⟩
              · obtain ⟨d, bk, rx, run⟩ := k2 i x kk a1 a2
                have hc : callD f [.v d] s2 = some (.ok (.int kk), s2) := by
                  unfold callD
                  rw [c1]
                  show (if [d].length = f.many then _ else _) = _
                  rw [if_pos (by rw [c3]; rfl), run]
                refine call_sp (f := f) (g := g) rd' er el em r' (ws := [.v d]) (vs := [x]) ⟨rx.mono p'.gr, trivial⟩ (fun _ _ _ _ => True) (fun z s3 cls dx G3 H3 e _ _ _ => by rw [hc] at e; cases e) ⟨_, hc⟩ fun d' s3 v' G3 H3 e pp rr' ret _ => ?_
                rw [hc] at e
                cases e
                rw [← ef, c2] at ret
                cases (show Rp X.K G3 v' (.int kk) from ret)
                exact ⟨rfl, G3, rr', p'.trans pp⟩
              · obtain ⟨ra, rb, rc⟩ := newL_of ((p1.trans p2).trans p') r' hp (sort_rps (ks := ks) (rr.mono p'.gr))
                exact h1 _ _ ((p2.trans p').trans rb) ra _ rc
          · exact h1.elim
        · exact h1.elim
      · exact h1.elim
    · cases h
theorem sI : ∀ (i : IT) {X : Cx} {k : Nat} {Wx : WX} (tg e : Expr), Amb X k → Takes X Wx → okI X.N k i X.env.scope tg e = true → prI (askX X) i → PI X tg e (tWi X.K X.mg Wx (evI i))
  | .rng1 a, X, k, Wx, tg, e, am, tk, h, pr => by
    unfold okI at h
    split at h
    · simp only [Bool.and_eq_true, decide_eq_true_eq] at h
      obtain ⟨⟨h1, h2⟩, h3⟩ := h
      subst h1
      have hs := (okE_shape _ _ h3).st
      refine PI.to (pi_range1 (gl_of h2) (am.blt _ (blt_in (by decide))) (pa_cons (sE a _ am tk h3 pr) pa_nil (star_cons hs [] _)) (star_cons hs [] _)) fun σ H Q ⟨G, st, r, hw⟩ => ?_
      rw [evI] at hw
      refine ⟨G, st, r, hw.bnd.imp fun x s1 G1 H1 _ p1 r1 h1 v hv => ?_⟩
      split at h1
      · rename_i j
        split at h1
        · rename_i c
          exact ⟨_, by rw [hv.toI], by omega, by omega, h1.ok r1 _ (yld_rng 0 _)⟩
        · exact h1.elim
      · exact h1.elim
    · cases h
  | .rng2 a b, X, k, Wx, tg, e, am, tk, h, pr => by
    unfold okI at h
    split at h
    · simp only [Bool.and_eq_true, decide_eq_true_eq] at h
      obtain ⟨⟨⟨h1, h2⟩, h3⟩, h4⟩ := h
      subst h1
      have hs := (okE_shape _ _ h3).st
      have hs2 := (okE_shape _ _ h4).st
      refine PI.to (pi_range2 (gl_of h2) (am.blt _ (blt_in (by decide))) (pa_cons (sE a _ am tk h3 pr.1) (pa_cons (sE b _ am tk h4 pr.2) pa_nil (star_cons hs2 [] _)) (star_cons hs _ _)) (by rw [star_cons hs, star_cons hs2]; rfl) (star_cons hs2 [] _)) fun σ H Q ⟨G, st, r, hw⟩ => ?_
      rw [evI] at hw
      refine ⟨G, st, r, hw.bnd.imp fun x s1 G1 H1 _ p1 r1 h1 v hv => ⟨G1, s1, r1, h1.bnd.imp fun y s2 G2 H2 _ p2 r2 h2 u hu => ?_⟩⟩
      split at h2
      · rename_i i j
        split at h2
        · rename_i c
          exact ⟨_, _, by rw [hv.toI, hu.toI], ⟨by omega, by omega, by omega, by omega⟩, h2.ok r2 _ (yld_rng _ _)⟩
        · exact h2.elim
      · exact h2.elim
    · cases h
  | .seqT a, X, k, Wx, tg, e, am, tk, h, pr => by
    unfold okI at h
    refine PI.to (pi_tup (sE a _ am tk h pr)) fun σ H Q ⟨G, st, r, hw⟩ => ?_
    rw [evI] at hw
    refine ⟨G, st, r, hw.bnd.imp fun x s1 G1 H1 _ p1 r1 h1 v hv => ?_⟩
    split at h1
    · have hv : Rp X.K G1 v _ := hv
      cases hv with
      | tup s rr => exact ⟨_, rfl, ⟨_, r1.sub.sqT s⟩, h1.ok r1 _ (yld_tup s rr)⟩
    · exact h1.elim
  | .seqL a, X, k, Wx, tg, e, am, tk, h, pr => by
    unfold okI at h
    refine PI.to (pi_list (sE a _ am tk h pr)) fun σ H Q ⟨G, st, r, hw⟩ => ?_
    rw [evI] at hw
    refine ⟨G, st, r, hw.bnd.imp fun x s1 G1 H1 _ p1 r1 h1 v hv => ?_⟩
    split at h1
    · rename_i l s2 e1
      obtain ⟨G2, p2, r2, hx⟩ := frz_ok r1 hv e1
      cases hx with
      | lst s rr => exact ⟨_, rfl, ⟨_, r2.sub.sqL s⟩, h1 _ _ p2 r2 _ (yld_list s rr)⟩
    · exact h1.elim
  | .zipT a b, X, k, Wx, tg, e, am, tk, h, pr => by
    unfold okI at h
    rw [Bool.and_eq_true] at h
    obtain ⟨ht, h⟩ := h
    split at h
    · simp only [Bool.and_eq_true, decide_eq_true_eq] at h
      obtain ⟨⟨⟨h1, h2⟩, h3⟩, h4⟩ := h
      subst h1
      have hs := (okE_shape _ _ h3).st
      have hs2 := (okE_shape _ _ h4).st
      cases tg <;> first
        | (cases ht; done)
        | skip
      refine PI.to (pi_zipA (gl_of h2) (am.blt _ (blt_in (by decide))) (pa_cons (sE a _ am tk h3 pr.1) (pa_cons (sE b _ am tk h4 pr.2) pa_nil (star_cons hs2 [] _)) (star_cons hs _ _)) (star_cons hs _ _) (star_plain _ _ _ (by rw [List.all_cons, hs2]; rfl))) fun σ H Q ⟨G, st, r, hw⟩ => ?_
      rw [evI] at hw
      refine ⟨G, st, r, hw.bnd.imp fun x s1 G1 H1 _ p1 r1 h1 v hv => ⟨G1, s1, r1, h1.bnd.imp fun y s2 G2 H2 _ p2 r2 h2 u hu => ?_⟩⟩
      split at h2
      · split at h2
        · rename_i c
          have hv : Rp X.K G2 v _ := hv.mono p2.gr
          have hu : Rp X.K G2 u _ := hu
          cases hv with
          | tup s rr => cases hu with
            | tup s' rr' => exact ⟨_, _, _, _, rfl, .inr ⟨r2.sub.sqT s, r2.sub.sqT s', h2.ok r2 _ (yld_zipT s s' rr rr' c)⟩⟩
        · exact h2.elim
      · exact h2.elim
    · cases h
  | .zipL a b, X, k, Wx, tg, e, am, tk, h, pr => by
    unfold okI at h
    rw [Bool.and_eq_true] at h
    obtain ⟨ht, h⟩ := h
    split at h
    · simp only [Bool.and_eq_true, decide_eq_true_eq] at h
      obtain ⟨⟨⟨h1, h2⟩, h3⟩, h4⟩ := h
      subst h1
      have hs := (okE_shape _ _ h3).st
      have hs2 := (okE_shape _ _ h4).st
      cases tg <;> first
        | (cases ht; done)
        | skip
      refine PI.to (pi_zipA (gl_of h2) (am.blt _ (blt_in (by decide))) (pa_cons (sE a _ am tk h3 pr.1) (pa_cons (sE b _ am tk h4 pr.2) pa_nil (star_cons hs2 [] _)) (star_cons hs _ _)) (star_cons hs _ _) (star_plain _ _ _ (by rw [List.all_cons, hs2]; rfl))) fun σ H Q ⟨G, st, r, hw⟩ => ?_
      rw [evI] at hw
      refine ⟨G, st, r, hw.bnd.imp fun x s1 G1 H1 _ p1 r1 h1 v hv => ⟨G1, s1, r1, h1.bnd.imp fun y s2 G2 H2 _ p2 r2 h2 u hu => ?_⟩⟩
      split at h2
      · rename_i l m s3 e1
        split at h2
        · rename_i c
          obtain ⟨G3, p3, r3, rr⟩ := frzs_ok (ws := [x, y]) (vs := [v, u]) r2 ⟨hv.mono p2.gr, hu, trivial⟩ e1
          cases rr with
          | cons ra rr => cases rr with
            | cons rb rr => cases ra with
              | lst s ra => cases rb with
                | lst s' rb => exact ⟨_, _, _, _, rfl, .inl ⟨r3.sub.sqL s, r3.sub.sqL s', h2 _ _ p3 r3 _ (yld_zipL s s' ra rb c)⟩⟩
        · exact h2.elim
      · exact h2.elim
    · cases h
  | .enmL a, X, k, Wx, tg, e, am, tk, h, pr => by
    unfold okI at h
    rw [Bool.and_eq_true] at h
    obtain ⟨ht, h⟩ := h
    split at h
    · simp only [Bool.and_eq_true, decide_eq_true_eq] at h
      obtain ⟨⟨h1, h2⟩, h3⟩ := h
      subst h1
      have hs := (okE_shape _ _ h3).st
      cases tg <;> first
        | (cases ht; done)
        | skip
      refine PI.to (pi_enum (gl_of h2) (am.blt _ (blt_in (by decide))) (pa_cons (sE a _ am tk h3 pr) pa_nil (star_cons hs [] _)) (star_cons hs [] _)) fun σ H Q ⟨G, st, r, hw⟩ => ?_
      rw [evI] at hw
      refine ⟨G, st, r, hw.bnd.imp fun x s1 G1 H1 _ p1 r1 h1 v hv => ?_⟩
      split at h1
      · rename_i l s2 e1
        obtain ⟨G2, p2, r2, hx⟩ := frz_ok r1 hv e1
        cases hx with
        | lst s rr => exact ⟨_, _, rfl, r2.sub.sqL s, h1 _ _ p2 r2 _ (yld_enmL s rr)⟩
      · exact h1.elim
    · cases h
  | .enmT a, X, k, Wx, tg, e, am, tk, h, pr => by
    unfold okI at h
    rw [Bool.and_eq_true] at h
    obtain ⟨ht, h⟩ := h
    split at h
    · simp only [Bool.and_eq_true, decide_eq_true_eq] at h
      obtain ⟨⟨h1, h2⟩, h3⟩ := h
      subst h1
      have hs := (okE_shape _ _ h3).st
      cases tg <;> first
        | (cases ht; done)
        | skip
      refine PI.to (SR.pi_enumT (gl_of h2) (am.blt _ (blt_in (by decide))) (pa_cons (sE a _ am tk h3 pr) pa_nil (star_cons hs [] _)) (star_cons hs [] _)) fun σ H Q ⟨G, st, r, hw⟩ => ?_
      rw [evI] at hw
      refine ⟨G, st, r, hw.bnd.imp fun x s1 G1 H1 _ p1 r1 h1 v hv => ?_⟩
      split at h1
      · have hv : Rp X.K G1 v _ := hv
        cases hv with
        | tup s rr => exact ⟨_, _, rfl, r1.sub.sqT s, h1.ok r1 _ (yld_enmT s rr)⟩
      · exact h1.elim
    · cases h
  | .seqA a, X, k, Wx, tg, e, am, tk, h, pr => by
    unfold okI at h
    refine PI.to (SR.pi_seqA (sE a _ am tk h pr)) fun σ H Q ⟨G, st, r, hw⟩ => ?_
    rw [evI] at hw
    refine ⟨G, st, r, hw.bnd.imp fun x s1 G1 H1 _ p1 r1 h1 v hv => ?_⟩
    split at h1
    · rename_i l s2 e1
      obtain ⟨G2, p2, r2, hx⟩ := frz_ok r1 hv e1
      cases hx with
      | lst s rr => exact ⟨_, rfl, .inl ⟨⟨_, r2.sub.sqL s⟩, h1 _ _ p2 r2 _ (yld_list s rr)⟩⟩
    · rename_i l s2 e1
      obtain ⟨G2, p2, r2, hx⟩ := frz_ok r1 hv e1
      cases hx with
      | tup s rr => exact ⟨_, rfl, .inr ⟨⟨_, r2.sub.sqT s⟩, h1 _ _ p2 r2 _ (yld_tup s rr)⟩⟩
    · exact h1.elim
  | .enmA a, X, k, Wx, tg, e, am, tk, h, pr => by
    unfold okI at h
    rw [Bool.and_eq_true] at h
    obtain ⟨ht, h⟩ := h
    split at h
    · simp only [Bool.and_eq_true, decide_eq_true_eq] at h
      obtain ⟨⟨h1, h2⟩, h3⟩ := h
      subst h1
      have hs := (okE_shape _ _ h3).st
      cases tg <;> first
        | (cases ht; done)
        | skip
      refine PI.to (SR.pi_enumA (gl_of h2) (am.blt _ (blt_in (by decide))) (pa_cons (sE a _ am tk h3 pr) pa_nil (star_cons hs [] _)) (star_cons hs [] _)) fun σ H Q ⟨G, st, r, hw⟩ => ?_
      rw [evI] at hw
      refine ⟨G, st, r, hw.bnd.imp fun x s1 G1 H1 _ p1 r1 h1 v hv => ?_⟩
      split at h1
      · rename_i l s2 e1
        obtain ⟨G2, p2, r2, hx⟩ := frz_ok r1 hv e1
        cases hx with
        | lst s rr => exact ⟨_, _, rfl, .inl ⟨r2.sub.sqL s, h1 _ _ p2 r2 _ (yld_enmL s rr)⟩⟩
      · rename_i l s2 e1
        obtain ⟨G2, p2, r2, hx⟩ := frz_ok r1 hv e1
        cases hx with
        | tup s rr => exact ⟨_, _, rfl, .inr ⟨r2.sub.sqT s, h1 _ _ p2 r2 _ (yld_enmT s rr)⟩⟩
      · exact h1.elim
    · cases h
  | .zipA a b, X, k, Wx, tg, e, am, tk, h, pr => by
    unfold okI at h
    rw [Bool.and_eq_true] at h
    obtain ⟨ht, h⟩ := h
    split at h
    · simp only [Bool.and_eq_true, decide_eq_true_eq] at h
      obtain ⟨⟨⟨h1, h2⟩, h3⟩, h4⟩ := h
      subst h1
      have hs := (okE_shape _ _ h3).st
      have hs2 := (okE_shape _ _ h4).st
      cases tg <;> first
        | (cases ht; done)
        | skip
      refine PI.to (SR.pi_zipX (gl_of h2) (am.blt _ (blt_in (by decide))) (pa_cons (sE a _ am tk h3 pr.1) (pa_cons (sE b _ am tk h4 pr.2) pa_nil (star_cons hs2 [] _)) (star_cons hs _ _)) (star_cons hs _ _) (star_plain _ _ _ (by rw [List.all_cons, hs2]; rfl))) fun σ H Q ⟨G, st, r, hw⟩ => ?_
      rw [evI] at hw
      refine ⟨G, st, r, hw.bnd.imp fun x s1 G1 H1 _ p1 r1 h1 v hv => ⟨G1, s1, r1, h1.bnd.imp fun y s2 G2 H2 _ p2 r2 h2 u hu => ?_⟩⟩
      split at h2
      · rename_i d e s3 e1
        split at h2
        · rename_i l m e2 e3
          obtain ⟨G3, p3, r3, rr⟩ := frzs_ok (ws := [x, y]) (vs := [v, u]) r2 ⟨hv.mono p2.gr, hu, trivial⟩ e1
          cases rr with
          | cons ra rr => cases rr with
            | cons rb rr =>
              obtain ⟨a1, k1, xs, rfl, q1, t1⟩ := rp_sqB ra e2
              obtain ⟨a2, k2, ys, rfl, q2, t2⟩ := rp_sqB rb e3
              exact ⟨a1, a2, k1, k2, xs, ys, rfl, Sub.sqB r3.sub q1, Sub.sqB r3.sub q2, h2 _ _ p3 r3 _ (yld_zipA q1 q2 t1 t2)⟩
        · exact h2.elim
      · exact h2.elim
    · cases h
theorem sL : ∀ (i : EL) {X : Cx} {k : Nat} {Wx : WX} (es : List Expr), Amb X k → Takes X Wx → okL X.N k i X.env.scope es = true → prL (askX X) i → PA X es (tWs X.K X.mg Wx (evL i))
  | .nil, X, k, Wx, es, am, tk, h, pr => by
    unfold okL at h
    split at h
    · exact PA.to pa_nil fun σ H Q ⟨G, st, r, hw⟩ => hw.ok r [] trivial
    · cases h
  | .cons a rr, X, k, Wx, es, am, tk, h, pr => by
    unfold okL at h
    split at h
    · rw [Bool.and_eq_true] at h
      refine PA.to (pa_cons (sE a _ am tk h.1 pr.1) (sL rr _ am tk h.2 pr.2) (star_cons (okE_shape _ _ h.1).st _ _)) fun σ H Q ⟨G, st, r, hw⟩ => ?_
      rw [evL] at hw
      exact ⟨G, st, r, hw.bnd.imp fun x s1 G1 H1 _ p1 r1 h1 v hv => ⟨G1, s1, r1, h1.bnd.imp fun xs s2 G2 H2 _ p2 r2 h2 vs hvs => h2.ok r2 (v :: vs) ⟨hv.mono p2.gr, hvs⟩⟩⟩
    · cases h
  | .star a rr, X, k, Wx, es, am, tk, h, pr => by
    unfold okL at h
    split at h
    · rw [Bool.and_eq_true] at h
      refine PA.to (StX.pa_star (sE a _ am tk h.1 pr.1) (sL rr _ am tk h.2 pr.2)) fun σ H Q ⟨G, st, r, hw⟩ => ?_
      rw [evL] at hw
      refine ⟨G, st, r, hw.bnd.imp fun x s1 G1 H1 _ p1 r1 h1 v hv => ?_⟩
      split at h1
      · rename_i ds e1
        obtain ⟨b, xs, rfl, sq, rx⟩ := (rd_ok r1 hv e1).tup r1.sub
        exact ⟨b, xs, rfl, .inl sq, G1, s1, r1, h1.bnd.imp fun ys s2 G2 H2 _ p2 r2 h2 vs hvs => h2.ok r2 (xs ++ vs) ((vws_vals (rx.mono p2.gr)).app hvs)⟩
      · rename_i ds e1
        obtain ⟨b, xs, rfl, sq, rx⟩ := (rd_ok r1 hv e1).lst r1.sub
        exact ⟨b, xs, rfl, .inr sq, G1, s1, r1, h1.bnd.imp fun ys s2 G2 H2 _ p2 r2 h2 vs hvs => h2.ok r2 (xs ++ vs) ((vws_vals (rx.mono p2.gr)).app hvs)⟩
      · exact h1.elim
    · cases h
theorem sO : ∀ (i : EO) {X : Cx} {k : Nat} {Wx : WX} (x : Option Expr), Amb X k → Takes X Wx → okO X.N k i X.env.scope x = true → prO (askX X) i → PO X x (tWo X.K X.mg Wx (evO i))
  | .no, X, k, Wx, x, am, tk, h, pr => by
    unfold okO at h
    split at h
    · exact PO.to po_none fun σ H Q ⟨G, st, r, hw⟩ => hw.ok r
    · cases h
  | .yes e, X, k, Wx, x, am, tk, h, pr => by
    unfold okO at h
    split at h
    · refine PO.to (po_some (sE e _ am tk h pr)) fun σ H Q ⟨G, st, r, hw⟩ => ?_
      rw [evO] at hw
      refine ⟨G, st, r, hw.bnd.imp fun x s1 G1 H1 _ p1 r1 h1 v hv => ?_⟩
      split at h1
      · exact ⟨_, hv.toI, h1.ok r1⟩
      · exact h1.elim
    · cases h
theorem sC : ∀ (i : EO) {X : Cx} {k : Nat} (x : Option Expr), Amb X k → okO X.N k i X.env.scope x = true → prO (askX X) i → PTs X x.toList (tIfs X.K X.mg i)
  | .no, X, k, x, am, h, pr => by
    unfold okO at h
    split at h
    · exact pts_nil
    · cases h
  | .yes e, X, k, x, am, h, pr => by
    unfold okO at h
    split at h
    · exact pts_one (sT e _ am takes0 h pr).1
    · cases h
end
end SG
/-! Sg12: what is stored; readings of statements. -/
namespace SG
open PySem L2 PyProof.Rows RZ

section
variable {K : PySem.W.Frag} {mg : Str → Option Value} {Wx : WX} {fr : Bool} {G H G' H' G0 H0 G1 H1 : Hp} {σ σ' σ0 σ1 : L2.St} {st st' st0 s1 : List S}
theorem NewL.step {v : V} {ds : List D} (x : NewL K G0 H0 G H σ st v ds) (p : Stp G H σ st G' H' σ' st') : NewL K G0 H0 G' H' σ' st' v ds := by
  obtain ⟨a, xs, e, h1, h2, h3, h4, h5⟩ := x
  have y := (show Aside G H σ st a (.lst xs) from ⟨h3, h2, h5⟩).step p
  exact ⟨a, xs, e, h1, y.g, y.h, h4.mono p.gr, y.n⟩
theorem NewL.base {v : V} {ds : List D} (x : NewL K G1 H1 G H σ st v ds) (hb : ∀ a, H1 a = none → H0 a = none) : NewL K G0 H0 G H σ st v ds := by
  obtain ⟨a, xs, e, h1, h2, h3, h4, h5⟩ := x
  exact ⟨a, xs, e, hb a h1, h2, h3, h4, h5⟩
theorem Stp.none (p : Stp G0 H0 σ0 st0 G H σ st) : ∀ a, H a = none → H0 a = none := fun a h => Classical.byContradiction fun z => p.nv a z h
/-- a value that is to be stored -/
def SNow (K : PySem.W.Frag) (G0 H0 G H : Hp) (σ : L2.St) (st : List S) (v : V) : S → Prop
  | .val d => Rp K G v d
  | .own false ds => NewL K G0 H0 G H σ st v ds
  | _ => False
theorem SNow.step {v : V} : ∀ {s : S}, SNow K G0 H0 G H σ st v s → Stp G H σ st G' H' σ' st' → SNow K G0 H0 G' H' σ' st' v s
  | .val _, x, p => Rp.mono p.gr x
  | .own false _, x, p => NewL.step (G0 := G0) x p
  | .own true _, x, _ => x.elim
  | .un, x, _ => x.elim
theorem SNow.set {v : V} {i : Nat} : ∀ {s : S}, SNow K G1 H1 G H σ st v s → Stp G0 H0 σ0 st0 G H σ st → Rl K G H σ st → (∀ a, H1 a = none → H0 a = none) → free st i = true →
    Rl K G H (σ.set i (some v)) (st.set i s) ∧ Stp G0 H0 σ0 st0 G H (σ.set i (some v)) (st.set i s)
  | .val _, x, p, r, _, hf => ⟨r.setV x, p.trans (Stp.setV hf)⟩
  | .own false _, x, p, r, hb, hf => by
    obtain ⟨a, xs, rfl, h1, h2, h3, h4, h5⟩ := x
    exact ⟨r.setO h2 h3 h4 h5, p.setO hf (hb a h1)⟩
  | .own true _, x, _, _, _, _ => x.elim
  | .un, x, _, _, _, _ => x.elim
/-- a second one behind the first -/
theorem SNow.keep {v u : V} {i : Nat} {s : S} (x : SNow K G0 H0 G H σ st v s) (hx : ∀ a xs, v = .ref a → H a = some (.lst xs) → ¬ Owned σ st a → (∃ ds, s = .own false ds) → H1 a ≠ Option.none) : ∀ {t : S}, SNow K G1 H1 G H σ st u t → SNow K G1 H1 G H (σ.set i (some v)) (st.set i s) u t
  | .val _, y => y
  | .own false _, y => by
    obtain ⟨a, xs, rfl, h1, h2, h3, h4, h5⟩ := y
    refine ⟨a, xs, rfl, h1, h2, h3, h4, fun ⟨j, m, es, e1, e2⟩ => ?_⟩
    rcases set_get e1 with ⟨rfl, hl, e⟩ | ⟨hj, e1⟩
    · subst e
      cases m with
      | true => exact x.elim
      | false =>
        obtain ⟨b, ys, rfl, k1, k2, k3, k4, k5⟩ := x
        rcases set_get e2 with ⟨_, _, e⟩ | ⟨hj, _⟩
        · cases e
          exact hx _ ys rfl k3 k5 ⟨_, rfl⟩ h1
        · exact hj rfl
    · rcases set_get e2 with ⟨z, _, _⟩ | ⟨_, e2⟩
      · exact hj z
      · exact h5 ⟨j, m, es, e1, e2⟩
  | .own true _, y => y.elim
  | .un, y => y.elim
def tX (K : PySem.W.Frag) (mg : Str → Option Value) (Wx : WX) (f : List S → R S) : TE := fun σ H Q =>
  ∃ G st, Rl K G H σ st ∧ Wp K mg Wx (f st) G H σ st fun s s1 G' H' => ∀ v, SNow K G H G' H' σ s1 v s → Q v H'
/-- what a def hands back -/
def RetV (K : PySem.W.Frag) (fr : Bool) (G0 H0 G H : Hp) (σ : L2.St) (st : List S) (v : V) (d : D) : Prop := match fr with
  | false => Rp K G v d
  | true => ∃ ds, d = .lst ds ∧ NewL K G0 H0 G H σ st v ds
theorem RetV.base {v : V} {d : D} (x : RetV K fr G1 H1 G H σ st v d) (hb : ∀ a, H1 a = Option.none → H0 a = Option.none) : RetV K fr G0 H0 G H σ st v d := by
  cases fr with
  | false => exact x
  | true =>
    obtain ⟨ds, e, n⟩ := x
    exact ⟨ds, e, n.base hb⟩
def WpS (K : PySem.W.Frag) (mg : Str → Option Value) (Wx : WX) (fr : Bool) (o : R Fl) (G H : Hp) (σ : L2.St) (st : List S) (en : Ends) : Prop := match o with
  | none => False
  | some (.error x, s1) => ∀ cls dx G' H' σ', Stp G H σ st G' H' σ' s1 → Rl K G' H' σ' s1 → ErrOk K mg G' H' cls dx x → Wx cls dx σ' H'
  | some (.ok f, s1) => ∀ G' H' σ', Stp G H σ st G' H' σ' s1 → Rl K G' H' σ' s1 → match f with
    | .nx => en.nx σ' H'
    | .bk => en.bk σ' H'
    | .ct => en.ct σ' H'
    | .rt d => ∀ v, RetV K fr G H G' H' σ' s1 v d → en.rt v H'
def tS (K : PySem.W.Frag) (mg : Str → Option Value) (Wx : WX) (fr : Bool) (f : List S → R Fl) : TS := fun en σ H => ∃ G st, Rl K G H σ st ∧ WpS K mg Wx fr (f st) G H σ st en
theorem WpS.at {α : Type} {o : R α} {f : α → List S → R Fl} {en : Ends} (h : WpS K mg Wx fr (SG.bnd o f) G H σ st en) (p : Stp G H σ st G1 H1 σ s1) : Wp K mg Wx o G1 H1 σ s1 fun a s2 _ _ => WpS K mg Wx fr (f a s2) G H σ st en := by
  match o, h with
  | some (.error x, s2), h => exact fun cls dx G' H' q => h cls dx G' H' σ (p.trans q)
  | some (.ok a, s2), h => exact fun _ _ _ _ => h
theorem WpS.opt {α : Type} {o : Option α} {s2 : List S} {f : α → List S → R Fl} {en : Ends} (h : WpS K mg Wx fr (SG.bnd (SG.opt o s2) f) G H σ st en) : ∃ a, o = some a ∧ WpS K mg Wx fr (f a s2) G H σ st en := by
  cases o with
  | none => exact h.elim
  | some a => exact ⟨a, rfl, h⟩
theorem WpS.shift {o : R Fl} {en : Ends} (h : WpS K mg Wx fr o G H σ st en) (p : Stp G H σ st G1 H1 σ1 s1) : WpS K mg Wx fr o G1 H1 σ1 s1 en := by
  match o, h with
  | some (.error x, s2), h => exact fun cls dx G' H' σ' q => h cls dx G' H' σ' (p.trans q)
  | some (.ok .nx, s2), h => exact fun G' H' σ' q => h G' H' σ' (p.trans q)
  | some (.ok .bk, s2), h => exact fun G' H' σ' q => h G' H' σ' (p.trans q)
  | some (.ok .ct, s2), h => exact fun G' H' σ' q => h G' H' σ' (p.trans q)
  | some (.ok (.rt d), s2), h => exact fun G' H' σ' q r v hv => h G' H' σ' (p.trans q) r v (hv.base p.none)
theorem set_ok {s2 s3 : List S} {i : Nat} {s : S} (h : setS s2 i s = some s3) : free s2 i = true ∧ s3 = s2.set i s := by
  unfold setS at h
  split at h
  · rename_i c
    cases h
    exact ⟨c, rfl⟩
  · cases h
/-- behind a turn of a loop -/
theorem turn_ok {o : R Fl} {kk : List S → R Fl} {en : Ends} (h : WpS K mg Wx fr (turnS o kk) G H σ st en) (p : Stp G H σ st G1 H1 σ1 s1) {N : L2.St → Hp → Prop}
    (hN : ∀ G5 H5 σ5 s5, Rl K G5 H5 σ5 s5 → Stp G1 H1 σ1 s1 G5 H5 σ5 s5 → WpS K mg Wx fr (kk s5) G H σ st en → N σ5 H5) : WpS K mg Wx fr o G1 H1 σ1 s1 { nx := N, rt := en.rt, bk := en.nx, ct := N } := by
  match o, h with
  | some (.error x, s2), h => exact fun cls dx G' H' σ' q => h cls dx G' H' σ' (p.trans q)
  | some (.ok .nx, s2), h => exact fun G' H' σ' q r => hN G' H' σ' s2 r q h
  | some (.ok .bk, s2), h => exact fun G' H' σ' q => h G' H' σ' (p.trans q)
  | some (.ok .ct, s2), h => exact fun G' H' σ' q r => hN G' H' σ' s2 r q h
  | some (.ok (.rt d), s2), h => exact fun G' H' σ' q r v hv => h G' H' σ' (p.trans q) r v (hv.base p.none)
theorem for_ok {t : Tg} {body : List S → R Fl} {f : List S → R (List D)} : ∀ en σ H, tS K mg Wx fr (fun st => bnd (f st) fun items s1 => if items.length ≤ 100000 then loopT t body items s1 else none) en σ H →
    tFor (tWi K mg Wx f) (gT K t) (tS K mg Wx fr body) en σ H := fun en σ H ⟨G, st, r, hw⟩ => by
  refine ⟨G, st, r, (hw.at .refl).imp fun items s1 G1 H1 _ p1 r1 h1 J y => ?_⟩
  split at h1
  · refine ⟨fun i m σ' H' => m = items.length - i ∧ i ≤ items.length ∧ ∃ G' st', Rl K G' H' σ' st' ∧ Stp G H σ st G' H' σ' st' ∧ Sub G1 G' ∧ WpS K mg Wx fr (loopT t body (items.drop i) st') G H σ st en,
      ⟨_, rfl, Nat.zero_le _, G1, s1, r1, p1, Sub.refl _, h1⟩, ?_⟩
    rintro i m σ' H' ⟨rfl, hi, G', st', r', p', sb, h'⟩
    by_cases hlt : i < items.length
    · obtain ⟨d, hd⟩ : ∃ d, items[i]? = some d := ⟨items[i], List.getElem?_eq_getElem hlt⟩
      have hdrop : items.drop i = d :: items.drop (i + 1) := by
        obtain ⟨h1, h2⟩ := List.getElem?_eq_some_iff.mp hd
        rw [List.drop_eq_getElem_cons h1, h2]
      rw [hdrop] at h'
      refine .inr ⟨y.go i d G' H' hd sb r'.sub, fun σ5 H5 => ∃ G5 s5, Rl K G5 H5 σ5 s5 ∧ Stp G H σ st G5 H5 σ5 s5 ∧ Sub G1 G5 ∧ WpS K mg Wx fr (loopT t body (items.drop (i + 1)) s5) G H σ st en,
        fun σ5 H5 z => ⟨items.length - (i + 1), by omega, rfl, hlt, z⟩, fun x H2 yy => ?_⟩
      obtain ⟨G2, p2, r2, hx⟩ : ∃ G2, Stp G' H' σ' st' G2 H2 σ' st' ∧ Rl K G2 H2 σ' st' ∧ Rp K G2 x d := by
        rcases y.yl i d G' H' x H2 hd sb r'.sub yy with ⟨e1, e2⟩ | ⟨q, o, e1, e2, e3, e4⟩
        · subst e1
          exact ⟨G', .refl, r', e2⟩
        · subst e2
          exact ⟨_, Stp.newF r' o e1, r'.newF o e1, e4⟩
      unfold loopT at h'
      split at h'
      · exact h'.elim
      · rename_i s2 hset
        refine tg_ok r2 hx hset fun σ2 _ p3 r3 => ?_
        have pp := p'.trans (p2.trans p3)
        exact ⟨G2, s2, r3, turn_ok h' pp fun G5 H5 σ5 s5 r5 p5 h5 => ⟨G5, s5, r5, pp.trans p5, (sb.trans (p2.trans p3).gr).trans p5.gr, h5⟩⟩
    · have hie : i = items.length := by omega
      subst hie
      rw [List.drop_length] at h'
      exact .inl ⟨y.st G' H' sb r'.sub, h' G' H' σ' p' r'⟩
  · exact h1.elim
theorem while_ok {c : List S → R Bool} {body : List S → R Fl} {m : List S → Nat} : ∀ en σ H, tS K mg Wx fr (fun st => whileT c body (m st) st) en σ H → tWhile (tWt K mg Wx c) (tS K mg Wx fr body) en σ H := fun en σ H ⟨G, st, r, hw⟩ => by
  refine ⟨fun n σ' H' => ∃ G' st', Rl K G' H' σ' st' ∧ Stp G H σ st G' H' σ' st' ∧ WpS K mg Wx fr (whileT c body n st') G H σ st en, ⟨m st, G, st, r, .refl, hw⟩, ?_⟩
  rintro n σ' H' ⟨G', st', r', p', h'⟩
  cases n with
  | zero => exact h'.elim
  | succ n =>
    unfold whileT at h'
    refine ⟨G', st', r', ?_⟩
    match e : c st', h' with
    | some (.error x, s1), h' => exact fun cls dx G5 H5 q => h' cls dx G5 H5 σ' (p'.trans q)
    | some (.ok false, s1), h' => exact fun G5 H5 q r5 => h' G5 H5 σ' (p'.trans q) r5
    | some (.ok true, s1), h' =>
      exact fun G5 H5 q r5 => ⟨fun σ6 H6 => ∃ G6 s6, Rl K G6 H6 σ6 s6 ∧ Stp G H σ st G6 H6 σ6 s6 ∧ WpS K mg Wx fr (whileT c body n s6) G H σ st en, fun σ6 H6 z => ⟨n, Nat.lt_succ_self _, z⟩,
        G5, s1, r5, turn_ok h' (p'.trans q) fun G6 H6 σ6 s6 r6 p6 h6 => ⟨G6, s6, r6, (p'.trans q).trans p6, h6⟩⟩
end
end SG
/-! Sg13: statements are sound. -/
namespace SG
open PySem L2 PyProof.Rows RZ

structure AmbS (X : Cx) (k : Nat) : Prop extends Amb X k where
  fn : ∀ x, X.fn x = true
  hp : PassesOwn (model X.prog X.w) X.A X.env X.xe
def noComp : Expr → Bool
  | .ListComp .. | .SetComp .. | .DictComp .. => false
  | _ => true
def isFC : EF → Bool
  | .f (.comp ..) => true
  | _ => false
def okX (N : List Str) (k : Nat) : EF → Scope → Expr → Bool
  | .e x => okE N k x
  | .f x => okF N k x
def prX (P : Ask) : EF → Prop
  | .e x => prE P x
  | .f x => prF P x
def locL (sc : Scope) (x : Str) : Bool := match sc.names.lookup x with
  | some .local => true
  | _ => false
def isFun (sc : Scope) : Bool := match sc.kind with
  | .function => true
  | _ => false
def parB (vs : List Expr) : Bool := !(vs.all (foldedForSure 8)) && !(vs.all (constantsAlone 8))
/-- names in a row, as a target -/
def okNs (N : List Str) (sc : Scope) : List Nat → List Expr → Bool
  | [], [] => true
  | i :: is, .Name x _ :: es => decide (N[i]? = some x) && locB sc x && okNs N sc is es
  | _, _ => false
def gNs : List Nat → TGs
  | [] => gNil
  | i :: is => gCons (gName i) (gNs is)
theorem pgs_ns {X : Cx} {scT : Scope} (nd : X.N.Nodup) (hf : ∀ x, locB scT x = true → Loc X.env.scope x ∧ (X.fn x = true ∨ X.env.scope.names.lookup x = some .local)) : ∀ (is : List Nat) (es : List Expr), okNs X.N scT is es = true →
    PGs X es (gNs is) ∧ (assignEach es X.env).length = is.length ∧ (assignEach es X.env).findIdx? (·.1) = none
  | [], [], _ => ⟨pgs_nil, rfl, rfl⟩
  | [], _ :: _, h => absurd (show false = true from h) Bool.false_ne_true
  | _ :: _, [], h => absurd (show false = true from h) Bool.false_ne_true
  | i :: is, e :: es, h => by
    cases e with
    | Name x px =>
      have h : (decide (X.N[i]? = some x) && locB scT x && okNs X.N scT is es) = true := h
      simp only [Bool.and_eq_true, decide_eq_true_eq] at h
      obtain ⟨⟨h1, h2⟩, h3⟩ := h
      obtain ⟨a, b⟩ := hf x h2
      obtain ⟨p, q, r⟩ := pgs_ns nd hf is es h3
      refine ⟨pgs_cons (pg_name nd h1 a b) p, congrArg Nat.succ q, ?_⟩
      show ((false, _) :: assignEach es X.env).findIdx? (·.1) = none
      rw [List.findIdx?_cons, r]
      rfl
    | _ => exact absurd (show false = true from h) Bool.false_ne_true
theorem ns_ok {K : PySem.W.Frag} {G H : Hp} {Q : L2.St → Hp → Prop} : ∀ {is : List Nat} {ds : List D} {xs : List V} {σ : L2.St} {st s2 : List S}, Rl K G H σ st → Rps K G xs ds → setNs st is ds = some s2 → (∀ σ', Stp G H σ st G H σ' s2 → Rl K G H σ' s2 → Q σ' H) → gNs is xs σ H Q
  | [], [], _, σ, st, s2, r, rx, h, q => by
    cases rx
    have h : some st = some s2 := h
    cases h
    exact ⟨rfl, q σ .refl r⟩
  | i :: is, d :: ds, _, σ, st, s2, r, rx, h, q => by
    cases rx with
    | cons a b =>
      unfold setNs at h
      split at h
      · rename_i c
        exact ⟨_, _, rfl, ns_ok (r.setV a) b h fun σ' p r' => q σ' ((Stp.setV c).trans p) r'⟩
      · cases h
  | [], _ :: _, _, _, _, _, _, _, h, _ => by cases h
  | _ :: _, [], _, _, _, _, _, _, h, _ => by cases h
theorem setNs_len : ∀ {is : List Nat} {ds : List D} {st s2 : List S}, setNs st is ds = some s2 → ds.length = is.length
  | [], [], _, _, _ => rfl
  | i :: is, d :: ds, st, s2, h => by
    unfold setNs at h
    split at h
    · exact congrArg Nat.succ (setNs_len h)
    · cases h
  | [], _ :: _, _, _, h => by cases h
  | _ :: _, [], _, _, h => by cases h
theorem sw_tup (v : Expr) (es : List Expr) (k : Nat) (p : Pos) (l : Nat) (env : Env) : swapsWith v (some (.Tuple es k p)) l env = pure false := by cases v <;> rfl
mutual
def okT (N : List Str) (k : Nat) (fr : Bool) : T → Scope → Stmt → Bool
  | .asg i x => fun sc s => match s with
    | .Assign [.Name y _] e _ => decide (N[i]? = some y) && locB sc y && okX N k x sc e && (noComp e || isFC x)
    | _ => false
  | .par2 i j a b => fun sc s => match s with
    | .Assign [.Tuple [.Name x px, .Name y py] _ _] (.Tuple [e, f] _ _) _ => decide (N[i]? = some x) && decide (N[j]? = some y) && decide (i ≠ j) && locL sc x && locL sc y && isFun sc && decide (x ≠ y) && (px.line == py.line) && parB [e, f] && okX N k a sc e && okX N k b sc f
    | _ => false
  | .par3 i j l a b c => fun sc s => match s with
    | .Assign [.Tuple [.Name x px, .Name y py, .Name z pz] _ _] (.Tuple [e, f, g] _ _) _ => decide (N[i]? = some x) && decide (N[j]? = some y) && decide (N[l]? = some z) && decide (i ≠ j) && decide (i ≠ l) && decide (j ≠ l) && locL sc x && locL sc y && locL sc z && isFun sc &&
        decide (x ≠ y) && decide (x ≠ z) && decide (y ≠ z) && (px.line == py.line) && (px.line == pz.line) && parB [e, f, g] && okX N k a sc e && okX N k b sc f && okX N k c sc g
    | _ => false
  | .unp t e => fun sc s => match s with
    | .Assign [tg] v _ => isTup tg && okTg N sc t tg && !isTup v && noComp v && okE N k e sc v
    | _ => false
  | .unpN _ is e => fun sc s => match s with
    | .Assign [.Tuple es _ _] v _ => okNs N sc is es && !isTup v && okE N k e sc v
    | _ => false
  | .setI i n e => fun sc s => match s with
    | .Assign [.Subscript (.Name x _) ix _] v _ => decide (N[i]? = some x) && visB sc x && dbg x && noComp v && okE N k n sc ix && okE N k e sc v
    | _ => false
  | .app i e => fun sc s => match s with
    | .Expr (.Call (.Attribute (.Name x _) at' apos) [v] [] cpos) _ => decide (N[i]? = some x) && visB sc x && dbg x && decide (at' = "append") && (apos.endLine == cpos.line) && okE N k e sc v
    | _ => false
  | .drop e => fun sc s => match s with
    | .Expr v _ => noComp v && okE N k e sc v
    | _ => false
  | .ret e => fun sc s => match s with
    | .Return (some v) _ => !fr && okE N k e sc v
    | _ => false
  | .retF f => fun sc s => match s with
    | .Return (some v) _ => fr && okF N k f sc v
    | _ => false
  | .retN => fun sc s => match s with
    | .Return none _ => !fr
    | _ => false
  | .ife c a b => fun sc s => match s with
    | .If t x y _ => okE N k c sc t && okS N k fr a sc x && okS N k fr b sc y
    | _ => false
  | .forr t it b => fun sc s => match s with
    | .For tg iter body [] _ => okTg N sc t tg && okI N k it sc tg iter && okS N k fr b sc body
    | _ => false
  | .whl c _ b => fun sc s => match s with
    | .While t body [] _ => okE N k c sc t && okS N k fr b sc body
    | _ => false
  | .brk => fun _ s => match s with
    | .Break _ => true
    | _ => false
  | .cont => fun _ s => match s with
    | .Continue _ => true
    | _ => false
  | .pas => fun _ s => match s with
    | .Pass _ => true
    | .Expr (.Constant (.str _) _ _) _ => true
    | _ => false
  | .nev => fun _ _ => true
def okS (N : List Str) (k : Nat) (fr : Bool) : TL → Scope → List Stmt → Bool
  | .nil => fun _ ss => match ss with
    | [] => true
    | _ => false
  | .cons t r => fun sc ss => match ss with
    | s :: ss => okT N k fr t sc s && okS N k fr r sc ss
    | _ => false
end
mutual
def prT (P : Ask) : T → Prop
  | .asg _ x => prX P x
  | .par2 _ _ a b => prX P a ∧ prX P b
  | .par3 _ _ _ a b c => prX P a ∧ prX P b ∧ prX P c
  | .unp _ e => prE P e
  | .unpN _ _ e => prE P e
  | .setI _ k e => prE P k ∧ prE P e
  | .app _ e => prE P e
  | .drop e => prE P e
  | .ret e => prE P e
  | .retF f => prF P f
  | .retN => True
  | .ife c a b => prE P c ∧ prS P a ∧ prS P b
  | .forr _ it b => prI P it ∧ prS P b
  | .whl c _ b => prE P c ∧ prS P b
  | .brk => True
  | .cont => True
  | .pas => True
  | .nev => True
def prS (P : Ask) : TL → Prop
  | .nil => True
  | .cons t r => prT P t ∧ prS P r
end
section
variable {X : Cx} {k : Nat} {Wx : WX} {fr : Bool}
theorem sX (x : EF) (e : Expr) (am : Amb X k) (tk : Takes X Wx) (h : okX X.N k x X.env.scope e = true) (pr : prX (askX X) x) : PE X e (tX X.K X.mg Wx (evX x)) := by
  cases x with
  | e x =>
    refine PE.to (sE x e am tk h pr) fun σ H Q ⟨G, st, r, hw⟩ => ?_
    unfold evX at hw
    refine ⟨G, st, r, hw.bnd.imp fun w s1 G1 H1 _ p1 r1 h1 v hv => ?_⟩
    split at h1
    · rename_i d s2 e1
      obtain ⟨G2, p2, r2, hx⟩ := frz_ok r1 hv e1
      exact h1 _ _ p2 r2 v hx
    · exact h1.elim
  | f x =>
    refine PE.to (sF x e am tk h pr) fun σ H Q ⟨G, st, r, hw⟩ => ?_
    unfold evX at hw
    exact ⟨G, st, r, hw.bnd.imp fun ds s1 G1 H1 _ p1 r1 h1 v hv => h1.ok r1 v hv⟩
theorem sw_no {v : Expr} (h : noComp v = true) (t : Option Expr) (l : Nat) (env : Env) : swapsWith v t l env = pure false := by
  cases v <;> first
    | (cases h; done)
    | rfl
theorem okX_star {N : List Str} {sc : Scope} (x : EF) {e : Expr} (h : okX N k x sc e = true) : nostar e = true := by
  cases x with
  | e x => exact (okE_shape x e h).st
  | f x => exact (okF_shape x e h).st
theorem loc_ll {sc : Scope} {x : Str} (h : locL sc x = true) : sc.names.lookup x = some .local := by
  unfold locL at h
  split at h
  · assumption
  · cases h
theorem isFun_of {sc : Scope} (h : isFun sc = true) : sc.kind = .function := by
  unfold isFun at h
  split at h
  · assumption
  · cases h
theorem nostar_any {es : List Expr} (h : es.all nostar = true) : (es.any fun | .Starred .. => true | _ => false) = false := by
  induction es with
  | nil => rfl
  | cons e es ih =>
    rw [List.all_cons, Bool.and_eq_true] at h
    rw [List.any_cons, ih h.2]
    cases e <;> first
      | rfl
      | (cases h.1; done)
theorem par2_st {x y : Str} {px py pt pt2 : Pos} {kt k2 : Nat} {e f : Expr} {env : Env} (hk : env.scope.kind = .function) (hx : env.scope.names.lookup x = some .local) (hy : env.scope.names.lookup y = some .local) (hn : x ≠ y) (hl : (px.line == py.line) = true)
    (hs : [e, f].all nostar = true) (hp : parB [e, f] = true) : swappedStores [.Tuple [.Name x px, .Name y py] kt pt] (.Tuple [e, f] k2 pt2) env = pure (some [x, y]) := by
  have kx : env.kindOf x = some .local := hx
  have ky : env.kindOf y = some .local := hy
  have hb : env.blockKind = .function := by unfold Env.blockKind; rw [hk]; rfl
  have hl' : (py.line == px.line) = true := by rw [beq_iff_eq] at hl ⊢; exact hl.symm
  have hst := nostar_any hs
  unfold parB at hp
  rw [Bool.and_eq_true, Bool.not_eq_true', Bool.not_eq_true'] at hp
  have hd : [x, y].eraseDups = [x, y] := by
    have : (y == x) = false := by rw [beq_eq_false_iff_ne]; exact fun z => hn z.symm
    simp [List.eraseDups_cons, List.filter, this]
  have hd' : [x, y].eraseDups.length = 2 := by rw [hd]; rfl
  have c2 : ([e, f].any fun | .Starred .. => true | _ => false) ≠ true := by rw [hst]; exact Bool.false_ne_true
  unfold swappedStores
  simp only [hb, kx, ky, hl', hp.1, hp.2, List.filterMap, Expr.pos, List.head?, Option.map, Option.getD, hd', List.length, beq_self_eq_true, Bool.and_self, ↓reduceIte]
  refine (if_neg (by decide)).trans ?_
  refine (if_neg c2).trans ?_
  refine (if_neg (by decide)).trans ?_
  rfl
theorem par3_st {x y z : Str} {px py pz pt pt2 : Pos} {kt k2 : Nat} {e f g : Expr} {env : Env} (hk : env.scope.kind = .function) (hx : env.scope.names.lookup x = some .local) (hy : env.scope.names.lookup y = some .local) (hz : env.scope.names.lookup z = some .local)
    (hn : x ≠ y) (hn2 : x ≠ z) (hn3 : y ≠ z) (hl : (px.line == py.line) = true) (hl2 : (px.line == pz.line) = true)
    (hs : [e, f, g].all nostar = true) (hp : parB [e, f, g] = true) : swappedStores [.Tuple [.Name x px, .Name y py, .Name z pz] kt pt] (.Tuple [e, f, g] k2 pt2) env = pure (some [x, y, z]) := by
  have kx : env.kindOf x = some .local := hx
  have ky : env.kindOf y = some .local := hy
  have kz : env.kindOf z = some .local := hz
  have hb : env.blockKind = .function := by unfold Env.blockKind; rw [hk]; rfl
  have hl' : (py.line == px.line) = true := by rw [beq_iff_eq] at hl ⊢; exact hl.symm
  have hl2' : (pz.line == px.line) = true := by rw [beq_iff_eq] at hl2 ⊢; exact hl2.symm
  have hst := nostar_any hs
  unfold parB at hp
  rw [Bool.and_eq_true, Bool.not_eq_true', Bool.not_eq_true'] at hp
  have hd : [x, y, z].eraseDups = [x, y, z] := by
    have e1 : (y == x) = false := by rw [beq_eq_false_iff_ne]; exact fun z => hn z.symm
    have e2 : (z == x) = false := by rw [beq_eq_false_iff_ne]; exact fun z => hn2 z.symm
    have e3 : (z == y) = false := by rw [beq_eq_false_iff_ne]; exact fun z => hn3 z.symm
    simp [List.eraseDups_cons, List.filter, e1, e2, e3]
  have hd' : [x, y, z].eraseDups.length = 3 := by rw [hd]; rfl
  have c2 : ([e, f, g].any fun | .Starred .. => true | _ => false) ≠ true := by rw [hst]; exact Bool.false_ne_true
  unfold swappedStores
  simp only [hb, kx, ky, kz, hl', hl2', hp.1, hp.2, List.filterMap, Expr.pos, List.head?, Option.map, Option.getD, hd', List.length, beq_self_eq_true, Bool.and_self, ↓reduceIte]
  refine (if_neg (by decide)).trans ?_
  refine (if_neg c2).trans ?_
  refine (if_neg (by decide)).trans ?_
  rfl
end
mutual
theorem sS {fr : Bool} : ∀ (t : T) {X : Cx} {k : Nat} {Wx : WX} (s : Stmt), AmbS X k → Takes X Wx → okT X.N k fr t X.env.scope s = true → prT (askX X) t → PS X s (tS X.K X.mg Wx fr (exT t))
  | .asg i x, X, k, Wx, s, am, tk, h, pr => by
    unfold okT at h
    split at h
    · rename_i y py e pos
      simp only [Bool.and_eq_true, decide_eq_true_eq] at h
      obtain ⟨⟨⟨h1, h2⟩, h3⟩, h4⟩ := h
      have key : ∀ en σ H, tS X.K X.mg Wx fr (exT (.asg i x)) en σ H → tAsg (tX X.K X.mg Wx (evX x)) (gName i) en σ H := fun en σ H ⟨G, st, r, hw⟩ => by
        rw [exT] at hw
        refine ⟨G, st, r, (hw.at .refl).imp fun s s1 G1 H1 _ p1 r1 h1 v hv => ?_⟩
        obtain ⟨s2, e2, h1⟩ := h1.opt
        obtain ⟨hf, rfl⟩ := set_ok e2
        obtain ⟨ra, rb⟩ := hv.set p1 r1 (fun _ z => z) hf
        exact h1 _ _ _ rb ra
      by_cases hc : noComp e = true
      · exact PS.to (ps_set am.nd h1 (loc_of h2) (sX x e am.toAmb tk h3 pr) (sw_no hc _ _ _) (.inl (am.fn y))) key
      · have hfc : isFC x = true := by
          rw [Bool.or_eq_true] at h4
          exact h4.resolve_left hc
        cases x with
        | e x => cases hfc
        | f x =>
          cases x with
          | comp t it c el =>
            have h3o := h3
            have h3 : okF X.N k (.comp t it c el) X.env.scope e = true := h3
            unfold okF at h3
            split at h3
            · rename_i elt tg iter ifs a scope pos2 h3o'
              simp only [Bool.and_eq_true, decide_eq_true_eq] at h3
              obtain ⟨⟨⟨⟨⟨g1, g2⟩, g3⟩, g4⟩, g5⟩, g6⟩ := h3
              subst g1
              have pr : prI (askX X) it ∧ prO (askX X) c ∧ prE (askX X) el := pr
              have sw : swapsWith (.ListComp elt [⟨tg, iter, ifs, 0⟩] scope pos2) (some (.Name y py)) pos.line X.env = pure (X.env.blockKind == .function && X.env.kindOf y == some .local && py.line == pos2.line && !(scope.names.any fun (n, k) => n == y && (k == .local || k == .cell))) := rfl
              cases hb : (X.env.blockKind == .function && X.env.kindOf y == some .local && py.line == pos2.line && !(scope.names.any fun (n, k) => n == y && (k == .local || k == .cell))) with
              | false =>
                rw [hb] at sw
                exact PS.to (ps_set am.nd h1 (loc_of h2) (sX (.f (.comp t it c el)) _ am.toAmb tk h3o' pr) sw (.inl (am.fn y))) key
              | true =>
                rw [hb] at sw
                simp only [Bool.and_eq_true] at hb
                have hyl : X.env.scope.names.lookup y = some .local := by
                  have := hb.1.1.2
                  have e : X.env.kindOf y = some .local := by simpa using this
                  exact e
                refine PS.to (ps_setLc (g := gT X.K t) (tt := tIfs X.K X.mg c) (te := tW X.K X.mg W0 (evE el)) am.calm am.nd h1 hyl sw (sI it tg iter am.toAmb tk g4 pr.1) (blkOk_by g2) (fun s H C cl fp => pg_ok am.calm am.nd (fun x hx => blk_tg x hx) g3) (fun s H C cl fp => ?_) (fun s H C cl fp => ?_) (noSet (okI_set it _ _ g4) _)) ?_
                · have g6' : okO X.N k c (relS scope X.env.scope) ifs.head? = true ∧ ifs.length ≤ 1 := by
                    split at g6
                    · exact ⟨g6, by decide⟩
                    · exact ⟨g6, Nat.le_refl _⟩
                    · cases g6
                  have base := sC c (X := X.blk s H scope (compEnvC scope cl C X.env) fp) ifs.head? (amb_blk am.toAmb s H scope _ fp) g6'.1 pr.2.1
                  match ifs, g6' with
                  | [], _ => exact base
                  | [x], _ => exact base
                  | _ :: _ :: _, ⟨_, z⟩ => exact absurd z (by simp)
                · exact sE el (X := X.blk s H scope (compEnvC scope cl C X.env) fp) elt (amb_blk am.toAmb s H scope _ fp) takes0 g5 pr.2.2
                · intro en σ H ⟨G, st, r, hw⟩
                  rw [own_slots]
                  refine comp_le σ H _ ?_
                  rw [exT, show evX (.f (.comp t it c el)) st = bnd (evF (.comp t it c el) st) fun ds s1 => ok (.own false ds) s1 from rfl] at hw
                  refine ⟨G, st, r, ?_⟩
                  match e0 : evF (.comp t it c el) st, hw with
                  | none, hw => exact hw.elim
                  | some (.error z, s1), hw =>
                    exact fun cls dx G' H' q => hw cls dx G' H' σ q
                  | some (.ok ds, s1), hw =>
                    intro G1 H1 p1 r1 v hv
                    obtain ⟨s2, e2, h1⟩ := WpS.opt hw
                    obtain ⟨hf, rfl⟩ := set_ok e2
                    obtain ⟨ra, rb⟩ := SNow.set (G1 := G) (s := .own false ds) hv p1 r1 (fun _ z => z) hf
                    exact h1 _ _ _ rb ra
            · cases h3
          | disp _ => cases hfc
          | listOf _ => cases hfc
          | cat _ _ => cases hfc
          | callF _ _ => cases hfc
          | plus _ _ => cases hfc
          | sortF _ => cases hfc
          | sortK _ _ => cases hfc
    · cases h
  | .par2 i j a b, X, k, Wx, s, am, tk, h, pr => by
    unfold okT at h
    split at h
    · simp only [Bool.and_eq_true, decide_eq_true_eq] at h
      obtain ⟨⟨⟨⟨⟨⟨⟨⟨⟨⟨h1, h2⟩, h3⟩, h4⟩, h5⟩, h6⟩, h7⟩, h8⟩, h9⟩, h10⟩, h11⟩ := h
      have sa := okX_star a h10
      have sb := okX_star b h11
      refine PS.to (ps_par am.calm am.nd h1 h2 h3 (loc_ll h4) (loc_ll h5) (pa_cons (sX a _ am.toAmb tk h10 pr.1) (pa_cons (sX b _ am.toAmb tk h11 pr.2) pa_nil (star_cons sb [] _)) (star_cons sa _ _))
        (par2_st (isFun_of h6) (loc_ll h4) (loc_ll h5) h7 h8 (by rw [List.all_cons, sa, List.all_cons, sb]; rfl) h9) rfl) fun en σ H ⟨G, st, r, hw⟩ => ?_
      rw [exT] at hw
      refine ⟨G, st, r, (hw.at .refl).imp fun x s1 G1 H1 _ p1 r1 h1 v hv => ⟨G1, s1, r1, (h1.at p1).imp fun y s2 G2 H2 _ p2 r2 h2 u hu => ⟨v, u, rfl, ?_⟩⟩⟩
      obtain ⟨s3, e3, h2⟩ := h2.opt
      obtain ⟨f3, rfl⟩ := set_ok e3
      obtain ⟨s4, e4, h2⟩ := h2.opt
      obtain ⟨f4, rfl⟩ := set_ok e4
      have hv2 := hv.step p2
      obtain ⟨ra, rb⟩ := hv2.set (p1.trans p2) r2 (fun _ z => z) f3
      have hu2 : SNow X.K G1 H1 G2 H2 (σ.set i (some v)) (s2.set i x) u y := hv2.keep (fun c xs e _ _ hd z => by
        obtain ⟨ds, rfl⟩ := hd
        obtain ⟨c', ys, e', q1, q2, q3, _⟩ := hv
        rw [e] at e'
        cases e'
        rw [q3] at z
        cases z) hu
      obtain ⟨rc, rd⟩ := hu2.set rb ra p1.none f4
      exact h2 _ _ _ rd rc
    · cases h
  | .par3 i j l a b c, X, k, Wx, s, am, tk, h, pr => by
    unfold okT at h
    split at h
    · simp only [Bool.and_eq_true, decide_eq_true_eq] at h
      obtain ⟨⟨⟨⟨⟨⟨⟨⟨⟨⟨⟨⟨⟨⟨⟨⟨⟨⟨h1, h2⟩, h3⟩, h4⟩, h5⟩, h6⟩, h7⟩, h8⟩, h9⟩, h10⟩, h11⟩, h12⟩, h13⟩, h14⟩, h15⟩, h16⟩, h17⟩, h18⟩, h19⟩ := h
      have sa := okX_star a h17
      have sb := okX_star b h18
      have sc := okX_star c h19
      refine PS.to (ps_par3 am.calm am.nd h1 h2 h3 h4 h5 h6 (loc_ll h7) (loc_ll h8) (loc_ll h9) (pa_cons (sX a _ am.toAmb tk h17 pr.1) (pa_cons (sX b _ am.toAmb tk h18 pr.2.1) (pa_cons (sX c _ am.toAmb tk h19 pr.2.2) pa_nil (star_cons sc [] _)) (star_cons sb _ _)) (star_cons sa _ _))
        (par3_st (isFun_of h10) (loc_ll h7) (loc_ll h8) (loc_ll h9) h11 h12 h13 h14 h15 (by rw [List.all_cons, sa, List.all_cons, sb, List.all_cons, sc]; rfl) h16) rfl) fun en σ H ⟨G, st, r, hw⟩ => ?_
      rw [exT] at hw
      refine ⟨G, st, r, (hw.at .refl).imp fun x s1 G1 H1 _ p1 r1 h1 v hv => ⟨G1, s1, r1, (h1.at p1).imp fun y s2 G2 H2 _ p2 r2 h2 u hu => ⟨G2, s2, r2, (h2.at (p1.trans p2)).imp fun z s3 G3 H3 _ p3 r3 h3 w hw3 => ⟨v, u, w, rfl, ?_⟩⟩⟩⟩
      obtain ⟨s4, e4, h3⟩ := h3.opt
      obtain ⟨f4, rfl⟩ := set_ok e4
      obtain ⟨s5, e5, h3⟩ := h3.opt
      obtain ⟨f5, rfl⟩ := set_ok e5
      obtain ⟨s6, e6, h3⟩ := h3.opt
      obtain ⟨f6, rfl⟩ := set_ok e6
      have hv3 := hv.step (p2.trans p3)
      have hu3 := hu.step p3
      have some1 : ∀ (c : Addr) (xs : List V), v = .ref c → (∃ ds, x = S.own false ds) → H1 c ≠ none := fun c xs e hd z => by
        obtain ⟨ds, rfl⟩ := hd
        obtain ⟨c', ys, e', q1, q2, q3, _⟩ := hv
        rw [e] at e'
        cases e'
        rw [q3] at z
        cases z
      have some2 : ∀ (c : Addr) (xs : List V), u = .ref c → (∃ ds, y = S.own false ds) → H2 c ≠ none := fun c xs e hd z => by
        obtain ⟨ds, rfl⟩ := hd
        obtain ⟨c', ys, e', q1, q2, q3, _⟩ := hu
        rw [e] at e'
        cases e'
        rw [q3] at z
        cases z
      obtain ⟨ra, rb⟩ := hv3.set ((p1.trans p2).trans p3) r3 (fun _ z => z) f4
      have hu4 : SNow X.K G1 H1 G3 H3 (σ.set i (some v)) (s3.set i x) u y := hv3.keep (fun c xs e _ _ hd => some1 c xs e hd) hu3
      have hw4 : SNow X.K G2 H2 G3 H3 (σ.set i (some v)) (s3.set i x) w z := hv3.keep (fun c xs e _ _ hd z => some1 c xs e hd (p2.none c z)) hw3
      obtain ⟨rc, rd⟩ := hu4.set rb ra p1.none f5
      have hw5 : SNow X.K G2 H2 G3 H3 ((σ.set i (some v)).set j (some u)) ((s3.set i x).set j y) w z := hu4.keep (fun c xs e _ _ hd => some2 c xs e hd) hw4
      obtain ⟨re, rf⟩ := hw5.set rd rc (fun c z => p1.none c (p2.none c z)) f6
      exact h3 _ _ _ rf re
    · cases h
  | .unp t e, X, k, Wx, s, am, tk, h, pr => by
    unfold okT at h
    split at h
    · rename_i tg v pos
      simp only [Bool.and_eq_true] at h
      obtain ⟨⟨⟨⟨h1, h2⟩, h3⟩, h4⟩, h5⟩ := h
      have hsw : swappedStores [tg] v X.env = pure none := by
        cases tg <;> first
          | (cases h1; done)
          | skip
        cases v <;> first
          | (cases h3; done)
          | rfl
      have ha : (assignEach [tg] X.env).map (·.2) = [assign tg X.env] := by
        cases tg <;> first
          | (cases h1; done)
          | rfl
      refine PS.to (ps_asg (sE e v am.toAmb tk h5 pr) (pg_ok am.calm am.nd (fun x hx => ⟨loc_of hx, .inl (am.fn x)⟩) h2) (sw_no h4 _ _ _) hsw ha) fun en σ H ⟨G, st, r, hw⟩ => ?_
      rw [exT] at hw
      refine ⟨G, st, r, (hw.at .refl).imp fun x s1 G1 H1 _ p1 r1 h1 u hu => ?_⟩
      split at h1
      · obtain ⟨s2, e2, h1⟩ := h1.opt
        exact tg_ok r1 hu e2 fun σ2 _ p3 r3 => h1 _ _ _ (p1.trans p3) r3
      · exact h1.elim
    · cases h
  | .unpN l is e, X, k, Wx, s, am, tk, h, pr => by
    unfold okT at h
    split at h
    · rename_i es kt pt v pos
      simp only [Bool.and_eq_true] at h
      obtain ⟨⟨h1, h2⟩, h3⟩ := h
      obtain ⟨pg, hn, hst⟩ := pgs_ns am.nd (fun x hx => ⟨loc_of hx, .inl (am.fn x)⟩) is es h1
      have hsw : swappedStores [.Tuple es kt pt] v X.env = pure none := by
        cases v <;> first
          | (cases h2; done)
          | rfl
      cases l with
      | true =>
        refine PS.to (ps_asg (sE e v am.toAmb tk h3 pr) (pg_unl am.calm pg hn hst) (sw_tup v es kt pt pos.line X.env) hsw rfl) fun en σ H ⟨G, st, r, hw⟩ => ?_
        rw [exT] at hw
        refine ⟨G, st, r, (hw.at .refl).imp fun x s1 G1 H1 _ p1 r1 h1 u hu => ?_⟩
        split at h1
        · contradiction
        · obtain ⟨s2, e2, h1⟩ := h1.opt
          have hu : Rp X.K G1 u _ := hu
          cases hu with
          | lst sq rx => exact ⟨_, _, rfl, r1.sub.sqL sq, by rw [rx.length]; exact setNs_len e2, ns_ok r1 rx e2 fun σ2 p3 r3 => h1 _ _ _ (p1.trans p3) r3⟩
        · exact h1.elim
      | false =>
        refine PS.to (ps_asg (sE e v am.toAmb tk h3 pr) (pg_tup am.calm pg hn hst) (sw_tup v es kt pt pos.line X.env) hsw rfl) fun en σ H ⟨G, st, r, hw⟩ => ?_
        rw [exT] at hw
        refine ⟨G, st, r, (hw.at .refl).imp fun x s1 G1 H1 _ p1 r1 h1 u hu => ?_⟩
        split at h1
        · obtain ⟨s2, e2, h1⟩ := h1.opt
          have hu : Rp X.K G1 u _ := hu
          cases hu with
          | tup sq rx => exact ⟨_, _, rfl, r1.sub.sqT sq, by rw [rx.length]; exact setNs_len e2, ns_ok r1 rx e2 fun σ2 p3 r3 => h1 _ _ _ (p1.trans p3) r3⟩
        · contradiction
        · exact h1.elim
    · cases h
  | .setI i n e, X, k, Wx, s, am, tk, h, pr => by
    unfold okT at h
    split at h
    · rename_i x px ix spos v pos
      simp only [Bool.and_eq_true, decide_eq_true_eq] at h
      obtain ⟨⟨⟨⟨⟨h1, h2⟩, h3⟩, h4⟩, h5⟩, h6⟩ := h
      obtain ⟨d1, d2⟩ := dbg_of h3
      have hix := (okE_shape _ _ h5).sl
      refine PS.to (ps_asg (sX (.e e) v am.toAmb tk h6 pr.2) (pg_sub (pe_var h1 (vis_of h2) d1 d2) (sE n ix am.toAmb tk h5 pr.1) set_list (by
        intro v
        cases ix <;> first
          | (cases hix; done)
          | rfl)) (show swapsWithSole [Expr.Subscript (.Name x px) ix spos] v pos.line X.env = pure false from sw_no h4 (some (.Subscript (.Name x px) ix spos)) pos.line X.env) rfl rfl) fun en σ H ⟨G, st, r, hw⟩ => ?_
      rw [exT] at hw
      refine ⟨G, st, r, (hw.at .refl).imp fun x s1 G1 H1 _ p1 r1 h1 u hu => ?_⟩
      split at h1
      · rename_i d m0 es0 e0 _
        have hu : Rp X.K G1 u d := hu
        obtain ⟨a, ys, b1, _⟩ := r1.own i m0 es0 e0
        refine ⟨_, b1, G1, s1, r1, (h1.at p1).imp fun y s2 G2 H2 _ p2 r2 h2 w hw2 => ?_⟩
        split at h2
        · rename_i nn m ds e1 _
          split at h2
          · rename_i j e2
            obtain ⟨a', xs, c1, c2, c3, c4⟩ := r2.own i m ds e1
            rw [b1] at c1
            cases c1
            have rs : Rps X.K G2 (xs.set j u) (ds.set j d) := c4.set (hu.mono p2.gr) j
            refine ⟨a, xs, nn, j, rfl, hw2.toI, c3, by rw [c4.length]; exact e2, ?_⟩
            exact h2 _ _ _ ((p1.trans p2).trans (Stp.wr r2 e1 b1)) (Rl.wr (xs := xs) r2 e1 b1 rs)
          · exact h2.elim
        · exact h2.elim
      · exact h1.elim
    · cases h
  | .app i e, X, k, Wx, s, am, tk, h, pr => by
    unfold okT at h
    split at h
    · rename_i x px at' apos v cpos pos
      simp only [Bool.and_eq_true, decide_eq_true_eq] at h
      obtain ⟨⟨⟨⟨⟨h1, h2⟩, h3⟩, h4⟩, h5⟩, h6⟩ := h
      obtain ⟨d1, d2⟩ := dbg_of h3
      subst h4
      have hs := (okE_shape _ _ h6).st
      refine PS.to (ps_expr (pe_bm PySem.F.plainAttrs_list PySem.F.slot_list_append PySem.F.type_list_append mt_append (pe_var h1 (vis_of h2) d1 d2) (pa_cons (sX (.e e) v am.toAmb tk h6 pr) pa_nil (star_cons hs [] _)) rfl
        (by rw [star_cons hs]; rfl) h5 (star_cons hs [] _) rfl) rfl) fun en σ H ⟨G, st, r, hw⟩ => ?_
      rw [exT] at hw
      split at hw
      · rename_i m0 es0 e0
        obtain ⟨a, ys, b1, b2, b3, b4⟩ := r.own i m0 es0 e0
        refine ⟨_, b1, .inl ⟨rfl, ys, .inl (.inl b3)⟩, G, st, r, (hw.at .refl).imp fun x s1 G1 H1 _ p1 r1 h1 u hu => ?_⟩
        split at h1
        · rename_i d m ds e1 _
          split at h1
          · rename_i hl
            have hu : Rp X.K G1 u d := hu
            obtain ⟨a', xs, c1, c2, c3, c4⟩ := r1.own i m ds e1
            rw [b1] at c1
            cases c1
            refine ⟨a, xs, u, rfl, rfl, c3, by rw [c4.length, sizeLine_eq]; omega, ?_⟩
            exact h1 _ _ _ (p1.trans (Stp.wr r1 e1 b1)) (Rl.wr (xs := xs) r1 e1 b1 (c4.snoc hu))
          · exact h1.elim
        · exact h1.elim
      · exact hw.elim
    · cases h
  | .drop e, X, k, Wx, s, am, tk, h, pr => by
    unfold okT at h
    split at h
    · rw [Bool.and_eq_true] at h
      refine PS.to (ps_expr (sE e _ am.toAmb tk h.2 pr) (sw_no h.1 _ _ _)) fun en σ H ⟨G, st, r, hw⟩ => ?_
      rw [exT] at hw
      exact ⟨G, st, r, (hw.at .refl).imp fun x s1 G1 H1 _ p1 r1 h1 u hu => h1 _ _ _ p1 r1⟩
    · cases h
  | .ret e, X, k, Wx, s, am, tk, h, pr => by
    unfold okT at h
    split at h
    · rw [Bool.and_eq_true] at h
      cases fr with
      | true => cases h.1
      | false =>
        refine PS.to (ps_ret (sE e _ am.toAmb tk h.2 pr)) fun en σ H ⟨G, st, r, hw⟩ => ?_
        rw [exT] at hw
        refine ⟨G, st, r, (hw.at .refl).imp fun x s1 G1 H1 _ p1 r1 h1 u hu => ?_⟩
        split at h1
        · rename_i d s2 e1
          obtain ⟨G2, p2, r2, hx⟩ := frz_ok r1 hu e1
          exact h1 _ _ _ (p1.trans p2) r2 u hx
        · exact h1.elim
    · cases h
  | .retF f, X, k, Wx, s, am, tk, h, pr => by
    unfold okT at h
    split at h
    · rw [Bool.and_eq_true] at h
      cases fr with
      | false => cases h.1
      | true =>
        refine PS.to (ps_ret (sF f _ am.toAmb tk h.2 pr)) fun en σ H ⟨G, st, r, hw⟩ => ?_
        rw [exT] at hw
        exact ⟨G, st, r, (hw.at .refl).imp fun ds s1 G1 H1 _ p1 r1 h1 u hu => h1 _ _ _ p1 r1 u ⟨ds, rfl, hu⟩⟩
    · cases h
  | .retN, X, k, Wx, s, am, tk, h, pr => by
    unfold okT at h
    split at h
    · cases fr with
      | true => cases h
      | false =>
        refine PS.to ps_retN fun en σ H ⟨G, st, r, hw⟩ => ?_
        rw [exT] at hw
        exact hw _ _ _ .refl r _ .non
    · cases h
  | .ife c a b, X, k, Wx, s, am, tk, h, pr => by
    unfold okT at h
    split at h
    · simp only [Bool.and_eq_true] at h
      obtain ⟨⟨h1, h2⟩, h3⟩ := h
      refine PS.to (ps_if (sT c _ am.toAmb tk h1 pr.1).1 (sSs a _ am tk h2 pr.2.1) (sSs b _ am tk h3 pr.2.2)) fun en σ H ⟨G, st, r, hw⟩ => ?_
      rw [exT] at hw
      refine ⟨G, st, r, (hw.at .refl).imp fun q s1 G1 H1 _ p1 r1 h1 => ?_⟩
      cases q with
      | true => exact ⟨G1, s1, r1, h1.shift p1⟩
      | false => exact ⟨G1, s1, r1, h1.shift p1⟩
    · cases h
  | .forr t it b, X, k, Wx, s, am, tk, h, pr => by
    unfold okT at h
    split at h
    · simp only [Bool.and_eq_true] at h
      obtain ⟨⟨h1, h2⟩, h3⟩ := h
      refine PS.to (ps_for am.hp am.calm (sI it _ _ am.toAmb tk h2 pr.1) (pg_ok am.calm am.nd (fun x hx => ⟨loc_of hx, .inl (am.fn x)⟩) h1) (sSs b _ am tk h3 pr.2) (noSet (okI_set it _ _ h2) _)) fun en σ H q => ?_
      refine for_ok en σ H ?_
      rw [show exT (.forr t it b) = _ from funext fun st => exT.eq_13 st t it b] at q
      exact q
    · cases h
  | .whl c m b, X, k, Wx, s, am, tk, h, pr => by
    unfold okT at h
    split at h
    · rw [Bool.and_eq_true] at h
      refine PS.to (ps_while am.hp (sT c _ am.toAmb tk h.1 pr.1).1 (sSs b _ am tk h.2 pr.2)) fun en σ H q => ?_
      refine while_ok (m := m) en σ H ?_
      rw [show exT (.whl c m b) = _ from funext fun st => exT.eq_14 st c m b] at q
      exact q
    · cases h
  | .brk, X, k, Wx, s, am, tk, h, pr => by
    unfold okT at h
    split at h
    · refine PS.to ps_break fun en σ H ⟨G, st, r, hw⟩ => ?_
      rw [exT] at hw
      exact hw _ _ _ .refl r
    · cases h
  | .cont, X, k, Wx, s, am, tk, h, pr => by
    unfold okT at h
    split at h
    · refine PS.to ps_continue fun en σ H ⟨G, st, r, hw⟩ => ?_
      rw [exT] at hw
      exact hw _ _ _ .refl r
    · cases h
  | .pas, X, k, Wx, s, am, tk, h, pr => by
    unfold okT at h
    have key : ∀ en σ H, tS X.K X.mg Wx fr (exT .pas) en σ H → tNext en σ H := fun en σ H ⟨G, st, r, hw⟩ => by
      rw [exT] at hw
      exact hw _ _ _ .refl r
    split at h
    · exact PS.to ps_pass key
    · exact PS.to ps_doc key
    · cases h
  | .nev, X, k, Wx, s, am, tk, h, pr => PS.to ps_never fun en σ H ⟨G, st, r, hw⟩ => by
    rw [exT] at hw
    exact hw
theorem sSs {fr : Bool} : ∀ (t : TL) {X : Cx} {k : Nat} {Wx : WX} (ss : List Stmt), AmbS X k → Takes X Wx → okS X.N k fr t X.env.scope ss = true → prS (askX X) t → PSs X ss (tS X.K X.mg Wx fr (exL t))
  | .nil, X, k, Wx, ss, am, tk, h, pr => by
    unfold okS at h
    split at h
    · refine PSs.to pss_nil fun en σ H ⟨G, st, r, hw⟩ => ?_
      rw [exL] at hw
      exact hw _ _ _ .refl r
    · cases h
  | .cons t r, X, k, Wx, ss, am, tk, h, pr => by
    unfold okS at h
    split at h
    · rw [Bool.and_eq_true] at h
      refine PSs.to (pss_cons (sS t _ am tk h.1 pr.1) (sSs r _ am tk h.2 pr.2)) fun en σ H ⟨G, st, rr, hw⟩ => ?_
      refine ⟨G, st, rr, ?_⟩
      rw [exL] at hw
      match e0 : exT t st, hw with
      | none, hw => exact hw.elim
      | some (.error z, s1), hw => exact hw
      | some (.ok .nx, s1), hw =>
        exact fun G1 H1 σ1 p1 r1 => ⟨G1, s1, r1, hw.shift p1⟩
      | some (.ok .bk, s1), hw => exact hw
      | some (.ok .ct, s1), hw => exact hw
      | some (.ok (.rt d), s1), hw => exact hw
    · cases h
end
end SG
/-! Sg14: a def of the text keeps its promise. -/
namespace SG
open PySem L2 PyProof.Rows RZ

section
variable {K : PySem.W.Frag} {mg : Str → Option Value} {Wx : WX} {fr : Bool} {G H G' H' : Hp} {σ σ' : L2.St} {st st' s1 : List S}
theorem pad_get {α : Type} {l : List α} {n i : Nat} {u x : α} (h : (l ++ List.replicate n u)[i]? = some x) : l[i]? = some x ∨ x = u := by
  by_cases hi : i < l.length
  · rw [List.getElem?_append_left hi] at h
    exact .inl h
  · rw [List.getElem?_append_right (by omega)] at h
    exact .inr (List.mem_replicate.mp (List.mem_of_getElem? h)).2
theorem get_pad {α : Type} {l : List α} {n i : Nat} {u x : α} (h : l[i]? = some x) : (l ++ List.replicate n u)[i]? = some x := by
  rw [List.getElem?_append_left (lt_of_get h)]
  exact h
theorem Rl.pad (r : Rl K G H σ st) (n : Nat) : Rl K G H (σ ++ List.replicate n none) (st ++ List.replicate n .un) := by
  refine ⟨r.sub, by rw [List.length_append, List.length_append, r.len, List.length_replicate, List.length_replicate], fun i d h => ?_, fun i m ds h => ?_, fun i j m ds n' es hij h1 h2 => ?_⟩
  · rcases pad_get h with h | h
    · obtain ⟨v, a, b⟩ := r.val i d h
      exact ⟨v, get_pad a, b⟩
    · cases h
  · rcases pad_get h with h | h
    · obtain ⟨a, xs, e, q⟩ := r.own i m ds h
      exact ⟨a, xs, get_pad e, q⟩
    · cases h
  · rcases pad_get h1 with h1 | h1
    · rcases pad_get h2 with h2 | h2
      · have := r.sep i j m ds n' es hij h1 h2
        obtain ⟨a, _, e1, _⟩ := r.own i m ds h1
        obtain ⟨b, _, e2, _⟩ := r.own j n' es h2
        rw [get_pad e1, get_pad e2]
        rw [e1, e2] at this
        exact this
      · cases h2
    · cases h1
theorem own_pad {n : Nat} {b : Addr} (h : Owned (σ ++ List.replicate n none) (st ++ List.replicate n .un) b) : Owned σ st b := by
  obtain ⟨i, m, ds, h1, h2⟩ := h
  rcases pad_get h1 with h1 | h1
  · rcases pad_get h2 with h2 | h2
    · exact ⟨i, m, ds, h1, h2⟩
    · cases h2
  · cases h1
def backOf (st : List S) : List D := match (st[0]? : Option S) with | some (S.own true zs) => zs | _ => []
/-- a def is left -/
theorem leave {vs : List V} {ds es : List D} {lend : Bool} {n m : Nat} (r : Rl K G H (vs.map some) (argS lend es ds)) (p : Stp G H (vs.map some ++ List.replicate n none) (argS lend es ds ++ List.replicate m .un) G' H' σ' s1) (hnm : n = m) (r' : Rl K G' H' σ' s1) :
    Rl K G' H' (vs.map some) (argS lend (backOf s1) ds) ∧ Stp G H (vs.map some) (argS lend es ds) G' H' (vs.map some) (argS lend (backOf s1) ds) := by
  subst hnm
  cases lend with
  | false =>
    have no : ∀ b, ¬ Owned (vs.map some ++ List.replicate n none) (argS false es ds ++ List.replicate n .un) b := fun b h => not_owned_vals (own_pad h)
    have := r.over r'.sub (fun b o h => p.kp b o h (no b)) p.gr (fun b h => p.old b h (no b))
    exact this
  | true =>
    obtain ⟨e1, fs, e2⟩ := p.bor 0 es rfl
    have eb : backOf s1 = fs := by unfold backOf; rw [e2]
    obtain ⟨a, xs, e3, g3, h3, r3⟩ := r'.own 0 true fs e2
    rw [e1] at e3
    cases vs with
    | nil =>
      obtain ⟨a', _, e, _⟩ := r.own 0 true es rfl
      cases e
    | cons v vr =>
      have e3 : some (some v) = some (some (V.ref a)) := e3
      cases e3
      have ow : ∀ b, Owned ((V.ref a :: vr).map some ++ List.replicate n none) (argS true es ds ++ List.replicate n .un) b → b = a := fun b h => owned_lent (own_pad h)
      have := r.lent (i := 0) (m := true) (es := es) (es' := fs) (a := a) (xs := xs) rfl rfl r'.sub (fun b o hb h => p.kp b o h fun z => hb (ow b z)) p.gr (fun b hb h => p.old b h fun z => hb (ow b z)) g3 h3 r3
      rw [eb]
      exact this
/-- a body's run, from what the promise says -/
theorem body_ok {f : Fn} {vs : List V} {es ds : List D} {N : Nat} {tl : TL} {E : XK} {Q : VK} (r : Rl K G H (vs.map some) (argS f.lend es ds))
    (h : match runDef N f.lend f.fresh tl es ds with
      | none => False
      | some (.ok d, es') => ∀ v G' H', Stp G H (vs.map some) (argS f.lend es ds) G' H' (vs.map some) (argS f.lend es' ds) → Rl K G' H' (vs.map some) (argS f.lend es' ds) → RetOk K G H G' H' f.fresh v d → Q v H'
      | some (.error x, es') => ∀ cls dx G' H', Stp G H (vs.map some) (argS f.lend es ds) G' H' (vs.map some) (argS f.lend es' ds) → Rl K G' H' (vs.map some) (argS f.lend es' ds) → ErrOk K mg G' H' cls dx x → E cls dx H') :
    tS K mg (fun cls dx _ H' => E cls dx H') f.fresh (exL tl) { nx := fun _ H' => Q .non H', rt := Q } (vs.map some ++ List.replicate (N - vs.length) none) H := by
  have hl : (argS f.lend es ds).length = vs.length := by
    have := r.len
    rw [List.length_map] at this
    exact this
  refine ⟨G, argS f.lend es ds ++ List.replicate (N - (argS f.lend es ds).length) .un, by rw [hl]; exact r.pad _, ?_⟩
  have hn : N - vs.length = N - (argS f.lend es ds).length := by rw [hl]
  unfold runDef at h
  generalize exL tl (argS f.lend es ds ++ List.replicate (N - (argS f.lend es ds).length) .un) = oo at h ⊢
  match oo, h with
  | none, h => exact h.elim
  | some (.error x, s1), h =>
    intro cls dx G' H' σ' p r' ee
    obtain ⟨a, b⟩ := leave r p hn r'
    exact h cls dx G' H' b a ee
  | some (.ok .nx, s1), h =>
    intro G' H' σ' p r'
    obtain ⟨a, b⟩ := leave r p hn r'
    cases hf : f.fresh with
    | true =>
      rw [hf] at h
      exact h.elim
    | false =>
      rw [hf] at h
      exact h .non G' H' b a .non
  | some (.ok .bk, s1), h => exact h.elim
  | some (.ok .ct, s1), h => exact h.elim
  | some (.ok (.rt d), s1), h =>
    intro G' H' σ' p r' v hv
    obtain ⟨a, b⟩ := leave r p hn r'
    refine h v G' H' b a ?_
    unfold RetV at hv
    unfold RetOk
    cases hf : f.fresh with
    | false => rw [hf] at hv; exact hv
    | true =>
      rw [hf] at hv
      obtain ⟨zs, e, c, xs, e2, q1, q2, q3, q4, _⟩ := hv
      exact ⟨c, xs, zs, e, e2, q1, q2, q3, q4⟩
end
section
variable {P : Program} {w : World} {K : PySem.W.Frag} {mg : Str → Option Value} {base : Heap}
theorem fnG_of {k : Nat} {fa : Addr} {x qual : Str} {ar : Arguments} {bo : List Stmt} {sc : Scope} {dV kV doc pm cdv ct oc : Value} {an od : Option Addr} {osl : Array (Option Value)} {N ps : List Str} {f : Fn} {tl : TL}
    (look : K.lookup fa = some ⟨oc, od, .func (PySem.W.fnOf x qual ar bo sc dV kV doc pm an cdv ct), osl⟩) (code : PySem.W.codeIn K cdv qual = true) (S : FnScope N ps sc) (hm : f.many = ps.length) (hrun : f.run = runDef N.length f.lend f.fresh tl)
    (hok : okS N k f.fresh tl sc bo = true) (pr : prS ⟨FnSnd P w K mg base, Glo K mg⟩ tl) (blt : ∀ x ∈ bltWords, mg x = none) :
    FnG P w K mg base (k + 1) fa (PySem.W.fnOf x qual ar bo sc dV kV doc pm an cdv ct) ps (spFn K mg f) := by
  have len : ∀ vs H Q E, spFn K mg f vs H Q E → vs.length = ps.length := fun vs H Q E ⟨G, es, ds, r, hl, _⟩ => by
    rw [← hm, ← hl, r.len, List.length_map]
  constructor
  · exact len
  · intro A outer s H args us vs Q E room gd env0 binds rel hsp
    have hl := len vs H Q E hsp
    obtain ⟨G, es, ds, r, hl2, h⟩ := hsp
    rw [hrun] at h
    have KH : K.In s.heap := env0.mod.kin.keeps fun b o q => (env0.bs b o q).1
    have NL : s.heap.NoLimit := env0.mod.nolimit.keeps fun b o q => (env0.bs b o q).1
    have kinds : ∀ y ∈ ps.zip us, sc.names.lookup y.1 = some .local ∨ (sc.names.lookup y.1 = some .cell ∧ ((cellsFrom (s.heap.objs.size + 1) sc.names []).lookup y.1).isSome = true) := by
      rintro ⟨z, u⟩ hy
      cases S.par z (List.of_mem_zip hy).1 with
      | inl q => exact .inl q
      | inr q => exact .inr ⟨q, PySem.W.cellsFrom_some _ _ _ (.inl q)⟩
    refine codeAny_call_function room.depth (KH _ _ look) rfl S.co S.gen rfl (PySem.W.codeRec_of KH code) (binds _ _ _ _ ?_)
    refine wpAny_newFunctionEnv_cells S.kind kinds fun e1 he1 s1 inC => ?_
    subst he1
    refine ⟨NL.keeps inC.toInCall.keep, codeAny_func ?_⟩
    let X := cxOf (L2.CX P w) P w K mg base N qual sc fa cdv A outer s H E
    have tk : Takes X (fun cls dx _ H' => E cls dx H') := takes_of rfl rfl rfl rfl
    have am : AmbS X k := ⟨⟨room.deeper _, gd, rfl, S.nd, blt⟩, fun _ => rfl, passes_of rfl⟩
    have body := sSs (fr := f.fresh) tl bo am tk hok pr
    have I : Inv X [] (start N vs) H s1 := inv_start S room.hd env0 hl rel inC
    refine wpAny_mono (body.run [] s1 (start N vs) H _ I (body_ok r h)) (fun fl s' hs => ?_) fun e s' hs => hs
    have out : ∀ {τ : L2.St} {H' : Hp} {v : V} {u : Value}, Inv X [] τ H' s' → RelV v u → Q v H' → CE outer P w H s Q u s' := fun {τ H' v u} J a b => ⟨v, H', J.os, J.bare, J.base, J.hok, a, b⟩
    match fl, hs with
    | .ret u, ⟨v, τ, H', J, a, b⟩ => exact out J a b
    | .next, ⟨τ, H', J, b⟩ => exact out (v := V.non) (u := Value.none) J rfl b
    | .brk, ⟨_, _, _, b⟩ => exact b.elim
    | .cont, ⟨_, _, _, b⟩ => exact b.elim
/-- a def that may be called by its name -/
theorem snd_of {k : Nat} {fa : Addr} {x : Str} {st : Stmt} {dvs : List V} {fd : FuncData} {N ps : List Str} {f : Fn} {tl : TL} {ds : List Value} {dws : List V} {dfl : List D}
    (F : FunD K x x (defArgs st) (defBody st) (defScope st) dvs [] fa fd) (hx : mg f.name = some (.ref fa)) (S : FnScope N ps (defScope st)) (hb : Binds K fd ps ds) (hd : Vals dws ds) (hr : Rps K (fun _ => none) dws dfl) (hlv : f.lvl = k + 1) (hm : f.many + dfl.length = ps.length)
    (hrun : ∀ es as, f.run es as = runDef N.length f.lend f.fresh tl es (as ++ dfl)) (hok : okS N k f.fresh tl (defScope st) (defBody st) = true) (pr : prS ⟨FnSnd P w K mg base, Glo K mg⟩ tl) (blt : ∀ x ∈ bltWords, mg x = none) : FnSnd P w K mg base f := by
  obtain ⟨oc, od, dV, kV, doc, pm, an, cdv, ct, osl, rfl, lk, hcd, _, _⟩ := F.ex
  refine ⟨⟨{ f with many := ps.length, run := runDef N.length f.lend f.fresh tl }, fa, _, ps, ds, dws, dfl, hx, F.kp, ?_, hb, hd, hr, hrun, rfl, rfl, hm⟩⟩
  rw [hlv]
  exact fnG_of (f := { f with many := ps.length, run := runDef N.length f.lend f.fresh tl }) lk hcd S rfl rfl hok pr blt
end
end SG
/-! Sg15: the law's own call. -/
namespace SG
open PySem PySem.Spec L2 PyProof.Rows RZ

abbrev Wanted (s₁ : Shared) (r : Result) (s' : Shared) : Prop := r = .ok (.ret (.bool true)) ∧ OldK s₁.heap s'.heap ∧ s'.os = s₁.os ∧ AllBare s'.gens
section
variable {P : Program} {w : World} {K : PySem.W.Frag} {mg mb : Str → Option Value} {f : Fn} {fa a : Addr} {s₁ : Shared} {vs : List Value} {ns : List Int}
theorem ints_rps {G : Hp} : ∀ ns : List Int, Rps K G (ns.map V.int) (ns.map D.int)
  | [] => .nil
  | n :: r => .cons (.int n) (ints_rps r)
abbrev scr (vs : List Value) : Obj := { cls := .type "list", data := .seq vs.toArray }
theorem top_core {H : Hp} (KX : K.In s₁.heap) (hns : s₁.heap.Ns mainGlobals mg) (hb : s₁.heap.Ns builtinsNs mb) (hbb : ∀ x : Str, x ≠ "__name__" → mb x = bootBuiltins x) (hlim : s₁.heap.NoLimit) (hg : s₁.gens = #[])
    (ha : s₁.heap.get? a = some (scr vs)) (room : Room f.lvl callerA) (gd : callerA.guards = some []) (hname : mg f.name = some (.ref fa)) (F : ∀ base : Heap, FnSnd P w K mg base f) (h1 : f.lend = false) (h2 : f.fresh = false) (h3 : f.many = 1)
    (hrun : ∃ zs, f.run [] [.lst (ns.map D.int)] = some (.ok (.bl true), zs)) (hS : SqL K H a (ns.map V.int)) (hok : HOk P w H s₁.heap) (only : ∀ b o, H b = some o → b = a ∧ K.lookup a = none ∧ ∃ ob xs, o = .frz ob (.lst xs)) :
    codeAny (model P w) callerA (.call (.ref fa) ⟨[.ref a], []⟩) (Wanted s₁) s₁ := by
  -- what is not tracked stands in the base
  have stay : ∀ {b : Addr} {o : Obj}, s₁.heap.get? b = some o → H b = none → (hidT s₁.heap H).get? b = some o := fun p q => hidT_get p q
  have dictFree : ∀ {b : Addr} {o : Obj} {es : Array DictEntry} {ep : Nat}, s₁.heap.get? b = some o → o.data = .dict es ep → H b = none := by
    intro b o es ep p q
    cases e : H b with
    | none => rfl
    | some u =>
      obtain ⟨rfl, _, _⟩ := only b u e
      rw [ha] at p
      cases p
      cases (show Data.seq vs.toArray _ = Data.dict es ep from q)
  have space : ∀ {b : Addr} {m : Str → Option Value}, s₁.heap.Ns b m → (hidT s₁.heap H).Ns b m := by
    rintro b m ⟨o, es, ep, p, q, r⟩
    exact ⟨o, es, ep, stay p (dictFree p q), q, r⟩
  have kb : K.In (hidT s₁.heap H) := by
    intro b o p
    refine stay (KX b o p) ?_
    cases e : H b with
    | none => rfl
    | some u =>
      obtain ⟨rfl, z, _⟩ := only b u e
      rw [z] at p
      cases p
  have limit : (hidT s₁.heap H).NoLimit := by
    obtain ⟨mc, p, q⟩ := hlim
    exact ⟨mc, space p, q⟩
  have env0 : Env0 P w K mg (hidT s₁.heap H) callerA [] s₁ H :=
    ⟨rfl, ⟨kb, space hns, ⟨mb, space hb, hbb⟩, limit⟩, fun b o p => of_hidT p, Nat.le_of_eq (hidT_size _ _), trivial, (by intro b z; cases z), hok, .of_eq hg⟩
  obtain ⟨g, fa', fd, ps, ds, dvs, dfl, e1, e2, G, bi, vd, rd, er, el, ef, em⟩ := (F (hidT s₁.heap H)).ex
  rw [hname] at e1
  cases e1
  obtain ⟨zs, hrun⟩ := hrun
  have sp : spFn K mg g ([V.ref a] ++ dvs) H (fun v _ => v = .bl true) fun _ _ _ => False := by
    refine ⟨H, [], [.lst (ns.map D.int)] ++ dfl, ?_, ?_, ?_⟩
    · rw [← el, h1, argS_no]
      exact Rl.args (Sub.refl H) (.cons (.lst hS (ints_rps ns)) (rd.mono fun _ _ z => by cases z))
    · rw [← el, h1, argS_no, List.length_map, List.length_append, ← em, h3]
      rfl
    · rw [← er, hrun]
      intro v G' H' p r ret
      rw [← ef, h2] at ret
      cases (show Rp K G' v (.bl true) from ret)
      rfl
  have ll := G.len _ _ _ _ sp
  have val : Vals ([V.ref a] ++ dvs) ([Value.ref a] ++ ds) := Vals.append (.cons rfl .nil) vd
  have run := G.go callerA [] s₁ H ⟨[.ref a], []⟩ ([Value.ref a] ++ ds) _ _ _ room gd env0 (bi s₁ [.ref a] KX (by rw [← val.length]; exact ll)) val sp
  refine codeAny_mono run fun r s' h => ?_
  match r, h with
  | .error e, h =>
    obtain ⟨_, _, _, _, _, _, _, _, _, _, _, _, z⟩ := h
    exact z.elim
  | .ok .next, h => exact h.elim
  | .ok .brk, h => exact h.elim
  | .ok .cont, h => exact h.elim
  | .ok (.ret u), h =>
    obtain ⟨v, H', os, bare, un, hok', rel, q⟩ := h
    cases (show v = V.bl true from q)
    cases (show u = Value.bool true from rel)
    refine ⟨rfl, OldK.of_keep fun b o p => ?_, os, bare⟩
    cases e : H b with
    | none => exact un.keep b o p e (by intro z; cases z) (by intro z; cases z)
    | some t =>
      obtain ⟨_, _, ob, xs, rfl⟩ := only b t e
      have later := (hok' b _ (un.frzs b ob _ e)).1
      have now := (hok b _ e).1
      rw [p] at now
      cases now
      exact later
theorem top_call (KX : K.In s₁.heap) (hns : s₁.heap.Ns mainGlobals mg) (hb : s₁.heap.Ns builtinsNs mb) (hbb : ∀ x : Str, x ≠ "__name__" → mb x = bootBuiltins x) (hlim : s₁.heap.NoLimit) (hg : s₁.gens = #[])
    (ha : s₁.heap.get? a = some (scr vs)) (hi : IntsAre vs ns) (hl : ns.length ≤ sizeLine) (room : Room f.lvl callerA) (gd : callerA.guards = some []) (hname : mg f.name = some (.ref fa)) (F : ∀ base : Heap, FnSnd P w K mg base f)
    (h1 : f.lend = false) (h2 : f.fresh = false) (h3 : f.many = 1) (hrun : ∃ zs, f.run [] [.lst (ns.map D.int)] = some (.ok (.bl true), zs)) : codeAny (model P w) callerA (.call (.ref fa) ⟨[.ref a], []⟩) (Wanted s₁) s₁ := by
  have rv := vals_ints hi
  have lv := hi.length
  cases hk : K.lookup a with
  | some o =>
    have e := KX a o hk
    rw [ha] at e
    cases e
    have hS : SqL K (fun _ => none) a (ns.map V.int) := .inr ⟨_, vs.toArray, _, hk, rfl, rfl, rfl, by rw [List.size_toArray, lv]; exact hl, by simpa using rv⟩
    exact top_core KX hns hb hbb hlim hg ha room gd hname F h1 h2 h3 hrun hS (fun b u z => by cases z) fun b u z => by cases z
  | none =>
    have hH : ∀ b u, (if b = a then some (HO.frz (scr vs) (.lst (ns.map V.int))) else none) = some u → b = a ∧ u = HO.frz (scr vs) (.lst (ns.map V.int)) := fun b u z => by
      split at z
      · rename_i q
        cases z
        exact ⟨q, rfl⟩
      · cases z
    refine top_core (H := fun b => if b = a then some (HO.frz (scr vs) (.lst (ns.map V.int))) else none) KX hns hb hbb hlim hg ha room gd hname F h1 h2 h3 hrun (.inl (.inr ⟨scr vs, if_pos rfl⟩)) (fun b u z => ?_) fun b u z => ?_
    · obtain ⟨rfl, rfl⟩ := hH b u z
      exact ⟨ha, by rw [List.length_map]; exact hl, vs, _, rv, ha⟩
    · obtain ⟨rfl, rfl⟩ := hH b u z
      exact ⟨rfl, hk, _, _, rfl⟩
end
end SG
/-! Sg16: defs as they stand behind the top. -/
namespace SG
open PySem PySem.Spec L2 PyProof.Rows RZ

/-- a def under its name, its defaults dfl -/
def DefAt (K : PySem.W.Frag) (mg : Str → Option Value) (x : Str) (st : Stmt) (dfl : List D) : Prop :=
  ∃ (fa : Addr) (fd : FuncData) (dvs : List V), FunD K x x (defArgs st) (defBody st) (defScope st) dvs [] fa fd ∧ mg x = some (.ref fa) ∧ Rps K (fun _ => none) dvs dfl
section
variable {P : Program} {w : World} {K : PySem.W.Frag} {mg : Str → Option Value} {base : Heap} {x : Str} {st : Stmt} {N ps : List Str} {k many : Nat} {lend fresh : Bool} {tl : TL} {n : Nat}
theorem rps_nil {G : Hp} {vs : List V} (h : Rps K G vs []) : vs = [] := by cases h; rfl
theorem snd0 (A : DefAt K mg x st []) (sc : C8.scC N ps (defScope st) = true)
    (hb : ∀ (kV doc pm : Value) (an : Option Addr) (cdv ct : Value) (us : List Value), us.length = ps.length → bindArgs (PySem.W.fnOf x x (defArgs st) (defBody st) (defScope st) .none kV doc pm an cdv ct) ⟨us, []⟩ = pure (ps.zip us))
    (hok : okS N k fresh tl (defScope st) (defBody st) = true) (pr : prS ⟨FnSnd P w K mg base, Glo K mg⟩ tl) (blt : ∀ x ∈ bltWords, mg x = none) : FnSnd P w K mg base ⟨x, k + 1, lend, fresh, ps.length, runDef N.length lend fresh tl⟩ := by
  obtain ⟨fa, fd, dvs, F, hx, hr⟩ := A
  have e := rps_nil hr
  subst e
  exact snd_of (f := ⟨x, k + 1, lend, fresh, ps.length, runDef N.length lend fresh tl⟩) F hx (C8.fnScope_by sc) (F.bindsN hb) .nil .nil rfl rfl (fun es as => by rw [List.append_nil]) hok pr blt
theorem sndD (n j : Nat) {dfl : List D} (A : DefAt K mg x st dfl) (sc : C8.scC N ps (defScope st) = true) (hne : dfl ≠ []) (hn : n + (dfl.length - j) = ps.length)
    (hb : ∀ (T : Addr) (kV doc pm : Value) (an : Option Addr) (cdv ct : Value) (us its : List Value), us.length = n → its.length = dfl.length →
      ∃ k, bindArgs (PySem.W.fnOf x x (defArgs st) (defBody st) (defScope st) (.ref T) kV doc pm an cdv ct) ⟨us, []⟩ = seqItems? (.ref T) >>= k ∧ k (some its.toArray) = pure (ps.zip (us ++ its.drop j)))
    (hok : okS N k fresh tl (defScope st) (defBody st) = true) (pr : prS ⟨FnSnd P w K mg base, Glo K mg⟩ tl) (blt : ∀ x ∈ bltWords, mg x = none) : FnSnd P w K mg base ⟨x, k + 1, lend, fresh, n, fun es as => runDef N.length lend fresh tl es (as ++ dfl.drop j)⟩ := by
  obtain ⟨fa, fd, dvs, F, hx, hr⟩ := A
  have hl := hr.length
  have hd : dvs ≠ [] := fun z => by
    subst z
    exact hne (List.length_eq_zero_iff.mp hl.symm)
  obtain ⟨ds, r1, r2⟩ := F.binds1 (ps := ps) n j hd (by rw [hl]; exact hn) fun T kV doc pm an cdv ct us its h1 h2 => hb T kV doc pm an cdv ct us its h1 (by rw [h2, hl])
  exact snd_of (f := ⟨x, k + 1, lend, fresh, n, fun es as => runDef N.length lend fresh tl es (as ++ dfl.drop j)⟩) F hx (C8.fnScope_by sc) r2 r1 (hr.drop j) rfl (by rw [List.length_drop]; exact hn) (fun es as => rfl) hok pr blt
theorem defAt {h : Heap} {fa : Addr} {oc dc kV pm cd ct : Value} {od an : Option Addr} {sl : Array (Option Value)} (X : K.In h) (G : h.Ns mainGlobals mg) (a : PySem.W.nsIn K mainGlobals x = some (some (.ref fa)))
    (l : K.lookup fa = some ⟨oc, od, .func (PySem.W.fnOf x x (defArgs st) (defBody st) (defScope st) .none kV dc pm an cd ct), sl⟩) (c : PySem.W.codeIn K cd x = true) (k : PySem.W.keepIn K (.ref fa) = true) : DefAt K mg x st [] :=
  ⟨fa, _, [], ⟨⟨oc, od, .none, kV, dc, pm, an, cd, ct, sl, rfl, l, c, .inl ⟨rfl, rfl⟩, .inl rfl⟩, k⟩, PySem.W.mg_of X G a, .nil⟩
/-- its defaults: the tuple at T -/
theorem defAtD {h : Heap} {fa Td : Addr} {oc dc kV pm cd ct : Value} {od an : Option Addr} {sl : Array (Option Value)} {o : Obj} {its : List Value} {m : Nat} {dvs : List V} {dfl : List D} (X : K.In h) (G : h.Ns mainGlobals mg) (a : PySem.W.nsIn K mainGlobals x = some (some (.ref fa)))
    (l : K.lookup fa = some ⟨oc, od, .func (PySem.W.fnOf x x (defArgs st) (defBody st) (defScope st) (.ref Td) kV dc pm an cd ct), sl⟩) (c : PySem.W.codeIn K cd x = true) (k : PySem.W.keepIn K (.ref fa) = true)
    (t : K.lookup Td = some o) (ho : o.data = .seq its.toArray m) (v : Vals dvs its) (r : Rps K (fun _ => none) dvs dfl) (hne : dvs ≠ []) : DefAt K mg x st dfl :=
  ⟨fa, _, dvs, ⟨⟨oc, od, .ref Td, kV, dc, pm, an, cd, ct, sl, rfl, l, c, .inr ⟨hne, Td, o, its, m, rfl, t, ho, v⟩, .inl rfl⟩, k⟩, PySem.W.mg_of X G a, r⟩
/-- ints as defaults, or as a constant tuple -/
theorem vals_is : ∀ {l : List (Int × Tok)}, Vals (l.map fun p => V.int p.1) (l.map fun p => Value.int p.1 p.2)
  | [] => .nil
  | (i, t) :: l => .cons ⟨t, rfl⟩ vals_is
theorem rps_is {G : Hp} : ∀ {l : List (Int × Tok)}, Rps K G (l.map fun p => V.int p.1) (l.map fun p => D.int p.1)
  | [] => .nil
  | (i, t) :: l => .cons (.int i) rps_is
theorem gloInt {i : Int} {t : Tok} (h : mg x = some (.int i t)) : Glo K mg x (.int i) := ⟨.int i, _, h, ⟨t, rfl⟩, .int i⟩
theorem gloLit {h : Heap} {v : Value} {i : Int} {as : List Addr} (e : mg x = some v) (r : PySem.W.ReadsLit h v (.int i) as) : Glo K mg x (.int i) := by
  cases r
  exact gloInt e
/-- a constant pair of ints -/
theorem gloTup {h : Heap} {a : Addr} {o : Obj} {l : List (Int × Tok)} {m : Nat} (X : K.In h) (G : h.Ns mainGlobals mg) (e : PySem.W.nsIn K mainGlobals x = some (some (.ref a))) (t : K.lookup a = some o) (ho : o.data = .seq (l.map fun p => Value.int p.1 p.2).toArray m) (hc : o.cls = .type "tuple")
    (hl : l.length ≤ sizeLine) : Glo K mg x (.tup (l.map fun p => D.int p.1)) := by
  refine ⟨.ref a, _, PySem.W.mg_of X G e, rfl, .tup (.inr ⟨o, _, m, t, hc, ho, ?_, ?_⟩) rps_is⟩
  · simpa using hl
  · simpa using vals_is
end
end SG
namespace B
open PySem PySem.Spec L2 SG
def c_NOUGHT : D := .tup [.int 0, .int 1]
def c_ONE : D := .tup [.int 1, .int 1]
def c_MAX_WIDTH : D := .int 144
def c_SUM : D := .str "sum"
def c_APART : D := .str "apart"
def c_NUMBERS : D := .str "numbers"
def c_WEIGHING : D := .str "weighing"
def c_NOUGHT_WORD : D := .str "nought"
def c_INVERSE : D := .str "inverse"
def c_MOST_PASSED : D := .int 10000000000000000000000000000000000000000
/-- is_integer: slots value 0 -/
def p_is_integer : TL := .cons (.ret (.and (.isi (.var 0) "int") (.not (.isi (.var 0) "bool")))) .nil
def f_is_integer : Fn := ⟨"is_integer", 1, false, false, 1, runDef 1 false false p_is_integer⟩
theorem fr_is_integer : f_is_integer.run = runDef 1 false false p_is_integer := by simp only [f_is_integer]
theorem fl_is_integer : f_is_integer.fresh = false ∧ f_is_integer.lend = false ∧ f_is_integer.many = 1 := ⟨rfl, rfl, rfl⟩
/-- common_divisor: slots one 0, other 1 -/
def p_common_divisor : TL := .cons (.par2 0 1 (.e (.b1 .abs (.var 0))) (.e (.b1 .abs (.var 1)))) (.cons (.whl (.cmp .gt (.var 1) (.cst (.int 0))) (mInt 1) (.cons (.par2 0 1 (.e (.var 1)) (.e (.bin .mod (.var 0) (.var 1)))) .nil)) (.cons (.ret (.var 0)) .nil))
def f_common_divisor : Fn := ⟨"common_divisor", 1, false, false, 2, runDef 2 false false p_common_divisor⟩
theorem fr_common_divisor : f_common_divisor.run = runDef 2 false false p_common_divisor := by simp only [f_common_divisor]
theorem fl_common_divisor : f_common_divisor.fresh = false ∧ f_common_divisor.lend = false ∧ f_common_divisor.many = 2 := ⟨rfl, rfl, rfl⟩
/-- is_number: slots value 0, one 1 -/
def p_is_number : TL := .cons (.ife (.or (.not (.isi (.var 0) "tuple")) (.or (.cmp .ne (.b1 .len (.var 0)) (.cst (.int 2))) (.not (.b1 .all (.fr (.comp (.nm 1) (.seqA (.var 0)) .no (.call f_is_integer (.cons (.var 1) .nil)))))))) (.cons (.ret (.cst (.bl false))) .nil) (.nil)) (.cons (.ret (.and (.cmp .ge (.ix (.var 0) (.cst (.int 1))) (.cst (.int 1))) (.cmp .eq (.call f_common_divisor (.cons (.ix (.var 0) (.cst (.int 0))) (.cons (.ix (.var 0) (.cst (.int 1))) .nil))) (.cst (.int 1))))) .nil)
def f_is_number : Fn := ⟨"is_number", 2, false, false, 1, runDef 2 false false p_is_number⟩
theorem fr_is_number : f_is_number.run = runDef 2 false false p_is_number := by simp only [f_is_number]
theorem fl_is_number : f_is_number.fresh = false ∧ f_is_number.lend = false ∧ f_is_number.many = 1 := ⟨rfl, rfl, rfl⟩
/-- require_count: slots value 0, least 1, most 2 -/
def p_require_count : TL := .cons (.ife (.or (.not (.call f_is_integer (.cons (.var 0) .nil))) (.not (.chain .le .le (.var 1) (.var 0) (.var 2)))) (.cons .nev .nil) (.nil)) .nil
def dfl_require_count : List D := [.int 0, .int 60]
def f_require_count : Fn := ⟨"require_count", 2, false, false, 3, fun es as => runDef 3 false false p_require_count es (as ++ dfl_require_count.drop 2)⟩
def f_require_count_1 : Fn := ⟨"require_count", 2, false, false, 1, fun es as => runDef 3 false false p_require_count es (as ++ dfl_require_count.drop 0)⟩
theorem fr_require_count : f_require_count.run = fun es as => runDef 3 false false p_require_count es (as ++ dfl_require_count.drop 2) := by simp only [f_require_count]
theorem fl_require_count : f_require_count.fresh = false ∧ f_require_count.lend = false ∧ f_require_count.many = 3 := ⟨rfl, rfl, rfl⟩
theorem fr_require_count_1 : f_require_count_1.run = fun es as => runDef 3 false false p_require_count es (as ++ dfl_require_count.drop 0) := by simp only [f_require_count_1]
theorem fl_require_count_1 : f_require_count_1.fresh = false ∧ f_require_count_1.lend = false ∧ f_require_count_1.many = 1 := ⟨rfl, rfl, rfl⟩
/-- is_plain_row: slots width 0, value 1, one 2 -/
def p_is_plain_row : TL := .cons (.ret (.and (.isi (.var 1) "tuple") (.and (.cmp .eq (.b1 .len (.var 1)) (.var 0)) (.b1 .all (.fr (.comp (.nm 2) (.seqA (.var 1)) .no (.call f_is_number (.cons (.var 2) .nil)))))))) .nil
def f_is_plain_row : Fn := ⟨"is_plain_row", 3, false, false, 2, runDef 3 false false p_is_plain_row⟩
theorem fr_is_plain_row : f_is_plain_row.run = runDef 3 false false p_is_plain_row := by simp only [f_is_plain_row]
theorem fl_is_plain_row : f_is_plain_row.fresh = false ∧ f_is_plain_row.lend = false ∧ f_is_plain_row.many = 2 := ⟨rfl, rfl, rfl⟩
/-- is_plain_table: slots height 0, width 1, value 2, row 3 -/
def p_is_plain_table : TL := .cons (.ret (.and (.isi (.var 2) "tuple") (.and (.cmp .eq (.b1 .len (.var 2)) (.var 0)) (.b1 .all (.fr (.comp (.nm 3) (.seqA (.var 2)) .no (.call f_is_plain_row (.cons (.var 1) (.cons (.var 3) .nil))))))))) .nil
def f_is_plain_table : Fn := ⟨"is_plain_table", 4, false, false, 3, runDef 4 false false p_is_plain_table⟩
theorem fr_is_plain_table : f_is_plain_table.run = runDef 4 false false p_is_plain_table := by simp only [f_is_plain_table]
theorem fl_is_plain_table : f_is_plain_table.fresh = false ∧ f_is_plain_table.lend = false ∧ f_is_plain_table.many = 3 := ⟨rfl, rfl, rfl⟩
/-- first_index: slots row 0, index 1, one 2 -/
def p_first_index : TL := .cons (.forr (.two 1 2) (.enmA (.var 0)) (.cons (.ife (.cmp .ne (.var 2) (.glb "NOUGHT" c_NOUGHT)) (.cons (.ret (.var 1)) .nil) (.nil)) .nil)) (.cons (.ret (.cst .non)) .nil)
def f_first_index : Fn := ⟨"first_index", 1, false, false, 1, runDef 3 false false p_first_index⟩
theorem fr_first_index : f_first_index.run = runDef 3 false false p_first_index := by simp only [f_first_index]
theorem fl_first_index : f_first_index.fresh = false ∧ f_first_index.lend = false ∧ f_first_index.many = 1 := ⟨rfl, rfl, rfl⟩
/-- is_plain_lot: slots width 0, value 1, ahead 2, place 3, row 4, index 5, at 6, other 7 -/
def p_is_plain_lot : TL := .cons (.ife (.or (.not (.isi (.var 1) "tuple")) (.not (.b1 .all (.fr (.comp (.nm 4) (.seqA (.var 1)) .no (.call f_is_plain_row (.cons (.var 0) (.cons (.var 4) .nil)))))))) (.cons (.ret (.cst (.bl false))) .nil) (.nil)) (.cons (.asg 2 (.e (.neg (.cst (.int 1))))) (.cons (.forr (.two 3 4) (.enmA (.var 1)) (.cons (.asg 5 (.e (.call f_first_index (.cons (.var 4) .nil)))) (.cons (.ife (.or (.cmp .isn (.var 5) (.cst .non)) (.or (.cmp .le (.var 5) (.var 2)) (.cmp .ne (.ix (.var 4) (.var 5)) (.glb "ONE" c_ONE)))) (.cons (.ret (.cst (.bl false))) .nil) (.nil)) (.cons (.ife (.b1 .any (.fr (.comp (.two 6 7) (.enmA (.var 1)) (.yes (.cmp .ne (.var 6) (.var 3))) (.cmp .ne (.ix (.var 7) (.var 5)) (.glb "NOUGHT" c_NOUGHT))))) (.cons (.ret (.cst (.bl false))) .nil) (.nil)) (.cons (.asg 2 (.e (.var 5))) .nil))))) (.cons (.ret (.cst (.bl true))) .nil)))
def f_is_plain_lot : Fn := ⟨"is_plain_lot", 4, false, false, 2, runDef 8 false false p_is_plain_lot⟩
theorem fr_is_plain_lot : f_is_plain_lot.run = runDef 8 false false p_is_plain_lot := by simp only [f_is_plain_lot]
theorem fl_is_plain_lot : f_is_plain_lot.fresh = false ∧ f_is_plain_lot.lend = false ∧ f_is_plain_lot.many = 2 := ⟨rfl, rfl, rfl⟩
/-- require_width: slots width 0 -/
def p_require_width : TL := .cons (.drop (.call f_require_count (.cons (.var 0) (.cons (.cst (.int 0)) (.cons (.glb "MAX_WIDTH" c_MAX_WIDTH) .nil))))) .nil
def f_require_width : Fn := ⟨"require_width", 3, false, false, 1, runDef 1 false false p_require_width⟩
theorem fr_require_width : f_require_width.run = runDef 1 false false p_require_width := by simp only [f_require_width]
theorem fl_require_width : f_require_width.fresh = false ∧ f_require_width.lend = false ∧ f_require_width.many = 1 := ⟨rfl, rfl, rfl⟩
/-- is_row: slots width 0, value 1 -/
def p_is_row : TL := .cons (.drop (.call f_require_width (.cons (.var 0) .nil))) (.cons (.ret (.call f_is_plain_row (.cons (.var 0) (.cons (.var 1) .nil)))) .nil)
def f_is_row : Fn := ⟨"is_row", 4, false, false, 2, runDef 2 false false p_is_row⟩
theorem fr_is_row : f_is_row.run = runDef 2 false false p_is_row := by simp only [f_is_row]
theorem fl_is_row : f_is_row.fresh = false ∧ f_is_row.lend = false ∧ f_is_row.many = 2 := ⟨rfl, rfl, rfl⟩
/-- is_table: slots height 0, width 1, value 2 -/
def p_is_table : TL := .cons (.drop (.call f_require_width (.cons (.var 0) .nil))) (.cons (.drop (.call f_require_width (.cons (.var 1) .nil))) (.cons (.ret (.call f_is_plain_table (.cons (.var 0) (.cons (.var 1) (.cons (.var 2) .nil))))) .nil))
def f_is_table : Fn := ⟨"is_table", 5, false, false, 3, runDef 3 false false p_is_table⟩
theorem fr_is_table : f_is_table.run = runDef 3 false false p_is_table := by simp only [f_is_table]
theorem fl_is_table : f_is_table.fresh = false ∧ f_is_table.lend = false ∧ f_is_table.many = 3 := ⟨rfl, rfl, rfl⟩
/-- is_lot: slots width 0, value 1 -/
def p_is_lot : TL := .cons (.drop (.call f_require_width (.cons (.var 0) .nil))) (.cons (.ret (.call f_is_plain_lot (.cons (.var 0) (.cons (.var 1) .nil)))) .nil)
def f_is_lot : Fn := ⟨"is_lot", 5, false, false, 2, runDef 2 false false p_is_lot⟩
theorem fr_is_lot : f_is_lot.run = runDef 2 false false p_is_lot := by simp only [f_is_lot]
theorem fl_is_lot : f_is_lot.fresh = false ∧ f_is_lot.lend = false ∧ f_is_lot.many = 2 := ⟨rfl, rfl, rfl⟩
/-- _law_dice: slots script 0, spot 1, cell 2, great 3, seed 4 -/
def p_law_dice : TL := .cons (.asg 2 (.e (.ite (.cmp .lt (.var 1) (.b1 .len (.var 0))) (.b1 .int (.ix (.var 0) (.var 1))) (.bin .add (.bin .mul (.cst (.int 131)) (.var 1)) (.cst (.int 37)))))) (.cons (.asg 3 (.e (.bin .mod (.b1 .int (.b1 .abs (.var 2))) (.bin .pow (.bin .pow (.cst (.int 10)) (.cst (.int 53))) (.cst (.int 6)))))) (.cons (.asg 4 (.e (.bin .add (.bin .add (.bin .add (.bin .mul (.bin .mod (.var 3) (.cst (.int 2305843009213693907))) (.cst (.int 73))) (.bin .mul (.cst (.int 619)) (.var 1))) (.bin .mul (.cst (.int 41)) (.b1 .int (.cmp .lt (.var 2) (.cst (.int 0)))))) (.cst (.int 17))))) (.cons (.retF (.disp (.cons (.max2 (.cst (.int 0)) (.bin .sub (.var 3) (.bin .pow (.cst (.int 10)) (.cst (.int 16))))) (.cons (.var 4) (.cons (.cst (.int 0)) .nil))))) .nil)))
def f_law_dice : Fn := ⟨"_law_dice", 1, false, true, 2, runDef 5 false true p_law_dice⟩
theorem fr_law_dice : f_law_dice.run = runDef 5 false true p_law_dice := by simp only [f_law_dice]
theorem fl_law_dice : f_law_dice.fresh = true ∧ f_law_dice.lend = false ∧ f_law_dice.many = 2 := ⟨rfl, rfl, rfl⟩
/-- _law_roll: slots dice 0, total 1, one 2, two 3, found 4 -/
def p_law_roll : TL := .cons (.ife (.cmp .gt (.ix (.var 0) (.cst (.int 0))) (.cst (.int 0))) (.cons (.asg 4 (.e (.bin .mod (.ix (.var 0) (.cst (.int 0))) (.var 1)))) (.cons (.setI 0 (.cst (.int 0)) (.bin .fdiv (.ix (.var 0) (.cst (.int 0))) (.var 1))) (.cons (.ret (.b1 .int (.var 4))) .nil))) (.nil)) (.cons (.setI 0 (.cst (.int 2)) (.bin .add (.ix (.var 0) (.cst (.int 2))) (.cst (.int 1)))) (.cons (.asg 2 (.e (.bin .mod (.bin .add (.ix (.var 0) (.cst (.int 1))) (.bin .mul (.cst (.int 49979687)) (.ix (.var 0) (.cst (.int 2))))) (.cst (.int 2305843009213693951))))) (.cons (.asg 3 (.e (.bin .add (.bin .mul (.bin .mod (.bin .add (.bin .mul (.var 2) (.var 2)) (.bin .mul (.cst (.int 131)) (.ix (.var 0) (.cst (.int 2))))) (.cst (.int 2305843009213693921))) (.cst (.int 32452843))) (.var 2)))) (.cons (.ret (.bin .mod (.b1 .int (.bin .fdiv (.var 3) (.cst (.int 65587)))) (.var 1))) .nil))))
def f_law_roll : Fn := ⟨"_law_roll", 1, true, false, 2, runDef 5 true false p_law_roll⟩
theorem fr_law_roll : f_law_roll.run = runDef 5 true false p_law_roll := by simp only [f_law_roll]
theorem fl_law_roll : f_law_roll.fresh = false ∧ f_law_roll.lend = true ∧ f_law_roll.many = 2 := ⟨rfl, rfl, rfl⟩
/-- _law_pick: slots dice 0, items 1 -/
def p_law_pick : TL := .cons (.ret (.ix (.var 1) (.call f_law_roll (.cons (.var 0) (.cons (.b1 .len (.var 1)) .nil))))) .nil
def f_law_pick : Fn := ⟨"_law_pick", 2, true, false, 2, runDef 2 true false p_law_pick⟩
theorem fr_law_pick : f_law_pick.run = runDef 2 true false p_law_pick := by simp only [f_law_pick]
theorem fl_law_pick : f_law_pick.fresh = false ∧ f_law_pick.lend = true ∧ f_law_pick.many = 2 := ⟨rfl, rfl, rfl⟩
/-- _law_fr: slots top 0, bottom 1, sign 2, one 3, other 4 -/
def p_law_fr : TL := .cons (.par2 3 4 (.e (.b1 .abs (.var 0))) (.e (.b1 .abs (.var 1)))) (.cons (.whl (.cmp .gt (.var 4) (.cst (.int 0))) (mInt 4) (.cons (.par2 3 4 (.e (.var 4)) (.e (.bin .mod (.var 3) (.var 4)))) .nil)) (.cons (.asg 2 (.e (.ite (.cmp .lt (.var 1) (.cst (.int 0))) (.neg (.cst (.int 1))) (.cst (.int 1))))) (.cons (.ret (.tup (.cons (.bin .fdiv (.bin .mul (.var 2) (.var 0)) (.var 3)) (.cons (.bin .fdiv (.bin .mul (.var 2) (.var 1)) (.var 3)) .nil)))) .nil)))
def f_law_fr : Fn := ⟨"_law_fr", 1, false, false, 2, runDef 5 false false p_law_fr⟩
theorem fr_law_fr : f_law_fr.run = runDef 5 false false p_law_fr := by simp only [f_law_fr]
theorem fl_law_fr : f_law_fr.fresh = false ∧ f_law_fr.lend = false ∧ f_law_fr.many = 2 := ⟨rfl, rfl, rfl⟩
/-- _law_plus: slots one 0, other 1 -/
def p_law_plus : TL := .cons (.ret (.call f_law_fr (.cons (.bin .add (.bin .mul (.ix (.var 0) (.cst (.int 0))) (.ix (.var 1) (.cst (.int 1)))) (.bin .mul (.ix (.var 1) (.cst (.int 0))) (.ix (.var 0) (.cst (.int 1))))) (.cons (.bin .mul (.ix (.var 0) (.cst (.int 1))) (.ix (.var 1) (.cst (.int 1)))) .nil)))) .nil
def f_law_plus : Fn := ⟨"_law_plus", 2, false, false, 2, runDef 2 false false p_law_plus⟩
theorem fr_law_plus : f_law_plus.run = runDef 2 false false p_law_plus := by simp only [f_law_plus]
theorem fl_law_plus : f_law_plus.fresh = false ∧ f_law_plus.lend = false ∧ f_law_plus.many = 2 := ⟨rfl, rfl, rfl⟩
/-- _law_times: slots one 0, other 1 -/
def p_law_times : TL := .cons (.ret (.call f_law_fr (.cons (.bin .mul (.ix (.var 0) (.cst (.int 0))) (.ix (.var 1) (.cst (.int 0)))) (.cons (.bin .mul (.ix (.var 0) (.cst (.int 1))) (.ix (.var 1) (.cst (.int 1)))) .nil)))) .nil
def f_law_times : Fn := ⟨"_law_times", 2, false, false, 2, runDef 2 false false p_law_times⟩
theorem fr_law_times : f_law_times.run = runDef 2 false false p_law_times := by simp only [f_law_times]
theorem fl_law_times : f_law_times.fresh = false ∧ f_law_times.lend = false ∧ f_law_times.many = 2 := ⟨rfl, rfl, rfl⟩
/-- _law_minus: slots one 0, other 1 -/
def p_law_minus : TL := .cons (.ret (.call f_law_fr (.cons (.bin .sub (.bin .mul (.ix (.var 0) (.cst (.int 0))) (.ix (.var 1) (.cst (.int 1)))) (.bin .mul (.ix (.var 1) (.cst (.int 0))) (.ix (.var 0) (.cst (.int 1))))) (.cons (.bin .mul (.ix (.var 0) (.cst (.int 1))) (.ix (.var 1) (.cst (.int 1)))) .nil)))) .nil
def f_law_minus : Fn := ⟨"_law_minus", 2, false, false, 2, runDef 2 false false p_law_minus⟩
theorem fr_law_minus : f_law_minus.run = runDef 2 false false p_law_minus := by simp only [f_law_minus]
theorem fl_law_minus : f_law_minus.fresh = false ∧ f_law_minus.lend = false ∧ f_law_minus.many = 2 := ⟨rfl, rfl, rfl⟩
/-- _law_less: slots row 0, number 1, other 2, one 3, two 4 -/
def p_law_less : TL := .cons (.ife (.cmp .eq (.ix (.var 1) (.cst (.int 0))) (.cst (.int 0))) (.cons (.ret (.var 0)) .nil) (.nil)) (.cons (.ret (.b1 .tup (.fr (.comp (.two 3 4) (.zipA (.var 0) (.var 2)) .no (.call f_law_minus (.cons (.var 3) (.cons (.call f_law_times (.cons (.var 1) (.cons (.var 4) .nil))) .nil))))))) .nil)
def f_law_less : Fn := ⟨"_law_less", 3, false, false, 3, runDef 5 false false p_law_less⟩
theorem fr_law_less : f_law_less.run = runDef 5 false false p_law_less := by simp only [f_law_less]
theorem fl_law_less : f_law_less.fresh = false ∧ f_law_less.lend = false ∧ f_law_less.many = 3 := ⟨rfl, rfl, rfl⟩
/-- _law_lead: slots row 0, found 1, at 2, one 3 -/
def p_law_lead : TL := .cons (.asg 1 (.f (.comp (.two 2 3) (.enmA (.var 0)) (.yes (.cmp .ne (.ix (.var 3) (.cst (.int 0))) (.cst (.int 0)))) (.var 2)))) (.cons (.ret (.ite (.cmp .ne (.var 1) (.fr (.disp .nil))) (.ix (.var 1) (.cst (.int 0))) (.cst .non))) .nil)
def f_law_lead : Fn := ⟨"_law_lead", 1, false, false, 1, runDef 4 false false p_law_lead⟩
theorem fr_law_lead : f_law_lead.run = runDef 4 false false p_law_lead := by simp only [f_law_lead]
theorem fl_law_lead : f_law_lead.fresh = false ∧ f_law_lead.lend = false ∧ f_law_lead.many = 1 := ⟨rfl, rfl, rfl⟩
/-- _law_rest: slots lot 0, row 1, line 2 -/
def p_law_rest : TL := .cons (.forr (.nm 2) (.seqA (.var 0)) (.cons (.asg 1 (.e (.call f_law_less (.cons (.var 1) (.cons (.ix (.var 1) (.call f_law_lead (.cons (.var 2) .nil))) (.cons (.var 2) .nil)))))) .nil)) (.cons (.ret (.var 1)) .nil)
def f_law_rest : Fn := ⟨"_law_rest", 4, false, false, 2, runDef 3 false false p_law_rest⟩
theorem fr_law_rest : f_law_rest.run = runDef 3 false false p_law_rest := by simp only [f_law_rest]
theorem fl_law_rest : f_law_rest.fresh = false ∧ f_law_rest.lend = false ∧ f_law_rest.many = 2 := ⟨rfl, rfl, rfl⟩
/-- _law_with_row: slots lot 0, row 1, left 2, spot 3, rows 4, one 5, line 6, at 7 -/
def p_law_with_row : TL := .cons (.asg 2 (.e (.call f_law_rest (.cons (.var 0) (.cons (.var 1) .nil))))) (.cons (.asg 3 (.e (.call f_law_lead (.cons (.var 2) .nil)))) (.cons (.ife (.cmp .isn (.var 3) (.cst .non)) (.cons (.ret (.var 0)) .nil) (.nil)) (.cons (.asg 2 (.e (.b1 .tup (.fr (.comp (.nm 5) (.seqA (.var 2)) .no (.call f_law_times (.cons (.var 5) (.cons (.call f_law_fr (.cons (.ix (.ix (.var 2) (.var 3)) (.cst (.int 1))) (.cons (.ix (.ix (.var 2) (.var 3)) (.cst (.int 0))) .nil))) .nil)))))))) (.cons (.asg 4 (.f (.plus (.fr (.comp (.nm 6) (.seqA (.var 0)) .no (.call f_law_less (.cons (.var 6) (.cons (.ix (.var 6) (.var 3)) (.cons (.var 2) .nil)))))) (.fr (.disp (.cons (.var 2) .nil)))))) (.cons (.ret (.b1 .tup (.fr (.comp (.two 7 6) (.seqA (.fr (.sortF (.fr (.comp (.nm 6) (.seqA (.var 4)) .no (.tup (.cons (.call f_law_lead (.cons (.var 6) .nil)) (.cons (.var 6) .nil)))))))) .no (.var 6))))) .nil)))))
def f_law_with_row : Fn := ⟨"_law_with_row", 5, false, false, 2, runDef 8 false false p_law_with_row⟩
theorem fr_law_with_row : f_law_with_row.run = runDef 8 false false p_law_with_row := by simp only [f_law_with_row]
theorem fl_law_with_row : f_law_with_row.fresh = false ∧ f_law_with_row.lend = false ∧ f_law_with_row.many = 2 := ⟨rfl, rfl, rfl⟩
/-- _law_lot: slots rows 0, lot 1, row 2 -/
def p_law_lot : TL := .cons (.asg 1 (.e (.tup .nil))) (.cons (.forr (.nm 2) (.seqA (.var 0)) (.cons (.asg 1 (.e (.call f_law_with_row (.cons (.var 1) (.cons (.var 2) .nil))))) .nil)) (.cons (.ret (.var 1)) .nil))
def f_law_lot : Fn := ⟨"_law_lot", 6, false, false, 1, runDef 3 false false p_law_lot⟩
theorem fr_law_lot : f_law_lot.run = runDef 3 false false p_law_lot := by simp only [f_law_lot]
theorem fl_law_lot : f_law_lot.fresh = false ∧ f_law_lot.lend = false ∧ f_law_lot.many = 1 := ⟨rfl, rfl, rfl⟩
/-- _law_is_number: slots value 0, one 1 -/
def p_law_is_number : TL := .cons (.ife (.or (.not (.isi (.var 0) "tuple")) (.cmp .ne (.b1 .len (.var 0)) (.cst (.int 2)))) (.cons (.ret (.cst (.bl false))) .nil) (.nil)) (.cons (.ife (.cmp .ne (.fr (.comp (.nm 1) (.seqA (.var 0)) (.yes (.or (.not (.isi (.var 1) "int")) (.isi (.var 1) "bool"))) (.cst (.int 1)))) (.fr (.disp .nil))) (.cons (.ret (.cst (.bl false))) .nil) (.nil)) (.cons (.ret (.and (.cmp .ge (.ix (.var 0) (.cst (.int 1))) (.cst (.int 1))) (.cmp .eq (.call f_law_fr (.cons (.ix (.var 0) (.cst (.int 0))) (.cons (.ix (.var 0) (.cst (.int 1))) .nil))) (.var 0)))) .nil))
def f_law_is_number : Fn := ⟨"_law_is_number", 2, false, false, 1, runDef 2 false false p_law_is_number⟩
theorem fr_law_is_number : f_law_is_number.run = runDef 2 false false p_law_is_number := by simp only [f_law_is_number]
theorem fl_law_is_number : f_law_is_number.fresh = false ∧ f_law_is_number.lend = false ∧ f_law_is_number.many = 1 := ⟨rfl, rfl, rfl⟩
/-- _law_is_row: slots width 0, value 1, one 2 -/
def p_law_is_row : TL := .cons (.ret (.and (.isi (.var 1) "tuple") (.and (.cmp .eq (.b1 .len (.var 1)) (.var 0)) (.cmp .eq (.fr (.comp (.nm 2) (.seqA (.var 1)) (.yes (.not (.call f_law_is_number (.cons (.var 2) .nil)))) (.cst (.int 1)))) (.fr (.disp .nil)))))) .nil
def f_law_is_row : Fn := ⟨"_law_is_row", 3, false, false, 2, runDef 3 false false p_law_is_row⟩
theorem fr_law_is_row : f_law_is_row.run = runDef 3 false false p_law_is_row := by simp only [f_law_is_row]
theorem fl_law_is_row : f_law_is_row.fresh = false ∧ f_law_is_row.lend = false ∧ f_law_is_row.many = 2 := ⟨rfl, rfl, rfl⟩
/-- _law_is_table: slots height 0, width 1, value 2, one 3 -/
def p_law_is_table : TL := .cons (.ife (.or (.not (.isi (.var 2) "tuple")) (.cmp .ne (.b1 .len (.var 2)) (.var 0))) (.cons (.ret (.cst (.bl false))) .nil) (.nil)) (.cons (.ret (.cmp .eq (.fr (.comp (.nm 3) (.seqA (.var 2)) (.yes (.not (.call f_law_is_row (.cons (.var 1) (.cons (.var 3) .nil))))) (.cst (.int 1)))) (.fr (.disp .nil)))) .nil)
def f_law_is_table : Fn := ⟨"_law_is_table", 4, false, false, 3, runDef 4 false false p_law_is_table⟩
theorem fr_law_is_table : f_law_is_table.run = runDef 4 false false p_law_is_table := by simp only [f_law_is_table]
theorem fl_law_is_table : f_law_is_table.fresh = false ∧ f_law_is_table.lend = false ∧ f_law_is_table.many = 3 := ⟨rfl, rfl, rfl⟩
/-- _law_is_lot: slots width 0, value 1, row 2 -/
def p_law_is_lot : TL := .cons (.ife (.or (.not (.isi (.var 1) "tuple")) (.cmp .ne (.fr (.comp (.nm 2) (.seqA (.var 1)) (.yes (.not (.call f_law_is_row (.cons (.var 0) (.cons (.var 2) .nil))))) (.cst (.int 1)))) (.fr (.disp .nil)))) (.cons (.ret (.cst (.bl false))) .nil) (.nil)) (.cons (.ret (.and (.cmp .notin (.cst .non) (.fr (.comp (.nm 2) (.seqA (.var 1)) .no (.call f_law_lead (.cons (.var 2) .nil))))) (.cmp .eq (.call f_law_lot (.cons (.var 1) .nil)) (.var 1)))) .nil)
def f_law_is_lot : Fn := ⟨"_law_is_lot", 7, false, false, 2, runDef 3 false false p_law_is_lot⟩
theorem fr_law_is_lot : f_law_is_lot.run = runDef 3 false false p_law_is_lot := by simp only [f_law_is_lot]
theorem fl_law_is_lot : f_law_is_lot.fresh = false ∧ f_law_is_lot.lend = false ∧ f_law_is_lot.many = 2 := ⟨rfl, rfl, rfl⟩
/-- reduced: slots top 0, bottom 1, divisor 2 -/
def p_reduced : TL := .cons (.ife (.cmp .lt (.var 1) (.cst (.int 0))) (.cons (.par2 0 1 (.e (.bin .sub (.cst (.int 0)) (.var 0))) (.e (.bin .sub (.cst (.int 0)) (.var 1)))) .nil) (.nil)) (.cons (.asg 2 (.e (.call f_common_divisor (.cons (.var 0) (.cons (.var 1) .nil))))) (.cons (.ret (.tup (.cons (.bin .fdiv (.var 0) (.var 2)) (.cons (.bin .fdiv (.var 1) (.var 2)) .nil)))) .nil))
def f_reduced : Fn := ⟨"reduced", 2, false, false, 2, runDef 3 false false p_reduced⟩
theorem fr_reduced : f_reduced.run = runDef 3 false false p_reduced := by simp only [f_reduced]
theorem fl_reduced : f_reduced.fresh = false ∧ f_reduced.lend = false ∧ f_reduced.many = 2 := ⟨rfl, rfl, rfl⟩
/-- added: slots one 0, other 1 -/
def p_added : TL := .cons (.ife (.chain .eq .eq (.ix (.var 0) (.cst (.int 1))) (.ix (.var 1) (.cst (.int 1))) (.cst (.int 1))) (.cons (.ret (.tup (.cons (.bin .add (.ix (.var 0) (.cst (.int 0))) (.ix (.var 1) (.cst (.int 0)))) (.cons (.cst (.int 1)) .nil)))) .nil) (.nil)) (.cons (.ret (.call f_reduced (.cons (.bin .add (.bin .mul (.ix (.var 0) (.cst (.int 0))) (.ix (.var 1) (.cst (.int 1)))) (.bin .mul (.ix (.var 1) (.cst (.int 0))) (.ix (.var 0) (.cst (.int 1))))) (.cons (.bin .mul (.ix (.var 0) (.cst (.int 1))) (.ix (.var 1) (.cst (.int 1)))) .nil)))) .nil)
def f_added : Fn := ⟨"added", 3, false, false, 2, runDef 2 false false p_added⟩
theorem fr_added : f_added.run = runDef 2 false false p_added := by simp only [f_added]
theorem fl_added : f_added.fresh = false ∧ f_added.lend = false ∧ f_added.many = 2 := ⟨rfl, rfl, rfl⟩
/-- multiplied: slots one 0, other 1 -/
def p_multiplied : TL := .cons (.ife (.chain .eq .eq (.ix (.var 0) (.cst (.int 1))) (.ix (.var 1) (.cst (.int 1))) (.cst (.int 1))) (.cons (.ret (.tup (.cons (.bin .mul (.ix (.var 0) (.cst (.int 0))) (.ix (.var 1) (.cst (.int 0)))) (.cons (.cst (.int 1)) .nil)))) .nil) (.nil)) (.cons (.ret (.call f_reduced (.cons (.bin .mul (.ix (.var 0) (.cst (.int 0))) (.ix (.var 1) (.cst (.int 0)))) (.cons (.bin .mul (.ix (.var 0) (.cst (.int 1))) (.ix (.var 1) (.cst (.int 1)))) .nil)))) .nil)
def f_multiplied : Fn := ⟨"multiplied", 3, false, false, 2, runDef 2 false false p_multiplied⟩
theorem fr_multiplied : f_multiplied.run = runDef 2 false false p_multiplied := by simp only [f_multiplied]
theorem fl_multiplied : f_multiplied.fresh = false ∧ f_multiplied.lend = false ∧ f_multiplied.many = 2 := ⟨rfl, rfl, rfl⟩
/-- opposite: slots one 0 -/
def p_opposite : TL := .cons (.ret (.tup (.cons (.bin .sub (.cst (.int 0)) (.ix (.var 0) (.cst (.int 0)))) (.cons (.ix (.var 0) (.cst (.int 1))) .nil)))) .nil
def f_opposite : Fn := ⟨"opposite", 1, false, false, 1, runDef 1 false false p_opposite⟩
theorem fr_opposite : f_opposite.run = runDef 1 false false p_opposite := by simp only [f_opposite]
theorem fl_opposite : f_opposite.fresh = false ∧ f_opposite.lend = false ∧ f_opposite.many = 1 := ⟨rfl, rfl, rfl⟩
/-- divided: slots one 0, other 1 -/
def p_divided : TL := .cons (.ret (.call f_reduced (.cons (.bin .mul (.ix (.var 0) (.cst (.int 0))) (.ix (.var 1) (.cst (.int 1)))) (.cons (.bin .mul (.ix (.var 0) (.cst (.int 1))) (.ix (.var 1) (.cst (.int 0)))) .nil)))) .nil
def f_divided : Fn := ⟨"divided", 3, false, false, 2, runDef 2 false false p_divided⟩
theorem fr_divided : f_divided.run = runDef 2 false false p_divided := by simp only [f_divided]
theorem fl_divided : f_divided.fresh = false ∧ f_divided.lend = false ∧ f_divided.many = 2 := ⟨rfl, rfl, rfl⟩
/-- is_rest: slots row 0 -/
def p_is_rest : TL := .cons (.ret (.cmp .isn (.call f_first_index (.cons (.var 0) .nil)) (.cst .non))) .nil
def f_is_rest : Fn := ⟨"is_rest", 2, false, false, 1, runDef 1 false false p_is_rest⟩
theorem fr_is_rest : f_is_rest.run = runDef 1 false false p_is_rest := by simp only [f_is_rest]
theorem fl_is_rest : f_is_rest.fresh = false ∧ f_is_rest.lend = false ∧ f_is_rest.many = 1 := ⟨rfl, rfl, rfl⟩
/-- sum_of_rows: slots one 0, other 1, left 2, right 3 -/
def p_sum_of_rows : TL := .cons (.ret (.b1 .tup (.fr (.comp (.two 2 3) (.zipA (.var 0) (.var 1)) .no (.call f_added (.cons (.var 2) (.cons (.var 3) .nil))))))) .nil
def f_sum_of_rows : Fn := ⟨"sum_of_rows", 4, false, false, 2, runDef 4 false false p_sum_of_rows⟩
theorem fr_sum_of_rows : f_sum_of_rows.run = runDef 4 false false p_sum_of_rows := by simp only [f_sum_of_rows]
theorem fl_sum_of_rows : f_sum_of_rows.fresh = false ∧ f_sum_of_rows.lend = false ∧ f_sum_of_rows.many = 2 := ⟨rfl, rfl, rfl⟩
/-- times_row: slots number 0, row 1, one 2 -/
def p_times_row : TL := .cons (.ret (.b1 .tup (.fr (.comp (.nm 2) (.seqA (.var 1)) .no (.ite (.cmp .ne (.var 2) (.glb "NOUGHT" c_NOUGHT)) (.call f_multiplied (.cons (.var 0) (.cons (.var 2) .nil))) (.glb "NOUGHT" c_NOUGHT)))))) .nil
def f_times_row : Fn := ⟨"times_row", 4, false, false, 2, runDef 3 false false p_times_row⟩
theorem fr_times_row : f_times_row.run = runDef 3 false false p_times_row := by simp only [f_times_row]
theorem fl_times_row : f_times_row.fresh = false ∧ f_times_row.lend = false ∧ f_times_row.many = 2 := ⟨rfl, rfl, rfl⟩
/-- less_times: slots row 0, number 1, other 2 -/
def p_less_times : TL := .cons (.ret (.call f_sum_of_rows (.cons (.var 0) (.cons (.call f_times_row (.cons (.call f_opposite (.cons (.var 1) .nil)) (.cons (.var 2) .nil))) .nil)))) .nil
def f_less_times : Fn := ⟨"less_times", 5, false, false, 3, runDef 3 false false p_less_times⟩
theorem fr_less_times : f_less_times.run = runDef 3 false false p_less_times := by simp only [f_less_times]
theorem fl_less_times : f_less_times.fresh = false ∧ f_less_times.lend = false ∧ f_less_times.many = 3 := ⟨rfl, rfl, rfl⟩
/-- rest_by: slots lot 0, row 1, other 2, number 3 -/
def p_rest_by : TL := .cons (.forr (.nm 2) (.seqA (.var 0)) (.cons (.asg 3 (.e (.ix (.var 1) (.call f_first_index (.cons (.var 2) .nil))))) (.cons (.ife (.cmp .ne (.var 3) (.glb "NOUGHT" c_NOUGHT)) (.cons (.asg 1 (.e (.call f_less_times (.cons (.var 1) (.cons (.var 3) (.cons (.var 2) .nil)))))) .nil) (.nil)) .nil))) (.cons (.ret (.var 1)) .nil)
def f_rest_by : Fn := ⟨"rest_by", 6, false, false, 2, runDef 4 false false p_rest_by⟩
theorem fr_rest_by : f_rest_by.run = runDef 4 false false p_rest_by := by simp only [f_rest_by]
theorem fl_rest_by : f_rest_by.fresh = false ∧ f_rest_by.lend = false ∧ f_rest_by.many = 2 := ⟨rfl, rfl, rfl⟩
/-- with_row: slots lot 0, row 1, left 2, index 3, found 4, other 5 -/
def p_with_row : TL := .cons (.asg 2 (.e (.call f_rest_by (.cons (.var 0) (.cons (.var 1) .nil))))) (.cons (.asg 3 (.e (.call f_first_index (.cons (.var 2) .nil)))) (.cons (.ife (.cmp .isn (.var 3) (.cst .non)) (.cons (.ret (.var 0)) .nil) (.nil)) (.cons (.asg 2 (.e (.call f_times_row (.cons (.call f_divided (.cons (.glb "ONE" c_ONE) (.cons (.ix (.var 2) (.var 3)) .nil))) (.cons (.var 2) .nil))))) (.cons (.asg 4 (.f (.plus (.fr (.comp (.nm 5) (.seqA (.var 0)) .no (.ite (.cmp .ne (.ix (.var 5) (.var 3)) (.glb "NOUGHT" c_NOUGHT)) (.call f_less_times (.cons (.var 5) (.cons (.ix (.var 5) (.var 3)) (.cons (.var 2) .nil)))) (.var 5)))) (.fr (.disp (.cons (.var 2) .nil)))))) (.cons (.ret (.b1 .tup (.fr (.sortK f_first_index (.var 4))))) .nil)))))
def f_with_row : Fn := ⟨"with_row", 7, false, false, 2, runDef 6 false false p_with_row⟩
theorem fr_with_row : f_with_row.run = runDef 6 false false p_with_row := by simp only [f_with_row]
theorem fl_with_row : f_with_row.fresh = false ∧ f_with_row.lend = false ∧ f_with_row.many = 2 := ⟨rfl, rfl, rfl⟩
/-- spanned: slots rows 0, lot 1, row 2 -/
def p_spanned : TL := .cons (.asg 1 (.e (.tup .nil))) (.cons (.forr (.nm 2) (.seqA (.var 0)) (.cons (.asg 1 (.e (.call f_with_row (.cons (.var 1) (.cons (.var 2) .nil))))) .nil)) (.cons (.ret (.var 1)) .nil))
def f_spanned : Fn := ⟨"spanned", 8, false, false, 1, runDef 3 false false p_spanned⟩
theorem fr_spanned : f_spanned.run = runDef 3 false false p_spanned := by simp only [f_spanned]
theorem fl_spanned : f_spanned.fresh = false ∧ f_spanned.lend = false ∧ f_spanned.many = 1 := ⟨rfl, rfl, rfl⟩
/-- does_hold: slots lot 0, row 1 -/
def p_does_hold : TL := .cons (.ret (.call f_is_rest (.cons (.call f_rest_by (.cons (.var 0) (.cons (.var 1) .nil))) .nil))) .nil
def f_does_hold : Fn := ⟨"does_hold", 7, false, false, 2, runDef 2 false false p_does_hold⟩
theorem fr_does_hold : f_does_hold.run = runDef 2 false false p_does_hold := by simp only [f_does_hold]
theorem fl_does_hold : f_does_hold.fresh = false ∧ f_does_hold.lend = false ∧ f_does_hold.many = 2 := ⟨rfl, rfl, rfl⟩
/-- is_within: slots one 0, other 1, row 2 -/
def p_is_within : TL := .cons (.ret (.b1 .all (.fr (.comp (.nm 2) (.seqA (.var 0)) .no (.call f_does_hold (.cons (.var 1) (.cons (.var 2) .nil))))))) .nil
def f_is_within : Fn := ⟨"is_within", 8, false, false, 2, runDef 3 false false p_is_within⟩
theorem fr_is_within : f_is_within.run = runDef 3 false false p_is_within := by simp only [f_is_within]
theorem fl_is_within : f_is_within.fresh = false ∧ f_is_within.lend = false ∧ f_is_within.many = 2 := ⟨rfl, rfl, rfl⟩
/-- require_row: slots width 0, value 1 -/
def p_require_row : TL := .cons (.ife (.not (.call f_is_plain_row (.cons (.var 0) (.cons (.var 1) .nil)))) (.cons .nev .nil) (.nil)) .nil
def f_require_row : Fn := ⟨"require_row", 4, false, false, 2, runDef 2 false false p_require_row⟩
theorem fr_require_row : f_require_row.run = runDef 2 false false p_require_row := by simp only [f_require_row]
theorem fl_require_row : f_require_row.fresh = false ∧ f_require_row.lend = false ∧ f_require_row.many = 2 := ⟨rfl, rfl, rfl⟩
/-- require_rows: slots width 0, value 1, row 2 -/
def p_require_rows : TL := .cons (.ife (.or (.not (.isi (.var 1) "tuple")) (.not (.b1 .all (.fr (.comp (.nm 2) (.seqA (.var 1)) .no (.call f_is_plain_row (.cons (.var 0) (.cons (.var 2) .nil)))))))) (.cons .nev .nil) (.nil)) .nil
def f_require_rows : Fn := ⟨"require_rows", 4, false, false, 2, runDef 3 false false p_require_rows⟩
theorem fr_require_rows : f_require_rows.run = runDef 3 false false p_require_rows := by simp only [f_require_rows]
theorem fl_require_rows : f_require_rows.fresh = false ∧ f_require_rows.lend = false ∧ f_require_rows.many = 2 := ⟨rfl, rfl, rfl⟩
/-- require_lot: slots width 0, value 1 -/
def p_require_lot : TL := .cons (.ife (.not (.call f_is_plain_lot (.cons (.var 0) (.cons (.var 1) .nil)))) (.cons .nev .nil) (.nil)) .nil
def f_require_lot : Fn := ⟨"require_lot", 5, false, false, 2, runDef 2 false false p_require_lot⟩
theorem fr_require_lot : f_require_lot.run = runDef 2 false false p_require_lot := by simp only [f_require_lot]
theorem fl_require_lot : f_require_lot.fresh = false ∧ f_require_lot.lend = false ∧ f_require_lot.many = 2 := ⟨rfl, rfl, rfl⟩
/-- lot_of: slots width 0, rows 1 -/
def p_lot_of : TL := .cons (.drop (.call f_require_width (.cons (.var 0) .nil))) (.cons (.drop (.call f_require_rows (.cons (.var 0) (.cons (.var 1) .nil)))) (.cons (.ret (.call f_spanned (.cons (.var 1) .nil))) .nil))
def f_lot_of : Fn := ⟨"lot_of", 9, false, false, 2, runDef 2 false false p_lot_of⟩
theorem fr_lot_of : f_lot_of.run = runDef 2 false false p_lot_of := by simp only [f_lot_of]
theorem fl_lot_of : f_lot_of.fresh = false ∧ f_lot_of.lend = false ∧ f_lot_of.many = 2 := ⟨rfl, rfl, rfl⟩
/-- holds: slots width 0, lot 1, row 2 -/
def p_holds : TL := .cons (.drop (.call f_require_width (.cons (.var 0) .nil))) (.cons (.drop (.call f_require_lot (.cons (.var 0) (.cons (.var 1) .nil)))) (.cons (.drop (.call f_require_row (.cons (.var 0) (.cons (.var 2) .nil)))) (.cons (.ret (.call f_does_hold (.cons (.var 1) (.cons (.var 2) .nil)))) .nil)))
def f_holds : Fn := ⟨"holds", 8, false, false, 3, runDef 3 false false p_holds⟩
theorem fr_holds : f_holds.run = runDef 3 false false p_holds := by simp only [f_holds]
theorem fl_holds : f_holds.fresh = false ∧ f_holds.lend = false ∧ f_holds.many = 3 := ⟨rfl, rfl, rfl⟩
/-- within: slots width 0, one 1, other 2 -/
def p_within : TL := .cons (.drop (.call f_require_width (.cons (.var 0) .nil))) (.cons (.drop (.call f_require_lot (.cons (.var 0) (.cons (.var 1) .nil)))) (.cons (.drop (.call f_require_lot (.cons (.var 0) (.cons (.var 2) .nil)))) (.cons (.ret (.call f_is_within (.cons (.var 1) (.cons (.var 2) .nil)))) .nil)))
def f_within : Fn := ⟨"within", 9, false, false, 3, runDef 3 false false p_within⟩
theorem fr_within : f_within.run = runDef 3 false false p_within := by simp only [f_within]
theorem fl_within : f_within.fresh = false ∧ f_within.lend = false ∧ f_within.many = 3 := ⟨rfl, rfl, rfl⟩
/-- _law_shuffled: slots dice 0, items 1, found 2, left 3 -/
def p_law_shuffled : TL := .cons (.par2 2 3 (.f (.disp .nil)) (.f (.listOf (.var 1)))) (.cons (.whl (.cmp .ne (.var 3) (.fr (.disp .nil))) (mLen 3) (.cons (.app 2 (.popI 3 (.call f_law_roll (.cons (.var 0) (.cons (.b1 .len (.var 3)) .nil))))) .nil)) (.cons (.ret (.var 2)) .nil))
def f_law_shuffled : Fn := ⟨"_law_shuffled", 2, true, false, 2, runDef 4 true false p_law_shuffled⟩
theorem fr_law_shuffled : f_law_shuffled.run = runDef 4 true false p_law_shuffled := by simp only [f_law_shuffled]
theorem fl_law_shuffled : f_law_shuffled.fresh = false ∧ f_law_shuffled.lend = true ∧ f_law_shuffled.many = 2 := ⟨rfl, rfl, rfl⟩
/-- _law_holds: slots lot 0, row 1 -/
def p_law_holds : TL := .cons (.ret (.cmp .isn (.call f_law_lead (.cons (.call f_law_rest (.cons (.var 0) (.cons (.var 1) .nil))) .nil)) (.cst .non))) .nil
def f_law_holds : Fn := ⟨"_law_holds", 5, false, false, 2, runDef 2 false false p_law_holds⟩
theorem fr_law_holds : f_law_holds.run = runDef 2 false false p_law_holds := by simp only [f_law_holds]
theorem fl_law_holds : f_law_holds.fresh = false ∧ f_law_holds.lend = false ∧ f_law_holds.many = 2 := ⟨rfl, rfl, rfl⟩
/-- _law_within: slots one 0, other 1, row 2 -/
def p_law_within : TL := .cons (.ret (.cmp .eq (.fr (.comp (.nm 2) (.seqA (.var 0)) (.yes (.not (.call f_law_holds (.cons (.var 1) (.cons (.var 2) .nil))))) (.cst (.int 1)))) (.fr (.disp .nil)))) .nil
def f_law_within : Fn := ⟨"_law_within", 6, false, false, 2, runDef 3 false false p_law_within⟩
theorem fr_law_within : f_law_within.run = runDef 3 false false p_law_within := by simp only [f_law_within]
theorem fl_law_within : f_law_within.fresh = false ∧ f_law_within.lend = false ∧ f_law_within.many = 2 := ⟨rfl, rfl, rfl⟩
/-- _law_numbers: slots dice 0, many 1, some 2, at 3 -/
def p_law_numbers : TL := .cons (.asg 2 (.f (.disp (.cons (.tup (.cons (.cst (.int 0)) (.cons (.cst (.int 1)) .nil))) (.cons (.tup (.cons (.cst (.int 0)) (.cons (.cst (.int 1)) .nil))) (.cons (.tup (.cons (.cst (.int 1)) (.cons (.cst (.int 1)) .nil))) (.cons (.tup (.cons (.cst (.int 1)) (.cons (.cst (.int 1)) .nil))) (.cons (.tup (.cons (.neg (.cst (.int 1))) (.cons (.cst (.int 1)) .nil))) (.cons (.tup (.cons (.cst (.int 2)) (.cons (.cst (.int 1)) .nil))) (.cons (.tup (.cons (.cst (.int 1)) (.cons (.cst (.int 2)) .nil))) (.cons (.tup (.cons (.neg (.cst (.int 2))) (.cons (.cst (.int 3)) .nil))) (.cons (.tup (.cons (.cst (.int 5)) (.cons (.cst (.int 7)) .nil))) .nil)))))))))))) (.cons (.ife (.cmp .eq (.call f_law_roll (.cons (.var 0) (.cons (.cst (.int 6)) .nil))) (.cst (.int 0))) (.cons (.asg 2 (.f (.plus (.var 2) (.fr (.disp (.cons (.tup (.cons (.bin .add (.bin .pow (.cst (.int 10)) (.cst (.int 40))) (.cst (.int 1))) (.cons (.cst (.int 3)) .nil))) (.cons (.tup (.cons (.cst (.int 7)) (.cons (.bin .add (.bin .pow (.cst (.int 10)) (.cst (.int 30))) (.cst (.int 1))) .nil))) .nil))))))) .nil) (.nil)) (.cons (.ret (.b1 .tup (.fr (.comp (.nm 3) (.rng1 (.var 1)) .no (.call f_law_pick (.cons (.var 0) (.cons (.var 2) .nil))))))) .nil))
def f_law_numbers : Fn := ⟨"_law_numbers", 3, true, false, 2, runDef 4 true false p_law_numbers⟩
theorem fr_law_numbers : f_law_numbers.run = runDef 4 true false p_law_numbers := by simp only [f_law_numbers]
theorem fl_law_numbers : f_law_numbers.fresh = false ∧ f_law_numbers.lend = true ∧ f_law_numbers.many = 2 := ⟨rfl, rfl, rfl⟩
/-- _law_rows: slots dice 0, many 1, width 2, found 3, turn 4 -/
def p_law_rows : TL := .cons (.asg 3 (.f (.comp (.nm 4) (.rng1 (.var 1)) .no (.call f_law_numbers (.cons (.var 0) (.cons (.var 2) .nil)))))) (.cons (.ife (.and (.cmp .gt (.var 1) (.cst (.int 2))) (.cmp .eq (.call f_law_roll (.cons (.var 0) (.cons (.cst (.int 2)) .nil))) (.cst (.int 0)))) (.cons (.setI 3 (.neg (.cst (.int 1))) (.call f_law_less (.cons (.ix (.var 3) (.cst (.int 0))) (.cons (.call f_law_pick (.cons (.var 0) (.cons (.fr (.disp (.cons (.tup (.cons (.cst (.int 1)) (.cons (.cst (.int 1)) .nil))) (.cons (.tup (.cons (.neg (.cst (.int 2))) (.cons (.cst (.int 1)) .nil))) (.cons (.tup (.cons (.cst (.int 1)) (.cons (.cst (.int 3)) .nil))) .nil))))) .nil))) (.cons (.ix (.var 3) (.cst (.int 1))) .nil))))) .nil) (.nil)) (.cons (.ret (.call f_law_shuffled (.cons (.var 0) (.cons (.var 3) .nil)))) .nil))
def f_law_rows : Fn := ⟨"_law_rows", 4, true, false, 3, runDef 5 true false p_law_rows⟩
theorem fr_law_rows : f_law_rows.run = runDef 5 true false p_law_rows := by simp only [f_law_rows]
theorem fl_law_rows : f_law_rows.fresh = false ∧ f_law_rows.lend = true ∧ f_law_rows.many = 3 := ⟨rfl, rfl, rfl⟩
/-- _law_mixed: slots dice 0, rows 1, width 2, found 3, row 4 -/
def p_law_mixed : TL := .cons (.asg 3 (.e (.bin .mul (.tup (.cons (.tup (.cons (.cst (.int 0)) (.cons (.cst (.int 1)) .nil))) .nil)) (.var 2)))) (.cons (.forr (.nm 4) (.seqA (.var 1)) (.cons (.asg 3 (.e (.call f_law_less (.cons (.var 3) (.cons (.call f_law_pick (.cons (.var 0) (.cons (.fr (.disp (.cons (.tup (.cons (.cst (.int 0)) (.cons (.cst (.int 1)) .nil))) (.cons (.tup (.cons (.cst (.int 1)) (.cons (.cst (.int 1)) .nil))) (.cons (.tup (.cons (.neg (.cst (.int 1))) (.cons (.cst (.int 1)) .nil))) (.cons (.tup (.cons (.cst (.int 2)) (.cons (.cst (.int 3)) .nil))) .nil)))))) .nil))) (.cons (.var 4) .nil)))))) .nil)) (.cons (.ret (.var 3)) .nil))
def f_law_mixed : Fn := ⟨"_law_mixed", 4, true, false, 3, runDef 5 true false p_law_mixed⟩
theorem fr_law_mixed : f_law_mixed.run = runDef 5 true false p_law_mixed := by simp only [f_law_mixed]
theorem fl_law_mixed : f_law_mixed.fresh = false ∧ f_law_mixed.lend = true ∧ f_law_mixed.many = 3 := ⟨rfl, rfl, rfl⟩
/-- apart_from: slots width 0, lot 1, index 2, firsts 3, found 4, row 5, first 6, other 7, place 8 -/
def p_apart_from : TL := .cons (.par2 3 4 (.f (.comp (.nm 5) (.seqA (.var 1)) .no (.call f_first_index (.cons (.var 5) .nil)))) (.f (.disp .nil))) (.cons (.forr (.nm 2) (.rng1 (.var 0)) (.cons (.ife (.cmp .notin (.var 2) (.var 3)) (.cons (.asg 5 (.f (.comp (.nm 8) (.rng1 (.var 0)) .no (.ite (.cmp .eq (.var 8) (.var 2)) (.glb "ONE" c_ONE) (.glb "NOUGHT" c_NOUGHT))))) (.cons (.forr (.two 6 7) (.zipA (.var 3) (.var 1)) (.cons (.setI 5 (.var 6) (.call f_opposite (.cons (.ix (.var 7) (.var 2)) .nil))) .nil)) (.cons (.app 4 (.b1 .tup (.var 5))) .nil))) (.nil)) .nil)) (.cons (.ret (.call f_spanned (.cons (.var 4) .nil))) .nil))
def f_apart_from : Fn := ⟨"apart_from", 9, false, false, 2, runDef 9 false false p_apart_from⟩
theorem fr_apart_from : f_apart_from.run = runDef 9 false false p_apart_from := by simp only [f_apart_from]
theorem fl_apart_from : f_apart_from.fresh = false ∧ f_apart_from.lend = false ∧ f_apart_from.many = 2 := ⟨rfl, rfl, rfl⟩
/-- joined_of: slots one 0, other 1 -/
def p_joined_of : TL := .cons (.ret (.call f_spanned (.cons (.bin .add (.var 0) (.var 1)) .nil))) .nil
def f_joined_of : Fn := ⟨"joined_of", 9, false, false, 2, runDef 2 false false p_joined_of⟩
theorem fr_joined_of : f_joined_of.run = runDef 2 false false p_joined_of := by simp only [f_joined_of]
theorem fl_joined_of : f_joined_of.fresh = false ∧ f_joined_of.lend = false ∧ f_joined_of.many = 2 := ⟨rfl, rfl, rfl⟩
/-- met_of: slots width 0, one 1, other 2 -/
def p_met_of : TL := .cons (.ret (.call f_apart_from (.cons (.var 0) (.cons (.call f_spanned (.cons (.bin .add (.call f_apart_from (.cons (.var 0) (.cons (.var 1) .nil))) (.call f_apart_from (.cons (.var 0) (.cons (.var 2) .nil)))) .nil)) .nil)))) .nil
def f_met_of : Fn := ⟨"met_of", 10, false, false, 3, runDef 3 false false p_met_of⟩
theorem fr_met_of : f_met_of.run = runDef 3 false false p_met_of := by simp only [f_met_of]
theorem fl_met_of : f_met_of.fresh = false ∧ f_met_of.lend = false ∧ f_met_of.many = 3 := ⟨rfl, rfl, rfl⟩
/-- joined_lots: slots width 0, one 1, other 2 -/
def p_joined_lots : TL := .cons (.drop (.call f_require_width (.cons (.var 0) .nil))) (.cons (.drop (.call f_require_lot (.cons (.var 0) (.cons (.var 1) .nil)))) (.cons (.drop (.call f_require_lot (.cons (.var 0) (.cons (.var 2) .nil)))) (.cons (.ret (.call f_joined_of (.cons (.var 1) (.cons (.var 2) .nil)))) .nil)))
def f_joined_lots : Fn := ⟨"joined_lots", 10, false, false, 3, runDef 3 false false p_joined_lots⟩
theorem fr_joined_lots : f_joined_lots.run = runDef 3 false false p_joined_lots := by simp only [f_joined_lots]
theorem fl_joined_lots : f_joined_lots.fresh = false ∧ f_joined_lots.lend = false ∧ f_joined_lots.many = 3 := ⟨rfl, rfl, rfl⟩
/-- met_lots: slots width 0, one 1, other 2 -/
def p_met_lots : TL := .cons (.drop (.call f_require_width (.cons (.var 0) .nil))) (.cons (.drop (.call f_require_lot (.cons (.var 0) (.cons (.var 1) .nil)))) (.cons (.drop (.call f_require_lot (.cons (.var 0) (.cons (.var 2) .nil)))) (.cons (.ret (.call f_met_of (.cons (.var 0) (.cons (.var 1) (.cons (.var 2) .nil))))) .nil)))
def f_met_lots : Fn := ⟨"met_lots", 11, false, false, 3, runDef 3 false false p_met_lots⟩
theorem fr_met_lots : f_met_lots.run = runDef 3 false false p_met_lots := by simp only [f_met_lots]
theorem fl_met_lots : f_met_lots.fresh = false ∧ f_met_lots.lend = false ∧ f_met_lots.many = 3 := ⟨rfl, rfl, rfl⟩
/-- rows_apart: slots width 0, lot 1 -/
def p_rows_apart : TL := .cons (.drop (.call f_require_width (.cons (.var 0) .nil))) (.cons (.drop (.call f_require_lot (.cons (.var 0) (.cons (.var 1) .nil)))) (.cons (.ret (.call f_apart_from (.cons (.var 0) (.cons (.var 1) .nil)))) .nil))
def f_rows_apart : Fn := ⟨"rows_apart", 10, false, false, 2, runDef 2 false false p_rows_apart⟩
theorem fr_rows_apart : f_rows_apart.run = runDef 2 false false p_rows_apart := by simp only [f_rows_apart]
theorem fl_rows_apart : f_rows_apart.fresh = false ∧ f_rows_apart.lend = false ∧ f_rows_apart.many = 2 := ⟨rfl, rfl, rfl⟩
/-- _law_dot: slots row 0, told 1, found 2, one 3, other 4 -/
def p_law_dot : TL := .cons (.asg 2 (.e (.tup (.cons (.cst (.int 0)) (.cons (.cst (.int 1)) .nil))))) (.cons (.forr (.two 3 4) (.zipA (.var 0) (.var 1)) (.cons (.ife (.and (.cmp .ne (.ix (.var 3) (.cst (.int 0))) (.cst (.int 0))) (.cmp .ne (.ix (.var 4) (.cst (.int 0))) (.cst (.int 0)))) (.cons (.asg 2 (.e (.call f_law_plus (.cons (.var 2) (.cons (.call f_law_times (.cons (.var 3) (.cons (.var 4) .nil))) .nil))))) .nil) (.nil)) .nil)) (.cons (.ret (.var 2)) .nil))
def f_law_dot : Fn := ⟨"_law_dot", 3, false, false, 2, runDef 5 false false p_law_dot⟩
theorem fr_law_dot : f_law_dot.run = runDef 5 false false p_law_dot := by simp only [f_law_dot]
theorem fl_law_dot : f_law_dot.fresh = false ∧ f_law_dot.lend = false ∧ f_law_dot.many = 2 := ⟨rfl, rfl, rfl⟩
/-- _law_apart: slots width 0, lot 1, spot 2, leads 3, found 4, row 5, at 6, lead 7, line 8 -/
def p_law_apart : TL := .cons (.par2 3 4 (.f (.comp (.nm 5) (.seqA (.var 1)) .no (.call f_law_lead (.cons (.var 5) .nil)))) (.f (.disp .nil))) (.cons (.forr (.nm 2) (.seqA (.fr (.comp (.nm 6) (.rng1 (.var 0)) (.yes (.cmp .notin (.var 6) (.var 3))) (.var 6)))) (.cons (.asg 5 (.f (.comp (.nm 6) (.rng1 (.var 0)) .no (.tup (.cons (.b1 .int (.cmp .eq (.var 6) (.var 2))) (.cons (.cst (.int 1)) .nil)))))) (.cons (.forr (.two 7 8) (.zipA (.var 3) (.var 1)) (.cons (.setI 5 (.var 7) (.tup (.cons (.bin .sub (.cst (.int 0)) (.ix (.ix (.var 8) (.var 2)) (.cst (.int 0)))) (.cons (.ix (.ix (.var 8) (.var 2)) (.cst (.int 1))) .nil)))) .nil)) (.cons (.app 4 (.b1 .tup (.var 5))) .nil)))) (.cons (.ret (.call f_law_lot (.cons (.var 4) .nil))) .nil))
def f_law_apart : Fn := ⟨"_law_apart", 7, false, false, 2, runDef 9 false false p_law_apart⟩
theorem fr_law_apart : f_law_apart.run = runDef 9 false false p_law_apart := by simp only [f_law_apart]
theorem fl_law_apart : f_law_apart.fresh = false ∧ f_law_apart.lend = false ∧ f_law_apart.many = 2 := ⟨rfl, rfl, rfl⟩
/-- rest_row: slots width 0 -/
def p_rest_row : TL := .cons (.ret (.bin .mul (.tup (.cons (.glb "NOUGHT" c_NOUGHT) .nil)) (.var 0))) .nil
def f_rest_row : Fn := ⟨"rest_row", 1, false, false, 1, runDef 1 false false p_rest_row⟩
theorem fr_rest_row : f_rest_row.run = runDef 1 false false p_rest_row := by simp only [f_rest_row]
theorem fl_rest_row : f_rest_row.fresh = false ∧ f_rest_row.lend = false ∧ f_rest_row.many = 1 := ⟨rfl, rfl, rfl⟩
/-- product_of: slots one 0, other 1, found 2, left 3, right 4 -/
def p_product_of : TL := .cons (.asg 2 (.e (.glb "NOUGHT" c_NOUGHT))) (.cons (.forr (.two 3 4) (.zipA (.var 0) (.var 1)) (.cons (.ife (.and (.cmp .ne (.var 3) (.glb "NOUGHT" c_NOUGHT)) (.cmp .ne (.var 4) (.glb "NOUGHT" c_NOUGHT))) (.cons (.asg 2 (.e (.call f_added (.cons (.var 2) (.cons (.call f_multiplied (.cons (.var 3) (.cons (.var 4) .nil))) .nil))))) .nil) (.nil)) .nil)) (.cons (.ret (.var 2)) .nil))
def f_product_of : Fn := ⟨"product_of", 4, false, false, 2, runDef 5 false false p_product_of⟩
theorem fr_product_of : f_product_of.run = runDef 5 false false p_product_of := by simp only [f_product_of]
theorem fl_product_of : f_product_of.fresh = false ∧ f_product_of.lend = false ∧ f_product_of.many = 2 := ⟨rfl, rfl, rfl⟩
/-- led_row: slots table 0, row 1, line 2 -/
def p_led_row : TL := .cons (.ret (.b1 .tup (.fr (.comp (.nm 2) (.seqA (.var 0)) .no (.call f_product_of (.cons (.var 1) (.cons (.var 2) .nil))))))) .nil
def f_led_row : Fn := ⟨"led_row", 5, false, false, 2, runDef 3 false false p_led_row⟩
theorem fr_led_row : f_led_row.run = runDef 3 false false p_led_row := by simp only [f_led_row]
theorem fl_led_row : f_led_row.fresh = false ∧ f_led_row.lend = false ∧ f_led_row.many = 2 := ⟨rfl, rfl, rfl⟩
/-- led_told: slots width 0, table 1, told 2, found 3, number 4, line 5 -/
def p_led_told : TL := .cons (.asg 3 (.e (.call f_rest_row (.cons (.var 0) .nil)))) (.cons (.forr (.two 4 5) (.zipA (.var 2) (.var 1)) (.cons (.ife (.cmp .ne (.var 4) (.glb "NOUGHT" c_NOUGHT)) (.cons (.asg 3 (.e (.call f_sum_of_rows (.cons (.var 3) (.cons (.call f_times_row (.cons (.var 4) (.cons (.var 5) .nil))) .nil))))) .nil) (.nil)) .nil)) (.cons (.ret (.var 3)) .nil))
def f_led_told : Fn := ⟨"led_told", 5, false, false, 3, runDef 6 false false p_led_told⟩
theorem fr_led_told : f_led_told.run = runDef 6 false false p_led_told := by simp only [f_led_told]
theorem fl_led_told : f_led_told.fresh = false ∧ f_led_told.lend = false ∧ f_led_told.many = 3 := ⟨rfl, rfl, rfl⟩
/-- led_lot_of: slots table 0, lot 1, row 2 -/
def p_led_lot_of : TL := .cons (.ret (.call f_spanned (.cons (.fr (.comp (.nm 2) (.seqA (.var 1)) .no (.call f_led_row (.cons (.var 0) (.cons (.var 2) .nil))))) .nil))) .nil
def f_led_lot_of : Fn := ⟨"led_lot_of", 9, false, false, 2, runDef 3 false false p_led_lot_of⟩
theorem fr_led_lot_of : f_led_lot_of.run = runDef 3 false false p_led_lot_of := by simp only [f_led_lot_of]
theorem fl_led_lot_of : f_led_lot_of.fresh = false ∧ f_led_lot_of.lend = false ∧ f_led_lot_of.many = 2 := ⟨rfl, rfl, rfl⟩
/-- into_lot: slots table 0, width 1, lot 2, told 3, row 4 -/
def p_into_lot : TL := .cons (.asg 3 (.f (.comp (.nm 4) (.seqA (.call f_apart_from (.cons (.b1 .len (.var 0)) (.cons (.var 2) .nil)))) .no (.call f_led_told (.cons (.var 1) (.cons (.var 0) (.cons (.var 4) .nil))))))) (.cons (.ret (.call f_apart_from (.cons (.var 1) (.cons (.call f_spanned (.cons (.var 3) .nil)) .nil)))) .nil)
def f_into_lot : Fn := ⟨"into_lot", 10, false, false, 3, runDef 5 false false p_into_lot⟩
theorem fr_into_lot : f_into_lot.run = runDef 5 false false p_into_lot := by simp only [f_into_lot]
theorem fl_into_lot : f_into_lot.fresh = false ∧ f_into_lot.lend = false ∧ f_into_lot.many = 3 := ⟨rfl, rfl, rfl⟩
/-- require_table: slots height 0, width 1, value 2 -/
def p_require_table : TL := .cons (.ife (.not (.call f_is_plain_table (.cons (.var 0) (.cons (.var 1) (.cons (.var 2) .nil))))) (.cons .nev .nil) (.nil)) .nil
def f_require_table : Fn := ⟨"require_table", 5, false, false, 3, runDef 3 false false p_require_table⟩
theorem fr_require_table : f_require_table.run = runDef 3 false false p_require_table := by simp only [f_require_table]
theorem fl_require_table : f_require_table.fresh = false ∧ f_require_table.lend = false ∧ f_require_table.many = 3 := ⟨rfl, rfl, rfl⟩
/-- require_sized: slots height 0, width 1, table 2 -/
def p_require_sized : TL := .cons (.drop (.call f_require_width (.cons (.var 0) .nil))) (.cons (.drop (.call f_require_width (.cons (.var 1) .nil))) (.cons (.drop (.call f_require_table (.cons (.var 0) (.cons (.var 1) (.cons (.var 2) .nil))))) .nil))
def f_require_sized : Fn := ⟨"require_sized", 6, false, false, 3, runDef 3 false false p_require_sized⟩
theorem fr_require_sized : f_require_sized.run = runDef 3 false false p_require_sized := by simp only [f_require_sized]
theorem fl_require_sized : f_require_sized.fresh = false ∧ f_require_sized.lend = false ∧ f_require_sized.many = 3 := ⟨rfl, rfl, rfl⟩
/-- led: slots height 0, width 1, table 2, row 3 -/
def p_led : TL := .cons (.drop (.call f_require_sized (.cons (.var 0) (.cons (.var 1) (.cons (.var 2) .nil))))) (.cons (.drop (.call f_require_row (.cons (.var 1) (.cons (.var 3) .nil)))) (.cons (.ret (.call f_led_row (.cons (.var 2) (.cons (.var 3) .nil)))) .nil))
def f_led : Fn := ⟨"led", 7, false, false, 4, runDef 4 false false p_led⟩
theorem fr_led : f_led.run = runDef 4 false false p_led := by simp only [f_led]
theorem fl_led : f_led.fresh = false ∧ f_led.lend = false ∧ f_led.many = 4 := ⟨rfl, rfl, rfl⟩
/-- led_lot: slots height 0, width 1, table 2, lot 3 -/
def p_led_lot : TL := .cons (.drop (.call f_require_sized (.cons (.var 0) (.cons (.var 1) (.cons (.var 2) .nil))))) (.cons (.drop (.call f_require_lot (.cons (.var 1) (.cons (.var 3) .nil)))) (.cons (.ret (.call f_led_lot_of (.cons (.var 2) (.cons (.var 3) .nil)))) .nil))
def f_led_lot : Fn := ⟨"led_lot", 10, false, false, 4, runDef 4 false false p_led_lot⟩
theorem fr_led_lot : f_led_lot.run = runDef 4 false false p_led_lot := by simp only [f_led_lot]
theorem fl_led_lot : f_led_lot.fresh = false ∧ f_led_lot.lend = false ∧ f_led_lot.many = 4 := ⟨rfl, rfl, rfl⟩
/-- into: slots height 0, width 1, table 2, lot 3 -/
def p_into : TL := .cons (.drop (.call f_require_sized (.cons (.var 0) (.cons (.var 1) (.cons (.var 2) .nil))))) (.cons (.drop (.call f_require_lot (.cons (.var 0) (.cons (.var 3) .nil)))) (.cons (.ret (.call f_into_lot (.cons (.var 2) (.cons (.var 1) (.cons (.var 3) .nil))))) .nil))
def f_into : Fn := ⟨"into", 11, false, false, 4, runDef 4 false false p_into⟩
theorem fr_into : f_into.run = runDef 4 false false p_into := by simp only [f_into]
theorem fl_into : f_into.fresh = false ∧ f_into.lend = false ∧ f_into.many = 4 := ⟨rfl, rfl, rfl⟩
/-- _law_led: slots table 0, row 1, line 2 -/
def p_law_led : TL := .cons (.ret (.b1 .tup (.fr (.comp (.nm 2) (.seqA (.var 0)) .no (.call f_law_dot (.cons (.var 2) (.cons (.var 1) .nil))))))) .nil
def f_law_led : Fn := ⟨"_law_led", 4, false, false, 2, runDef 3 false false p_law_led⟩
theorem fr_law_led : f_law_led.run = runDef 3 false false p_law_led := by simp only [f_law_led]
theorem fl_law_led : f_law_led.fresh = false ∧ f_law_led.lend = false ∧ f_law_led.many = 2 := ⟨rfl, rfl, rfl⟩
/-- _law_columns: slots table 0, width 1, at 2, line 3 -/
def p_law_columns : TL := .cons (.retF (.comp (.nm 2) (.rng1 (.var 1)) .no (.b1 .tup (.fr (.comp (.nm 3) (.seqA (.var 0)) .no (.ix (.var 3) (.var 2))))))) .nil
def f_law_columns : Fn := ⟨"_law_columns", 1, false, true, 2, runDef 4 false true p_law_columns⟩
theorem fr_law_columns : f_law_columns.run = runDef 4 false true p_law_columns := by simp only [f_law_columns]
theorem fl_law_columns : f_law_columns.fresh = true ∧ f_law_columns.lend = false ∧ f_law_columns.many = 2 := ⟨rfl, rfl, rfl⟩
/-- _law_behind: slots width 0, table 1, told 2, column 3 -/
def p_law_behind : TL := .cons (.ret (.b1 .tup (.fr (.comp (.nm 3) (.seqA (.fr (.callF f_law_columns (.cons (.var 1) (.cons (.var 0) .nil))))) .no (.call f_law_dot (.cons (.var 2) (.cons (.var 3) .nil))))))) .nil
def f_law_behind : Fn := ⟨"_law_behind", 4, false, false, 3, runDef 4 false false p_law_behind⟩
theorem fr_law_behind : f_law_behind.run = runDef 4 false false p_law_behind := by simp only [f_law_behind]
theorem fl_law_behind : f_law_behind.fresh = false ∧ f_law_behind.lend = false ∧ f_law_behind.many = 3 := ⟨rfl, rfl, rfl⟩
/-- unit_row: slots width 0, index 1, place 2 -/
def p_unit_row : TL := .cons (.ret (.b1 .tup (.fr (.comp (.nm 2) (.rng1 (.var 0)) .no (.ite (.cmp .eq (.var 2) (.var 1)) (.glb "ONE" c_ONE) (.glb "NOUGHT" c_NOUGHT)))))) .nil
def f_unit_row : Fn := ⟨"unit_row", 1, false, false, 2, runDef 3 false false p_unit_row⟩
theorem fr_unit_row : f_unit_row.run = runDef 3 false false p_unit_row := by simp only [f_unit_row]
theorem fl_unit_row : f_unit_row.fresh = false ∧ f_unit_row.lend = false ∧ f_unit_row.many = 2 := ⟨rfl, rfl, rfl⟩
/-- sums_of: slots width 0, rows 1, row 2, left 3, many 4, lot 5, place 6, line 7, index 8, one 9 -/
def p_sums_of : TL := .cons (.par2 4 5 (.e (.b1 .len (.var 1))) (.e (.tup .nil))) (.cons (.forr (.two 6 7) (.enmA (.var 1)) (.cons (.asg 3 (.e (.call f_rest_by (.cons (.var 5) (.cons (.bin .add (.var 7) (.call f_unit_row (.cons (.var 4) (.cons (.var 6) .nil)))) .nil))))) (.cons (.asg 8 (.e (.call f_first_index (.cons (.var 3) .nil)))) (.cons (.ife (.cmp .lt (.var 8) (.var 0)) (.cons (.asg 3 (.e (.call f_times_row (.cons (.call f_divided (.cons (.glb "ONE" c_ONE) (.cons (.ix (.var 3) (.var 8)) .nil))) (.cons (.var 3) .nil))))) (.cons (.asg 5 (.e (.tup (.star (.var 5) (.cons (.var 3) .nil))))) .nil)) (.nil)) .nil)))) (.cons (.asg 3 (.e (.call f_rest_by (.cons (.var 5) (.cons (.bin .add (.var 2) (.call f_rest_row (.cons (.var 4) .nil))) .nil))))) (.cons (.ife (.not (.call f_is_rest (.cons (.slc (.var 3) .no (.yes (.var 0))) .nil))) (.cons (.ret (.cst .non)) .nil) (.nil)) (.cons (.ret (.b1 .tup (.fr (.comp (.nm 9) (.seqA (.slc (.var 3) (.yes (.var 0)) .no)) .no (.call f_opposite (.cons (.var 9) .nil)))))) .nil))))
def f_sums_of : Fn := ⟨"sums_of", 7, false, false, 3, runDef 10 false false p_sums_of⟩
theorem fr_sums_of : f_sums_of.run = runDef 10 false false p_sums_of := by simp only [f_sums_of]
theorem fl_sums_of : f_sums_of.fresh = false ∧ f_sums_of.lend = false ∧ f_sums_of.many = 3 := ⟨rfl, rfl, rfl⟩
/-- weighing_of: slots rows 0, wish 1, told 2 -/
def p_weighing_of : TL := .cons (.forr (.nm 2) (.seqA (.call f_apart_from (.cons (.b1 .len (.var 1)) (.cons (.call f_spanned (.cons (.var 0) .nil)) .nil)))) (.cons (.ife (.cmp .ne (.call f_product_of (.cons (.var 1) (.cons (.var 2) .nil))) (.glb "NOUGHT" c_NOUGHT)) (.cons (.ret (.var 2)) .nil) (.nil)) .nil)) (.cons (.ret (.cst .non)) .nil)
def f_weighing_of : Fn := ⟨"weighing_of", 10, false, false, 2, runDef 3 false false p_weighing_of⟩
theorem fr_weighing_of : f_weighing_of.run = runDef 3 false false p_weighing_of := by simp only [f_weighing_of]
theorem fl_weighing_of : f_weighing_of.fresh = false ∧ f_weighing_of.lend = false ∧ f_weighing_of.many = 2 := ⟨rfl, rfl, rfl⟩
/-- span_paper: slots width 0, rows 1, row 2, numbers 3 -/
def p_span_paper : TL := .cons (.drop (.call f_require_width (.cons (.var 0) .nil))) (.cons (.drop (.call f_require_rows (.cons (.var 0) (.cons (.var 1) .nil)))) (.cons (.drop (.call f_require_row (.cons (.var 0) (.cons (.var 2) .nil)))) (.cons (.asg 3 (.e (.call f_sums_of (.cons (.var 0) (.cons (.var 1) (.cons (.var 2) .nil)))))) (.cons (.ret (.ite (.cmp .nisn (.var 3) (.cst .non)) (.tup (.cons (.glb "SUM" c_SUM) (.cons (.var 3) .nil))) (.tup (.cons (.glb "APART" c_APART) (.cons (.call f_weighing_of (.cons (.var 1) (.cons (.var 2) .nil))) .nil))))) .nil))))
def f_span_paper : Fn := ⟨"span_paper", 11, false, false, 3, runDef 4 false false p_span_paper⟩
theorem fr_span_paper : f_span_paper.run = runDef 4 false false p_span_paper := by simp only [f_span_paper]
theorem fl_span_paper : f_span_paper.fresh = false ∧ f_span_paper.lend = false ∧ f_span_paper.many = 3 := ⟨rfl, rfl, rfl⟩
/-- is_span_paper: slots width 0, rows 1, row 2, value 3, line 4 -/
def p_is_span_paper : TL := .cons (.drop (.call f_require_width (.cons (.var 0) .nil))) (.cons (.drop (.call f_require_rows (.cons (.var 0) (.cons (.var 1) .nil)))) (.cons (.drop (.call f_require_row (.cons (.var 0) (.cons (.var 2) .nil)))) (.cons (.ife (.or (.not (.isi (.var 3) "tuple")) (.or (.cmp .ne (.b1 .len (.var 3)) (.cst (.int 2))) (.not (.isi (.ix (.var 3) (.cst (.int 0))) "str")))) (.cons (.ret (.cst (.bl false))) .nil) (.nil)) (.cons (.ife (.cmp .eq (.ix (.var 3) (.cst (.int 0))) (.glb "SUM" c_SUM)) (.cons (.ret (.and (.call f_is_plain_row (.cons (.b1 .len (.var 1)) (.cons (.ix (.var 3) (.cst (.int 1))) .nil))) (.cmp .eq (.call f_led_told (.cons (.var 0) (.cons (.var 1) (.cons (.ix (.var 3) (.cst (.int 1))) .nil)))) (.var 2)))) .nil) (.nil)) (.cons (.ife (.or (.cmp .ne (.ix (.var 3) (.cst (.int 0))) (.glb "APART" c_APART)) (.not (.call f_is_plain_row (.cons (.var 0) (.cons (.ix (.var 3) (.cst (.int 1))) .nil))))) (.cons (.ret (.cst (.bl false))) .nil) (.nil)) (.cons (.ret (.and (.b1 .all (.fr (.comp (.nm 4) (.seqA (.var 1)) .no (.cmp .eq (.call f_product_of (.cons (.var 4) (.cons (.ix (.var 3) (.cst (.int 1))) .nil))) (.glb "NOUGHT" c_NOUGHT))))) (.cmp .ne (.call f_product_of (.cons (.var 2) (.cons (.ix (.var 3) (.cst (.int 1))) .nil))) (.glb "NOUGHT" c_NOUGHT)))) .nil))))))
def f_is_span_paper : Fn := ⟨"is_span_paper", 6, false, false, 4, runDef 5 false false p_is_span_paper⟩
theorem fr_is_span_paper : f_is_span_paper.run = runDef 5 false false p_is_span_paper := by simp only [f_is_span_paper]
theorem fl_is_span_paper : f_is_span_paper.fresh = false ∧ f_is_span_paper.lend = false ∧ f_is_span_paper.many = 4 := ⟨rfl, rfl, rfl⟩
/-- columns_of: slots table 0, width 1, index 2, line 3 -/
def p_columns_of : TL := .cons (.ret (.b1 .tup (.fr (.comp (.nm 2) (.rng1 (.var 1)) .no (.b1 .tup (.fr (.comp (.nm 3) (.seqA (.var 0)) .no (.ix (.var 3) (.var 2))))))))) .nil
def f_columns_of : Fn := ⟨"columns_of", 1, false, false, 2, runDef 4 false false p_columns_of⟩
theorem fr_columns_of : f_columns_of.run = runDef 4 false false p_columns_of := by simp only [f_columns_of]
theorem fl_columns_of : f_columns_of.fresh = false ∧ f_columns_of.lend = false ∧ f_columns_of.many = 2 := ⟨rfl, rfl, rfl⟩
/-- solved_by: slots table 0, width 1, wish 2 -/
def p_solved_by : TL := .cons (.ret (.call f_sums_of (.cons (.b1 .len (.var 0)) (.cons (.call f_columns_of (.cons (.var 0) (.cons (.var 1) .nil))) (.cons (.var 2) .nil))))) .nil
def f_solved_by : Fn := ⟨"solved_by", 8, false, false, 3, runDef 3 false false p_solved_by⟩
theorem fr_solved_by : f_solved_by.run = runDef 3 false false p_solved_by := by simp only [f_solved_by]
theorem fl_solved_by : f_solved_by.fresh = false ∧ f_solved_by.lend = false ∧ f_solved_by.many = 3 := ⟨rfl, rfl, rfl⟩
/-- solving_paper: slots height 0, width 1, table 2, wish 3, row 4 -/
def p_solving_paper : TL := .cons (.drop (.call f_require_sized (.cons (.var 0) (.cons (.var 1) (.cons (.var 2) .nil))))) (.cons (.drop (.call f_require_row (.cons (.var 0) (.cons (.var 3) .nil)))) (.cons (.asg 4 (.e (.call f_solved_by (.cons (.var 2) (.cons (.var 1) (.cons (.var 3) .nil)))))) (.cons (.ret (.ite (.cmp .nisn (.var 4) (.cst .non)) (.tup (.cons (.glb "NUMBERS" c_NUMBERS) (.cons (.var 4) .nil))) (.tup (.cons (.glb "WEIGHING" c_WEIGHING) (.cons (.call f_weighing_of (.cons (.call f_columns_of (.cons (.var 2) (.cons (.var 1) .nil))) (.cons (.var 3) .nil))) .nil))))) .nil)))
def f_solving_paper : Fn := ⟨"solving_paper", 11, false, false, 4, runDef 5 false false p_solving_paper⟩
theorem fr_solving_paper : f_solving_paper.run = runDef 5 false false p_solving_paper := by simp only [f_solving_paper]
theorem fl_solving_paper : f_solving_paper.fresh = false ∧ f_solving_paper.lend = false ∧ f_solving_paper.many = 4 := ⟨rfl, rfl, rfl⟩
/-- is_solving_paper: slots height 0, width 1, table 2, wish 3, value 4 -/
def p_is_solving_paper : TL := .cons (.drop (.call f_require_sized (.cons (.var 0) (.cons (.var 1) (.cons (.var 2) .nil))))) (.cons (.drop (.call f_require_row (.cons (.var 0) (.cons (.var 3) .nil)))) (.cons (.ife (.or (.not (.isi (.var 4) "tuple")) (.or (.cmp .ne (.b1 .len (.var 4)) (.cst (.int 2))) (.not (.isi (.ix (.var 4) (.cst (.int 0))) "str")))) (.cons (.ret (.cst (.bl false))) .nil) (.nil)) (.cons (.ife (.cmp .eq (.ix (.var 4) (.cst (.int 0))) (.glb "NUMBERS" c_NUMBERS)) (.cons (.ret (.and (.call f_is_plain_row (.cons (.var 1) (.cons (.ix (.var 4) (.cst (.int 1))) .nil))) (.cmp .eq (.call f_led_row (.cons (.var 2) (.cons (.ix (.var 4) (.cst (.int 1))) .nil))) (.var 3)))) .nil) (.nil)) (.cons (.ife (.or (.cmp .ne (.ix (.var 4) (.cst (.int 0))) (.glb "WEIGHING" c_WEIGHING)) (.or (.not (.call f_is_plain_row (.cons (.var 0) (.cons (.ix (.var 4) (.cst (.int 1))) .nil)))) (.cmp .eq (.call f_product_of (.cons (.ix (.var 4) (.cst (.int 1))) (.cons (.var 3) .nil))) (.glb "NOUGHT" c_NOUGHT)))) (.cons (.ret (.cst (.bl false))) .nil) (.nil)) (.cons (.ret (.call f_is_rest (.cons (.call f_led_told (.cons (.var 1) (.cons (.var 2) (.cons (.ix (.var 4) (.cst (.int 1))) .nil)))) .nil))) .nil)))))
def f_is_solving_paper : Fn := ⟨"is_solving_paper", 7, false, false, 5, runDef 5 false false p_is_solving_paper⟩
theorem fr_is_solving_paper : f_is_solving_paper.run = runDef 5 false false p_is_solving_paper := by simp only [f_is_solving_paper]
theorem fl_is_solving_paper : f_is_solving_paper.fresh = false ∧ f_is_solving_paper.lend = false ∧ f_is_solving_paper.many = 5 := ⟨rfl, rfl, rfl⟩
/-- nought_lot: slots height 0, width 1, table 2 -/
def p_nought_lot : TL := .cons (.drop (.call f_require_sized (.cons (.var 0) (.cons (.var 1) (.cons (.var 2) .nil))))) (.cons (.ret (.call f_apart_from (.cons (.var 1) (.cons (.call f_spanned (.cons (.var 2) .nil)) .nil)))) .nil)
def f_nought_lot : Fn := ⟨"nought_lot", 10, false, false, 3, runDef 3 false false p_nought_lot⟩
theorem fr_nought_lot : f_nought_lot.run = runDef 3 false false p_nought_lot := by simp only [f_nought_lot]
theorem fl_nought_lot : f_nought_lot.fresh = false ∧ f_nought_lot.lend = false ∧ f_nought_lot.many = 3 := ⟨rfl, rfl, rfl⟩
/-- unit_table: slots width 0, index 1 -/
def p_unit_table : TL := .cons (.ret (.b1 .tup (.fr (.comp (.nm 1) (.rng1 (.var 0)) .no (.call f_unit_row (.cons (.var 0) (.cons (.var 1) .nil))))))) .nil
def f_unit_table : Fn := ⟨"unit_table", 2, false, false, 1, runDef 2 false false p_unit_table⟩
theorem fr_unit_table : f_unit_table.run = runDef 2 false false p_unit_table := by simp only [f_unit_table]
theorem fl_unit_table : f_unit_table.fresh = false ∧ f_unit_table.lend = false ∧ f_unit_table.many = 1 := ⟨rfl, rfl, rfl⟩
/-- table_behind: slots one 0, other 1, width 2, line 3 -/
def p_table_behind : TL := .cons (.ret (.b1 .tup (.fr (.comp (.nm 3) (.seqA (.var 0)) .no (.call f_led_told (.cons (.var 2) (.cons (.var 1) (.cons (.var 3) .nil)))))))) .nil
def f_table_behind : Fn := ⟨"table_behind", 6, false, false, 3, runDef 4 false false p_table_behind⟩
theorem fr_table_behind : f_table_behind.run = runDef 4 false false p_table_behind := by simp only [f_table_behind]
theorem fl_table_behind : f_table_behind.fresh = false ∧ f_table_behind.lend = false ∧ f_table_behind.many = 3 := ⟨rfl, rfl, rfl⟩
/-- rank: slots height 0, width 1, table 2 -/
def p_rank : TL := .cons (.drop (.call f_require_sized (.cons (.var 0) (.cons (.var 1) (.cons (.var 2) .nil))))) (.cons (.ret (.b1 .len (.call f_spanned (.cons (.var 2) .nil)))) .nil)
def f_rank : Fn := ⟨"rank", 9, false, false, 3, runDef 3 false false p_rank⟩
theorem fr_rank : f_rank.run = runDef 3 false false p_rank := by simp only [f_rank]
theorem fl_rank : f_rank.fresh = false ∧ f_rank.lend = false ∧ f_rank.many = 3 := ⟨rfl, rfl, rfl⟩
/-- inverse_of: slots width 0, table 1, index 2 -/
def p_inverse_of : TL := .cons (.ret (.call f_columns_of (.cons (.b1 .tup (.fr (.comp (.nm 2) (.rng1 (.var 0)) .no (.call f_solved_by (.cons (.var 1) (.cons (.var 0) (.cons (.call f_unit_row (.cons (.var 0) (.cons (.var 2) .nil))) .nil))))))) (.cons (.var 0) .nil)))) .nil
def f_inverse_of : Fn := ⟨"inverse_of", 9, false, false, 2, runDef 3 false false p_inverse_of⟩
theorem fr_inverse_of : f_inverse_of.run = runDef 3 false false p_inverse_of := by simp only [f_inverse_of]
theorem fl_inverse_of : f_inverse_of.fresh = false ∧ f_inverse_of.lend = false ∧ f_inverse_of.many = 2 := ⟨rfl, rfl, rfl⟩
/-- rank_paper: slots height 0, width 1, table 2, firsts 3, part 4, chosen 5, sums 6, rows 7, lot 8, index 9, row 10, more 11, column 12 -/
def p_rank_paper : TL := .cons (.drop (.call f_require_sized (.cons (.var 0) (.cons (.var 1) (.cons (.var 2) .nil))))) (.cons (.par2 7 8 (.f (.disp .nil)) (.e (.tup .nil))) (.cons (.forr (.two 9 10) (.enmA (.var 2)) (.cons (.asg 11 (.e (.call f_with_row (.cons (.var 8) (.cons (.var 10) .nil))))) (.cons (.ife (.cmp .gt (.b1 .len (.var 11)) (.b1 .len (.var 8))) (.cons (.app 7 (.var 9)) .nil) (.nil)) (.cons (.asg 8 (.e (.var 11))) .nil)))) (.cons (.asg 3 (.f (.comp (.nm 10) (.seqA (.var 8)) .no (.call f_first_index (.cons (.var 10) .nil))))) (.cons (.asg 4 (.e (.b1 .tup (.fr (.comp (.nm 10) (.seqA (.var 7)) .no (.b1 .tup (.fr (.comp (.nm 12) (.seqA (.var 3)) .no (.ix (.ix (.var 2) (.var 10)) (.var 12)))))))))) (.cons (.asg 5 (.f (.comp (.nm 10) (.seqA (.var 7)) .no (.ix (.var 2) (.var 10))))) (.cons (.asg 6 (.e (.b1 .tup (.fr (.comp (.nm 10) (.seqA (.var 2)) .no (.call f_sums_of (.cons (.var 1) (.cons (.var 5) (.cons (.var 10) .nil))))))))) (.cons (.ret (.tup (.cons (.b1 .tup (.var 7)) (.cons (.b1 .tup (.var 3)) (.cons (.call f_inverse_of (.cons (.b1 .len (.var 7)) (.cons (.var 4) .nil))) (.cons (.var 6) .nil)))))) .nil)))))))
def f_rank_paper : Fn := ⟨"rank_paper", 10, false, false, 3, runDef 13 false false p_rank_paper⟩
theorem fr_rank_paper : f_rank_paper.run = runDef 13 false false p_rank_paper := by simp only [f_rank_paper]
theorem fl_rank_paper : f_rank_paper.fresh = false ∧ f_rank_paper.lend = false ∧ f_rank_paper.many = 3 := ⟨rfl, rfl, rfl⟩
/-- are_indices: slots most 0, value 1, one 2, other 3 -/
def p_are_indices : TL := .cons (.ife (.not (.isi (.var 1) "tuple")) (.cons (.ret (.cst (.bl false))) .nil) (.nil)) (.cons (.ife (.not (.b1 .all (.fr (.comp (.nm 2) (.seqA (.var 1)) .no (.and (.isi (.var 2) "int") (.and (.not (.isi (.var 2) "bool")) (.chain .le .lt (.cst (.int 0)) (.var 2) (.var 0)))))))) (.cons (.ret (.cst (.bl false))) .nil) (.nil)) (.cons (.ret (.b1 .all (.fr (.comp (.two 2 3) (.zipA (.var 1) (.slc (.var 1) (.yes (.cst (.int 1))) .no)) .no (.cmp .lt (.var 2) (.var 3)))))) .nil))
def f_are_indices : Fn := ⟨"are_indices", 1, false, false, 2, runDef 4 false false p_are_indices⟩
theorem fr_are_indices : f_are_indices.run = runDef 4 false false p_are_indices := by simp only [f_are_indices]
theorem fl_are_indices : f_are_indices.fresh = false ∧ f_are_indices.lend = false ∧ f_are_indices.many = 2 := ⟨rfl, rfl, rfl⟩
/-- is_rank_paper: slots height 0, width 1, table 2, value 3, many 4, part 5, chosen 6, rows 7, firsts 8, inverse 9, sums 10, row 11, told 12, column 13 -/
def p_is_rank_paper : TL := .cons (.drop (.call f_require_sized (.cons (.var 0) (.cons (.var 1) (.cons (.var 2) .nil))))) (.cons (.ife (.or (.not (.isi (.var 3) "tuple")) (.or (.cmp .ne (.b1 .len (.var 3)) (.cst (.int 4))) (.not (.call f_are_indices (.cons (.var 0) (.cons (.ix (.var 3) (.cst (.int 0))) .nil)))))) (.cons (.ret (.cst (.bl false))) .nil) (.nil)) (.cons (.unpN false [7, 8, 9, 10] (.var 3)) (.cons (.asg 4 (.e (.b1 .len (.var 7)))) (.cons (.ife (.or (.not (.call f_are_indices (.cons (.var 1) (.cons (.var 8) .nil)))) (.cmp .ne (.b1 .len (.var 8)) (.var 4))) (.cons (.ret (.cst (.bl false))) .nil) (.nil)) (.cons (.ife (.or (.not (.call f_is_plain_table (.cons (.var 4) (.cons (.var 4) (.cons (.var 9) .nil))))) (.not (.call f_is_plain_table (.cons (.var 0) (.cons (.var 4) (.cons (.var 10) .nil)))))) (.cons (.ret (.cst (.bl false))) .nil) (.nil)) (.cons (.asg 5 (.e (.b1 .tup (.fr (.comp (.nm 11) (.seqA (.var 7)) .no (.b1 .tup (.fr (.comp (.nm 13) (.seqA (.var 8)) .no (.ix (.ix (.var 2) (.var 11)) (.var 13)))))))))) (.cons (.ife (.cmp .ne (.call f_table_behind (.cons (.var 9) (.cons (.var 5) (.cons (.var 4) .nil)))) (.call f_unit_table (.cons (.var 4) .nil))) (.cons (.ret (.cst (.bl false))) .nil) (.nil)) (.cons (.asg 6 (.f (.comp (.nm 11) (.seqA (.var 7)) .no (.ix (.var 2) (.var 11))))) (.cons (.ret (.b1 .all (.fr (.comp (.two 12 11) (.zipA (.var 10) (.var 2)) .no (.cmp .eq (.call f_led_told (.cons (.var 1) (.cons (.var 6) (.cons (.var 12) .nil)))) (.var 11)))))) .nil)))))))))
def f_is_rank_paper : Fn := ⟨"is_rank_paper", 7, false, false, 4, runDef 14 false false p_is_rank_paper⟩
theorem fr_is_rank_paper : f_is_rank_paper.run = runDef 14 false false p_is_rank_paper := by simp only [f_is_rank_paper]
theorem fl_is_rank_paper : f_is_rank_paper.fresh = false ∧ f_is_rank_paper.lend = false ∧ f_is_rank_paper.many = 4 := ⟨rfl, rfl, rfl⟩
/-- inverse_paper: slots width 0, table 1, lot 2 -/
def p_inverse_paper : TL := .cons (.drop (.call f_require_width (.cons (.var 0) .nil))) (.cons (.drop (.call f_require_table (.cons (.var 0) (.cons (.var 0) (.cons (.var 1) .nil))))) (.cons (.asg 2 (.e (.call f_apart_from (.cons (.var 0) (.cons (.call f_spanned (.cons (.var 1) .nil)) .nil))))) (.cons (.ret (.ite (.cmp .ne (.var 2) (.tup .nil)) (.tup (.cons (.glb "NOUGHT_WORD" c_NOUGHT_WORD) (.cons (.ix (.var 2) (.cst (.int 0))) .nil))) (.tup (.cons (.glb "INVERSE" c_INVERSE) (.cons (.call f_inverse_of (.cons (.var 0) (.cons (.var 1) .nil))) .nil))))) .nil)))
def f_inverse_paper : Fn := ⟨"inverse_paper", 10, false, false, 2, runDef 3 false false p_inverse_paper⟩
theorem fr_inverse_paper : f_inverse_paper.run = runDef 3 false false p_inverse_paper := by simp only [f_inverse_paper]
theorem fl_inverse_paper : f_inverse_paper.fresh = false ∧ f_inverse_paper.lend = false ∧ f_inverse_paper.many = 2 := ⟨rfl, rfl, rfl⟩
/-- is_inverse_paper: slots width 0, table 1, value 2 -/
def p_is_inverse_paper : TL := .cons (.drop (.call f_require_width (.cons (.var 0) .nil))) (.cons (.drop (.call f_require_table (.cons (.var 0) (.cons (.var 0) (.cons (.var 1) .nil))))) (.cons (.ife (.or (.not (.isi (.var 2) "tuple")) (.or (.cmp .ne (.b1 .len (.var 2)) (.cst (.int 2))) (.not (.isi (.ix (.var 2) (.cst (.int 0))) "str")))) (.cons (.ret (.cst (.bl false))) .nil) (.nil)) (.cons (.ife (.cmp .eq (.ix (.var 2) (.cst (.int 0))) (.glb "INVERSE" c_INVERSE)) (.cons (.ret (.and (.call f_is_plain_table (.cons (.var 0) (.cons (.var 0) (.cons (.ix (.var 2) (.cst (.int 1))) .nil)))) (.cmp .eq (.call f_table_behind (.cons (.ix (.var 2) (.cst (.int 1))) (.cons (.var 1) (.cons (.var 0) .nil)))) (.call f_unit_table (.cons (.var 0) .nil))))) .nil) (.nil)) (.cons (.ife (.or (.cmp .ne (.ix (.var 2) (.cst (.int 0))) (.glb "NOUGHT_WORD" c_NOUGHT_WORD)) (.not (.call f_is_plain_row (.cons (.var 0) (.cons (.ix (.var 2) (.cst (.int 1))) .nil))))) (.cons (.ret (.cst (.bl false))) .nil) (.nil)) (.cons (.ret (.and (.not (.call f_is_rest (.cons (.ix (.var 2) (.cst (.int 1))) .nil))) (.call f_is_rest (.cons (.call f_led_row (.cons (.var 1) (.cons (.ix (.var 2) (.cst (.int 1))) .nil))) .nil)))) .nil)))))
def f_is_inverse_paper : Fn := ⟨"is_inverse_paper", 7, false, false, 3, runDef 3 false false p_is_inverse_paper⟩
theorem fr_is_inverse_paper : f_is_inverse_paper.run = runDef 3 false false p_is_inverse_paper := by simp only [f_is_inverse_paper]
theorem fl_is_inverse_paper : f_is_inverse_paper.fresh = false ∧ f_is_inverse_paper.lend = false ∧ f_is_inverse_paper.many = 3 := ⟨rfl, rfl, rfl⟩
/-- table_power: slots width 0, table 1, many 2, found 3, _ 4 -/
def p_table_power : TL := .cons (.drop (.call f_require_width (.cons (.var 0) .nil))) (.cons (.drop (.call f_require_table (.cons (.var 0) (.cons (.var 0) (.cons (.var 1) .nil))))) (.cons (.drop (.call f_require_count_1 (.cons (.var 2) .nil))) (.cons (.asg 3 (.e (.call f_unit_table (.cons (.var 0) .nil)))) (.cons (.forr (.nm 4) (.rng1 (.var 2)) (.cons (.asg 3 (.e (.call f_table_behind (.cons (.var 1) (.cons (.var 3) (.cons (.var 0) .nil)))))) .nil)) (.cons (.ret (.var 3)) .nil)))))
def f_table_power : Fn := ⟨"table_power", 7, false, false, 3, runDef 5 false false p_table_power⟩
theorem fr_table_power : f_table_power.run = runDef 5 false false p_table_power := by simp only [f_table_power]
theorem fl_table_power : f_table_power.fresh = false ∧ f_table_power.lend = false ∧ f_table_power.many = 3 := ⟨rfl, rfl, rfl⟩
/-- require_number: slots value 0 -/
def p_require_number : TL := .cons (.ife (.not (.call f_is_number (.cons (.var 0) .nil))) (.cons .nev .nil) (.nil)) .nil
def f_require_number : Fn := ⟨"require_number", 3, false, false, 1, runDef 1 false false p_require_number⟩
theorem fr_require_number : f_require_number.run = runDef 1 false false p_require_number := by simp only [f_require_number]
theorem fl_require_number : f_require_number.fresh = false ∧ f_require_number.lend = false ∧ f_require_number.many = 1 := ⟨rfl, rfl, rfl⟩
/-- row_plus: slots width 0, one 1, other 2 -/
def p_row_plus : TL := .cons (.drop (.call f_require_width (.cons (.var 0) .nil))) (.cons (.drop (.call f_require_row (.cons (.var 0) (.cons (.var 1) .nil)))) (.cons (.drop (.call f_require_row (.cons (.var 0) (.cons (.var 2) .nil)))) (.cons (.ret (.call f_sum_of_rows (.cons (.var 1) (.cons (.var 2) .nil)))) .nil)))
def f_row_plus : Fn := ⟨"row_plus", 5, false, false, 3, runDef 3 false false p_row_plus⟩
theorem fr_row_plus : f_row_plus.run = runDef 3 false false p_row_plus := by simp only [f_row_plus]
theorem fl_row_plus : f_row_plus.fresh = false ∧ f_row_plus.lend = false ∧ f_row_plus.many = 3 := ⟨rfl, rfl, rfl⟩
/-- row_times: slots width 0, number 1, row 2 -/
def p_row_times : TL := .cons (.drop (.call f_require_width (.cons (.var 0) .nil))) (.cons (.drop (.call f_require_number (.cons (.var 1) .nil))) (.cons (.drop (.call f_require_row (.cons (.var 0) (.cons (.var 2) .nil)))) (.cons (.ret (.call f_times_row (.cons (.var 1) (.cons (.var 2) .nil)))) .nil)))
def f_row_times : Fn := ⟨"row_times", 5, false, false, 3, runDef 3 false false p_row_times⟩
theorem fr_row_times : f_row_times.run = runDef 3 false false p_row_times := by simp only [f_row_times]
theorem fl_row_times : f_row_times.fresh = false ∧ f_row_times.lend = false ∧ f_row_times.many = 3 := ⟨rfl, rfl, rfl⟩
/-- product: slots width 0, one 1, other 2 -/
def p_product : TL := .cons (.drop (.call f_require_width (.cons (.var 0) .nil))) (.cons (.drop (.call f_require_row (.cons (.var 0) (.cons (.var 1) .nil)))) (.cons (.drop (.call f_require_row (.cons (.var 0) (.cons (.var 2) .nil)))) (.cons (.ret (.call f_product_of (.cons (.var 1) (.cons (.var 2) .nil)))) .nil)))
def f_product : Fn := ⟨"product", 5, false, false, 3, runDef 3 false false p_product⟩
theorem fr_product : f_product.run = runDef 3 false false p_product := by simp only [f_product]
theorem fl_product : f_product.fresh = false ∧ f_product.lend = false ∧ f_product.many = 3 := ⟨rfl, rfl, rfl⟩
/-- led_behind: slots height 0, width 1, table 2, told 3 -/
def p_led_behind : TL := .cons (.drop (.call f_require_sized (.cons (.var 0) (.cons (.var 1) (.cons (.var 2) .nil))))) (.cons (.drop (.call f_require_row (.cons (.var 0) (.cons (.var 3) .nil)))) (.cons (.ret (.call f_led_told (.cons (.var 1) (.cons (.var 2) (.cons (.var 3) .nil))))) .nil))
def f_led_behind : Fn := ⟨"led_behind", 7, false, false, 4, runDef 4 false false p_led_behind⟩
theorem fr_led_behind : f_led_behind.run = runDef 4 false false p_led_behind := by simp only [f_led_behind]
theorem fl_led_behind : f_led_behind.fresh = false ∧ f_led_behind.lend = false ∧ f_led_behind.many = 4 := ⟨rfl, rfl, rfl⟩
/-- columns: slots height 0, width 1, table 2 -/
def p_columns : TL := .cons (.drop (.call f_require_sized (.cons (.var 0) (.cons (.var 1) (.cons (.var 2) .nil))))) (.cons (.ret (.call f_columns_of (.cons (.var 2) (.cons (.var 1) .nil)))) .nil)
def f_columns : Fn := ⟨"columns", 7, false, false, 3, runDef 3 false false p_columns⟩
theorem fr_columns : f_columns.run = runDef 3 false false p_columns := by simp only [f_columns]
theorem fl_columns : f_columns.fresh = false ∧ f_columns.lend = false ∧ f_columns.many = 3 := ⟨rfl, rfl, rfl⟩
/-- unit: slots width 0 -/
def p_unit : TL := .cons (.drop (.call f_require_width (.cons (.var 0) .nil))) (.cons (.ret (.call f_unit_table (.cons (.var 0) .nil))) .nil)
def f_unit : Fn := ⟨"unit", 4, false, false, 1, runDef 1 false false p_unit⟩
theorem fr_unit : f_unit.run = runDef 1 false false p_unit := by simp only [f_unit]
theorem fl_unit : f_unit.fresh = false ∧ f_unit.lend = false ∧ f_unit.many = 1 := ⟨rfl, rfl, rfl⟩
/-- table_plus: slots height 0, width 1, one 2, other 3, left 4, right 5 -/
def p_table_plus : TL := .cons (.drop (.call f_require_sized (.cons (.var 0) (.cons (.var 1) (.cons (.var 2) .nil))))) (.cons (.drop (.call f_require_table (.cons (.var 0) (.cons (.var 1) (.cons (.var 3) .nil))))) (.cons (.ret (.b1 .tup (.fr (.comp (.two 4 5) (.zipA (.var 2) (.var 3)) .no (.call f_sum_of_rows (.cons (.var 4) (.cons (.var 5) .nil))))))) .nil))
def f_table_plus : Fn := ⟨"table_plus", 7, false, false, 4, runDef 6 false false p_table_plus⟩
theorem fr_table_plus : f_table_plus.run = runDef 6 false false p_table_plus := by simp only [f_table_plus]
theorem fl_table_plus : f_table_plus.fresh = false ∧ f_table_plus.lend = false ∧ f_table_plus.many = 4 := ⟨rfl, rfl, rfl⟩
/-- table_times: slots height 0, middle 1, width 2, one 3, other 4 -/
def p_table_times : TL := .cons (.drop (.call f_require_width (.cons (.var 0) .nil))) (.cons (.drop (.call f_require_width (.cons (.var 1) .nil))) (.cons (.drop (.call f_require_width (.cons (.var 2) .nil))) (.cons (.drop (.call f_require_table (.cons (.var 0) (.cons (.var 1) (.cons (.var 3) .nil))))) (.cons (.drop (.call f_require_table (.cons (.var 1) (.cons (.var 2) (.cons (.var 4) .nil))))) (.cons (.ret (.call f_table_behind (.cons (.var 3) (.cons (.var 4) (.cons (.var 2) .nil))))) .nil)))))
def f_table_times : Fn := ⟨"table_times", 7, false, false, 5, runDef 5 false false p_table_times⟩
theorem fr_table_times : f_table_times.run = runDef 5 false false p_table_times := by simp only [f_table_times]
theorem fl_table_times : f_table_times.fresh = false ∧ f_table_times.lend = false ∧ f_table_times.many = 5 := ⟨rfl, rfl, rfl⟩
/-- number: slots top 0, bottom 1 -/
def p_number : TL := .cons (.ife (.or (.not (.call f_is_integer (.cons (.var 0) .nil))) (.cmp .ge (.b1 .abs (.var 0)) (.glb "MOST_PASSED" c_MOST_PASSED))) (.cons .nev .nil) (.nil)) (.cons (.ife (.or (.not (.call f_is_integer (.cons (.var 1) .nil))) (.or (.cmp .ge (.b1 .abs (.var 1)) (.glb "MOST_PASSED" c_MOST_PASSED)) (.cmp .eq (.var 1) (.cst (.int 0))))) (.cons .nev .nil) (.nil)) (.cons (.ret (.call f_reduced (.cons (.var 0) (.cons (.var 1) .nil)))) .nil))
def dfl_number : List D := [.int 1]
def f_number : Fn := ⟨"number", 3, false, false, 2, fun es as => runDef 2 false false p_number es (as ++ dfl_number.drop 1)⟩
def f_number_1 : Fn := ⟨"number", 3, false, false, 1, fun es as => runDef 2 false false p_number es (as ++ dfl_number.drop 0)⟩
theorem fr_number : f_number.run = fun es as => runDef 2 false false p_number es (as ++ dfl_number.drop 1) := by simp only [f_number]
theorem fl_number : f_number.fresh = false ∧ f_number.lend = false ∧ f_number.many = 2 := ⟨rfl, rfl, rfl⟩
theorem fr_number_1 : f_number_1.run = fun es as => runDef 2 false false p_number es (as ++ dfl_number.drop 0) := by simp only [f_number_1]
theorem fl_number_1 : f_number_1.fresh = false ∧ f_number_1.lend = false ∧ f_number_1.many = 1 := ⟨rfl, rfl, rfl⟩
/-- sum_of: slots numbers 0, found 1, one 2 -/
def p_sum_of : TL := .cons (.asg 1 (.e (.glb "NOUGHT" c_NOUGHT))) (.cons (.forr (.nm 2) (.seqA (.var 0)) (.cons (.asg 1 (.e (.call f_added (.cons (.var 1) (.cons (.var 2) .nil))))) .nil)) (.cons (.ret (.var 1)) .nil))
def f_sum_of : Fn := ⟨"sum_of", 4, false, false, 1, runDef 3 false false p_sum_of⟩
theorem fr_sum_of : f_sum_of.run = runDef 3 false false p_sum_of := by simp only [f_sum_of]
theorem fl_sum_of : f_sum_of.fresh = false ∧ f_sum_of.lend = false ∧ f_sum_of.many = 1 := ⟨rfl, rfl, rfl⟩
/-- plus: slots one 0, other 1 -/
def p_plus : TL := .cons (.drop (.call f_require_number (.cons (.var 0) .nil))) (.cons (.drop (.call f_require_number (.cons (.var 1) .nil))) (.cons (.ret (.call f_added (.cons (.var 0) (.cons (.var 1) .nil)))) .nil))
def f_plus : Fn := ⟨"plus", 4, false, false, 2, runDef 2 false false p_plus⟩
theorem fr_plus : f_plus.run = runDef 2 false false p_plus := by simp only [f_plus]
theorem fl_plus : f_plus.fresh = false ∧ f_plus.lend = false ∧ f_plus.many = 2 := ⟨rfl, rfl, rfl⟩
/-- minus: slots one 0, other 1 -/
def p_minus : TL := .cons (.drop (.call f_require_number (.cons (.var 0) .nil))) (.cons (.drop (.call f_require_number (.cons (.var 1) .nil))) (.cons (.ret (.call f_added (.cons (.var 0) (.cons (.call f_opposite (.cons (.var 1) .nil)) .nil)))) .nil))
def f_minus : Fn := ⟨"minus", 4, false, false, 2, runDef 2 false false p_minus⟩
theorem fr_minus : f_minus.run = runDef 2 false false p_minus := by simp only [f_minus]
theorem fl_minus : f_minus.fresh = false ∧ f_minus.lend = false ∧ f_minus.many = 2 := ⟨rfl, rfl, rfl⟩
/-- times: slots one 0, other 1 -/
def p_times : TL := .cons (.drop (.call f_require_number (.cons (.var 0) .nil))) (.cons (.drop (.call f_require_number (.cons (.var 1) .nil))) (.cons (.ret (.call f_multiplied (.cons (.var 0) (.cons (.var 1) .nil)))) .nil))
def f_times : Fn := ⟨"times", 4, false, false, 2, runDef 2 false false p_times⟩
theorem fr_times : f_times.run = runDef 2 false false p_times := by simp only [f_times]
theorem fl_times : f_times.fresh = false ∧ f_times.lend = false ∧ f_times.many = 2 := ⟨rfl, rfl, rfl⟩
/-- over: slots one 0, other 1 -/
def p_over : TL := .cons (.drop (.call f_require_number (.cons (.var 0) .nil))) (.cons (.drop (.call f_require_number (.cons (.var 1) .nil))) (.cons (.ife (.cmp .eq (.var 1) (.glb "NOUGHT" c_NOUGHT)) (.cons .nev .nil) (.nil)) (.cons (.ret (.call f_divided (.cons (.var 0) (.cons (.var 1) .nil)))) .nil)))
def f_over : Fn := ⟨"over", 4, false, false, 2, runDef 2 false false p_over⟩
theorem fr_over : f_over.run = runDef 2 false false p_over := by simp only [f_over]
theorem fl_over : f_over.fresh = false ∧ f_over.lend = false ∧ f_over.many = 2 := ⟨rfl, rfl, rfl⟩
/-- compared: slots one 0, other 1, left 2, right 3 -/
def p_compared : TL := .cons (.drop (.call f_require_number (.cons (.var 0) .nil))) (.cons (.drop (.call f_require_number (.cons (.var 1) .nil))) (.cons (.par2 2 3 (.e (.bin .mul (.ix (.var 0) (.cst (.int 0))) (.ix (.var 1) (.cst (.int 1))))) (.e (.bin .mul (.ix (.var 1) (.cst (.int 0))) (.ix (.var 0) (.cst (.int 1)))))) (.cons (.ret (.bin .sub (.b1 .int (.cmp .gt (.var 2) (.var 3))) (.b1 .int (.cmp .lt (.var 2) (.var 3))))) .nil)))
def f_compared : Fn := ⟨"compared", 4, false, false, 2, runDef 4 false false p_compared⟩
theorem fr_compared : f_compared.run = runDef 4 false false p_compared := by simp only [f_compared]
theorem fl_compared : f_compared.fresh = false ∧ f_compared.lend = false ∧ f_compared.many = 2 := ⟨rfl, rfl, rfl⟩
/-- total: slots numbers 0, one 1 -/
def p_total : TL := .cons (.ife (.or (.not (.isi (.var 0) "tuple")) (.not (.b1 .all (.fr (.comp (.nm 1) (.seqA (.var 0)) .no (.call f_is_number (.cons (.var 1) .nil))))))) (.cons .nev .nil) (.nil)) (.cons (.ret (.call f_sum_of (.cons (.var 0) .nil))) .nil)
def f_total : Fn := ⟨"total", 5, false, false, 1, runDef 2 false false p_total⟩
theorem fr_total : f_total.run = runDef 2 false false p_total := by simp only [f_total]
theorem fl_total : f_total.fresh = false ∧ f_total.lend = false ∧ f_total.many = 1 := ⟨rfl, rfl, rfl⟩
/-- power: slots one 0, many 1, found 2, _ 3 -/
def p_power : TL := .cons (.drop (.call f_require_number (.cons (.var 0) .nil))) (.cons (.drop (.call f_require_count_1 (.cons (.var 1) .nil))) (.cons (.asg 2 (.e (.glb "ONE" c_ONE))) (.cons (.forr (.nm 3) (.rng1 (.var 1)) (.cons (.asg 2 (.e (.call f_multiplied (.cons (.var 2) (.cons (.var 0) .nil))))) .nil)) (.cons (.ret (.var 2)) .nil))))
def f_power : Fn := ⟨"power", 4, false, false, 2, runDef 4 false false p_power⟩
theorem fr_power : f_power.run = runDef 4 false false p_power := by simp only [f_power]
theorem fl_power : f_power.fresh = false ∧ f_power.lend = false ∧ f_power.many = 2 := ⟨rfl, rfl, rfl⟩
end B
/-! Gn: loops and comprehensions of the small language, for all laws. -/
namespace Gn
open PySem SG
/-- a loop that carries a -/
theorem fold_for {α β : Type} {e : β → D} {P : β → Prop} {body : List S → R Fl} {tg : Tg} {mk : α → β → List S} {m0 : α → List S} {op : α → β → α} {ok' : Nat → α → Prop} {N : Nat}
    (h0 : ∀ a q, setTg (m0 a) tg (e q) = some (mk a q)) (hs : ∀ a y q, setTg (mk a y) tg (e q) = some (mk a q)) (hb : ∀ n a q, n < N → ok' n a → P q → body (mk a q) = SG.ok .nx (mk (op a q) q) ∧ ok' (n + 1) (op a q)) :
    ∀ (qs : List β) (n : Nat) (a : α), n + qs.length ≤ N → ok' n a → (∀ q ∈ qs, P q) → (∀ y, ∃ y', loopT tg body (qs.map e) (mk a y) = SG.ok .nx (mk (qs.foldl op a) y')) ∧
      (∃ st', loopT tg body (qs.map e) (m0 a) = SG.ok .nx st' ∧ (st' = m0 (qs.foldl op a) ∨ ∃ y, st' = mk (qs.foldl op a) y)) ∧ ok' (n + qs.length) (qs.foldl op a)
  | [], n, a, _, ha, _ => ⟨fun y => ⟨y, rfl⟩, ⟨_, rfl, .inl rfl⟩, ha⟩
  | q :: qs, n, a, hl, ha, hq => by
    have hl' : n + (qs.length + 1) ≤ N := hl
    obtain ⟨hb1, hb2⟩ := hb n a q (by omega) ha (hq q List.mem_cons_self)
    obtain ⟨r1, _, r3⟩ := fold_for h0 hs hb qs (n + 1) (op a q) (by omega) hb2 fun x hx => hq x (List.mem_cons_of_mem _ hx)
    have go : ∀ st, setTg st tg (e q) = some (mk a q) → ∃ y', loopT tg body ((q :: qs).map e) st = SG.ok .nx (mk ((q :: qs).foldl op a) y') := fun st hst => by
      obtain ⟨y', hy⟩ := r1 q
      refine ⟨y', ?_⟩
      show (match setTg st tg (e q) with | none => none | some s1 => turnS (body s1) fun s => loopT tg body (qs.map e) s) = _
      rw [hst]
      show turnS (body (mk a q)) _ = _
      rw [hb1]
      exact hy
    refine ⟨fun y => go _ (hs a y _), ?_, ?_⟩
    · obtain ⟨y', hy⟩ := go _ (h0 a _)
      exact ⟨_, hy, .inr ⟨y', rfl⟩⟩
    · rw [show n + (q :: qs).length = n + 1 + qs.length from by simp; omega]
      exact r3
/-- the turns of a comprehension that changes nothing -/
theorem turns_all {β : Type} {e : β → D} {P : β → Prop} {tg : Tg} {test : List S → R Bool} {elt : List S → R D} {mk : β → List S} {f : β → D} (hs : ∀ y q, setTg (wipeS (mk y) tg.slots) tg (e q) = some (mk q)) (ht : ∀ q, P q → test (mk q) = some (.ok true, mk q))
    (he : ∀ q, P q → elt (mk q) = some (.ok (f q), mk q)) : ∀ (qs : List β) (st : List S), (∀ q, setTg (wipeS st tg.slots) tg (e q) = some (mk q)) → (∀ q ∈ qs, P q) → ∃ st', turns tg test elt (qs.map e) st = some (.ok (qs.map f), st') ∧ (st' = st ∨ ∃ y, st' = mk y)
  | [], st, _, _ => ⟨st, rfl, .inl rfl⟩
  | q :: qs, st, h0, hq => by
    obtain ⟨st', h1, h2⟩ := turns_all hs ht he qs (mk q) (fun x => hs q x) fun x hx => hq x (List.mem_cons_of_mem _ hx)
    refine ⟨st', ?_, .inr ?_⟩
    · show turns tg test elt (e q :: qs.map e) st = _
      unfold turns
      rw [h0]
      dsimp only
      rw [ht q (hq q List.mem_cons_self)]
      dsimp only
      rw [he q (hq q List.mem_cons_self)]
      dsimp only
      rw [h1]
      rfl
    · rcases h2 with h2 | h2
      · exact ⟨_, h2⟩
      · exact h2
theorem set_un {st : List S} {i : Nat} (h : st[i]? = some .un) : st.set i .un = st := by
  obtain ⟨h1, h2⟩ := List.getElem?_eq_some_iff.mp h
  rw [← h2]
  exact List.set_getElem_self h1
theorem lt_some {st : List S} {i : Nat} {s : S} (h : st[i]? = some s) : i < st.length := (List.getElem?_eq_some_iff.mp h).1
theorem free_un {st : List S} {i : Nat} (h : i < st.length) : free (st.set i .un) i = true := by
  unfold free
  rw [List.getElem?_set_self h]
/-- [el for x in it], x in the unset slot i -/
theorem comp_all {β : Type} {e f : β → D} {P : β → Prop} {i : Nat} {it : IT} {el : E} {st : List S} {qs : List β} (hit : evI it st = some (.ok (qs.map e), st)) (hi : st[i]? = some .un) (hl : qs.length ≤ 100000)
    (hel : ∀ q, P q → frzR (evE el (st.set i (.val (e q)))) = some (.ok (f q), st.set i (.val (e q)))) (hP : ∀ q ∈ qs, P q) : evF (.comp (.nm i) it .no el) st = some (.ok (qs.map f), st) := by
  have il := lt_some hi
  have hset : ∀ (s : S) (x : D), setTg (wipeS (st.set i s) (Tg.nm i).slots) (.nm i) x = some (st.set i (.val x)) := fun s x => by
    show (if free ((st.set i s).set i .un) i then some (((st.set i s).set i .un).set i (.val x)) else none) = _
    rw [List.set_set, if_pos (free_un il), List.set_set]
  obtain ⟨st', h1, h2⟩ := turns_all (e := e) (P := P) (tg := .nm i) (test := fun s => evC .no s) (elt := fun s => frzR (evE el s)) (mk := fun q => st.set i (.val (e q))) (f := f) (fun y q => hset _ _) (fun q _ => rfl) hel qs st (fun q => by
    have := hset .un (e q)
    rw [set_un hi] at this
    exact this) hP
  rw [evF.eq_2, hit]
  show (if _ then _ else _) = _
  rw [if_pos (by simp [Tg.slots, plainAt, hi]; exact hl), h1]
  show some (Except.ok (qs.map f), restore st st' [i]) = _
  have hr : restore st st' [i] = st := by
    show (match (st[i]? : Option S) with | some s => (restore st st' []).set i s | none => restore st st' []) = st
    rw [hi]
    show st'.set i .un = st
    rcases h2 with rfl | ⟨y, rfl⟩
    · exact set_un hi
    · rw [List.set_set]
      exact set_un hi
  rw [hr]
theorem set_at {st : List S} {i : Nat} {s : S} (h : st[i]? = some s) : st.set i s = st := by
  obtain ⟨h1, h2⟩ := List.getElem?_eq_some_iff.mp h
  rw [← h2]
  exact List.set_getElem_self h1
/-- [el for x, y in it], in the slots i, j, which hold no list of their own -/
theorem comp_all2 {β : Type} {e f : β → D} {a b : β → D} {P : β → Prop} {i j : Nat} {it : IT} {el : E} {st : List S} {si sj : S} {qs : List β} (hit : evI it st = some (.ok (qs.map e), st)) (hi : st[i]? = some si) (hj : st[j]? = some sj) (hij : i ≠ j) (hl : qs.length ≤ 100000) (hab : ∀ q, e q = .tup [a q, b q])
    (hel : ∀ q, P q → frzR (evE el ((st.set i (.val (a q))).set j (.val (b q)))) = some (.ok (f q), (st.set i (.val (a q))).set j (.val (b q)))) (hP : ∀ q ∈ qs, P q) (pi : plainAt st i = true) (pj : plainAt st j = true) : evF (.comp (.two i j) it .no el) st = some (.ok (qs.map f), st) := by
  have il := lt_some hi
  have jl := lt_some hj
  have put : ∀ q, setTg ((st.set j .un).set i .un) (.two i j) (e q) = some ((st.set i (.val (a q))).set j (.val (b q))) := fun q => by
    rw [hab]
    show (if free ((st.set j .un).set i .un) i then (if free (((st.set j .un).set i .un).set i (.val (a q))) j then some ((((st.set j .un).set i .un).set i (.val (a q))).set j (.val (b q))) else none) else none) = _
    have f1 : free ((st.set j .un).set i .un) i = true := by
      unfold free
      rw [List.getElem?_set_self (by rw [List.length_set]; exact il)]
    have f2 : free (((st.set j .un).set i .un).set i (.val (a q))) j = true := by
      unfold free
      rw [List.set_set, List.getElem?_set_ne hij, List.getElem?_set_self jl]
    rw [if_pos f1, if_pos f2, List.set_set, List.set_comm _ _ hij, List.set_set, List.set_comm _ _ hij.symm]
  have wip : ∀ (s t : S), wipeS ((st.set i s).set j t) (Tg.two i j).slots = (st.set j .un).set i .un := fun s t => by
    show (((st.set i s).set j t).set j .un).set i .un = _
    rw [List.set_set, List.set_comm _ _ hij, List.set_set]
  obtain ⟨st', h1, h2⟩ := turns_all (e := e) (P := P) (tg := .two i j) (test := fun s => evC .no s) (elt := fun s => frzR (evE el s)) (mk := fun q => (st.set i (.val (a q))).set j (.val (b q))) (f := f) (fun y q => by rw [wip]; exact put q) (fun q _ => rfl) hel qs st (fun q => put q) hP
  rw [evF.eq_2, hit]
  show (if _ then _ else _) = _
  rw [if_pos (by simp [Tg.slots, pi, pj]; exact hl), h1]
  show some (Except.ok (qs.map f), restore st st' [i, j]) = _
  have hr : restore st st' [i, j] = st := by
    have e1 : restore st st' [j] = st'.set j sj := by
      show (match (st[j]? : Option S) with | some s => (restore st st' []).set j s | none => restore st st' []) = _
      rw [hj]
      first | rfl | skip
    show (match (st[i]? : Option S) with | some s => (restore st st' [j]).set i s | none => restore st st' [j]) = st
    rw [hi, e1]
    show (st'.set j sj).set i si = st
    rcases h2 with rfl | ⟨y, rfl⟩
    · rw [set_at hj, set_at hi]
    · rw [List.set_set, List.set_comm _ _ hij, List.set_set, List.set_comm _ _ hij.symm, set_at hi, set_at hj]
  rw [hr]
/-- a comprehension that carries a state -/
theorem turns_thread {α : Type} {I : α → Prop} {Pd : D → Prop} {tg : Tg} {test : List S → R Bool} {elt : List S → R D} {M : α → S → List S} (hs : ∀ a s x, setTg (wipeS (M a s) tg.slots) tg x = some (M a (.val x))) (ht : ∀ st, test st = some (.ok true, st))
    (he : ∀ a s, I a → ∃ d a', elt (M a s) = some (.ok d, M a' s) ∧ I a' ∧ Pd d) : ∀ (its : List D) (a : α) (s : S), I a → ∃ (ds : List D) (a' : α) (s' : S), turns tg test elt its (M a s) = some (.ok ds, M a' s') ∧ I a' ∧ ds.length = its.length ∧ ∀ d ∈ ds, Pd d
  | [], a, s, h => ⟨[], a, s, rfl, h, rfl, fun _ z => by cases z⟩
  | x :: its, a, s, h => by
    obtain ⟨d, a1, h1, h2, h3⟩ := he a (.val x) h
    obtain ⟨ds, a2, s2, k1, k2, k3, k4⟩ := turns_thread hs ht he its a1 (.val x) h2
    refine ⟨d :: ds, a2, s2, ?_, k2, by rw [List.length_cons, k3, List.length_cons], fun z hz => ?_⟩
    · unfold turns
      rw [hs a s x]
      dsimp only
      rw [ht]
      dsimp only
      rw [h1]
      dsimp only
      rw [k1]
    · rcases List.mem_cons.mp hz with rfl | hz
      · exact h3
      · exact k4 z hz
/-- data that are all of one make -/
theorem all_of {β : Type} {g : β → D} {P : β → Prop} : ∀ {ds : List D}, (∀ d ∈ ds, ∃ b, d = g b ∧ P b) → ∃ bs : List β, ds = bs.map g ∧ ∀ b ∈ bs, P b
  | [], _ => ⟨[], rfl, fun _ z => by cases z⟩
  | d :: ds, h => by
    obtain ⟨b, rfl, hb⟩ := h d List.mem_cons_self
    obtain ⟨bs, rfl, hbs⟩ := all_of fun x hx => h x (List.mem_cons_of_mem _ hx)
    refine ⟨b :: bs, rfl, fun z hz => ?_⟩
    rcases List.mem_cons.mp hz with rfl | hz
    · exact hb
    · exact hbs z hz
end Gn
/-! Lt1: rows, lots in reduced form, what rows span. Plain mathematics. -/
namespace LT
abbrev Row := List Rat
def ent (r : Row) (c : Nat) : Rat := r.getD c 0
def lead (r : Row) : Option Nat := r.findIdx? (fun q => q != 0)
def leadD (r : Row) : Nat := (lead r).getD 0
def lessR (r : Row) (q : Rat) (o : Row) : Row := List.zipWith (fun a b => a - q * b) r o
def scR (q : Rat) (r : Row) : Row := r.map fun x => q * x
def restR (lot : List Row) (row : Row) : Row := lot.foldl (fun r l => lessR r (ent r (leadD l)) l) row
def sortL (rows : List Row) : List Row := SR.sortK ((rows.map fun r => ((leadD r : Nat) : Int)).zip rows)
def withR (lot : List Row) (row : Row) : List Row := match lead (restR lot row) with
  | none => lot
  | some i => sortL (lot.map (fun o => lessR o (ent o i) (scR (1 / ent (restR lot row) i) (restR lot row))) ++ [scR (1 / ent (restR lot row) i) (restR lot row)])
def spanR (rows : List Row) : List Row := rows.foldl withR []
def zeroR (w : Nat) : Row := List.replicate w 0

theorem ent_lt {r : Row} {c : Nat} (h : ent r c ≠ 0) : c < r.length := by
  refine Classical.byContradiction fun z => h ?_
  unfold ent
  rw [List.getD_eq_getElem?_getD, List.getElem?_eq_none (by omega)]
  rfl
theorem ent_ge {r : Row} {c : Nat} (h : r.length ≤ c) : ent r c = 0 := by
  unfold ent
  rw [List.getD_eq_getElem?_getD, List.getElem?_eq_none h]
  rfl
theorem ent_get {r : Row} {c : Nat} (h : c < r.length) : ent r c = r[c] := by
  unfold ent
  rw [List.getD_eq_getElem?_getD, List.getElem?_eq_getElem h]
  rfl
theorem row_ext {r s : Row} (hl : r.length = s.length) (h : ∀ c, ent r c = ent s c) : r = s := by
  refine List.ext_getElem hl fun i h1 h2 => ?_
  rw [← ent_get h1, ← ent_get h2]
  exact h i
theorem ent_zero (w c : Nat) : ent (zeroR w) c = 0 := by
  unfold ent zeroR
  rw [List.getD_eq_getElem?_getD, List.getElem?_replicate]
  split <;> rfl
theorem len_zero (w : Nat) : (zeroR w).length = w := List.length_replicate ..
theorem len_less {r o : Row} (q : Rat) (h : r.length = o.length) : (lessR r q o).length = r.length := by
  unfold lessR
  rw [List.length_zipWith, h, Nat.min_self]
theorem ent_less {r o : Row} (q : Rat) (h : r.length = o.length) (c : Nat) : ent (lessR r q o) c = ent r c - q * ent o c := by
  by_cases hc : c < r.length
  · rw [ent_get (by rw [len_less q h]; exact hc), ent_get hc, ent_get (by omega)]
    unfold lessR
    rw [List.getElem_zipWith]
  · rw [ent_ge (by rw [len_less q h]; omega), ent_ge (by omega), ent_ge (by omega)]
    grind
theorem len_sc (q : Rat) (r : Row) : (scR q r).length = r.length := List.length_map ..
theorem ent_sc (q : Rat) (r : Row) (c : Nat) : ent (scR q r) c = q * ent r c := by
  by_cases hc : c < r.length
  · rw [ent_get (by rw [len_sc]; exact hc), ent_get hc]
    unfold scR
    rw [List.getElem_map]
  · rw [ent_ge (by rw [len_sc]; omega), ent_ge (by omega)]
    grind
theorem lead_some {r : Row} {i : Nat} : lead r = some i ↔ ent r i ≠ 0 ∧ ∀ j, j < i → ent r j = 0 := by
  unfold lead
  rw [List.findIdx?_eq_some_iff_getElem]
  constructor
  · rintro ⟨h, h1, h2⟩
    refine ⟨by rw [ent_get h]; simpa using h1, fun j hj => ?_⟩
    rw [ent_get (by omega)]
    have := h2 j hj
    simpa using this
  · rintro ⟨h1, h2⟩
    have h := ent_lt h1
    refine ⟨h, by rw [ent_get h] at h1; simpa using h1, fun j hj => ?_⟩
    have := h2 j hj
    rw [ent_get (by omega)] at this
    simpa using this
theorem lead_none {r : Row} : lead r = none ↔ ∀ c, ent r c = 0 := by
  constructor
  · intro h c
    refine Classical.byContradiction fun z => ?_
    have hc := ent_lt z
    unfold lead at h
    rw [List.findIdx?_eq_none_iff] at h
    have := h r[c] (List.getElem_mem hc)
    rw [ent_get hc] at z
    exact z (by simpa using this)
  · intro h
    cases e : lead r with
    | none => rfl
    | some i => exact absurd (h i) (lead_some.mp e).1
theorem lead_zero {r : Row} {w : Nat} (hl : r.length = w) (h : lead r = none) : r = zeroR w := row_ext (by rw [hl, len_zero]) fun c => by rw [lead_none.mp h, ent_zero]
/-! ### sums -/
def sm : List Rat → Rat
  | [] => 0
  | x :: l => x + sm l
theorem sm_zero {α : Type} {f : α → Rat} : ∀ {l : List α}, (∀ x ∈ l, f x = 0) → sm (l.map f) = 0
  | [], _ => rfl
  | x :: l, h => by
    show f x + sm (l.map f) = 0
    rw [h x List.mem_cons_self, sm_zero fun y hy => h y (List.mem_cons_of_mem _ hy)]
    grind
theorem sm_congr {α : Type} {f g : α → Rat} : ∀ {l : List α}, (∀ x ∈ l, f x = g x) → sm (l.map f) = sm (l.map g)
  | [], _ => rfl
  | x :: l, h => by
    show f x + sm (l.map f) = g x + sm (l.map g)
    rw [h x List.mem_cons_self, sm_congr fun y hy => h y (List.mem_cons_of_mem _ hy)]
theorem sm_sub {α : Type} {f g : α → Rat} (q : Rat) : ∀ l : List α, sm (l.map fun x => f x - q * g x) = sm (l.map f) - q * sm (l.map g)
  | [] => by show (0 : Rat) = 0 - q * 0; grind
  | x :: l => by
    show (f x - q * g x) + sm (l.map fun x => f x - q * g x) = (f x + sm (l.map f)) - q * (g x + sm (l.map g))
    rw [sm_sub q l]
    grind
theorem sm_mul {α : Type} {f : α → Rat} (q : Rat) : ∀ l : List α, sm (l.map fun x => q * f x) = q * sm (l.map f)
  | [] => by show (0 : Rat) = q * 0; grind
  | x :: l => by
    show q * f x + sm (l.map fun x => q * f x) = q * (f x + sm (l.map f))
    rw [sm_mul q l]
    grind
/-- all but one vanish -/
theorem sm_one {α : Type} {f : α → Rat} {a : α} : ∀ {l : List α}, l.Nodup → a ∈ l → (∀ x ∈ l, x ≠ a → f x = 0) → sm (l.map f) = f a
  | [], _, h, _ => by cases h
  | x :: l, hn, h, hz => by
    show f x + sm (l.map f) = f a
    have hn' := List.nodup_cons.mp hn
    rcases List.mem_cons.mp h with rfl | h
    · rw [sm_zero fun y hy => hz y (List.mem_cons_of_mem _ hy) fun z => by subst z; exact hn'.1 hy]
      grind
    · rw [hz x List.mem_cons_self (fun z => by subst z; exact hn'.1 h), sm_one hn'.2 h fun y hy => hz y (List.mem_cons_of_mem _ hy)]
      grind
/-! ### reduced form -/
structure Red (w : Nat) (lot : List Row) : Prop where
  len : ∀ r ∈ lot, r.length = w
  one : ∀ r ∈ lot, lead r = some (leadD r) ∧ ent r (leadD r) = 1
  orth : ∀ a ∈ lot, ∀ b ∈ lot, leadD a ≠ leadD b → ent a (leadD b) = 0
  srt : lot.Pairwise fun a b => leadD a < leadD b
theorem Red.nil (w : Nat) : Red w [] := ⟨fun _ h => (nomatch h), fun _ h => (nomatch h), fun _ h => (nomatch h), List.Pairwise.nil⟩
theorem Red.tail {w : Nat} {l : Row} {lot : List Row} (h : Red w (l :: lot)) : Red w lot :=
  ⟨fun r hr => h.len r (List.mem_cons_of_mem _ hr), fun r hr => h.one r (List.mem_cons_of_mem _ hr), fun a ha b hb => h.orth a (List.mem_cons_of_mem _ ha) b (List.mem_cons_of_mem _ hb), (List.pairwise_cons.mp h.srt).2⟩
theorem srt_inj {lot : List Row} (h : lot.Pairwise fun a b => leadD a < leadD b) {a b : Row} (ha : a ∈ lot) (hb : b ∈ lot) (e : leadD a = leadD b) : a = b := by
  induction lot with
  | nil => cases ha
  | cons x lot ih =>
    have h' := List.pairwise_cons.mp h
    rcases List.mem_cons.mp ha with ea | ha2
    · rcases List.mem_cons.mp hb with eb | hb2
      · rw [ea, eb]
      · have := h'.1 b hb2
        rw [ea] at e
        omega
    · rcases List.mem_cons.mp hb with eb | hb2
      · have := h'.1 a ha2
        rw [eb] at e
        omega
      · exact ih h'.2 ha2 hb2
theorem srt_nodup {lot : List Row} (h : lot.Pairwise fun a b => leadD a < leadD b) : lot.Nodup := h.imp fun {a b} z e => by subst e; omega
theorem Red.inj {w : Nat} {lot : List Row} (h : Red w lot) {a b : Row} (ha : a ∈ lot) (hb : b ∈ lot) (e : leadD a = leadD b) : a = b := srt_inj h.srt ha hb e
theorem Red.nodup {w : Nat} {lot : List Row} (h : Red w lot) : lot.Nodup := srt_nodup h.srt
theorem Red.below {w : Nat} {lot : List Row} (h : Red w lot) {a : Row} (ha : a ∈ lot) {j : Nat} (hj : j < leadD a) : ent a j = 0 := (lead_some.mp (h.one a ha).1).2 j hj
/-- one lot's row at a lead -/
theorem Red.at_lead {w : Nat} {lot : List Row} (h : Red w lot) {l : Row} (hl : l ∈ lot) (f : Row → Rat) : sm (lot.map fun l' => f l' * ent l' (leadD l)) = f l := by
  rw [sm_one h.nodup hl fun x hx ne => ?_, (h.one l hl).2]
  · grind
  · rw [h.orth x hx l hl fun e => ne (h.inj hx hl e)]
    grind
/-- what is left of a row -/
theorem rest_ent {w : Nat} : ∀ {lot : List Row} {row : Row}, Red w lot → row.length = w → (restR lot row).length = w ∧ ∀ c, ent (restR lot row) c = ent row c - sm (lot.map fun l => ent row (leadD l) * ent l c)
  | [], row, _, hl => ⟨hl, fun c => by show ent row c = ent row c - 0; grind⟩
  | l :: lot, row, h, hl => by
    have ll := h.len l List.mem_cons_self
    have e : row.length = l.length := by rw [hl, ll]
    obtain ⟨h1, h2⟩ := rest_ent (row := lessR row (ent row (leadD l)) l) h.tail (by rw [len_less _ e]; exact hl)
    refine ⟨h1, fun c => ?_⟩
    show ent (restR lot (lessR row (ent row (leadD l)) l)) c = ent row c - (ent row (leadD l) * ent l c + sm (lot.map fun l => ent row (leadD l) * ent l c))
    rw [h2 c, ent_less _ e]
    have e3 : sm (lot.map fun l' => ent (lessR row (ent row (leadD l)) l) (leadD l') * ent l' c) = sm (lot.map fun l' => ent row (leadD l') * ent l' c) := sm_congr fun l' hl' => by
      have ne : leadD l ≠ leadD l' := by
        have := (List.pairwise_cons.mp h.srt).1 l' hl'
        omega
      rw [ent_less _ e, h.orth l List.mem_cons_self l' (List.mem_cons_of_mem _ hl') ne]
      grind
    rw [e3]
    grind
theorem rest_len {w : Nat} {lot : List Row} {row : Row} (h : Red w lot) (hl : row.length = w) : (restR lot row).length = w := (rest_ent h hl).1
theorem rest_lead {w : Nat} {lot : List Row} {row l : Row} (h : Red w lot) (hl : row.length = w) (hm : l ∈ lot) : ent (restR lot row) (leadD l) = 0 := by
  rw [(rest_ent h hl).2, h.at_lead hm fun l => ent row (leadD l)]
  grind
theorem Red.take {w : Nat} {lot : List Row} (h : Red w lot) (n : Nat) : Red w (lot.take n) :=
  ⟨fun r hr => h.len r (List.mem_of_mem_take hr), fun r hr => h.one r (List.mem_of_mem_take hr), fun a ha b hb => h.orth a (List.mem_of_mem_take ha) b (List.mem_of_mem_take hb), h.srt.sublist (List.take_sublist _ _)⟩
/-! ### sorting by leads -/
theorem ksz {rows : List Row} : (rows.map fun r => ((leadD r : Nat) : Int)).zip rows = rows.map fun r => (((leadD r : Nat) : Int), r) := by
  induction rows with
  | nil => rfl
  | cons r rows ih => rw [List.map_cons, List.zip_cons_cons, ih]; rfl
theorem sortL_perm (rows : List Row) : (sortL rows).Perm rows := by
  unfold sortL SR.sortK
  have := (SR.isort_ok (SR.swo_of fun p : Int × Row => p.1) ((rows.map fun r => ((leadD r : Nat) : Int)).zip rows)).2.perm.map (·.2)
  rw [ksz] at this
  rw [ksz]
  refine this.trans ?_
  rw [List.map_map]
  have : rows.map ((fun p : Int × Row => p.2) ∘ fun r => (((leadD r : Nat) : Int), r)) = rows := by
    rw [show ((fun p : Int × Row => p.2) ∘ fun r => (((leadD r : Nat) : Int), r)) = id from rfl, List.map_id]
  rw [this]
theorem sortL_srt (rows : List Row) : (sortL rows).Pairwise fun a b => leadD a ≤ leadD b := by
  unfold sortL SR.sortK
  have h1 := (SR.isort_ok (SR.swo_of fun p : Int × Row => p.1) ((rows.map fun r => ((leadD r : Nat) : Int)).zip rows))
  have hm : ∀ p ∈ SR.isort SR.ltI ((rows.map fun r => ((leadD r : Nat) : Int)).zip rows), p.1 = ((leadD p.2 : Nat) : Int) := fun p hp => by
    have := h1.2.perm.mem_iff.mp hp
    rw [ksz] at this
    obtain ⟨r, _, rfl⟩ := List.mem_map.mp this
    rfl
  rw [List.pairwise_map]
  refine h1.1.imp_of_mem fun {a b} ha hb h => ?_
  have := of_decide_eq_false h
  rw [hm a ha, hm b hb] at this
  omega
/-- sorting what is sorted -/
theorem sorted_uniq : ∀ {A B : List Row}, (A.Pairwise fun a b => leadD a < leadD b) → (B.Pairwise fun a b => leadD a < leadD b) → (∀ r, r ∈ A ↔ r ∈ B) → A = B
  | [], [], _, _, _ => rfl
  | [], b :: B, _, _, h => by
    have := (h b).mpr List.mem_cons_self
    cases this
  | a :: A, [], _, _, h => by
    have := (h a).mp List.mem_cons_self
    cases this
  | a :: A, b :: B, ha, hb, h => by
    have ha' := List.pairwise_cons.mp ha
    have hb' := List.pairwise_cons.mp hb
    have e : a = b := by
      rcases List.mem_cons.mp ((h a).mp List.mem_cons_self) with e | h1
      · exact e
      · rcases List.mem_cons.mp ((h b).mpr List.mem_cons_self) with e | h2
        · exact e.symm
        · have := ha'.1 b h2
          have := hb'.1 a h1
          omega
    subst e
    rw [sorted_uniq ha'.2 hb'.2 fun r => ⟨fun hr => ?_, fun hr => ?_⟩]
    · rcases List.mem_cons.mp ((h r).mp (List.mem_cons_of_mem _ hr)) with e | h1
      · subst e
        have := ha'.1 r hr
        omega
      · exact h1
    · rcases List.mem_cons.mp ((h r).mpr (List.mem_cons_of_mem _ hr)) with e | h1
      · subst e
        have := hb'.1 r hr
        omega
      · exact h1
theorem pair_lt {L : List Row} (hn : (L.map leadD).Nodup) (h : L.Pairwise fun a b => leadD a ≤ leadD b) : L.Pairwise fun a b => leadD a < leadD b := by
  have hn' : L.Pairwise fun a b => leadD a ≠ leadD b := List.pairwise_map.mp hn
  exact (h.and hn').imp fun {a b} z => by have := z.1; have := z.2; omega
theorem sort_lt {L : List Row} (hn : (L.map leadD).Nodup) : (sortL L).Pairwise fun a b => leadD a < leadD b := pair_lt (((sortL_perm L).map leadD).nodup_iff.mpr hn) (sortL_srt L)
theorem sort_id {L : List Row} (h : L.Pairwise fun a b => leadD a < leadD b) : sortL L = L := by
  have hn : (L.map leadD).Nodup := List.pairwise_map.mpr (h.imp fun {a b} z => by omega)
  exact sorted_uniq (sort_lt hn) h fun r => (sortL_perm L).mem_iff
/-! ### a row more -/
section
variable {w : Nat} {lot : List Row} {row : Row} {i : Nat}
/-- the new row of a lot -/
abbrev newR (lot : List Row) (row : Row) (i : Nat) : Row := scR (1 / ent (restR lot row) i) (restR lot row)
theorem new_facts (h : Red w lot) (hl : row.length = w) (hi : lead (restR lot row) = some i) : (newR lot row i).length = w ∧ ent (newR lot row i) i = 1 ∧ (∀ j, j < i → ent (newR lot row i) j = 0) ∧ (∀ l ∈ lot, ent (newR lot row i) (leadD l) = 0) ∧ lead (newR lot row i) = some i := by
  obtain ⟨h1, h2⟩ := lead_some.mp hi
  have a1 : ent (newR lot row i) i = 1 := by rw [ent_sc]; grind
  have a2 : ∀ j, j < i → ent (newR lot row i) j = 0 := fun j hj => by rw [ent_sc, h2 j hj]; grind
  refine ⟨by rw [len_sc]; exact rest_len h hl, a1, a2, fun l hm => by rw [ent_sc, rest_lead h hl hm]; grind, lead_some.mpr ⟨by rw [a1]; decide, a2⟩⟩
theorem lead_of {r : Row} {i : Nat} (h : lead r = some i) : leadD r = i := by unfold leadD; rw [h]; rfl
theorem old_facts (h : Red w lot) (hl : row.length = w) (hi : lead (restR lot row) = some i) {o : Row} (ho : o ∈ lot) : (lessR o (ent o i) (newR lot row i)).length = w ∧ lead (lessR o (ent o i) (newR lot row i)) = some (leadD o) ∧ ent (lessR o (ent o i) (newR lot row i)) (leadD o) = 1 ∧
    ent (lessR o (ent o i) (newR lot row i)) i = 0 ∧ ∀ l ∈ lot, ent (lessR o (ent o i) (newR lot row i)) (leadD l) = ent o (leadD l) := by
  obtain ⟨n1, n2, n3, n4, n5⟩ := new_facts h hl hi
  have lo := h.len o ho
  have e : o.length = (newR lot row i).length := by rw [lo, n1]
  have eq : ∀ c, ent (lessR o (ent o i) (newR lot row i)) c = ent o c - ent o i * ent (newR lot row i) c := ent_less _ e
  have ol := (h.one o ho).2
  have a1 : ent (lessR o (ent o i) (newR lot row i)) (leadD o) = 1 := by rw [eq, n4 o ho, ol]; grind
  refine ⟨by rw [len_less _ e]; exact lo, lead_some.mpr ⟨by rw [a1]; decide, fun j hj => ?_⟩, a1, by rw [eq, n2]; grind, fun l hm => by rw [eq, n4 l hm]; grind⟩
  rw [eq, h.below ho hj]
  by_cases hij : j < i
  · rw [n3 j hij]; grind
  · by_cases e2 : i = leadD o
    · have := n4 o ho
      rw [← e2, n2] at this
      exact absurd this (by decide)
    · rw [h.below ho (show i < leadD o by omega)]
      grind
theorem with_none (hi : lead (restR lot row) = none) : withR lot row = lot := by unfold withR; rw [hi]
theorem with_some (hi : lead (restR lot row) = some i) : withR lot row = sortL (lot.map (fun o => lessR o (ent o i) (newR lot row i)) ++ [newR lot row i]) := by unfold withR; rw [hi]
theorem with_mem (hi : lead (restR lot row) = some i) (r : Row) : r ∈ withR lot row ↔ r = newR lot row i ∨ ∃ o ∈ lot, r = lessR o (ent o i) (newR lot row i) := by
  rw [with_some hi, (sortL_perm _).mem_iff, List.mem_append, List.mem_map, List.mem_singleton]
  constructor
  · rintro (⟨o, h1, h2⟩ | h)
    · exact .inr ⟨o, h1, h2.symm⟩
    · exact .inl h
  · rintro (h | ⟨o, h1, h2⟩)
    · exact .inr h
    · exact .inl ⟨o, h1, h2.symm⟩
theorem with_red (h : Red w lot) (hl : row.length = w) : Red w (withR lot row) := by
  cases hi : lead (restR lot row) with
  | none => rw [with_none hi]; exact h
  | some i =>
    obtain ⟨n1, n2, n3, n4, n5⟩ := new_facts h hl hi
    have hn := lead_of n5
    refine ⟨fun r hr => ?_, fun r hr => ?_, fun a ha b hb hab => ?_, ?_⟩
    · rcases (with_mem hi r).mp hr with rfl | ⟨o, ho, rfl⟩
      · exact n1
      · exact (old_facts h hl hi ho).1
    · rcases (with_mem hi r).mp hr with rfl | ⟨o, ho, rfl⟩
      · exact ⟨by rw [hn]; exact n5, by rw [hn]; exact n2⟩
      · obtain ⟨o1, o2, o3, _⟩ := old_facts h hl hi ho
        rw [lead_of o2]
        exact ⟨o2, o3⟩
    · rcases (with_mem hi a).mp ha with rfl | ⟨o, ho, rfl⟩
      · rcases (with_mem hi b).mp hb with rfl | ⟨u, hu, rfl⟩
        · exact absurd rfl hab
        · rw [lead_of (old_facts h hl hi hu).2.1]
          exact n4 u hu
      · obtain ⟨o1, o2, o3, o4, o5⟩ := old_facts h hl hi ho
        rcases (with_mem hi b).mp hb with rfl | ⟨u, hu, rfl⟩
        · rw [hn]
          exact o4
        · have hu2 := (old_facts h hl hi hu).2.1
          rw [lead_of o2, lead_of hu2] at hab
          rw [lead_of hu2, o5 u hu]
          exact h.orth o ho u hu hab
    · rw [with_some hi]
      refine sort_lt ?_
      rw [List.map_append, List.map_map, List.map_cons, List.map_nil, hn]
      have e1 : lot.map (leadD ∘ fun o => lessR o (ent o i) (newR lot row i)) = lot.map leadD := List.map_congr_left fun o ho => lead_of (old_facts h hl hi ho).2.1
      rw [e1, List.nodup_append]
      refine ⟨List.pairwise_map.mpr (h.srt.imp fun {a b} z => by omega), by simp, fun a ha b hb e => ?_⟩
      have hb' : b = i := by simpa using hb
      obtain ⟨l, hm, rfl⟩ := List.mem_map.mp ha
      have := n4 l hm
      rw [e, hb', n2] at this
      exact absurd this (by decide)
end
/-! ### what rows span -/
inductive Spn (w : Nat) (rows : List Row) : Row → Prop
  | zero : Spn w rows (zeroR w)
  | add {v r : Row} (q : Rat) : Spn w rows v → r ∈ rows → r.length = w → Spn w rows (lessR v q r)
section
variable {w : Nat} {A B rows lot : List Row}
theorem Spn.len {v : Row} (h : Spn w rows v) : v.length = w := by
  induction h with
  | zero => exact len_zero w
  | add q _ _ hl ih => rw [len_less _ (by rw [ih, hl])]; exact ih
theorem Spn.mem {r : Row} (h : r ∈ rows) (hl : r.length = w) : Spn w rows r := by
  have : lessR (zeroR w) (-1) r = r := row_ext (by rw [len_less _ (by rw [len_zero, hl]), len_zero, hl]) fun c => by
    rw [ent_less _ (by rw [len_zero, hl]), ent_zero]
    grind
  rw [← this]
  exact .add (-1) .zero h hl
theorem Spn.less {u v : Row} (q : Rat) (hu : Spn w rows u) (hv : Spn w rows v) : Spn w rows (lessR u q v) := by
  induction hv with
  | zero =>
    have : lessR u q (zeroR w) = u := row_ext (by rw [len_less _ (by rw [hu.len, len_zero])]) fun c => by
      rw [ent_less _ (by rw [hu.len, len_zero]), ent_zero]
      grind
    rw [this]
    exact hu
  | @add v r p hv hr hl ih =>
    have e1 : v.length = r.length := by rw [hv.len, hl]
    have e2 : u.length = v.length := by rw [hu.len, hv.len]
    have e3 : u.length = (lessR v p r).length := by rw [len_less _ e1]; exact e2
    have e4 : (lessR u q v).length = r.length := by rw [len_less _ e2, hu.len, hl]
    have : lessR u q (lessR v p r) = lessR (lessR u q v) (-(q * p)) r := row_ext (by rw [len_less _ e3, len_less _ e4, len_less _ e2]) fun c => by
      rw [ent_less _ e3, ent_less _ e1, ent_less _ e4, ent_less _ e2]
      grind
    rw [this]
    exact .add _ ih hr hl
theorem Spn.sc {v : Row} (q : Rat) (hv : Spn w rows v) : Spn w rows (scR q v) := by
  have e : (zeroR w).length = v.length := by rw [len_zero, hv.len]
  have : scR q v = lessR (zeroR w) (-q) v := row_ext (by rw [len_sc, len_less _ e, len_zero, hv.len]) fun c => by
    rw [ent_sc, ent_less _ e, ent_zero]
    grind
  rw [this]
  exact Spn.less _ .zero hv
theorem Spn.trans {v : Row} (h : Spn w A v) (k : ∀ r ∈ A, Spn w B r) : Spn w B v := by
  induction h with
  | zero => exact .zero
  | add q _ hr _ ih => exact Spn.less q ih (k _ hr)
theorem Spn.rest : ∀ {lot : List Row} {row : Row}, (∀ l ∈ lot, l.length = w) → (∀ l ∈ lot, Spn w rows l) → Spn w rows row → Spn w rows (restR lot row)
  | [], _, _, _, h => h
  | l :: lot, row, hl, hs, h => by
    show Spn w rows (restR lot (lessR row (ent row (leadD l)) l))
    exact Spn.rest (fun x hx => hl x (List.mem_cons_of_mem _ hx)) (fun x hx => hs x (List.mem_cons_of_mem _ hx)) (Spn.less _ h (hs l List.mem_cons_self))
/-- a row is its rest and rows of the lot -/
theorem Spn.back : ∀ {lot : List Row} {row : Row}, row.length = w → (∀ l ∈ lot, l.length = w) → (∀ l ∈ lot, Spn w rows l) → Spn w rows (restR lot row) → Spn w rows row
  | [], _, _, _, _, h => h
  | l :: lot, row, hw, hl, hs, h => by
    have e : row.length = l.length := by rw [hw, hl l List.mem_cons_self]
    have h1 := Spn.back (by rw [len_less _ e]; exact hw) (fun x hx => hl x (List.mem_cons_of_mem _ hx)) (fun x hx => hs x (List.mem_cons_of_mem _ hx)) h
    have h2 := Spn.less (-(ent row (leadD l))) h1 (hs l List.mem_cons_self)
    have e2 : (lessR row (ent row (leadD l)) l).length = l.length := by rw [len_less _ e]; exact e
    have : lessR (lessR row (ent row (leadD l)) l) (-(ent row (leadD l))) l = row := row_ext (by rw [len_less _ e2, len_less _ e]) fun c => by
      rw [ent_less _ e2, ent_less _ e]
      grind
    rw [this] at h2
    exact h2
/-- in a reduced lot: what is spanned leaves nothing -/
theorem spn_rest {v : Row} (h : Red w lot) (hv : Spn w lot v) : lead (restR lot v) = none := by
  rw [lead_none]
  induction hv with
  | zero =>
    intro c
    rw [(rest_ent h (len_zero w)).2, sm_zero fun l _ => by rw [ent_zero]; grind, ent_zero]
    grind
  | @add v r q hv hr hl ih =>
    intro c
    have e : v.length = r.length := by rw [hv.len, hl]
    have i1 := ih c
    rw [(rest_ent h hv.len).2] at i1
    rw [(rest_ent h (by rw [len_less _ e]; exact hv.len)).2, ent_less _ e]
    have e2 : sm (lot.map fun l => ent (lessR v q r) (leadD l) * ent l c) = sm (lot.map fun l => ent v (leadD l) * ent l c) - q * sm (lot.map fun l => ent r (leadD l) * ent l c) := by
      rw [← sm_sub]
      exact sm_congr fun l _ => by rw [ent_less _ e]; grind
    have e3 : sm (lot.map fun l => ent r (leadD l) * ent l c) = ent r c := by
      have : sm (lot.map fun l => ent r (leadD l) * ent l c) = ent r (leadD r) * ent r c := sm_one h.nodup hr fun x hx ne => by
        rw [h.orth r hr x hx fun z => ne (h.inj hx hr z.symm)]
        grind
      rw [this, (h.one r hr).2]
      grind
    rw [e2, e3]
    grind
theorem rest_spn {v : Row} (h : Red w lot) (hl : v.length = w) (e : lead (restR lot v) = none) : Spn w lot v := by
  refine Spn.back hl h.len (fun l hm => .mem hm (h.len l hm)) ?_
  rw [lead_zero (rest_len h hl) e]
  exact .zero
theorem spn_iff {v : Row} (h : Red w lot) (hl : v.length = w) : Spn w lot v ↔ lead (restR lot v) = none := ⟨spn_rest h, rest_spn h hl⟩
theorem with_spn {row : Row} (h : Red w lot) (hl : row.length = w) : (∀ l ∈ lot, Spn w (withR lot row) l) ∧ Spn w (withR lot row) row ∧ ∀ l ∈ withR lot row, Spn w (row :: lot) l := by
  have hr := with_red h hl
  cases hi : lead (restR lot row) with
  | none =>
    rw [with_none hi]
    exact ⟨fun l hm => .mem hm (h.len l hm), rest_spn h hl hi, fun l hm => .mem (List.mem_cons_of_mem _ hm) (h.len l hm)⟩
  | some i =>
    obtain ⟨n1, n2, n3, n4, n5⟩ := new_facts h hl hi
    have nm : Spn w (withR lot row) (newR lot row i) := .mem ((with_mem hi _).mpr (.inl rfl)) n1
    have old : ∀ l ∈ lot, Spn w (withR lot row) l := fun l hm => by
      have o1 := (old_facts h hl hi hm).1
      have s1 : Spn w (withR lot row) (lessR l (ent l i) (newR lot row i)) := .mem ((with_mem hi _).mpr (.inr ⟨l, hm, rfl⟩)) o1
      have e : l.length = (newR lot row i).length := by rw [h.len l hm, n1]
      have e2 : (lessR l (ent l i) (newR lot row i)).length = (newR lot row i).length := by rw [o1, n1]
      have := Spn.less (-(ent l i)) s1 nm
      have e3 : lessR (lessR l (ent l i) (newR lot row i)) (-(ent l i)) (newR lot row i) = l := row_ext (by rw [len_less _ e2, len_less _ e]) fun c => by
        rw [ent_less _ e2, ent_less _ e]
        grind
      rw [e3] at this
      exact this
    refine ⟨old, Spn.back hl h.len old ?_, fun l hm => ?_⟩
    · have ne := (lead_some.mp hi).1
      have : restR lot row = scR (ent (restR lot row) i) (newR lot row i) := row_ext (by rw [len_sc, n1]; exact rest_len h hl) fun c => by
        rw [ent_sc, ent_sc]
        grind
      rw [this]
      exact nm.sc _
    · have sr : Spn w (row :: lot) (restR lot row) := Spn.rest h.len (fun l hm => .mem (List.mem_cons_of_mem _ hm) (h.len l hm)) (.mem List.mem_cons_self hl)
      rcases (with_mem hi l).mp hm with rfl | ⟨o, ho, rfl⟩
      · exact sr.sc _
      · exact Spn.less _ (.mem (List.mem_cons_of_mem _ ho) (h.len o ho)) (sr.sc _)
theorem fold_facts : ∀ {rows lot : List Row}, Red w lot → (∀ r ∈ rows, r.length = w) → Red w (rows.foldl withR lot) ∧ (∀ l ∈ lot, Spn w (rows.foldl withR lot) l) ∧ (∀ r ∈ rows, Spn w (rows.foldl withR lot) r) ∧ ∀ l ∈ rows.foldl withR lot, Spn w (rows ++ lot) l
  | [], lot, h, _ => ⟨h, fun l hm => .mem hm (h.len l hm), fun _ z => (nomatch z), fun l hm => .mem hm (h.len l hm)⟩
  | row :: rows, lot, h, hr => by
    have hl := hr row List.mem_cons_self
    obtain ⟨a1, a2, a3⟩ := with_spn h hl
    obtain ⟨b1, b2, b3, b4⟩ := fold_facts (with_red h hl) fun r hm => hr r (List.mem_cons_of_mem _ hm)
    refine ⟨b1, fun l hm => (a1 l hm).trans b2, fun r hm => ?_, fun l hm => (b4 l hm).trans fun x hx => ?_⟩
    · rcases List.mem_cons.mp hm with rfl | hm
      · exact a2.trans b2
      · exact b3 r hm
    · rcases List.mem_append.mp hx with hx | hx
      · exact .mem (by simp [hx]) (hr x (List.mem_cons_of_mem _ hx))
      · refine (a3 x hx).trans fun y hy => ?_
        rcases List.mem_cons.mp hy with rfl | hy
        · exact .mem (by simp) hl
        · exact .mem (by simp [hy]) (h.len y hy)
theorem span_red (hr : ∀ r ∈ rows, r.length = w) : Red w (spanR rows) := (fold_facts (Red.nil w) hr).1
theorem span_in (hr : ∀ r ∈ rows, r.length = w) : ∀ r ∈ rows, Spn w (spanR rows) r := (fold_facts (Red.nil w) hr).2.2.1
theorem span_of (hr : ∀ r ∈ rows, r.length = w) : ∀ l ∈ spanR rows, Spn w rows l := by
  have := (fold_facts (Red.nil w) hr).2.2.2
  rw [List.append_nil] at this
  exact this
/-- there is just one reduced lot -/
theorem red_uniq (ha : Red w A) (hb : Red w B) (hab : ∀ a ∈ A, Spn w B a) (hba : ∀ b ∈ B, Spn w A b) : A = B := by
  have rep : ∀ {A B : List Row}, Red w A → Red w B → (∀ a ∈ A, Spn w B a) → ∀ a ∈ A, ∀ c, ent a c = sm (B.map fun b => ent a (leadD b) * ent b c) := fun {A B} ha hb hab a hm c => by
    have := lead_none.mp (spn_rest hb (hab a hm)) c
    rw [(rest_ent hb (ha.len a hm)).2] at this
    grind
  have some : ∀ {A B : List Row}, Red w A → Red w B → (∀ a ∈ A, Spn w B a) → ∀ a ∈ A, ∃ b ∈ B, leadD b = leadD a := fun {A B} ha hb hab a hm => by
    refine Classical.byContradiction fun z => ?_
    have h1 := rep ha hb hab a hm (leadD a)
    rw [(ha.one a hm).2, sm_zero fun b hbm => ?_] at h1
    · exact absurd h1 (by decide)
    · by_cases h2 : leadD b < leadD a
      · rw [ha.below hm h2]; grind
      · by_cases h3 : leadD b = leadD a
        · exact absurd ⟨b, hbm, h3⟩ z
        · rw [hb.below hbm (show leadD a < leadD b by omega)]; grind
  have sub : ∀ {A B : List Row}, Red w A → Red w B → (∀ a ∈ A, Spn w B a) → (∀ b ∈ B, Spn w A b) → ∀ a ∈ A, a ∈ B := fun {A B} ha hb hab hba a hm => by
    obtain ⟨b, hbm, e⟩ := some ha hb hab a hm
    have : b = a := row_ext (by rw [hb.len b hbm, ha.len a hm]) fun c => by
      rw [rep hb ha hba b hbm c, sm_one ha.nodup hm fun x hx ne => ?_, ← e, (hb.one b hbm).2]
      · grind
      · obtain ⟨b', hb', e'⟩ := some ha hb hab x hx
        rw [← e', hb.orth b hbm b' hb' fun z => ne (ha.inj hx hm (by rw [← e', ← z, e]))]
        grind
    rw [← this]
    exact hbm
  exact sorted_uniq ha.srt hb.srt fun r => ⟨sub ha hb hab hba r, sub hb ha hba hab r⟩
/-- lots of rows that span one another -/
theorem span_eq (hA : ∀ r ∈ A, r.length = w) (hB : ∀ r ∈ B, r.length = w) (hab : ∀ a ∈ A, Spn w B a) (hba : ∀ b ∈ B, Spn w A b) : spanR A = spanR B :=
  red_uniq (span_red hA) (span_red hB) (fun a hm => ((span_of hA a hm).trans hab).trans (span_in hB)) fun b hm => ((span_of hB b hm).trans hba).trans (span_in hA)
/-- the lot of a lot -/
theorem span_red_id (h : Red w lot) : spanR lot = lot :=
  red_uniq (span_red h.len) h (fun a hm => span_of h.len a hm) fun b hm => span_in h.len b hm
theorem span_spn (hr : ∀ r ∈ rows, r.length = w) {v : Row} (hl : v.length = w) : Spn w rows v ↔ Spn w (spanR rows) v := ⟨fun h => h.trans (span_in hr), fun h => h.trans (span_of hr)⟩
end
end LT
/-! Lt2: how great the numbers of a lot can be: minors. -/
namespace LT
def lap (g : List Nat → Rat) (r : Row) : List Nat → List Nat → Rat
  | _, [] => 0
  | pre, c :: post => ent r c * g (pre ++ post) - lap g r (pre ++ [c]) post
def det : List Row → List Nat → Rat
  | [] => fun cols => match cols with
    | [] => 1
    | _ :: _ => 0
  | r :: B => fun cols => lap (det B) r [] cols
/-- changes its sign with two neighbours -/
def AS (g : List Nat → Rat) : Prop := ∀ (pre : List Nat) (a b : Nat) (post : List Nat), g (pre ++ a :: b :: post) = - g (pre ++ b :: a :: post)
theorem lap_cons (g : List Nat → Rat) (r : Row) (pre : List Nat) (c : Nat) (post : List Nat) : lap g r pre (c :: post) = ent r c * g (pre ++ post) - lap g r (pre ++ [c]) post := rfl
theorem lap_swap_pre {g : List Nat → Rat} (h : AS g) (r : Row) (a b : Nat) : ∀ (post q m : List Nat), lap g r (q ++ a :: b :: m) post = - lap g r (q ++ b :: a :: m) post
  | [], q, m => by show (0 : Rat) = -0; grind
  | c :: post, q, m => by
    rw [lap_cons, lap_cons]
    have e1 := h q a b (m ++ post)
    have e2 := lap_swap_pre h r a b post q (m ++ [c])
    simp only [List.append_assoc, List.cons_append] at e1 e2 ⊢
    rw [e1, e2]
    grind
theorem lap_swap {g : List Nat → Rat} (h : AS g) (r : Row) (a b : Nat) (post : List Nat) : ∀ (pre q : List Nat), lap g r q (pre ++ a :: b :: post) = - lap g r q (pre ++ b :: a :: post)
  | [], q => by
    have e := lap_swap_pre h r a b post q []
    simp only [List.nil_append, lap_cons, List.append_assoc, List.cons_append] at e ⊢
    rw [e]
    grind
  | c :: pre, q => by
    have e1 := h (q ++ pre) a b post
    have e2 := lap_swap h r a b post pre (q ++ [c])
    simp only [List.cons_append, lap_cons, List.append_assoc] at e1 e2 ⊢
    rw [e1, e2]
    grind
theorem det_as : ∀ B : List Row, AS (det B)
  | [] => fun pre a b post => by
    have z : ∀ l : List Nat, l ≠ [] → det [] l = 0 := fun l hl => by
      cases l with
      | nil => exact absurd rfl hl
      | cons _ _ => rfl
    rw [z _ (by simp), z _ (by simp)]
    grind
  | r :: B => fun pre a b post => lap_swap (det_as B) r a b post pre []
theorem as_rep {g : List Nat → Rat} (h : AS g) (a : Nat) (post : List Nat) : ∀ (mid pre : List Nat), g (pre ++ a :: (mid ++ a :: post)) = 0
  | [], pre => by
    have e := h pre a a post
    simp only [List.nil_append] at e ⊢
    grind
  | m :: mid, pre => by
    have e := h pre a m (mid ++ a :: post)
    have e2 := as_rep h a post mid (pre ++ [m])
    simp only [List.cons_append, List.append_assoc, List.nil_append] at e e2 ⊢
    rw [e, e2]
    grind
theorem as_mem {g : List Nat → Rat} (h : AS g) {a : Nat} {pre post : List Nat} (hm : a ∈ pre ∨ a ∈ post) : g (pre ++ a :: post) = 0 := by
  rcases hm with hm | hm
  · obtain ⟨x, y, rfl⟩ := List.append_of_mem hm
    have e := as_rep h a post y x
    simp only [List.append_assoc, List.cons_append] at e ⊢
    exact e
  · obtain ⟨x, y, rfl⟩ := List.append_of_mem hm
    exact as_rep h a y x pre
def sgn : Nat → Rat
  | 0 => 1
  | n + 1 => - sgn n
theorem as_move {g : List Nat → Rat} (h : AS g) (p : Nat) (t : List Nat) : ∀ (done pre : List Nat), g (pre ++ p :: (done ++ t)) = sgn done.length * g (pre ++ (done ++ p :: t))
  | [], pre => by show g (pre ++ p :: t) = 1 * g (pre ++ p :: t); grind
  | d :: done, pre => by
    have e := h pre p d (done ++ t)
    have e2 := as_move h p t done (pre ++ [d])
    simp only [List.cons_append, List.append_assoc, List.nil_append, List.length_cons, sgn] at e e2 ⊢
    rw [e, e2]
    grind
/-! ### a column that is a sum of others -/
section
variable {α : Type} {L : List α} {x : α → Rat} {p : α → Nat} {c : Nat}
theorem sm_comb (a : Rat) (f g : α → Rat) : ∀ L : List α, a * sm (L.map f) - sm (L.map g) = sm (L.map fun l => a * f l - g l)
  | [] => by show a * 0 - 0 = (0 : Rat); grind
  | y :: L => by
    show a * (f y + sm (L.map f)) - (g y + sm (L.map g)) = (a * f y - g y) + sm (L.map fun l => a * f l - g l)
    rw [← sm_comb a f g L]
    grind
theorem lap_lin_pre {g : List Nat → Rat} (hg : ∀ pre post, g (pre ++ c :: post) = sm (L.map fun l => x l * g (pre ++ p l :: post))) (r : Row) : ∀ (post q m : List Nat), lap g r (q ++ c :: m) post = sm (L.map fun l => x l * lap g r (q ++ p l :: m) post)
  | [], q, m => by
    rw [sm_zero fun l _ => by show x l * 0 = 0; grind]
    rfl
  | d :: post, q, m => by
    have e1 := hg q (m ++ post)
    have e2 := lap_lin_pre hg r post q (m ++ [d])
    simp only [lap_cons, List.append_assoc, List.cons_append] at e1 e2 ⊢
    rw [e1, e2, sm_comb]
    exact sm_congr fun l _ => by grind
theorem lap_lin {g : List Nat → Rat} (hg : ∀ pre post, g (pre ++ c :: post) = sm (L.map fun l => x l * g (pre ++ p l :: post))) {r : Row} (hr : ent r c = sm (L.map fun l => x l * ent r (p l))) (post : List Nat) :
    ∀ (pre q : List Nat), lap g r q (pre ++ c :: post) = sm (L.map fun l => x l * lap g r q (pre ++ p l :: post))
  | [], q => by
    have e := lap_lin_pre hg r post q []
    simp only [List.nil_append, lap_cons] at e ⊢
    rw [e, hr, show sm (L.map fun l => x l * ent r (p l)) * g (q ++ post) = g (q ++ post) * sm (L.map fun l => x l * ent r (p l)) by grind, sm_comb]
    exact sm_congr fun l _ => by grind
  | d :: pre, q => by
    have e1 := hg (q ++ pre) post
    have e2 := lap_lin hg hr post pre (q ++ [d])
    simp only [List.cons_append, lap_cons, List.append_assoc] at e1 e2 ⊢
    rw [e1, e2, sm_comb]
    exact sm_congr fun l _ => by grind
theorem det_lin : ∀ {B : List Row}, (∀ b ∈ B, ent b c = sm (L.map fun l => x l * ent b (p l))) → ∀ pre post, det B (pre ++ c :: post) = sm (L.map fun l => x l * det B (pre ++ p l :: post))
  | [], _, pre, post => by
    have z : ∀ l : List Nat, l ≠ [] → det [] l = 0 := fun l hl => by
      cases l with
      | nil => exact absurd rfl hl
      | cons _ _ => rfl
    rw [z _ (by simp), sm_zero fun l _ => by rw [z _ (by simp)]; grind]
  | b :: B, h, pre, post => lap_lin (det_lin fun y hy => h y (List.mem_cons_of_mem _ hy)) (h b List.mem_cons_self) post pre []
end
/-! ### integers in bounds -/
def IB (M : Nat) (q : Rat) : Prop := ∃ z : Int, q = (z : Rat) ∧ z.natAbs ≤ M
theorem IB.mono {M N : Nat} {q : Rat} (h : IB M q) (l : M ≤ N) : IB N q := let ⟨z, a, b⟩ := h; ⟨z, a, Nat.le_trans b l⟩
theorem IB.mul {M N : Nat} {q r : Rat} (h : IB M q) (k : IB N r) : IB (M * N) (q * r) := by
  obtain ⟨z, rfl, hz⟩ := h
  obtain ⟨y, rfl, hy⟩ := k
  exact ⟨z * y, by rw [Rat.intCast_mul], by rw [Int.natAbs_mul]; exact Nat.mul_le_mul hz hy⟩
theorem IB.sub {M N : Nat} {q r : Rat} (h : IB M q) (k : IB N r) : IB (M + N) (q - r) := by
  obtain ⟨z, rfl, hz⟩ := h
  obtain ⟨y, rfl, hy⟩ := k
  exact ⟨z - y, by rw [Rat.intCast_sub], by omega⟩
theorem IB.zero (M : Nat) : IB M 0 := ⟨0, rfl, Nat.zero_le _⟩
theorem IB.one {M : Nat} (h : 1 ≤ M) : IB M 1 := ⟨1, rfl, h⟩
theorem lap_ib {g : List Nat → Rat} {r : Row} {K R M : Nat} (hr : ∀ c, IB R (ent r c)) (hg : ∀ cols : List Nat, cols.length ≤ K → IB M (g cols)) : ∀ (post pre : List Nat), pre.length + post.length ≤ K + 1 → IB (post.length * (R * M)) (lap g r pre post)
  | [], pre, _ => (IB.zero _)
  | c :: post, pre, h => by
    rw [List.length_cons] at h
    have a := (hr c).mul (hg (pre ++ post) (by rw [List.length_append]; omega))
    have b := lap_ib hr hg post (pre ++ [c]) (by rw [List.length_append, List.length_singleton]; omega)
    refine (a.sub b).mono ?_
    rw [List.length_cons, Nat.add_mul, Nat.one_mul]
    omega
theorem det_ib {R K : Nat} : ∀ {B : List Row}, (∀ b ∈ B, ∀ c, IB R (ent b c)) → ∀ cols : List Nat, cols.length ≤ K → IB ((K * R) ^ B.length) (det B cols)
  | [], _, [], _ => IB.one (by simp)
  | [], _, _ :: _, _ => IB.zero _
  | b :: B, h, cols, hl => by
    have a := lap_ib (K := K) (h b List.mem_cons_self) (fun cs hc => det_ib (K := K) (fun y hy => h y (List.mem_cons_of_mem _ hy)) cs hc) cols [] (by simp; omega)
    refine a.mono ?_
    rw [List.length_cons, Nat.pow_succ, Nat.mul_comm ((K * R) ^ B.length), Nat.mul_assoc]
    exact Nat.mul_le_mul_right _ hl
/-! ### the minors of a lot -/
structure Cr (w R : Nat) (lot B : List Row) (ps : List Nat) : Prop where
  perm : ps.Perm (lot.map leadD)
  blen : B.length = ps.length
  ib : ∀ b ∈ B, ∀ c, IB R (ent b c)
  inS : ∀ b ∈ B, Spn w lot b
  nz : det B ps ≠ 0
theorem Cr.nil (w R : Nat) : Cr w R [] [] [] := ⟨.refl _, rfl, fun _ h => (nomatch h), fun _ h => (nomatch h), by show (1 : Rat) ≠ 0; decide⟩
section
variable {w R : Nat} {lot B : List Row} {ps : List Nat} {row : Row} {i : Nat}
theorem spn_rep (h : Red w lot) {b : Row} (hb : Spn w lot b) (c : Nat) : ent b c = sm (lot.map fun l => ent l c * ent b (leadD l)) := by
  have := lead_none.mp (spn_rest h hb) c
  rw [(rest_ent h hb.len).2] at this
  have e : sm (lot.map fun l => ent l c * ent b (leadD l)) = sm (lot.map fun l => ent b (leadD l) * ent l c) := sm_congr fun l _ => by grind
  rw [e]
  grind
/-- the i-th column in the place of a lead -/
theorem cr_col (h : Red w lot) (k : Cr w R lot B ps) {l : Row} (hl : l ∈ lot) {pre post : List Nat} (e : ps = pre ++ leadD l :: post) (c : Nat) : det B (pre ++ c :: post) = ent l c * det B ps := by
  rw [det_lin (L := lot) (x := fun l => ent l c) (p := leadD) (fun b hb => spn_rep h (k.inS b hb) c), sm_one h.nodup hl fun x hx ne => ?_, e]
  have hx' : leadD x ∈ ps := k.perm.mem_iff.mpr (List.mem_map.mpr ⟨x, hx, rfl⟩)
  have nx : leadD x ≠ leadD l := fun z => ne (h.inj hx hl z)
  rw [as_mem (det_as B) (a := leadD x) ?_]
  · grind
  · rw [e] at hx'
    rcases List.mem_append.mp hx' with z | z
    · exact .inl z
    · rcases List.mem_cons.mp z with z | z
      · exact absurd z nx
      · exact .inr z
theorem cr_lap (h : Red w lot) (k : Cr w R lot B ps) (b : Row) : ∀ (todo done : List Nat), ps = done ++ todo → lap (det B) b (i :: done) todo = sgn done.length * (sm (todo.map fun p => ent b p * sm (lot.map fun l => if leadD l = p then ent l i else 0)) * det B ps)
  | [], done, _ => by
    show (0 : Rat) = sgn done.length * (0 * det B ps)
    grind
  | p :: todo, done, e => by
    have ih := cr_lap h k b todo (done ++ [p]) (by rw [e]; simp)
    have hnd : ps.Nodup := k.perm.nodup_iff.mpr (List.pairwise_map.mpr (h.srt.imp fun {a b} z => by omega))
    have hp : p ∈ lot.map leadD := k.perm.mem_iff.mp (by rw [e]; simp)
    obtain ⟨l, hl, rfl⟩ := List.mem_map.mp hp
    have e1 : sm (lot.map fun l' => if leadD l' = leadD l then ent l' i else 0) = ent l i := by
      rw [sm_one h.nodup hl fun x hx ne => if_neg fun z => ne (h.inj hx hl z), if_pos rfl]
    have e2 : det B (i :: (done ++ todo)) = ent l i * (sgn done.length * det B ps) := by
      have a := det_lin (L := lot) (x := fun l => ent l i) (p := leadD) (c := i) (fun b hb => spn_rep h (k.inS b hb) i) [] (done ++ todo)
      simp only [List.nil_append] at a
      rw [a, sm_one h.nodup hl fun x hx ne => ?_]
      · have m := as_move (det_as B) (leadD l) todo done []
        simp only [List.nil_append] at m
        rw [m, e]
      · have hx' : leadD x ∈ ps := k.perm.mem_iff.mpr (List.mem_map.mpr ⟨x, hx, rfl⟩)
        have nx : leadD x ≠ leadD l := fun z => ne (h.inj hx hl z)
        have m := as_mem (det_as B) (a := leadD x) (pre := []) (post := done ++ todo) (.inr (by
          rw [e] at hx'
          rcases List.mem_append.mp hx' with z | z
          · exact List.mem_append_left _ z
          · rcases List.mem_cons.mp z with z | z
            · exact absurd z nx
            · exact List.mem_append_right _ z))
        simp only [List.nil_append] at m
        rw [m]
        grind
    rw [lap_cons]
    simp only [List.cons_append] at ih ⊢
    rw [e2, ih]
    show _ = sgn done.length * ((ent b (leadD l) * sm (lot.map fun l' => if leadD l' = leadD l then ent l' i else 0) + sm (todo.map fun p => ent b p * sm (lot.map fun l => if leadD l = p then ent l i else 0))) * det B ps)
    rw [e1]
    simp only [List.length_append, List.length_singleton, sgn]
    grind
theorem sm_perm {α : Type} {f : α → Rat} {l m : List α} (h : l.Perm m) : sm (l.map f) = sm (m.map f) := by
  induction h with
  | nil => rfl
  | cons x _ ih => show f x + _ = f x + _; rw [ih]
  | swap x y l => show f y + (f x + _) = f x + (f y + _); grind
  | trans _ _ a b => exact a.trans b
theorem cr_det (h : Red w lot) (k : Cr w R lot B ps) {b : Row} (hb : b.length = w) : det (b :: B) (i :: ps) = ent (restR lot b) i * det B ps := by
  show lap (det B) b [] (i :: ps) = _
  rw [lap_cons]
  have a := cr_lap (i := i) h k b ps [] rfl
  simp only [List.nil_append, List.length_nil, sgn] at a ⊢
  rw [a, (rest_ent h hb).2, sm_perm k.perm, List.map_map]
  have e : sm (lot.map ((fun p => ent b p * sm (lot.map fun l => if leadD l = p then ent l i else 0)) ∘ leadD)) = sm (lot.map fun l => ent b (leadD l) * ent l i) := sm_congr fun l hl => by
    show ent b (leadD l) * sm (lot.map fun l' => if leadD l' = leadD l then ent l' i else 0) = _
    rw [sm_one h.nodup hl fun x hx ne => if_neg fun z => ne (h.inj hx hl z), if_pos rfl]
  rw [e]
  grind
theorem rest_sc (h : Red w lot) (hl : row.length = w) (q : Rat) (c : Nat) : ent (restR lot (scR q row)) c = q * ent (restR lot row) c := by
  rw [(rest_ent h (by rw [len_sc]; exact hl)).2, (rest_ent h hl).2, ent_sc]
  have e : sm (lot.map fun l => ent (scR q row) (leadD l) * ent l c) = q * sm (lot.map fun l => ent row (leadD l) * ent l c) := by
    rw [← sm_mul]
    exact sm_congr fun l _ => by rw [ent_sc]; grind
  rw [e]
  grind
theorem cr_with (h : Red w lot) (k : Cr w R lot B ps) (hl : row.length = w) {q : Rat} (hq : q ≠ 0) (hi : ∀ c, IB R (q * ent row c)) : ∃ B' ps', Cr w R (withR lot row) B' ps' := by
  obtain ⟨s1, s2, _⟩ := with_spn h hl
  cases e : lead (restR lot row) with
  | none =>
    rw [with_none e]
    exact ⟨B, ps, k⟩
  | some i =>
    obtain ⟨n1, n2, n3, n4, n5⟩ := new_facts h hl e
    refine ⟨scR q row :: B, i :: ps, ?_, by rw [List.length_cons, List.length_cons, k.blen], fun b hb c => ?_, fun b hb => ?_, ?_⟩
    · rw [with_some e]
      refine List.Perm.symm (((sortL_perm _).map leadD).trans ?_)
      rw [List.map_append, List.map_map, List.map_cons, List.map_nil, lead_of n5]
      have e1 : lot.map (leadD ∘ fun o => lessR o (ent o i) (newR lot row i)) = lot.map leadD := List.map_congr_left fun o ho => lead_of (old_facts h hl e ho).2.1
      rw [e1]
      exact List.perm_append_comm.trans (List.Perm.cons _ k.perm.symm)
    · rcases List.mem_cons.mp hb with rfl | hb
      · rw [ent_sc]; exact hi c
      · exact k.ib b hb c
    · rcases List.mem_cons.mp hb with rfl | hb
      · exact s2.sc q
      · exact (k.inS b hb).trans s1
    · rw [cr_det h k (by rw [len_sc]; exact hl), rest_sc h hl]
      have := (lead_some.mp e).1
      have := k.nz
      grind
/-- rows that are multiples of rows of small integers -/
def Sml (R : Nat) (r : Row) : Prop := ∃ q : Rat, q ≠ 0 ∧ ∀ c, IB R (q * ent r c)
theorem cr_fold : ∀ {rows lot B : List Row} {ps : List Nat}, Red w lot → Cr w R lot B ps → (∀ r ∈ rows, r.length = w ∧ Sml R r) → ∃ B' ps', Cr w R (rows.foldl withR lot) B' ps'
  | [], lot, B, ps, _, k, _ => ⟨B, ps, k⟩
  | r :: rows, lot, B, ps, h, k, hr => by
    obtain ⟨hl, q, hq, hi⟩ := hr r List.mem_cons_self
    obtain ⟨B', ps', k'⟩ := cr_with h k hl hq hi
    exact cr_fold (rows := rows) (lot := withR lot r) (with_red h hl) k' fun y hy => hr y (List.mem_cons_of_mem _ hy)
theorem inc_len {w : Nat} : ∀ (l : List Nat) (lo : Nat), l.Pairwise (· < ·) → (∀ x ∈ l, lo ≤ x ∧ x < w) → l.length ≤ w - lo
  | [], _, _, _ => Nat.zero_le _
  | x :: l, lo, h, hx => by
    have h' := List.pairwise_cons.mp h
    have a := hx x List.mem_cons_self
    have := inc_len l (x + 1) h'.2 fun y hy => ⟨h'.1 y hy, (hx y (List.mem_cons_of_mem _ hy)).2⟩
    rw [List.length_cons]
    omega
theorem lot_len (h : Red w lot) : lot.length ≤ w := by
  have := inc_len (w := w) (lot.map leadD) 0 (List.pairwise_map.mpr h.srt) fun p hp => by
    obtain ⟨l, hl, rfl⟩ := List.mem_map.mp hp
    have := ent_lt (show ent l (leadD l) ≠ 0 by rw [(h.one l hl).2]; decide)
    rw [h.len l hl] at this
    exact ⟨Nat.zero_le _, this⟩
  rw [List.length_map] at this
  omega
/-- the lot's numbers over one bottom -/
structure Den (M : Nat) (lot : List Row) (d : Int) : Prop where
  nz : d ≠ 0
  dm : d.natAbs ≤ M
  ib : ∀ l ∈ lot, ∀ c, IB M (ent l c * d)
theorem cr_den (h : Red w lot) (k : Cr w R lot B ps) : ∃ d, Den ((w * R) ^ lot.length) lot d := by
  have hp : ps.length = lot.length := by rw [k.perm.length_eq, List.length_map]
  have hb : B.length = lot.length := by rw [k.blen, hp]
  have hw := lot_len h
  obtain ⟨d, e, hd⟩ := det_ib (K := w) k.ib ps (by omega)
  rw [hb] at hd
  refine ⟨d, fun z => k.nz (by rw [e, z]; rfl), hd, fun l hl c => ?_⟩
  have hm : leadD l ∈ ps := k.perm.mem_iff.mpr (List.mem_map.mpr ⟨l, hl, rfl⟩)
  obtain ⟨pre, post, e2⟩ := List.append_of_mem hm
  rw [← e, ← cr_col h k hl e2 c]
  have := det_ib (K := w) k.ib (pre ++ c :: post) (by
    have : ps.length = (pre ++ c :: post).length := by rw [e2]; simp
    omega)
  rw [hb] at this
  exact this
theorem span_den {rows : List Row} (hr : ∀ r ∈ rows, r.length = w ∧ Sml R r) : ∃ d, Den ((w * R) ^ (spanR rows).length) (spanR rows) d := by
  obtain ⟨B, ps, k⟩ := cr_fold (Red.nil w) (Cr.nil w R) hr
  exact cr_den (span_red fun r h => (hr r h).1) k
end
end LT
namespace B
open PySem SG
theorem ix_lt {n : Nat} {j : Nat} (h : j < n) : L2.ixN n (j : Int) = some j := by
  unfold L2.ixN
  rw [if_pos (by omega), if_pos (by omega)]
  rfl
theorem at_nat {l : List D} {j : Nat} {x : D} (h : l[j]? = some x) : L2.atI l (j : Int) = some x := by
  unfold L2.atI
  rw [ix_lt (List.getElem?_eq_some_iff.mp h).1]
  exact h
theorem at0 (x : D) (l : List D) : L2.atI (x :: l) 0 = some x := at_nat (j := 0) rfl
theorem at1 (x y : D) (l : List D) : L2.atI (x :: y :: l) 1 = some y := at_nat (j := 1) rfl
theorem at2 (x y z : D) (l : List D) : L2.atI (x :: y :: z :: l) 2 = some z := at_nat (j := 2) rfl
/-! ### Euclid -/
theorem gcd_step (a b : Int) : Int.gcd b (a % b) = Int.gcd a b := by
  have e : a % b + b * (a / b) = a := Int.emod_add_mul_ediv a b
  have h := Int.gcd_add_mul_left_right b (a % b) (a / b)
  rw [e] at h
  rw [← h, Int.gcd_comm]
theorem while_gcd {c : List S → R Bool} {body : List S → R Fl} {mk : Int → Int → List S} (hc : ∀ a b, c (mk a b) = SG.ok (decide (0 < b)) (mk a b)) (hb : ∀ a b, 0 < b → body (mk a b) = SG.ok .nx (mk b (a % b))) :
    ∀ (n : Nat) (a b : Int), 0 ≤ a → 0 ≤ b → b.natAbs < n → whileT c body n (mk a b) = SG.ok .nx (mk (Int.gcd a b) 0)
  | 0, _, _, _, _, h => by omega
  | n + 1, a, b, ha, h0, h => by
    unfold whileT
    rw [hc]
    by_cases hp : 0 < b
    · rw [decide_eq_true hp]
      show turnS (body (mk a b)) _ = _
      rw [hb a b hp]
      show whileT c body n (mk b (a % b)) = _
      have h1 := Int.emod_nonneg a (show b ≠ 0 by omega)
      have h2 := Int.emod_lt_of_pos a hp
      rw [while_gcd hc hb n b (a % b) h0 h1 (by omega), gcd_step]
    · have : b = 0 := by omega
      subst this
      rw [decide_eq_false hp]
      show SG.ok Fl.nx (mk a 0) = _
      rw [Int.gcd_zero_right, Int.natAbs_of_nonneg ha]
theorem iabs (a : Int) : (if a < 0 then -a else a) = (a.natAbs : Int) := by split <;> omega
theorem exL_nx {t : T} {r : TL} {st s1 : List S} (h : exT t st = some (.ok .nx, s1)) : exL (.cons t r) st = exL r s1 := by rw [exL, h]
theorem exL_rt {t : T} {r : TL} {st s1 : List S} {d : D} (h : exT t st = some (.ok (.rt d), s1)) : exL (.cons t r) st = some (.ok (.rt d), s1) := by rw [exL, h]
theorem exL_nil {st : List S} : exL .nil st = some (.ok .nx, st) := by rw [exL]; rfl
theorem exT_if {c : E} {a b : TL} {st s1 : List S} {k : Bool} (h : evT c st = some (.ok k, s1)) : exT (.ife c a b) st = if k then exL a s1 else exL b s1 := by
  rw [exT, h]
  cases k <;> rfl
theorem exT_for {t : Tg} {it : IT} {b : TL} {st s1 : List S} {items : List D} (h : evI it st = some (.ok items, s1)) (hl : items.length ≤ 100000) : exT (.forr t it b) st = loopT t (fun s => exL b s) items s1 := by
  rw [exT, h]
  show (if items.length ≤ 100000 then _ else _) = _
  rw [if_pos hl]
theorem exT_wh {c : E} {m : List S → Nat} {b : TL} {st : List S} : exT (.whl c m b) st = whileT (fun s => evT c s) (fun s => exL b s) (m st) st := by rw [exT]
theorem run0 {N : Nat} {fr : Bool} {tl : TL} {es ds : List D} {d : D} {s1 init : List S} (hi : ds.map S.val ++ List.replicate (N - ds.length) S.un = init) (h : exL tl init = some (.ok (.rt d), s1))
    (h0 : (match (s1[0]? : Option S) with | some (S.own true zs) => zs | _ => []) = []) : runDef N false fr tl es ds = some (.ok d, []) := by
  subst hi
  unfold runDef
  rw [show argS false es ds = ds.map S.val from rfl, List.length_map, h]
  exact congrArg (fun z => some (Except.ok d, z)) h0
theorem runN {N : Nat} {tl : TL} {es ds : List D} {s1 init : List S} (hi : ds.map S.val ++ List.replicate (N - ds.length) S.un = init) (h : exL tl init = some (.ok .nx, s1))
    (h0 : (match (s1[0]? : Option S) with | some (S.own true zs) => zs | _ => []) = []) : runDef N false false tl es ds = some (.ok .non, []) := by
  subst hi
  unfold runDef
  rw [show argS false es ds = ds.map S.val from rfl, List.length_map, h]
  exact congrArg (fun z => some (Except.ok D.non, z)) h0
theorem runL {N : Nat} {fr : Bool} {tl : TL} {es ds zs : List D} {d : D} {s1 init : List S} (hi : S.own true es :: ds.map S.val ++ List.replicate (N - (ds.length + 1)) S.un = init) (h : exL tl init = some (.ok (.rt d), s1))
    (h0 : s1[0]? = some (S.own true zs)) : runDef N true fr tl es ds = some (.ok d, zs) := by
  subst hi
  unfold runDef
  rw [show argS true es ds = S.own true es :: ds.map S.val from rfl, List.length_cons, List.length_map, h]
  simp only [h0]
theorem cd_run (es : List D) (a b : Int) : f_common_divisor.run es [.int a, .int b] = some (.ok (.int (Int.gcd a b)), []) := by
  have key := while_gcd (c := fun s => evT (.cmp .gt (.var 1) (.cst (.int 0))) s) (body := fun s => exL (.cons (.par2 0 1 (.e (.var 1)) (.e (.bin .mod (.var 0) (.var 1)))) .nil) s) (mk := fun a b => [.val (.int a), .val (.int b)])
    (fun a b => by simp [exT, evX, evE, evT, evF, evL, evI, evC, SG.bnd, SG.ok, SG.opt, slotOf, rd, frz, frzs, opD, cmD, b1D, atD, setS, setTg, free, truD, isiD, tyOf, isNon, callD, at0, at1, at2, seqD, nodic, nodics])
    (fun a b hp => by simp [exL, exT, evX, evE, evT, evF, evL, evI, evC, SG.bnd, SG.ok, SG.opt, slotOf, rd, frz, frzs, opD, cmD, b1D, atD, setS, setTg, free, truD, isiD, tyOf, isNon, callD, at0, at1, at2, seqD, nodic, nodics, hp])
    (b.natAbs + 1) (a.natAbs) (b.natAbs) (by omega) (by omega) (by omega)
  have kg : Int.gcd (a.natAbs : Int) (b.natAbs : Int) = Int.gcd a b := by simp [Int.gcd]
  rw [kg] at key
  have run : exL p_common_divisor [.val (.int a), .val (.int b)] = some (.ok (.rt (.int (Int.gcd a b))), [.val (.int (Int.gcd a b)), .val (.int 0)]) := by
    unfold p_common_divisor
    rw [exL_nx (s1 := [.val (.int a.natAbs), .val (.int b.natAbs)]) (by simp [exT, evX, evE, evT, evF, evL, evI, evC, SG.bnd, SG.ok, SG.opt, slotOf, rd, frz, frzs, opD, cmD, b1D, atD, setS, setTg, free, truD, isiD, tyOf, isNon, callD, at0, at1, at2, seqD, nodic, nodics, iabs]), exL_nx (s1 := [.val (.int (Int.gcd a b)), .val (.int 0)]) (by rw [exT_wh]; exact key)]
    exact exL_rt (by simp [exT, evX, evE, evT, evF, evL, evI, evC, SG.bnd, SG.ok, SG.opt, slotOf, rd, frz, frzs, opD, cmD, b1D, atD, setS, setTg, free, truD, isiD, tyOf, isNon, callD, at0, at1, at2, seqD, nodic, nodics])
  exact run0 rfl run rfl
/-! ### fractions -/
def frD (q : Rat) : D := .tup [.int q.num, .int q.den]
/-- in bounds -/
def Bd (n : Nat) (i : Int) : Prop := i.natAbs < 2 ^ n
theorem bd_bits {n : Nat} {i : Int} (h : Bd n i) : bitsOf i ≤ n := by
  unfold Bd at h
  unfold bitsOf Builtin.Int.intBits
  split
  · exact Nat.zero_le _
  · rename_i z
    have : i.natAbs ≠ 0 := by simpa using z
    have := (Nat.log2_lt this).mpr h
    omega
theorem Bd.mul {m n : Nat} {i j : Int} (h : Bd m i) (k : Bd n j) : Bd (m + n) (i * j) := by
  unfold Bd at *
  rw [Int.natAbs_mul, Nat.pow_add]
  exact Nat.mul_lt_mul'' h k
theorem Bd.mono {m n : Nat} {i : Int} (h : Bd m i) (l : m ≤ n) : Bd n i := Nat.lt_of_lt_of_le h (Nat.pow_le_pow_right (by decide) l)
theorem Bd.add {n : Nat} {i j : Int} (h : Bd n i) (k : Bd n j) : Bd (n + 1) (i + j) := by
  unfold Bd at *
  rw [Nat.pow_succ]
  omega
theorem mul_okB {m n : Nat} {i j : Int} (h : Bd m i) (k : Bd n j) (l : m + n < 1000000) : mulOk i j = true := by
  unfold mulOk
  have := bd_bits h
  have := bd_bits k
  exact decide_eq_true (.inr (.inr (by omega)))
def FB (n : Nat) (q : Rat) : Prop := Bd n q.num ∧ Bd n q.den
theorem divInt_bd {n : Nat} {t b : Int} (hb : b ≠ 0) (h : Bd n t) (k : Bd n b) : FB n (Rat.divInt t b) := by
  unfold FB Bd at *
  rw [Rat.num_divInt, Rat.den_divInt, if_neg hb]
  constructor
  · refine Nat.lt_of_le_of_lt ?_ h
    refine Nat.le_trans (Int.natAbs_ediv_le_natAbs _ _) ?_
    rw [Int.natAbs_mul]
    rw [Int.natAbs_sign_of_ne_zero hb, Nat.one_mul]
    exact Nat.le_refl _
  · refine Nat.lt_of_le_of_lt ?_ k
    exact Nat.div_le_self _ _
/-- what both make of a top and a bottom -/
theorem divInt_pos {t b : Int} (hb : 0 < b) : frD (Rat.divInt t b) = .tup [.int (t / (Int.gcd t b : Int)), .int (b / (Int.gcd t b : Int))] := by
  unfold frD
  rw [Rat.num_divInt, Rat.den_divInt, if_neg (by omega), Int.sign_eq_one_of_pos hb, Int.one_mul, Int.gcd_comm b t]
  have e : ((b.natAbs / Int.gcd t b : Nat) : Int) = b / (Int.gcd t b : Int) := by
    rw [Int.natCast_ediv, Int.natAbs_of_nonneg (by omega)]
  rw [e]
theorem divInt_neg {t b : Int} (hb : b < 0) : frD (Rat.divInt t b) = .tup [.int (-t / (Int.gcd t b : Int)), .int (-b / (Int.gcd t b : Int))] := by
  have := divInt_pos (t := -t) (b := -b) (by omega)
  rw [Rat.neg_divInt_neg] at this
  rw [this, Int.neg_gcd, Int.gcd_neg]
/-! ### the defs, one by one -/
theorem gcd_facts {t b : Int} {n : Nat} (hb : b ≠ 0) (k : Bd n b) : 0 < (Int.gcd t b : Int) ∧ bitsOf (Int.gcd t b : Int) ≤ n := by
  have h1 : 0 < Int.gcd t b := Int.gcd_pos_of_ne_zero_right t hb
  refine ⟨by omega, bd_bits ?_⟩
  unfold Bd at *
  have := Int.gcd_le_natAbs_right t hb
  omega
theorem reduced_run (es : List D) {t b : Int} (hb : b ≠ 0) (k : Bd 8000 b) : f_reduced.run es [.int t, .int b] = some (.ok (frD (Rat.divInt t b)), []) := by
  obtain ⟨g1, g2⟩ := gcd_facts (t := t) hb k
  have g3 : bitsOf (Int.gcd t b : Int) ≤ 9000 := by omega
  by_cases hn : b < 0
  · rw [divInt_neg hn]
    refine run0 rfl (s1 := [.val (.int (-t)), .val (.int (-b)), .val (.int (Int.gcd t b))]) ?_ rfl
    unfold p_reduced
    rw [exL_nx (s1 := [.val (.int (-t)), .val (.int (-b)), .un]) (by rw [exT_if (k := true) (s1 := [.val (.int t), .val (.int b), .un]) (by simp [exT, evX, evE, evT, evF, evL, evI, evC, SG.bnd, SG.ok, SG.opt, slotOf, rd, frz, frzs, opD, cmD, b1D, atD, setS, setTg, free, truD, isiD, tyOf, isNon, callD, at0, at1, at2, seqD, nodic, nodics, hn])]; simp [exL, exT, evX, evE, evT, evF, evL, evI, evC, SG.bnd, SG.ok, SG.opt, slotOf, rd, frz, frzs, opD, cmD, b1D, atD, setS, setTg, free, truD, isiD, tyOf, isNon, callD, at0, at1, at2, seqD, nodic, nodics]),
      exL_nx (s1 := [.val (.int (-t)), .val (.int (-b)), .val (.int (Int.gcd t b))]) (by simp [exT, evX, evE, evT, evF, evL, evI, evC, SG.bnd, SG.ok, SG.opt, slotOf, rd, frz, frzs, opD, cmD, b1D, atD, setS, setTg, free, truD, isiD, tyOf, isNon, callD, at0, at1, at2, seqD, nodic, nodics, fl_common_divisor, cd_run])]
    exact exL_rt (by simp [exT, evX, evE, evT, evF, evL, evI, evC, SG.bnd, SG.ok, SG.opt, slotOf, rd, frz, frzs, opD, cmD, b1D, atD, setS, setTg, free, truD, isiD, tyOf, isNon, callD, at0, at1, at2, seqD, nodic, nodics, hb, g1, g3])
  · rw [divInt_pos (by omega)]
    refine run0 rfl (s1 := [.val (.int t), .val (.int b), .val (.int (Int.gcd t b))]) ?_ rfl
    unfold p_reduced
    rw [exL_nx (s1 := [.val (.int t), .val (.int b), .un]) (by rw [exT_if (k := false) (s1 := [.val (.int t), .val (.int b), .un]) (by simp [exT, evX, evE, evT, evF, evL, evI, evC, SG.bnd, SG.ok, SG.opt, slotOf, rd, frz, frzs, opD, cmD, b1D, atD, setS, setTg, free, truD, isiD, tyOf, isNon, callD, at0, at1, at2, seqD, nodic, nodics, hn])]; simp [exL, exT, evX, evE, evT, evF, evL, evI, evC, SG.bnd, SG.ok, SG.opt, slotOf, rd, frz, frzs, opD, cmD, b1D, atD, setS, setTg, free, truD, isiD, tyOf, isNon, callD, at0, at1, at2, seqD, nodic, nodics]),
      exL_nx (s1 := [.val (.int t), .val (.int b), .val (.int (Int.gcd t b))]) (by simp [exT, evX, evE, evT, evF, evL, evI, evC, SG.bnd, SG.ok, SG.opt, slotOf, rd, frz, frzs, opD, cmD, b1D, atD, setS, setTg, free, truD, isiD, tyOf, isNon, callD, at0, at1, at2, seqD, nodic, nodics, fl_common_divisor, cd_run])]
    exact exL_rt (by simp [exT, evX, evE, evT, evF, evL, evI, evC, SG.bnd, SG.ok, SG.opt, slotOf, rd, frz, frzs, opD, cmD, b1D, atD, setS, setTg, free, truD, isiD, tyOf, isNon, callD, at0, at1, at2, seqD, nodic, nodics, hb, g1, g3])
theorem lawfr_run (es : List D) {t b : Int} (hb : b ≠ 0) (ht : Bd 8000 t) (k : Bd 8000 b) : f_law_fr.run es [.int t, .int b] = some (.ok (frD (Rat.divInt t b)), []) := by
  obtain ⟨g1, g2⟩ := gcd_facts (t := t) hb k
  have g3 : bitsOf (Int.gcd t b : Int) ≤ 9000 := by omega
  have key := while_gcd (c := fun s => evT (.cmp .gt (.var 4) (.cst (.int 0))) s) (body := fun s => exL (.cons (.par2 3 4 (.e (.var 4)) (.e (.bin .mod (.var 3) (.var 4)))) .nil) s) (mk := fun x y => [.val (.int t), .val (.int b), .un, .val (.int x), .val (.int y)])
    (fun a b => by simp [exT, evX, evE, evT, evF, evL, evI, evC, SG.bnd, SG.ok, SG.opt, slotOf, rd, frz, frzs, opD, cmD, b1D, atD, setS, setTg, free, truD, isiD, tyOf, isNon, callD, at0, at1, at2, seqD, nodic, nodics])
    (fun a b hp => by simp [exL, exT, evX, evE, evT, evF, evL, evI, evC, SG.bnd, SG.ok, SG.opt, slotOf, rd, frz, frzs, opD, cmD, b1D, atD, setS, setTg, free, truD, isiD, tyOf, isNon, callD, at0, at1, at2, seqD, nodic, nodics, hp])
    (b.natAbs + 1) (t.natAbs) (b.natAbs) (by omega) (by omega) (by omega)
  have kg : Int.gcd (t.natAbs : Int) (b.natAbs : Int) = Int.gcd t b := by simp [Int.gcd]
  rw [kg] at key
  have m1 : mulOk (-1) t = true := mul_okB (m := 1) (n := 8000) (by unfold Bd; decide) ht (by decide)
  have m2 : mulOk (-1) b = true := mul_okB (m := 1) (n := 8000) (by unfold Bd; decide) k (by decide)
  have m3 : mulOk 1 t = true := mul_okB (m := 1) (n := 8000) (by unfold Bd; decide) ht (by decide)
  have m4 : mulOk 1 b = true := mul_okB (m := 1) (n := 8000) (by unfold Bd; decide) k (by decide)
  by_cases hn : b < 0
  · rw [divInt_neg hn]
    refine run0 rfl (s1 := [.val (.int t), .val (.int b), .val (.int (-1)), .val (.int (Int.gcd t b)), .val (.int 0)]) ?_ rfl
    unfold p_law_fr
    rw [exL_nx (s1 := [.val (.int t), .val (.int b), .un, .val (.int t.natAbs), .val (.int b.natAbs)]) (by simp [exT, evX, evE, evT, evF, evL, evI, evC, SG.bnd, SG.ok, SG.opt, slotOf, rd, frz, frzs, opD, cmD, b1D, atD, setS, setTg, free, truD, isiD, tyOf, isNon, callD, at0, at1, at2, seqD, nodic, nodics, iabs]), exL_nx (s1 := [.val (.int t), .val (.int b), .un, .val (.int (Int.gcd t b)), .val (.int 0)]) (by rw [exT_wh]; exact key),
      exL_nx (s1 := [.val (.int t), .val (.int b), .val (.int (-1)), .val (.int (Int.gcd t b)), .val (.int 0)]) (by simp [exT, evX, evE, evT, evF, evL, evI, evC, SG.bnd, SG.ok, SG.opt, slotOf, rd, frz, frzs, opD, cmD, b1D, atD, setS, setTg, free, truD, isiD, tyOf, isNon, callD, at0, at1, at2, seqD, nodic, nodics, hn])]
    exact exL_rt (by simp [exT, evX, evE, evT, evF, evL, evI, evC, SG.bnd, SG.ok, SG.opt, slotOf, rd, frz, frzs, opD, cmD, b1D, atD, setS, setTg, free, truD, isiD, tyOf, isNon, callD, at0, at1, at2, seqD, nodic, nodics, hb, g1, g3, m1, m2])
  · rw [divInt_pos (by omega)]
    refine run0 rfl (s1 := [.val (.int t), .val (.int b), .val (.int 1), .val (.int (Int.gcd t b)), .val (.int 0)]) ?_ rfl
    unfold p_law_fr
    rw [exL_nx (s1 := [.val (.int t), .val (.int b), .un, .val (.int t.natAbs), .val (.int b.natAbs)]) (by simp [exT, evX, evE, evT, evF, evL, evI, evC, SG.bnd, SG.ok, SG.opt, slotOf, rd, frz, frzs, opD, cmD, b1D, atD, setS, setTg, free, truD, isiD, tyOf, isNon, callD, at0, at1, at2, seqD, nodic, nodics, iabs]), exL_nx (s1 := [.val (.int t), .val (.int b), .un, .val (.int (Int.gcd t b)), .val (.int 0)]) (by rw [exT_wh]; exact key),
      exL_nx (s1 := [.val (.int t), .val (.int b), .val (.int 1), .val (.int (Int.gcd t b)), .val (.int 0)]) (by simp [exT, evX, evE, evT, evF, evL, evI, evC, SG.bnd, SG.ok, SG.opt, slotOf, rd, frz, frzs, opD, cmD, b1D, atD, setS, setTg, free, truD, isiD, tyOf, isNon, callD, at0, at1, at2, seqD, nodic, nodics, hn])]
    exact exL_rt (by simp [exT, evX, evE, evT, evF, evL, evI, evC, SG.bnd, SG.ok, SG.opt, slotOf, rd, frz, frzs, opD, cmD, b1D, atD, setS, setTg, free, truD, isiD, tyOf, isNon, callD, at0, at1, at2, seqD, nodic, nodics, hb, g1, g3, m3, m4])
theorem isint_run (es : List D) (i : Int) : f_is_integer.run es [.int i] = some (.ok (.bl true), []) := by
  rw [fr_is_integer]
  refine run0 rfl (s1 := [.val (.int i)]) ?_ rfl
  unfold p_is_integer
  exact exL_rt (by simp [exT, evX, evE, evT, evF, evL, evI, evC, SG.bnd, SG.ok, SG.opt, slotOf, rd, frz, frzs, opD, cmD, b1D, atD, setS, setTg, free, truD, isiD, tyOf, isNon, callD, at0, at1, at2, seqD, nodic, nodics])
theorem den_pos (q : Rat) : (1 : Int) ≤ q.den := by have := q.den_pos; omega
theorem num_gcd (q : Rat) : Int.gcd q.num (q.den : Int) = 1 := by
  have := q.reduced
  simpa [Int.gcd] using this
theorem isnum_run (es : List D) (q : Rat) : f_is_number.run es [frD q] = some (.ok (.bl true), []) := by
  rw [fr_is_number]
  have h1 := den_pos q
  have h2 := num_gcd q
  refine run0 rfl (s1 := [.val (frD q), .un]) ?_ rfl
  unfold p_is_number
  rw [exL_nx (s1 := [.val (frD q), .un]) (by rw [exT_if (k := false) (s1 := [.val (frD q), .un]) (by simp [exT, evX, evE, evT, evF, evL, evI, evC, SG.bnd, SG.ok, SG.opt, slotOf, rd, frz, frzs, opD, cmD, b1D, atD, setS, setTg, free, truD, isiD, tyOf, isNon, callD, at0, at1, at2, seqD, nodic, nodics, turns, wipeS, Tg.slots, plainAt, restore, frzR, boolsOf, frD, shp, eqD, D.toP, SeqAt.shaped, PyData.canLay0, PyData.depth, PyData.eqv, fl_is_integer, isint_run])]; simp [exL, exT, evX, evE, evT, evF, evL, evI, evC, SG.bnd, SG.ok, SG.opt, slotOf, rd, frz, frzs, opD, cmD, b1D, atD, setS, setTg, free, truD, isiD, tyOf, isNon, callD, at0, at1, at2, seqD, nodic, nodics])]
  exact exL_rt (by simp [exT, evX, evE, evT, evF, evL, evI, evC, SG.bnd, SG.ok, SG.opt, slotOf, rd, frz, frzs, opD, cmD, b1D, atD, setS, setTg, free, truD, isiD, tyOf, isNon, callD, at0, at1, at2, seqD, nodic, nodics, shp, eqD, D.toP, D.toPs, SeqAt.shaped, PyData.canLay0, PyData.canLayAll0, PyData.depth, PyData.depthAll, PyData.eqv, PyData.eqvAll, frD, fl_common_divisor, cd_run, h1, h2])
/-! ### what the sums are -/
theorem Bd.neg {n : Nat} {i : Int} (h : Bd n i) : Bd n (-i) := by
  unfold Bd at *
  rw [Int.natAbs_neg]
  exact h
theorem FB.mono {m n : Nat} {q : Rat} (h : FB m q) (l : m ≤ n) : FB n q := ⟨h.1.mono l, h.2.mono l⟩
theorem den_ne (q : Rat) : (q.den : Int) ≠ 0 := by have := q.den_pos; omega
theorem add_div (a b : Rat) : a + b = Rat.divInt (a.num * b.den + b.num * a.den) (a.den * b.den) := by
  rw [Rat.add_def', ← Rat.divInt_ofNat, Int.natCast_mul]
theorem mul_div (a b : Rat) : a * b = Rat.divInt (a.num * b.num) (a.den * b.den) := by
  rw [Rat.mul_def', ← Rat.divInt_ofNat, Int.natCast_mul]
theorem sub_div (a b : Rat) : a - b = Rat.divInt (a.num * b.den - b.num * a.den) (a.den * b.den) := by
  rw [Rat.sub_def', ← Rat.divInt_ofNat, Int.natCast_mul]
theorem div_div' (a b : Rat) : a / b = Rat.divInt (a.num * b.den) (a.den * b.num) := by
  rw [Rat.div_def, Rat.inv_def]
  have h : Rat.divInt a.num a.den * Rat.divInt b.den b.num = Rat.divInt (a.num * b.den) (a.den * b.num) := Rat.divInt_mul_divInt _ _
  rw [Rat.num_divInt_den] at h
  exact h
theorem prod_ne (a b : Rat) : (a.den : Int) * b.den ≠ 0 := Int.mul_ne_zero (den_ne a) (den_ne b)
theorem FB.add {m n : Nat} {a b : Rat} (h : FB m a) (k : FB n b) : FB (m + n + 1) (a + b) := by
  rw [add_div]
  refine divInt_bd (prod_ne a b) ?_ ?_
  · exact (h.1.mul k.2).add ((k.1.mul h.2).mono (by omega))
  · exact (h.2.mul k.2).mono (by omega)
theorem FB.mul {m n : Nat} {a b : Rat} (h : FB m a) (k : FB n b) : FB (m + n) (a * b) := by
  rw [mul_div]
  exact divInt_bd (prod_ne a b) (h.1.mul k.1) (h.2.mul k.2)
theorem FB.neg {n : Nat} {a : Rat} (h : FB n a) : FB n (-a) := by
  refine ⟨?_, h.2⟩
  have := h.1
  unfold Bd at *
  rw [Rat.neg_num, Int.natAbs_neg]
  exact this
theorem FB.sub {m n : Nat} {a b : Rat} (h : FB m a) (k : FB n b) : FB (m + n + 1) (a - b) := by
  rw [Rat.sub_eq_add_neg]
  exact h.add k.neg
theorem num_ne {b : Rat} (h : b ≠ 0) : b.num ≠ 0 := fun z => h (Rat.num_eq_zero.mp z)
theorem FB.div {m n : Nat} {a b : Rat} (h : FB m a) (k : FB n b) (hb : b ≠ 0) : FB (m + n) (a / b) := by
  rw [div_div']
  exact divInt_bd (Int.mul_ne_zero (den_ne a) (num_ne hb)) (h.1.mul k.2) (h.2.mul k.1)
theorem muls {n : Nat} {a b : Rat} (h : FB n a) (k : FB n b) (l : 2 * n < 1000000) : mulOk a.num b.den = true ∧ mulOk b.num a.den = true ∧ mulOk a.den b.den = true ∧ mulOk a.num b.num = true ∧ mulOk a.den b.num = true :=
  ⟨mul_okB h.1 k.2 (by omega), mul_okB k.1 h.2 (by omega), mul_okB h.2 k.2 (by omega), mul_okB h.1 k.1 (by omega), mul_okB h.2 k.1 (by omega)⟩
theorem int_div (i : Int) : frD (Rat.divInt i 1) = .tup [.int i, .int 1] := by
  rw [divInt_pos (by decide)]
  simp
theorem added_run (es : List D) {m n : Nat} {a b : Rat} (h : FB m a) (k : FB n b) (l : m + n < 8000) : f_added.run es [frD a, frD b] = some (.ok (frD (a + b)), []) := by
  rw [fr_added]
  obtain ⟨m1, m2, m3, _, _⟩ := muls (h.mono (show m ≤ 8000 by omega)) (k.mono (show n ≤ 8000 by omega)) (by decide)
  refine run0 rfl (s1 := [.val (frD a), .val (frD b)]) ?_ rfl
  unfold p_added
  rw [add_div]
  by_cases hc : (a.den : Int) = b.den ∧ (b.den : Int) = 1
  · obtain ⟨c1, c2⟩ := hc
    rw [c2] at c1
    rw [c1, c2, Int.mul_one, Int.mul_one, Int.one_mul, int_div]
    exact exL_rt (by rw [exT_if (k := true) (s1 := [.val (frD a), .val (frD b)]) (by simp [exT, evX, evE, evT, evF, evL, evI, evC, SG.bnd, SG.ok, SG.opt, slotOf, rd, frz, frzs, opD, cmD, b1D, atD, setS, setTg, free, truD, isiD, tyOf, isNon, callD, at0, at1, at2, seqD, nodic, nodics, shp, eqD, D.toP, D.toPs, SeqAt.shaped, PyData.canLay0, PyData.canLayAll0, PyData.depth, PyData.depthAll, PyData.eqv, PyData.eqvAll, frD, c1, c2]), if_pos rfl]; exact exL_rt (by simp [exT, evX, evE, evT, evF, evL, evI, evC, SG.bnd, SG.ok, SG.opt, slotOf, rd, frz, frzs, opD, cmD, b1D, atD, setS, setTg, free, truD, isiD, tyOf, isNon, callD, at0, at1, at2, seqD, nodic, nodics, frD]))
  · rw [exL_nx (s1 := [.val (frD a), .val (frD b)]) (by
      rw [exT_if (k := false) (s1 := [.val (frD a), .val (frD b)]) (by
        by_cases e : (a.den : Int) = b.den
        · have e2 : ¬ (b.den : Int) = 1 := fun z => hc ⟨e, z⟩
          simp [exT, evX, evE, evT, evF, evL, evI, evC, SG.bnd, SG.ok, SG.opt, slotOf, rd, frz, frzs, opD, cmD, b1D, atD, setS, setTg, free, truD, isiD, tyOf, isNon, callD, at0, at1, at2, seqD, nodic, nodics, shp, eqD, D.toP, D.toPs, SeqAt.shaped, PyData.canLay0, PyData.canLayAll0, PyData.depth, PyData.depthAll, PyData.eqv, PyData.eqvAll, frD, e, e2]
        · simp [exT, evX, evE, evT, evF, evL, evI, evC, SG.bnd, SG.ok, SG.opt, slotOf, rd, frz, frzs, opD, cmD, b1D, atD, setS, setTg, free, truD, isiD, tyOf, isNon, callD, at0, at1, at2, seqD, nodic, nodics, shp, eqD, D.toP, D.toPs, SeqAt.shaped, PyData.canLay0, PyData.canLayAll0, PyData.depth, PyData.depthAll, PyData.eqv, PyData.eqvAll, frD, show ((a.den : Int) == (b.den : Int)) = false from beq_eq_false_iff_ne.mpr e])]
      simp [exL, exT, evX, evE, evT, evF, evL, evI, evC, SG.bnd, SG.ok, SG.opt, slotOf, rd, frz, frzs, opD, cmD, b1D, atD, setS, setTg, free, truD, isiD, tyOf, isNon, callD, at0, at1, at2, seqD, nodic, nodics])]
    exact exL_rt (by simp [exT, evX, evE, evT, evF, evL, evI, evC, SG.bnd, SG.ok, SG.opt, slotOf, rd, frz, frzs, opD, cmD, b1D, atD, setS, setTg, free, truD, isiD, tyOf, isNon, callD, at0, at1, at2, seqD, nodic, nodics, frD, m1, m2, m3, fl_reduced, reduced_run [] (prod_ne a b) ((h.2.mul k.2).mono (by omega))])
theorem multiplied_run (es : List D) {m n : Nat} {a b : Rat} (h : FB m a) (k : FB n b) (l : m + n < 8000) : f_multiplied.run es [frD a, frD b] = some (.ok (frD (a * b)), []) := by
  rw [fr_multiplied]
  obtain ⟨m1, m2, m3, m4, m5⟩ := muls (h.mono (show m ≤ 8000 by omega)) (k.mono (show n ≤ 8000 by omega)) (by decide)
  refine run0 rfl (s1 := [.val (frD a), .val (frD b)]) ?_ rfl
  unfold p_multiplied
  rw [mul_div]
  by_cases hc : (a.den : Int) = b.den ∧ (b.den : Int) = 1
  · obtain ⟨c1, c2⟩ := hc
    rw [c2] at c1
    rw [c1, c2, Int.mul_one, int_div]
    exact exL_rt (by rw [exT_if (k := true) (s1 := [.val (frD a), .val (frD b)]) (by simp [exT, evX, evE, evT, evF, evL, evI, evC, SG.bnd, SG.ok, SG.opt, slotOf, rd, frz, frzs, opD, cmD, b1D, atD, setS, setTg, free, truD, isiD, tyOf, isNon, callD, at0, at1, at2, seqD, nodic, nodics, shp, eqD, D.toP, D.toPs, SeqAt.shaped, PyData.canLay0, PyData.canLayAll0, PyData.depth, PyData.depthAll, PyData.eqv, PyData.eqvAll, frD, c1, c2]), if_pos rfl]; exact exL_rt (by simp [exT, evX, evE, evT, evF, evL, evI, evC, SG.bnd, SG.ok, SG.opt, slotOf, rd, frz, frzs, opD, cmD, b1D, atD, setS, setTg, free, truD, isiD, tyOf, isNon, callD, at0, at1, at2, seqD, nodic, nodics, frD, m4]))
  · rw [exL_nx (s1 := [.val (frD a), .val (frD b)]) (by
      rw [exT_if (k := false) (s1 := [.val (frD a), .val (frD b)]) (by
        by_cases e : (a.den : Int) = b.den
        · have e2 : ¬ (b.den : Int) = 1 := fun z => hc ⟨e, z⟩
          simp [exT, evX, evE, evT, evF, evL, evI, evC, SG.bnd, SG.ok, SG.opt, slotOf, rd, frz, frzs, opD, cmD, b1D, atD, setS, setTg, free, truD, isiD, tyOf, isNon, callD, at0, at1, at2, seqD, nodic, nodics, shp, eqD, D.toP, D.toPs, SeqAt.shaped, PyData.canLay0, PyData.canLayAll0, PyData.depth, PyData.depthAll, PyData.eqv, PyData.eqvAll, frD, e, e2]
        · simp [exT, evX, evE, evT, evF, evL, evI, evC, SG.bnd, SG.ok, SG.opt, slotOf, rd, frz, frzs, opD, cmD, b1D, atD, setS, setTg, free, truD, isiD, tyOf, isNon, callD, at0, at1, at2, seqD, nodic, nodics, shp, eqD, D.toP, D.toPs, SeqAt.shaped, PyData.canLay0, PyData.canLayAll0, PyData.depth, PyData.depthAll, PyData.eqv, PyData.eqvAll, frD, show ((a.den : Int) == (b.den : Int)) = false from beq_eq_false_iff_ne.mpr e])]
      simp [exL, exT, evX, evE, evT, evF, evL, evI, evC, SG.bnd, SG.ok, SG.opt, slotOf, rd, frz, frzs, opD, cmD, b1D, atD, setS, setTg, free, truD, isiD, tyOf, isNon, callD, at0, at1, at2, seqD, nodic, nodics])]
    exact exL_rt (by simp [exT, evX, evE, evT, evF, evL, evI, evC, SG.bnd, SG.ok, SG.opt, slotOf, rd, frz, frzs, opD, cmD, b1D, atD, setS, setTg, free, truD, isiD, tyOf, isNon, callD, at0, at1, at2, seqD, nodic, nodics, frD, m4, m3, fl_reduced, reduced_run [] (prod_ne a b) ((h.2.mul k.2).mono (by omega))])
/-- which one is greater -/
def cmpI (l r : Int) : Int := (if l > r then 1 else 0) - (if l < r then 1 else 0)
theorem lplus_run (es : List D) {m n : Nat} {a b : Rat} (h : FB m a) (k : FB n b) (l : m + n < 8000) : f_law_plus.run es [frD a, frD b] = some (.ok (frD (a + b)), []) := by
  rw [fr_law_plus]
  obtain ⟨m1, m2, m3, m4, m5⟩ := muls (h.mono (show m ≤ 8000 by omega)) (k.mono (show n ≤ 8000 by omega)) (by decide)
  refine run0 rfl (s1 := [.val (frD a), .val (frD b)]) ?_ rfl
  unfold p_law_plus
  rw [add_div]
  exact exL_rt (by simp [exT, evX, evE, evT, evF, evL, evI, evC, SG.bnd, SG.ok, SG.opt, slotOf, rd, frz, frzs, opD, cmD, b1D, atD, setS, setTg, free, truD, isiD, tyOf, isNon, callD, at0, at1, at2, seqD, nodic, nodics, frD, m1, m2, m3, fl_law_fr, lawfr_run [] (prod_ne a b) (((h.1.mul k.2).add ((k.1.mul h.2).mono (show n + m ≤ m + n by omega))).mono (by omega)) ((h.2.mul k.2).mono (by omega))])
theorem ltimes_run (es : List D) {m n : Nat} {a b : Rat} (h : FB m a) (k : FB n b) (l : m + n < 8000) : f_law_times.run es [frD a, frD b] = some (.ok (frD (a * b)), []) := by
  rw [fr_law_times]
  obtain ⟨m1, m2, m3, m4, m5⟩ := muls (h.mono (show m ≤ 8000 by omega)) (k.mono (show n ≤ 8000 by omega)) (by decide)
  refine run0 rfl (s1 := [.val (frD a), .val (frD b)]) ?_ rfl
  unfold p_law_times
  rw [mul_div]
  exact exL_rt (by simp [exT, evX, evE, evT, evF, evL, evI, evC, SG.bnd, SG.ok, SG.opt, slotOf, rd, frz, frzs, opD, cmD, b1D, atD, setS, setTg, free, truD, isiD, tyOf, isNon, callD, at0, at1, at2, seqD, nodic, nodics, frD, m3, m4, fl_law_fr, lawfr_run [] (prod_ne a b) ((h.1.mul k.1).mono (by omega)) ((h.2.mul k.2).mono (by omega))])
theorem mulL {i j : Int} (h : bitsOf i ≤ 64) : mulOk i j = true := decide_eq_true (.inl h)
theorem mulR {i j : Int} (h : bitsOf j ≤ 64) : mulOk i j = true := decide_eq_true (.inr (.inl h))
theorem small_bits {i : Int} (h0 : 0 ≤ i) (h : i < 2305843009213693952) : bitsOf i ≤ 64 := bd_bits (n := 64) (by unfold Bd; omega)
def Dc (ds : List D) : Prop := ∃ g s c : Int, ds = [.int g, .int s, .int c]
theorem roll_run {ds : List D} (hd : Dc ds) {n : Int} (hn : 0 < n) (hb : bitsOf n ≤ 9000) : ∃ r ds', f_law_roll.run ds [.int n] = some (.ok (.int r), ds') ∧ Dc ds' ∧ 0 ≤ r ∧ r < n := by
  obtain ⟨g, s, c, rfl⟩ := hd
  rw [fr_law_roll]
  by_cases hg : 0 < g
  · refine ⟨g % n, [.int (g / n), .int s, .int c], ?_, ⟨_, _, _, rfl⟩, Int.emod_nonneg g (by omega), Int.emod_lt_of_pos g hn⟩
    refine runL rfl (s1 := [.own true [.int (g / n), .int s, .int c], .val (.int n), .un, .un, .val (.int (g % n))]) ?_ rfl
    unfold p_law_roll
    refine exL_rt ?_
    rw [exT_if (k := true) (s1 := [.own true [.int g, .int s, .int c], .val (.int n), .un, .un, .un]) (by simp [exT, evX, evE, evT, evF, evL, evI, evC, SG.bnd, SG.ok, SG.opt, slotOf, rd, frz, frzs, opD, cmD, b1D, atD, setS, setTg, free, truD, isiD, tyOf, isNon, callD, at0, at1, at2, seqD, nodic, nodics, hg]), if_pos rfl,
      exL_nx (s1 := [.own true [.int g, .int s, .int c], .val (.int n), .un, .un, .val (.int (g % n))]) (by simp [exT, evX, evE, evT, evF, evL, evI, evC, SG.bnd, SG.ok, SG.opt, slotOf, rd, frz, frzs, opD, cmD, b1D, atD, setS, setTg, free, truD, isiD, tyOf, isNon, callD, at0, at1, at2, seqD, nodic, nodics, hn]),
      exL_nx (s1 := [.own true [.int (g / n), .int s, .int c], .val (.int n), .un, .un, .val (.int (g % n))]) (by simp [exT, evX, evE, evT, evF, evL, evI, evC, SG.bnd, SG.ok, SG.opt, slotOf, rd, frz, frzs, opD, cmD, b1D, atD, setS, setTg, free, truD, isiD, tyOf, isNon, callD, at0, at1, at2, seqD, nodic, nodics, hn, hb, show L2.ixN 3 0 = some 0 from rfl])]
    exact exL_rt (by simp [exT, evX, evE, evT, evF, evL, evI, evC, SG.bnd, SG.ok, SG.opt, slotOf, rd, frz, frzs, opD, cmD, b1D, atD, setS, setTg, free, truD, isiD, tyOf, isNon, callD, at0, at1, at2, seqD, nodic, nodics])
  · obtain ⟨c1, e1⟩ : ∃ c1, c1 = c + 1 := ⟨_, rfl⟩
    obtain ⟨one, e2⟩ : ∃ one, one = (s + 49979687 * c1) % 2305843009213693951 := ⟨_, rfl⟩
    obtain ⟨two, e3⟩ : ∃ two, two = (one * one + 131 * c1) % 2305843009213693921 * 32452843 + one := ⟨_, rfl⟩
    have h1 : bitsOf one ≤ 64 := small_bits (by rw [e2]; exact Int.emod_nonneg _ (by decide)) (by
      rw [e2]
      have := Int.emod_lt_of_pos (s + 49979687 * c1) (show (0 : Int) < 2305843009213693951 by decide)
      omega)
    have m1 : mulOk 49979687 c1 = true := mulL (by decide +kernel)
    have m2 : mulOk one one = true := mulL h1
    have m3 : mulOk 131 c1 = true := mulL (by decide +kernel)
    have m4 : mulOk ((one * one + 131 * c1) % 2305843009213693921) 32452843 = true := mulR (by decide +kernel)
    have b1 : bitsOf 65587 ≤ 9000 := by decide +kernel
    refine ⟨two / 65587 % n, [.int g, .int s, .int c1], ?_, ⟨_, _, _, rfl⟩, Int.emod_nonneg _ (by omega), Int.emod_lt_of_pos _ hn⟩
    refine runL rfl (s1 := [.own true [.int g, .int s, .int c1], .val (.int n), .val (.int one), .val (.int two), .un]) ?_ rfl
    unfold p_law_roll
    rw [exL_nx (s1 := [.own true [.int g, .int s, .int c], .val (.int n), .un, .un, .un]) (by
        rw [exT_if (k := false) (s1 := [.own true [.int g, .int s, .int c], .val (.int n), .un, .un, .un]) (by simp [exT, evX, evE, evT, evF, evL, evI, evC, SG.bnd, SG.ok, SG.opt, slotOf, rd, frz, frzs, opD, cmD, b1D, atD, setS, setTg, free, truD, isiD, tyOf, isNon, callD, at0, at1, at2, seqD, nodic, nodics, hg])]
        simp [exL, exT, evX, evE, evT, evF, evL, evI, evC, SG.bnd, SG.ok, SG.opt, slotOf, rd, frz, frzs, opD, cmD, b1D, atD, setS, setTg, free, truD, isiD, tyOf, isNon, callD, at0, at1, at2, seqD, nodic, nodics]),
      exL_nx (s1 := [.own true [.int g, .int s, .int c1], .val (.int n), .un, .un, .un]) (by simp [exT, evX, evE, evT, evF, evL, evI, evC, SG.bnd, SG.ok, SG.opt, slotOf, rd, frz, frzs, opD, cmD, b1D, atD, setS, setTg, free, truD, isiD, tyOf, isNon, callD, at0, at1, at2, seqD, nodic, nodics, e1, show L2.ixN 3 2 = some 2 from rfl]),
      exL_nx (s1 := [.own true [.int g, .int s, .int c1], .val (.int n), .val (.int one), .un, .un]) (by simp [exT, evX, evE, evT, evF, evL, evI, evC, SG.bnd, SG.ok, SG.opt, slotOf, rd, frz, frzs, opD, cmD, b1D, atD, setS, setTg, free, truD, isiD, tyOf, isNon, callD, at0, at1, at2, seqD, nodic, nodics, m1, ← e2]),
      exL_nx (s1 := [.own true [.int g, .int s, .int c1], .val (.int n), .val (.int one), .val (.int two), .un]) (by simp [exT, evX, evE, evT, evF, evL, evI, evC, SG.bnd, SG.ok, SG.opt, slotOf, rd, frz, frzs, opD, cmD, b1D, atD, setS, setTg, free, truD, isiD, tyOf, isNon, callD, at0, at1, at2, seqD, nodic, nodics, m2, m3, m4, ← e3])]
    exact exL_rt (by simp [exT, evX, evE, evT, evF, evL, evI, evC, SG.bnd, SG.ok, SG.opt, slotOf, rd, frz, frzs, opD, cmD, b1D, atD, setS, setTg, free, truD, isiD, tyOf, isNon, callD, at0, at1, at2, seqD, nodic, nodics, b1, hn])
theorem len_bits {n : Nat} (h : n ≤ 1000) : bitsOf (n : Int) ≤ 9000 := Nat.le_trans (bd_bits (n := 64) (by unfold Bd; omega)) (by decide)
theorem pick_run {ds : List D} (hd : Dc ds) {its : List D} (hne : its ≠ []) (hl : its.length ≤ 1000) : ∃ x ∈ its, ∃ ds', f_law_pick.run ds [.lst its] = some (.ok x, ds') ∧ Dc ds' := by
  have h0 : 0 < its.length := List.length_pos_iff.mpr hne
  obtain ⟨r, ds', hr, hd', r0, r1⟩ := roll_run hd (n := its.length) (by omega) (len_bits hl)
  obtain ⟨k, rfl⟩ : ∃ k : Nat, r = (k : Int) := ⟨r.toNat, by omega⟩
  have hk : k < its.length := by omega
  refine ⟨its[k], List.getElem_mem hk, ds', ?_, hd'⟩
  have ha : L2.atI its (k : Int) = some its[k] := at_nat (List.getElem?_eq_getElem hk)
  rw [fr_law_pick]
  refine runL rfl (s1 := [.own true ds', .val (.lst its)]) ?_ rfl
  unfold p_law_pick
  exact exL_rt (by simp [exT, evX, evE, evT, evF, evL, evI, evC, SG.bnd, SG.ok, SG.opt, slotOf, rd, frz, frzs, opD, cmD, b1D, atD, setS, setTg, free, truD, isiD, tyOf, isNon, callD, at0, at1, at2, seqD, nodic, nodics, fl_law_roll, hr, ha])
theorem bits10 : bitsOf 10 = 4 := by decide +kernel
theorem zero_frD : frD 0 = .tup [.int 0, .int 1] := rfl
/-! ### loops -/
theorem fold_loop {β : Type} {e : β → D} {P : β → Prop} {body : List S → R Fl} {tg : Tg} {mk : Rat → D → List S} {m0 : Rat → List S} {op : Rat → β → Rat} {ok' : Nat → Rat → Prop} {N : Nat}
    (h0 : ∀ a x, setTg (m0 a) tg x = some (mk a x)) (hs : ∀ a y x, setTg (mk a y) tg x = some (mk a x)) (hb : ∀ n a q, n < N → ok' n a → P q → body (mk a (e q)) = SG.ok .nx (mk (op a q) (e q)) ∧ ok' (n + 1) (op a q)) :
    ∀ (qs : List β) (n : Nat) (a : Rat), n + qs.length ≤ N → ok' n a → (∀ q ∈ qs, P q) → (∀ y, ∃ y', loopT tg body (qs.map e) (mk a y) = SG.ok .nx (mk (qs.foldl op a) y')) ∧
      (∃ st', loopT tg body (qs.map e) (m0 a) = SG.ok .nx st' ∧ (st' = m0 (qs.foldl op a) ∨ ∃ y, st' = mk (qs.foldl op a) y)) ∧ ok' (n + qs.length) (qs.foldl op a)
  | [], n, a, _, ha, _ => ⟨fun y => ⟨y, rfl⟩, ⟨_, rfl, .inl rfl⟩, ha⟩
  | q :: qs, n, a, hl, ha, hq => by
    have hl' : n + (qs.length + 1) ≤ N := hl
    obtain ⟨hb1, hb2⟩ := hb n a q (by omega) ha (hq q List.mem_cons_self)
    obtain ⟨r1, _, r3⟩ := fold_loop h0 hs hb qs (n + 1) (op a q) (by omega) hb2 fun x hx => hq x (List.mem_cons_of_mem _ hx)
    have go : ∀ st, setTg st tg (e q) = some (mk a (e q)) → ∃ y', loopT tg body ((q :: qs).map e) st = SG.ok .nx (mk ((q :: qs).foldl op a) y') := fun st hst => by
      obtain ⟨y', hy⟩ := r1 (e q)
      refine ⟨y', ?_⟩
      show (match setTg st tg (e q) with | none => none | some s1 => turnS (body s1) fun s => loopT tg body (qs.map e) s) = _
      rw [hst]
      show turnS (body (mk a (e q))) _ = _
      rw [hb1]
      exact hy
    refine ⟨fun y => go _ (hs a y _), ?_, ?_⟩
    · obtain ⟨y', hy⟩ := go _ (h0 a _)
      exact ⟨_, hy, .inr ⟨y', rfl⟩⟩
    · rw [show n + (q :: qs).length = n + 1 + qs.length from by simp; omega]
      exact r3
/-- the turns of a comprehension that changes nothing -/
theorem turns_map {β : Type} {e : β → D} {P : β → Prop} {tg : Tg} {test : List S → R Bool} {elt : List S → R D} {mk : D → List S} {f : β → D} (hs : ∀ y x, setTg (wipeS (mk y) tg.slots) tg x = some (mk x)) (ht : ∀ q, P q → test (mk (e q)) = some (.ok true, mk (e q)))
    (he : ∀ q, P q → elt (mk (e q)) = some (.ok (f q), mk (e q))) : ∀ (qs : List β) (st : List S), (∀ x, setTg (wipeS st tg.slots) tg x = some (mk x)) → (∀ q ∈ qs, P q) → ∃ st', turns tg test elt (qs.map e) st = some (.ok (qs.map f), st') ∧ (st' = st ∨ ∃ y, st' = mk y)
  | [], st, _, _ => ⟨st, rfl, .inl rfl⟩
  | q :: qs, st, h0, hq => by
    obtain ⟨st', h1, h2⟩ := turns_map hs ht he qs (mk (e q)) (hs (e q)) fun x hx => hq x (List.mem_cons_of_mem _ hx)
    refine ⟨st', ?_, .inr ?_⟩
    · show turns tg test elt (e q :: qs.map e) st = _
      unfold turns
      rw [h0]
      dsimp only
      rw [ht q (hq q List.mem_cons_self)]
      dsimp only
      rw [he q (hq q List.mem_cons_self)]
      dsimp only
      rw [h1]
      rfl
    · rcases h2 with h2 | h2
      · exact ⟨_, h2⟩
      · exact h2
def sumQ (qs : List Rat) : Rat := qs.foldl (· + ·) 0
theorem FBz : FB 70 0 := by unfold FB Bd; exact ⟨by decide +kernel, by decide +kernel⟩
theorem FBo : FB 70 1 := by unfold FB Bd; exact ⟨by decide +kernel, by decide +kernel⟩
theorem bools_true {β : Type} (qs : List β) : boolsOf (qs.map fun _ => D.bl true) = some (qs.map fun _ => true) := by
  induction qs with
  | nil => rfl
  | cons q qs ih =>
    show (boolsOf (qs.map fun _ => D.bl true)).map (true :: ·) = _
    rw [ih]
    rfl
theorem all_true {β : Type} (qs : List β) : (qs.map fun _ => true).all id = true := by
  induction qs with
  | nil => rfl
  | cons q qs ih => exact ih
/-! ### what is shown -/
theorem log_lt {n : Nat} {i : Int} (h : Bd n i) (hn : 0 < n) : i.natAbs.log2 < n := by
  unfold Bd at h
  by_cases z : i.natAbs = 0
  · rw [z]
    simpa using hn
  · exact (Nat.log2_lt z).mpr h
theorem int_short {i : Int} (h : Bd 200 i) : PyData.leavesShort 201 (.int i) = true := by
  unfold PyData.leavesShort
  refine decide_eq_true ?_
  have := int_text_length_le (k := 200) (by decide) (log_lt h (by decide))
  unfold PyData.shown
  rw [ofString_length]
  exact this
theorem int_weight {i : Int} (h : Bd 200 i) : PyData.weight (.int i) ≤ 200 := by
  unfold PyData.weight
  split
  · exact Nat.zero_le _
  · have := log_lt h (by decide)
    omega
theorem int_showable {i : Int} (h : Bd 200 i) : PyData.showable (.int i) = true := by
  unfold PyData.showable
  have := log_lt h (by decide)
  exact decide_eq_true (by omega)
structure Sh (d : D) (w : Nat) : Prop where
  a : d.toP.showable = true
  b : d.toP.leavesShort 201 = true
  c : d.toP.weight ≤ w
  n : nodic d = true
  d : d.toP.depth ≤ 20
theorem sh_int {i : Int} (h : Bd 200 i) : Sh (.int i) 200 := by
  refine ⟨?_, ?_, ?_, rfl, ?_⟩ <;> unfold D.toP
  · exact int_showable h
  · exact int_short h
  · exact int_weight h
  · unfold PyData.depth
    exact Nat.zero_le _
theorem sh_pair {i j : Int} (h : Bd 200 i) (k : Bd 200 j) : Sh (.tup [.int i, .int j]) 402 := by
  have a := sh_int h
  have b := sh_int k
  have a1 := a.a
  have a2 := a.b
  have a3 := a.c
  have b1 := b.a
  have b2 := b.b
  have b3 := b.c
  unfold D.toP at a1 a2 a3 b1 b2 b3
  refine ⟨?_, ?_, ?_, rfl, ?_⟩
  · simp [D.toP, D.toPs, PyData.showable, PyData.showableAll, a1, b1] at *
    simp [a1, b1]
  · simp [D.toP, D.toPs, PyData.leavesShort, PyData.leavesShortAll] at *
    simp [a2, b2]
  · simp only [D.toP, D.toPs, PyData.weight, PyData.weightAll] at *
    omega
  · simp [D.toP, D.toPs, PyData.depth, PyData.depthAll]
theorem sh_ok {d : D} {w : Nat} (h : Sh d w) (hw : w ≤ 4000) : shownOk d = true := by
  unfold shownOk
  rw [Bool.and_eq_true, Bool.and_eq_true, Bool.and_eq_true]
  refine ⟨⟨⟨h.n, h.a⟩, decide_eq_true ?_⟩, decide_eq_true (Nat.le_trans h.d (by decide))⟩
  have e := PyData.shown_le 201 (by decide) d.toP h.b
  have c := h.c
  omega
theorem sh_fr {q : Rat} (h : FB 200 q) : Sh (frD q) 402 := sh_pair h.1 h.2
theorem sh_four {a b c d : Rat} (ha : FB 200 a) (hb : FB 200 b) (hc : FB 200 c) (hd : FB 200 d) : shownOk (.lst [frD a, frD b, frD c, frD d]) = true := by
  have A := sh_fr ha
  have B := sh_fr hb
  have C := sh_fr hc
  have E := sh_fr hd
  refine sh_ok (w := 1612) ⟨?_, ?_, ?_, rfl, ?_⟩ (by decide)
  · simp only [D.toP, D.toPs, PyData.showable, PyData.showableAll, A.a, B.a, C.a, E.a, Bool.and_self]
  · simp only [D.toP, D.toPs, PyData.leavesShort, PyData.leavesShortAll, A.b, B.b, C.b, E.b, Bool.and_self]
  · simp only [D.toP, D.toPs, PyData.weight, PyData.weightAll]
    have := A.c
    have := B.c
    have := C.c
    have := E.c
    omega
  · have e : ∀ q : Rat, (frD q).toP.depth = 1 := fun q => by simp [frD, D.toP, D.toPs, PyData.depth, PyData.depthAll]
    simp [D.toP, D.toPs, PyData.depth, PyData.depthAll, e]
def powQ (q : Rat) (n : Nat) : Rat := (List.range n).foldl (fun a _ => a * q) 1
theorem rng0 (n : Nat) : rngD 0 n = (List.range n).map fun (i : Nat) => D.int (0 + (i : Int)) := rfl
theorem one_frD : frD 1 = .tup [.int 1, .int 1] := rfl
/-! ### number -/
theorem passed {t : Int} (h : Bd 70 t) : ¬ (10000000000000000000000000000000000000000 : Int) ≤ (t.natAbs : Int) := by
  unfold Bd at h
  omega
/-! ### sums backwards -/
theorem fold_add (qs : List Rat) : ∀ a : Rat, qs.foldl (· + ·) a = a + qs.foldl (· + ·) 0 := by
  induction qs with
  | nil => intro a; exact (Rat.add_zero a).symm
  | cons q qs ih =>
    intro a
    show qs.foldl (· + ·) (a + q) = a + qs.foldl (· + ·) (0 + q)
    rw [ih (a + q), ih (0 + q), Rat.zero_add, Rat.add_assoc]
theorem sum_rev (qs : List Rat) : sumQ qs.reverse = sumQ qs := by
  unfold sumQ
  induction qs with
  | nil => rfl
  | cons q qs ih =>
    rw [List.reverse_cons, List.foldl_append, ih]
    show qs.foldl (· + ·) 0 + q = qs.foldl (· + ·) (0 + q)
    rw [fold_add qs (0 + q), Rat.zero_add, Rat.add_comm]
theorem at_fr0 (q : Rat) : atD (frD q) (.int 0) = some (.int q.num) := at0 _ _
theorem at_fr1 (q : Rat) : atD (frD q) (.int 1) = some (.int q.den) := at1 _ _ _
theorem cm_ne_fr (q : Rat) : cmD .ne (frD q) (frD q) = some false := by simp [exT, evX, evE, evT, evF, evL, evI, evC, SG.bnd, SG.ok, SG.opt, slotOf, rd, frz, frzs, opD, cmD, b1D, atD, setS, setTg, free, truD, isiD, tyOf, isNon, callD, at0, at1, at2, seqD, nodic, nodics, shp, eqD, D.toP, D.toPs, SeqAt.shaped, PyData.canLay0, PyData.canLayAll0, PyData.depth, PyData.depthAll, PyData.eqv, PyData.eqvAll, frD]
theorem cm_eq_fr (q : Rat) : cmD .eq (frD q) (frD q) = some true := by simp [exT, evX, evE, evT, evF, evL, evI, evC, SG.bnd, SG.ok, SG.opt, slotOf, rd, frz, frzs, opD, cmD, b1D, atD, setS, setTg, free, truD, isiD, tyOf, isNon, callD, at0, at1, at2, seqD, nodic, nodics, shp, eqD, D.toP, D.toPs, SeqAt.shaped, PyData.canLay0, PyData.canLayAll0, PyData.depth, PyData.depthAll, PyData.eqv, PyData.eqvAll, frD]
theorem cm_ne_int (i j : Int) : cmD .ne (.int i) (.int j) = some (!decide (i = j)) := by
  by_cases h : i = j
  · simp [exT, evX, evE, evT, evF, evL, evI, evC, SG.bnd, SG.ok, SG.opt, slotOf, rd, frz, frzs, opD, cmD, b1D, atD, setS, setTg, free, truD, isiD, tyOf, isNon, callD, at0, at1, at2, seqD, nodic, nodics, shp, eqD, D.toP, D.toPs, SeqAt.shaped, PyData.canLay0, PyData.canLayAll0, PyData.depth, PyData.depthAll, PyData.eqv, PyData.eqvAll, h]
  · simp [exT, evX, evE, evT, evF, evL, evI, evC, SG.bnd, SG.ok, SG.opt, slotOf, rd, frz, frzs, opD, cmD, b1D, atD, setS, setTg, free, truD, isiD, tyOf, isNon, callD, at0, at1, at2, seqD, nodic, nodics, shp, eqD, D.toP, D.toPs, SeqAt.shaped, PyData.canLay0, PyData.canLayAll0, PyData.depth, PyData.depthAll, PyData.eqv, PyData.eqvAll, h, show (i == j) = false from beq_eq_false_iff_ne.mpr h]
theorem cm_gt_int (i j : Int) : cmD .gt (.int i) (.int j) = some (decide (j < i)) := rfl
theorem cm_lt_int (i j : Int) : cmD .lt (.int i) (.int j) = some (decide (i < j)) := rfl
theorem cm_ne_str (x : Str) : cmD .ne (.str x) (.str x) = some false := by simp [cmD]
theorem cm_eq_str (x : Str) : cmD .eq (.str x) (.str x) = some true := by simp [cmD]
theorem b1_repr (d : D) : b1D .repr d = if shownOk d = true then some (.str d.toP.shown) else none := by cases d <;> rfl
theorem b1_int_bl (b : Bool) : b1D .int (.bl b) = some (.int (if b then 1 else 0)) := rfl
theorem b1_int_int (b : Int) : b1D .int (.int b) = some (.int b) := rfl
theorem b1_tup_lst (l : List D) : b1D .tup (.lst l) = some (.tup l) := rfl
theorem cmp_ne (l r : Int) : cmD .ne (.int (cmpI l r)) (.int ((if r < l then 1 else 0) - (if l < r then 1 else 0))) = some false := by
  rw [cm_ne_int]
  unfold cmpI
  simp
theorem cmp_self (l : Int) : cmpI l l = 0 := by unfold cmpI; simp
theorem cm_ne_one : cmD .ne (frD 1) (.tup [.int 1, .int 1]) = some false := cm_ne_fr 1
theorem small_roll {n : Int} (h0 : 0 < n) (h : n ≤ 1000) : bitsOf n ≤ 9000 := Nat.le_trans (bd_bits (n := 64) (by unfold Bd; omega)) (by decide)
theorem pw_ok (st : List S) : evE (.bin .pow (.bin .pow (.cst (.int 10)) (.cst (.int 53))) (.cst (.int 6))) st = some (.ok (.v (.int ((10 ^ 53) ^ 6))), st) := by kernel_rfl
theorem pw2_ok (st : List S) : evE (.bin .pow (.cst (.int 10)) (.cst (.int 16))) st = some (.ok (.v (.int (10 ^ 16))), st) := by kernel_rfl
theorem bnd_ok {α β : Type} (a : α) (s : List S) (k : α → List S → R β) : SG.bnd (SG.ok a s) k = k a s := rfl
theorem set_nm {st : List S} {i : Nat} {d : D} (h : free st i = true) : setTg st (.nm i) d = some (st.set i (.val d)) := by simp [setTg, h]
theorem asg_run {x : E} {i : Nat} {st : List S} {d : D} (h : evE x st = some (.ok (.v d), st)) (hf : free st i = true) : exT (.asg i (.e x)) st = some (.ok .nx, st.set i (.val d)) := by
  rw [exT]
  show SG.bnd (SG.bnd (evE x st) _) _ = _
  rw [h]
  show SG.bnd (SG.opt (setS st i (.val d)) st) _ = _
  unfold setS
  rw [if_pos hf]
  rfl
theorem bin_int {o : Op} {x y : E} {st : List S} {i j k : Int} (h : evE x st = some (.ok (.v (.int i)), st)) (h2 : evE y st = some (.ok (.v (.int j)), st)) (e : opD o (.int i) (.int j) = some (.int k)) : evE (.bin o x y) st = some (.ok (.v (.int k)), st) := by
  rw [evE.eq_4, h]
  show SG.bnd (evE y st) _ = _
  rw [h2]
  show SG.bnd (SG.opt (opD o (.int i) (.int j)) st) _ = _
  rw [e]
  rfl
theorem at_script {ns : List Int} {k : Nat} (h : k < ns.length) : atD (.lst (ns.map D.int)) (.int (k : Int)) = some (.int ns[k]) :=
  at_nat (by rw [List.getElem?_map, List.getElem?_eq_getElem h]; rfl)
theorem dice_run (ns : List Int) (k : Nat) : ∃ ds, f_law_dice.run [] [.lst (ns.map D.int), .int k] = some (.ok (.lst ds), []) ∧ Dc ds := by
  rw [fr_law_dice]
  obtain ⟨cell, hcell⟩ : ∃ cell : Int, evE (.ite (.cmp .lt (.var 1) (.b1 .len (.var 0))) (.b1 .int (.ix (.var 0) (.var 1))) (.bin .add (.bin .mul (.cst (.int 131)) (.var 1)) (.cst (.int 37)))) [.val (.lst (ns.map D.int)), .val (.int k), .un, .un, .un] = some (.ok (.v (.int cell)), [.val (.lst (ns.map D.int)), .val (.int k), .un, .un, .un]) := by
    by_cases h : k < ns.length
    · have h' : (k : Int) < ns.length := by omega
      refine ⟨ns[k], ?_⟩
      simp [evE, evT, SG.bnd, SG.ok, SG.opt, slotOf, rd, cmD, b1D, at_script h, h]
    · have h' : ¬ (k : Int) < ns.length := by omega
      refine ⟨131 * k + 37, ?_⟩
      have m : mulOk 131 (k : Int) = true := mulL (by decide +kernel)
      simp [evE, evT, SG.bnd, SG.ok, SG.opt, slotOf, rd, cmD, b1D, opD, h, m]
  obtain ⟨great, e1⟩ : ∃ great : Int, great = (cell.natAbs : Int) % (10 ^ 53) ^ 6 := ⟨_, rfl⟩
  obtain ⟨seed, e2⟩ : ∃ seed : Int, seed = great % 2305843009213693907 * 73 + 619 * (k : Int) + 41 * (if cell < 0 then 1 else 0) + 17 := ⟨_, rfl⟩
  have m1 : mulOk (great % 2305843009213693907) 73 = true := mulR (by decide +kernel)
  have m2 : mulOk 619 (k : Int) = true := mulL (by decide +kernel)
  have m3 : ∀ b : Int, mulOk 41 b = true := fun b => mulL (by decide +kernel)
  refine ⟨[.int (if great - 10 ^ 16 > 0 then great - 10 ^ 16 else 0), .int seed, .int 0], ?_, ⟨_, _, _, rfl⟩⟩
  refine run0 rfl (s1 := [.val (.lst (ns.map D.int)), .val (.int k), .val (.int cell), .val (.int great), .val (.int seed)]) ?_ rfl
  unfold p_law_dice
  have g3 : evE (.bin .mod (.b1 .int (.b1 .abs (.var 2))) (.bin .pow (.bin .pow (.cst (.int 10)) (.cst (.int 53))) (.cst (.int 6)))) [.val (.lst (ns.map D.int)), .val (.int k), .val (.int cell), .un, .un] = some (.ok (.v (.int great)), [.val (.lst (ns.map D.int)), .val (.int k), .val (.int cell), .un, .un]) := by
    refine bin_int (i := cell.natAbs) (j := (10 ^ 53) ^ 6) (by simp [evE, SG.bnd, SG.ok, SG.opt, slotOf, rd, b1D, iabs]) (pw_ok _) ?_
    rw [e1]
    show (if (0 : Int) < (10 ^ 53) ^ 6 then some (D.int ((cell.natAbs : Int) % (10 ^ 53) ^ 6)) else none) = _
    rw [if_pos (by decide +kernel)]
  rw [exL_nx (s1 := [.val (.lst (ns.map D.int)), .val (.int k), .val (.int cell), .un, .un]) (asg_run hcell rfl),
    exL_nx (s1 := [.val (.lst (ns.map D.int)), .val (.int k), .val (.int cell), .val (.int great), .un]) (asg_run g3 rfl),
    exL_nx (s1 := [.val (.lst (ns.map D.int)), .val (.int k), .val (.int cell), .val (.int great), .val (.int seed)]) (by simp [exT, evX, evE, evT, evF, evL, evI, evC, SG.bnd, SG.ok, SG.opt, slotOf, rd, frz, frzs, opD, cmD, b1D, atD, setS, setTg, free, truD, isiD, tyOf, isNon, callD, at0, at1, at2, seqD, nodic, nodics, m1, m2, m3, ← e2])]
  refine exL_rt ?_
  have g5 : evE (.max2 (.cst (.int 0)) (.bin .sub (.var 3) (.bin .pow (.cst (.int 10)) (.cst (.int 16))))) [.val (.lst (ns.map D.int)), .val (.int k), .val (.int cell), .val (.int great), .val (.int seed)] = some (.ok (.v (.int (if great - 10 ^ 16 > 0 then great - 10 ^ 16 else 0))), [.val (.lst (ns.map D.int)), .val (.int k), .val (.int cell), .val (.int great), .val (.int seed)]) := by
    rw [evE.eq_21, evE.eq_2, bnd_ok]
    rw [bin_int (i := great) (j := 10 ^ 16) (k := great - 10 ^ 16) (by simp [evE, SG.bnd, SG.ok, slotOf]) (pw2_ok _) rfl]
    rfl
  rw [exT, evF.eq_1, evL, g5]
  rfl
/-! ### the law's loops -/
def Fr (s : S) : Prop := s = .un ∨ (∃ x, s = .val x) ∨ ∃ ds, s = .own false ds
theorem free_of {st : List S} {i : Nat} {s : S} (h : st[i]? = some s) (f : Fr s) : free st i = true := by
  unfold free
  rw [h]
  rcases f with rfl | ⟨x, rfl⟩ | ⟨ds, rfl⟩ <;> rfl
end B
namespace B
open PySem SG Gn LT
theorem cm_eq_int (i j : Int) : cmD .eq (.int i) (.int j) = some (decide (i = j)) := by
  by_cases h : i = j
  · simp [exT, evX, evE, evT, evF, evL, evI, evC, SG.bnd, SG.ok, SG.opt, slotOf, rd, frz, frzs, opD, cmD, b1D, atD, setS, setTg, free, truD, isiD, tyOf, isNon, callD, at0, at1, at2, seqD, nodic, nodics, shp, eqD, D.toP, D.toPs, SeqAt.shaped, PyData.canLay0, PyData.canLayAll0, PyData.depth, PyData.depthAll, PyData.eqv, PyData.eqvAll, h]
  · simp [exT, evX, evE, evT, evF, evL, evI, evC, SG.bnd, SG.ok, SG.opt, slotOf, rd, frz, frzs, opD, cmD, b1D, atD, setS, setTg, free, truD, isiD, tyOf, isNon, callD, at0, at1, at2, seqD, nodic, nodics, shp, eqD, D.toP, D.toPs, SeqAt.shaped, PyData.canLay0, PyData.canLayAll0, PyData.depth, PyData.depthAll, PyData.eqv, PyData.eqvAll, h, show (i == j) = false from beq_eq_false_iff_ne.mpr h]
theorem cm_le_int (i j : Int) : cmD .le (.int i) (.int j) = some (decide (i ≤ j)) := rfl
theorem cm_ge_int (i j : Int) : cmD .ge (.int i) (.int j) = some (decide (j ≤ i)) := rfl
theorem b1_len_tup (l : List D) : b1D .len (.tup l) = some (.int l.length) := rfl
theorem b1_len_lst (l : List D) : b1D .len (.lst l) = some (.int l.length) := rfl
theorem nought : c_NOUGHT = frD 0 := rfl
theorem one' : c_ONE = frD 1 := rfl
theorem frD_inj {p q : Rat} (h : frD p = frD q) : p = q := by
  unfold frD at h
  simp only [D.tup.injEq, List.cons.injEq, D.int.injEq, and_true] at h
  exact Rat.ext h.1 (by omega)
/-! ### comparing data -/
structure Cd (d : D) (n : Nat) : Prop where
  a : d.toP.canLay0 = true
  c : d.toP.depth ≤ n
  n : nodic d = true
theorem cd_int (i : Int) (n : Nat) : Cd (.int i) n := ⟨by simp [D.toP, PyData.canLay0], by simp [D.toP, PyData.depth], rfl⟩
theorem cd_bl (i : Bool) (n : Nat) : Cd (.bl i) n := ⟨by simp [D.toP, PyData.canLay0], by simp [D.toP, PyData.depth], rfl⟩
theorem cd_non (n : Nat) : Cd .non n := ⟨by simp [D.toP, PyData.canLay0], by simp [D.toP, PyData.depth], rfl⟩
theorem cd_all {n : Nat} : ∀ {ds : List D}, (∀ d ∈ ds, Cd d n) → PyData.canLayAll0 (D.toPs ds) = true ∧ PyData.depthAll (D.toPs ds) ≤ n ∧ nodics ds = true
  | [], _ => ⟨rfl, by simp [D.toPs, PyData.depthAll], rfl⟩
  | d :: ds, h => by
    obtain ⟨a, b, c⟩ := cd_all fun x hx => h x (List.mem_cons_of_mem _ hx)
    have k := h d List.mem_cons_self
    refine ⟨?_, ?_, ?_⟩
    · simp only [D.toPs, PyData.canLayAll0, k.a, a, Bool.and_self]
    · simp only [D.toPs, PyData.depthAll]
      have := k.c
      omega
    · simp only [nodics, k.n, c, Bool.and_self]
theorem cd_tup {ds : List D} {n : Nat} (h : ∀ d ∈ ds, Cd d n) : Cd (.tup ds) (n + 1) := by
  obtain ⟨a, b, c⟩ := cd_all h
  exact ⟨by simpa only [D.toP, PyData.canLay0] using a, by simp only [D.toP, PyData.depth]; omega, by simpa only [nodic] using c⟩
theorem cd_lst {ds : List D} {n : Nat} (h : ∀ d ∈ ds, Cd d n) : Cd (.lst ds) (n + 1) := by
  obtain ⟨a, b, c⟩ := cd_all h
  exact ⟨by simpa only [D.toP, PyData.canLay0] using a, by simp only [D.toP, PyData.depth]; omega, by simpa only [nodic] using c⟩
theorem cd_shp {d : D} {n : Nat} (h : Cd d n) (hn : n ≤ 64) : shp d = true := by
  unfold shp SeqAt.shaped
  rw [h.a, h.n, decide_eq_true (Nat.le_trans h.c hn)]
  rfl
theorem cd_map {α : Type} {f : α → D} {n : Nat} (h : ∀ a, Cd (f a) n) (l : List α) : Cd (.tup (l.map f)) (n + 1) := cd_tup fun d hd => by
  obtain ⟨a, _, rfl⟩ := List.mem_map.mp hd
  exact h a
theorem cd_fr (q : Rat) : Cd (frD q) 1 := cd_tup fun d hd => by
  rcases List.mem_cons.mp hd with rfl | hd
  · exact cd_int _ _
  rcases List.mem_cons.mp hd with rfl | hd
  · exact cd_int _ _
  · cases hd
def rwD (r : Row) : D := .tup (r.map frD)
def ltD (t : List Row) : D := .tup (t.map rwD)
theorem cd_rw (r : Row) : Cd (rwD r) 2 := cd_map cd_fr r
theorem cd_lt (t : List Row) : Cd (ltD t) 3 := cd_map cd_rw t
theorem eq_all {α : Type} [DecidableEq α] {f : α → D} (h : ∀ a b, eqD (f a) (f b) = decide (a = b)) : ∀ l m : List α, PyData.eqvAll (D.toPs (l.map f)) (D.toPs (m.map f)) = decide (l = m)
  | [], [] => by simp [D.toPs, PyData.eqvAll]
  | [], _ :: _ => by simp [D.toPs, PyData.eqvAll]
  | _ :: _, [] => by simp [D.toPs, PyData.eqvAll]
  | a :: l, b :: m => by
    have h1 := h a b
    unfold eqD at h1
    simp only [List.map_cons, D.toPs, PyData.eqvAll, h1, eq_all h l m]
    rw [← Bool.decide_and]
    exact decide_eq_decide.mpr (by simp)
theorem eq_tups {α : Type} [DecidableEq α] {f : α → D} (h : ∀ a b, eqD (f a) (f b) = decide (a = b)) (l m : List α) : eqD (.tup (l.map f)) (.tup (m.map f)) = decide (l = m) := by
  unfold eqD
  simp only [D.toP, PyData.eqv]
  exact eq_all h l m
theorem eq_fr (p q : Rat) : eqD (frD p) (frD q) = decide (p = q) := by
  unfold eqD frD
  simp only [D.toP, D.toPs, PyData.eqv, PyData.eqvAll]
  by_cases h : p = q
  · simp [h]
  · rw [decide_eq_false h]
    by_cases h1 : p.num = q.num
    · have : ¬ (p.den : Int) = q.den := fun z => h (Rat.ext h1 (by omega))
      simp [h1]
      omega
    · simp [h1]
theorem eq_rw (r s : Row) : eqD (rwD r) (rwD s) = decide (r = s) := eq_tups eq_fr r s
theorem eq_lt (r s : List Row) : eqD (ltD r) (ltD s) = decide (r = s) := eq_tups eq_rw r s
theorem cm_eq_of {a b : D} {n m : Nat} (ha : Cd a n) (hb : Cd b m) (hn : n ≤ 64) (hm : m ≤ 64) (hs : ∀ x, a ≠ .str x) : cmD .eq a b = some (eqD a b) ∧ cmD .ne a b = some (!eqD a b) := by
  have s := cd_shp ha hn
  have t := cd_shp hb hm
  cases a <;> first
    | exact absurd rfl (hs _)
    | (constructor <;> simp [cmD, s, t])
theorem cm_eq_q (p q : Rat) : cmD .eq (frD p) (frD q) = some (decide (p = q)) := by rw [(cm_eq_of (cd_fr p) (cd_fr q) (by decide) (by decide) fun _ z => by cases z).1, eq_fr]
theorem cm_ne_q (p q : Rat) : cmD .ne (frD p) (frD q) = some (!decide (p = q)) := by rw [(cm_eq_of (cd_fr p) (cd_fr q) (by decide) (by decide) fun _ z => by cases z).2, eq_fr]
theorem cm_eq_lt (p q : List Row) : cmD .eq (ltD p) (ltD q) = some (decide (p = q)) := by rw [(cm_eq_of (cd_lt p) (cd_lt q) (by decide) (by decide) fun _ z => by cases z).1, eq_lt]
theorem cm_eq_rw (p q : Row) : cmD .eq (rwD p) (rwD q) = some (decide (p = q)) := by rw [(cm_eq_of (cd_rw p) (cd_rw q) (by decide) (by decide) fun _ z => by cases z).1, eq_rw]
theorem cm_ne_lt (p q : List Row) : cmD .ne (ltD p) (ltD q) = some (!decide (p = q)) := by rw [(cm_eq_of (cd_lt p) (cd_lt q) (by decide) (by decide) fun _ z => by cases z).2, eq_lt]
theorem cm_ne_rw (p q : Row) : cmD .ne (rwD p) (rwD q) = some (!decide (p = q)) := by rw [(cm_eq_of (cd_rw p) (cd_rw q) (by decide) (by decide) fun _ z => by cases z).2, eq_rw]
theorem eq_nil_lst (l : List D) : eqD (.lst l) (.lst []) = l.isEmpty := by
  unfold eqD
  cases l <;> simp [D.toP, D.toPs, PyData.eqv, PyData.eqvAll]
theorem eq_nil_tup (l : List D) : eqD (.tup l) (.tup []) = l.isEmpty := by
  unfold eqD
  cases l <;> simp [D.toP, D.toPs, PyData.eqv, PyData.eqvAll]
theorem cm_nil_lst {l : List D} {n : Nat} (h : ∀ d ∈ l, Cd d n) (hn : n ≤ 60) : cmD .eq (.lst l) (.lst []) = some l.isEmpty ∧ cmD .ne (.lst l) (.lst []) = some (!l.isEmpty) := by
  have := cm_eq_of (cd_lst h) (cd_lst (ds := []) (n := 0) fun _ z => nomatch z) (by omega) (by decide) fun _ z => by cases z
  rw [eq_nil_lst] at this
  exact this
theorem cm_nil_tup {l : List D} {n : Nat} (h : ∀ d ∈ l, Cd d n) (hn : n ≤ 60) : cmD .eq (.tup l) (.tup []) = some l.isEmpty ∧ cmD .ne (.tup l) (.tup []) = some (!l.isEmpty) := by
  have := cm_eq_of (cd_tup h) (cd_tup (ds := []) (n := 0) fun _ z => nomatch z) (by omega) (by decide) fun _ z => by cases z
  rw [eq_nil_tup] at this
  exact this
/-- nothing is found -/
theorem cm_ones {α : Type} (l : List α) : cmD .eq (.lst (l.map fun _ => D.int 1)) (.lst []) = some l.isEmpty ∧ cmD .ne (.lst (l.map fun _ => D.int 1)) (.lst []) = some (!l.isEmpty) := by
  have := cm_nil_lst (l := l.map fun _ => D.int 1) (n := 0) (fun d hd => by obtain ⟨_, _, rfl⟩ := List.mem_map.mp hd; exact cd_int _ _) (by decide)
  simpa using this
theorem all_bl {β : Type} (p : β → Bool) (qs : List β) : b1D .all (.lst (qs.map fun q => D.bl (p q))) = some (.bl (qs.all p)) := by
  have : ∀ qs : List β, boolsOf (qs.map fun q => D.bl (p q)) = some (qs.map p) := fun qs => by
    induction qs with
    | nil => rfl
    | cons q qs ih => simp only [List.map_cons, boolsOf, ih, Option.map_some]
  show (boolsOf _).map _ = _
  rw [this]
  simp [List.all_map]
theorem any_bl {β : Type} (p : β → Bool) (qs : List β) : b1D .any (.lst (qs.map fun q => D.bl (p q))) = some (.bl (qs.any p)) := by
  have : ∀ qs : List β, boolsOf (qs.map fun q => D.bl (p q)) = some (qs.map p) := fun qs => by
    induction qs with
    | nil => rfl
    | cons q qs ih => simp only [List.map_cons, boolsOf, ih, Option.map_some]
  show (boolsOf _).map _ = _
  rw [this]
  simp [List.any_map]
theorem tup_of {F : FE} {st : List S} {ds : List D} (h : evF F st = some (.ok ds, st)) : evE (.b1 .tup (.fr F)) st = some (.ok (.v (.tup ds)), st) := by
  simp [evE, SG.bnd, SG.ok, SG.opt, rd, b1_tup_lst, h]
theorem ret_tup {F : FE} {r : TL} {st : List S} {ds : List D} (h : evF F st = some (.ok ds, st)) : exL (.cons (.ret (.b1 .tup (.fr F))) r) st = some (.ok (.rt (.tup ds)), st) := by
  refine exL_rt ?_
  simp [exT, evE, SG.bnd, SG.ok, SG.opt, rd, frz, b1_tup_lst, h]
/-! ### comprehensions with a test -/
theorem turns_if {β : Type} {e : β → D} {P : β → Prop} {tg : Tg} {test : List S → R Bool} {elt : List S → R D} {mk : β → List S} {f : β → D} {p : β → Bool} (hs : ∀ y q, setTg (wipeS (mk y) tg.slots) tg (e q) = some (mk q)) (ht : ∀ q, P q → test (mk q) = some (.ok (p q), mk q))
    (he : ∀ q, P q → p q = true → elt (mk q) = some (.ok (f q), mk q)) : ∀ (qs : List β) (st : List S), (∀ q, setTg (wipeS st tg.slots) tg (e q) = some (mk q)) → (∀ q ∈ qs, P q) → ∃ st', turns tg test elt (qs.map e) st = some (.ok ((qs.filter p).map f), st') ∧ (st' = st ∨ ∃ y, st' = mk y)
  | [], st, _, _ => ⟨st, rfl, .inl rfl⟩
  | q :: qs, st, h0, hq => by
    obtain ⟨st', h1, h2⟩ := turns_if hs ht he qs (mk q) (fun x => hs q x) fun x hx => hq x (List.mem_cons_of_mem _ hx)
    refine ⟨st', ?_, .inr ?_⟩
    · show turns tg test elt (e q :: qs.map e) st = _
      unfold turns
      rw [h0]
      dsimp only
      rw [ht q (hq q List.mem_cons_self)]
      cases hp : p q with
      | true =>
        dsimp only
        rw [he q (hq q List.mem_cons_self) hp]
        dsimp only
        rw [h1, List.filter_cons, hp]
        rfl
      | false =>
        dsimp only
        rw [h1, List.filter_cons, hp]
        rfl
    · rcases h2 with h2 | h2
      · exact ⟨_, h2⟩
      · exact h2
/-- [el for x in it if c], x in the slot i, which holds no list of its own -/
theorem comp_ifg {β : Type} {e f : β → D} {P : β → Prop} {p : β → Bool} {i : Nat} {it : IT} {c el : E} {st0 st : List S} {si : S} {qs : List β} (hit : evI it st0 = some (.ok (qs.map e), st)) (hi : st[i]? = some si) (pi : plainAt st i = true) (hl : qs.length ≤ 100000)
    (hc : ∀ q, P q → evT c (st.set i (.val (e q))) = some (.ok (p q), st.set i (.val (e q)))) (hel : ∀ q, P q → p q = true → frzR (evE el (st.set i (.val (e q)))) = some (.ok (f q), st.set i (.val (e q)))) (hP : ∀ q ∈ qs, P q) : evF (.comp (.nm i) it (.yes c) el) st0 = some (.ok ((qs.filter p).map f), st) := by
  have il := lt_some hi
  have hset : ∀ (s : S) (x : D), setTg (wipeS (st.set i s) (Tg.nm i).slots) (.nm i) x = some (st.set i (.val x)) := fun s x => by
    show (if free ((st.set i s).set i .un) i then some (((st.set i s).set i .un).set i (.val x)) else none) = _
    rw [List.set_set, if_pos (free_un il), List.set_set]
  obtain ⟨st', h1, h2⟩ := turns_if (e := e) (P := P) (p := p) (tg := .nm i) (test := fun s => evC (.yes c) s) (elt := fun s => frzR (evE el s)) (mk := fun q => st.set i (.val (e q))) (f := f) (fun y q => hset _ _) (fun q h => hc q h) hel qs st (fun q => by
    have := hset si (e q)
    rw [set_at hi] at this
    exact this) hP
  rw [evF.eq_2, hit]
  show (if _ then _ else _) = _
  rw [if_pos (by simp [Tg.slots, pi]; exact hl), h1]
  show some (Except.ok _, restore st st' [i]) = _
  have hr : restore st st' [i] = st := by
    show (match (st[i]? : Option S) with | some s => (restore st st' []).set i s | none => restore st st' []) = st
    rw [hi]
    show st'.set i si = st
    rcases h2 with rfl | ⟨y, rfl⟩
    · exact set_at hi
    · rw [List.set_set]
      exact set_at hi
  rw [hr]
/-- [el for x in it], x in the slot i, which holds no list of its own -/
theorem comp_alg {β : Type} {e f : β → D} {P : β → Prop} {i : Nat} {it : IT} {el : E} {st0 st : List S} {si : S} {qs : List β} (hit : evI it st0 = some (.ok (qs.map e), st)) (hi : st[i]? = some si) (pi : plainAt st i = true) (hl : qs.length ≤ 100000)
    (hel : ∀ q, P q → frzR (evE el (st.set i (.val (e q)))) = some (.ok (f q), st.set i (.val (e q)))) (hP : ∀ q ∈ qs, P q) : evF (.comp (.nm i) it .no el) st0 = some (.ok (qs.map f), st) := by
  have il := lt_some hi
  have hset : ∀ (s : S) (x : D), setTg (wipeS (st.set i s) (Tg.nm i).slots) (.nm i) x = some (st.set i (.val x)) := fun s x => by
    show (if free ((st.set i s).set i .un) i then some (((st.set i s).set i .un).set i (.val x)) else none) = _
    rw [List.set_set, if_pos (free_un il), List.set_set]
  obtain ⟨st', h1, h2⟩ := turns_all (e := e) (P := P) (tg := .nm i) (test := fun s => evC .no s) (elt := fun s => frzR (evE el s)) (mk := fun q => st.set i (.val (e q))) (f := f) (fun y q => hset _ _) (fun q _ => rfl) hel qs st (fun q => by
    have := hset si (e q)
    rw [set_at hi] at this
    exact this) hP
  rw [evF.eq_2, hit]
  show (if _ then _ else _) = _
  rw [if_pos (by simp [Tg.slots, pi]; exact hl), h1]
  show some (Except.ok _, restore st st' [i]) = _
  have hr : restore st st' [i] = st := by
    show (match (st[i]? : Option S) with | some s => (restore st st' []).set i s | none => restore st st' []) = st
    rw [hi]
    show st'.set i si = st
    rcases h2 with rfl | ⟨y, rfl⟩
    · exact set_at hi
    · rw [List.set_set]
      exact set_at hi
  rw [hr]
/-- [el for x, y in it if c], in the slots i, j, which hold no list of their own -/
theorem comp_if2g {β : Type} {e f : β → D} {a b : β → D} {P : β → Prop} {p : β → Bool} {i j : Nat} {it : IT} {c el : E} {st0 st : List S} {si sj : S} {qs : List β} (hit : evI it st0 = some (.ok (qs.map e), st)) (hi : st[i]? = some si) (hj : st[j]? = some sj) (hij : i ≠ j) (hl : qs.length ≤ 100000) (hab : ∀ q, e q = .tup [a q, b q])
    (hc : ∀ q, P q → evT c ((st.set i (.val (a q))).set j (.val (b q))) = some (.ok (p q), (st.set i (.val (a q))).set j (.val (b q)))) (hel : ∀ q, P q → p q = true → frzR (evE el ((st.set i (.val (a q))).set j (.val (b q)))) = some (.ok (f q), (st.set i (.val (a q))).set j (.val (b q)))) (hP : ∀ q ∈ qs, P q) (pi : plainAt st i = true) (pj : plainAt st j = true) : evF (.comp (.two i j) it (.yes c) el) st0 = some (.ok ((qs.filter p).map f), st) := by
  have il := lt_some hi
  have jl := lt_some hj
  have put : ∀ q, setTg ((st.set j .un).set i .un) (.two i j) (e q) = some ((st.set i (.val (a q))).set j (.val (b q))) := fun q => by
    rw [hab]
    show (if free ((st.set j .un).set i .un) i then (if free (((st.set j .un).set i .un).set i (.val (a q))) j then some ((((st.set j .un).set i .un).set i (.val (a q))).set j (.val (b q))) else none) else none) = _
    have f1 : free ((st.set j .un).set i .un) i = true := by
      unfold free
      rw [List.getElem?_set_self (by rw [List.length_set]; exact il)]
    have f2 : free (((st.set j .un).set i .un).set i (.val (a q))) j = true := by
      unfold free
      rw [List.set_set, List.getElem?_set_ne hij, List.getElem?_set_self jl]
    rw [if_pos f1, if_pos f2, List.set_set, List.set_comm _ _ hij, List.set_set, List.set_comm _ _ hij.symm]
  have wip : ∀ (s t : S), wipeS ((st.set i s).set j t) (Tg.two i j).slots = (st.set j .un).set i .un := fun s t => by
    show (((st.set i s).set j t).set j .un).set i .un = _
    rw [List.set_set, List.set_comm _ _ hij, List.set_set]
  obtain ⟨st', h1, h2⟩ := turns_if (e := e) (P := P) (p := p) (tg := .two i j) (test := fun s => evC (.yes c) s) (elt := fun s => frzR (evE el s)) (mk := fun q => (st.set i (.val (a q))).set j (.val (b q))) (f := f) (fun y q => by rw [wip]; exact put q) (fun q h => hc q h) hel qs st (fun q => put q) hP
  rw [evF.eq_2, hit]
  show (if _ then _ else _) = _
  rw [if_pos (by simp [Tg.slots, pi, pj]; exact hl), h1]
  show some (Except.ok _, restore st st' [i, j]) = _
  have hr : restore st st' [i, j] = st := by
    have e1 : restore st st' [j] = st'.set j sj := by
      show (match (st[j]? : Option S) with | some s => (restore st st' []).set j s | none => restore st st' []) = _
      rw [hj]
      first | rfl | skip
    show (match (st[i]? : Option S) with | some s => (restore st st' [j]).set i s | none => restore st st' [j]) = st
    rw [hi, e1]
    show (st'.set j sj).set i si = st
    rcases h2 with rfl | ⟨y, rfl⟩
    · rw [set_at hj, set_at hi]
    · rw [List.set_set, List.set_comm _ _ hij, List.set_set, List.set_comm _ _ hij.symm, set_at hi, set_at hj]
  rw [hr]
/-- [el for x, y in it], in the slots i, j, which hold no list of their own -/
theorem comp_al2g {β : Type} {e f : β → D} {a b : β → D} {P : β → Prop} {i j : Nat} {it : IT} {el : E} {st0 st : List S} {si sj : S} {qs : List β} (hit : evI it st0 = some (.ok (qs.map e), st)) (hi : st[i]? = some si) (hj : st[j]? = some sj) (hij : i ≠ j) (hl : qs.length ≤ 100000) (hab : ∀ q, e q = .tup [a q, b q])
    (hel : ∀ q, P q → frzR (evE el ((st.set i (.val (a q))).set j (.val (b q)))) = some (.ok (f q), (st.set i (.val (a q))).set j (.val (b q)))) (hP : ∀ q ∈ qs, P q) (pi : plainAt st i = true) (pj : plainAt st j = true) : evF (.comp (.two i j) it .no el) st0 = some (.ok (qs.map f), st) := by
  have il := lt_some hi
  have jl := lt_some hj
  have put : ∀ q, setTg ((st.set j .un).set i .un) (.two i j) (e q) = some ((st.set i (.val (a q))).set j (.val (b q))) := fun q => by
    rw [hab]
    show (if free ((st.set j .un).set i .un) i then (if free (((st.set j .un).set i .un).set i (.val (a q))) j then some ((((st.set j .un).set i .un).set i (.val (a q))).set j (.val (b q))) else none) else none) = _
    have f1 : free ((st.set j .un).set i .un) i = true := by
      unfold free
      rw [List.getElem?_set_self (by rw [List.length_set]; exact il)]
    have f2 : free (((st.set j .un).set i .un).set i (.val (a q))) j = true := by
      unfold free
      rw [List.set_set, List.getElem?_set_ne hij, List.getElem?_set_self jl]
    rw [if_pos f1, if_pos f2, List.set_set, List.set_comm _ _ hij, List.set_set, List.set_comm _ _ hij.symm]
  have wip : ∀ (s t : S), wipeS ((st.set i s).set j t) (Tg.two i j).slots = (st.set j .un).set i .un := fun s t => by
    show (((st.set i s).set j t).set j .un).set i .un = _
    rw [List.set_set, List.set_comm _ _ hij, List.set_set]
  obtain ⟨st', h1, h2⟩ := turns_all (e := e) (P := P) (tg := .two i j) (test := fun s => evC .no s) (elt := fun s => frzR (evE el s)) (mk := fun q => (st.set i (.val (a q))).set j (.val (b q))) (f := f) (fun y q => by rw [wip]; exact put q) (fun q _ => rfl) hel qs st (fun q => put q) hP
  rw [evF.eq_2, hit]
  show (if _ then _ else _) = _
  rw [if_pos (by simp [Tg.slots, pi, pj]; exact hl), h1]
  show some (Except.ok _, restore st st' [i, j]) = _
  have hr : restore st st' [i, j] = st := by
    have e1 : restore st st' [j] = st'.set j sj := by
      show (match (st[j]? : Option S) with | some s => (restore st st' []).set j s | none => restore st st' []) = _
      rw [hj]
      first | rfl | skip
    show (match (st[i]? : Option S) with | some s => (restore st st' [j]).set i s | none => restore st st' [j]) = st
    rw [hi, e1]
    show (st'.set j sj).set i si = st
    rcases h2 with rfl | ⟨y, rfl⟩
    · rw [set_at hj, set_at hi]
    · rw [List.set_set, List.set_comm _ _ hij, List.set_set, List.set_comm _ _ hij.symm, set_at hi, set_at hj]
  rw [hr]
theorem comp_if {β : Type} {e f : β → D} {P : β → Prop} {p : β → Bool} {i : Nat} {it : IT} {c el : E} {st : List S} {si : S} {qs : List β} (hit : evI it st = some (.ok (qs.map e), st)) (hi : st[i]? = some si) (pi : plainAt st i = true) (hl : qs.length ≤ 100000)
    (hc : ∀ q, P q → evT c (st.set i (.val (e q))) = some (.ok (p q), st.set i (.val (e q)))) (hel : ∀ q, P q → p q = true → frzR (evE el (st.set i (.val (e q)))) = some (.ok (f q), st.set i (.val (e q)))) (hP : ∀ q ∈ qs, P q) : evF (.comp (.nm i) it (.yes c) el) st = some (.ok ((qs.filter p).map f), st) := comp_ifg hit hi pi hl hc hel hP
theorem comp_al {β : Type} {e f : β → D} {P : β → Prop} {i : Nat} {it : IT} {el : E} {st : List S} {si : S} {qs : List β} (hit : evI it st = some (.ok (qs.map e), st)) (hi : st[i]? = some si) (pi : plainAt st i = true) (hl : qs.length ≤ 100000)
    (hel : ∀ q, P q → frzR (evE el (st.set i (.val (e q)))) = some (.ok (f q), st.set i (.val (e q)))) (hP : ∀ q ∈ qs, P q) : evF (.comp (.nm i) it .no el) st = some (.ok (qs.map f), st) := comp_alg hit hi pi hl hel hP
theorem comp_if2 {β : Type} {e f : β → D} {a b : β → D} {P : β → Prop} {p : β → Bool} {i j : Nat} {it : IT} {c el : E} {st : List S} {si sj : S} {qs : List β} (hit : evI it st = some (.ok (qs.map e), st)) (hi : st[i]? = some si) (hj : st[j]? = some sj) (hij : i ≠ j) (hl : qs.length ≤ 100000) (hab : ∀ q, e q = .tup [a q, b q])
    (hc : ∀ q, P q → evT c ((st.set i (.val (a q))).set j (.val (b q))) = some (.ok (p q), (st.set i (.val (a q))).set j (.val (b q)))) (hel : ∀ q, P q → p q = true → frzR (evE el ((st.set i (.val (a q))).set j (.val (b q)))) = some (.ok (f q), (st.set i (.val (a q))).set j (.val (b q)))) (hP : ∀ q ∈ qs, P q) (pi : plainAt st i = true) (pj : plainAt st j = true) : evF (.comp (.two i j) it (.yes c) el) st = some (.ok ((qs.filter p).map f), st) := comp_if2g hit hi hj hij hl hab hc hel hP pi pj
theorem comp_al2 {β : Type} {e f : β → D} {a b : β → D} {P : β → Prop} {i j : Nat} {it : IT} {el : E} {st : List S} {si sj : S} {qs : List β} (hit : evI it st = some (.ok (qs.map e), st)) (hi : st[i]? = some si) (hj : st[j]? = some sj) (hij : i ≠ j) (hl : qs.length ≤ 100000) (hab : ∀ q, e q = .tup [a q, b q])
    (hel : ∀ q, P q → frzR (evE el ((st.set i (.val (a q))).set j (.val (b q)))) = some (.ok (f q), (st.set i (.val (a q))).set j (.val (b q)))) (hP : ∀ q ∈ qs, P q) (pi : plainAt st i = true) (pj : plainAt st j = true) : evF (.comp (.two i j) it .no el) st = some (.ok (qs.map f), st) := comp_al2g hit hi hj hij hl hab hel hP pi pj
/-- a loop that may be left with an answer -/
def foldR {α β : Type} (step : α → β → D ⊕ α) : List β → α → D ⊕ α
  | [], a => .inr a
  | q :: qs, a => match step a q with
    | .inl d => .inl d
    | .inr a' => foldR step qs a'
theorem for_ret {α β : Type} {e : β → D} {I : α → Prop} {P : β → Prop} {K : List S → Prop} {body : List S → R Fl} {tg : Tg} {mk : α → β → List S} {m0 : α → List S} {step : α → β → D ⊕ α} (h0 : ∀ a q, setTg (m0 a) tg (e q) = some (mk a q)) (hs : ∀ a y q, setTg (mk a y) tg (e q) = some (mk a q))
    (hb : ∀ a q, I a → P q → (∀ d, step a q = .inl d → ∃ s, body (mk a q) = some (.ok (.rt d), s) ∧ K s) ∧ ∀ a', step a q = .inr a' → body (mk a q) = some (.ok .nx, mk a' q) ∧ I a') :
    ∀ (qs : List β) (a : α) (st : List S), I a → (∀ q ∈ qs, P q) → (st = m0 a ∨ ∃ y, st = mk a y) → (∀ d, foldR step qs a = .inl d → ∃ s, loopT tg body (qs.map e) st = some (.ok (.rt d), s) ∧ K s) ∧ ∀ a', foldR step qs a = .inr a' → ∃ st', loopT tg body (qs.map e) st = some (.ok .nx, st') ∧ (st' = m0 a' ∨ ∃ y, st' = mk a' y)
  | [], a, st, _, _, h => ⟨fun d z => (by cases z), fun a' z => (by cases z; exact ⟨st, rfl, h⟩)⟩
  | q :: qs, a, st, ha, hp, h => by
    have hst : setTg st tg (e q) = some (mk a q) := by
      rcases h with rfl | ⟨y, rfl⟩
      · exact h0 a q
      · exact hs a y q
    have go : loopT tg body ((q :: qs).map e) st = turnS (body (mk a q)) fun s => loopT tg body (qs.map e) s := by
      show (match setTg st tg (e q) with | none => none | some s1 => turnS (body s1) fun s => loopT tg body (qs.map e) s) = _
      rw [hst]
    obtain ⟨b1, b2⟩ := hb a q ha (hp q List.mem_cons_self)
    rw [go]
    cases hq : step a q with
    | inl d' =>
      obtain ⟨s, hs', hk⟩ := b1 d' hq
      have hf : foldR step (q :: qs) a = .inl d' := by unfold foldR; rw [hq]
      rw [hf]
      refine ⟨fun d z => ?_, fun a' z => (by cases z)⟩
      cases z
      rw [hs']
      exact ⟨s, rfl, hk⟩
    | inr a1 =>
      obtain ⟨hb2, hi⟩ := b2 a1 hq
      obtain ⟨r1, r2⟩ := for_ret h0 hs hb qs a1 (mk a1 q) hi (fun x hx => hp x (List.mem_cons_of_mem _ hx)) (.inr ⟨q, rfl⟩)
      have hf : foldR step (q :: qs) a = foldR step qs a1 := by rw [foldR, hq]
      rw [hf, hb2]
      exact ⟨r1, r2⟩
end B
namespace B
open PySem SG Gn LT
/-! ### what is a number, a row, a table: of any data -/
def isIntB : D → Bool
  | .int _ => true
  | _ => false
def isNumB : D → Bool
  | .tup [.int a, .int b] => decide (1 ≤ b) && decide (Int.gcd a b = 1)
  | _ => false
def isRowB (w : Int) : D → Bool
  | .tup l => decide ((l.length : Int) = w) && l.all isNumB
  | _ => false
def isTabB (h w : Int) : D → Bool
  | .tup l => decide ((l.length : Int) = h) && l.all (isRowB w)
  | _ => false
/-- the ints of a pair are in bounds -/
def NF (n : Nat) (d : D) : Prop := ∀ a b, d = .tup [.int a, .int b] → Bd n a ∧ Bd n b
def RF (n : Nat) (d : D) : Prop := ∀ l, d = .tup l → ∀ x ∈ l, NF n x
def TF (n : Nat) (d : D) : Prop := ∀ l, d = .tup l → ∀ x ∈ l, RF n x
theorem NF.mono {m n : Nat} {d : D} (h : NF m d) (l : m ≤ n) : NF n d := fun a b e => ⟨(h a b e).1.mono l, (h a b e).2.mono l⟩
theorem RF.mono {m n : Nat} {d : D} (h : RF m d) (l : m ≤ n) : RF n d := fun a b x e => (h a b x e).mono l
theorem isint_any (es : List D) (d : D) : f_is_integer.run es [d] = some (.ok (.bl (isIntB d)), []) := by
  rw [fr_is_integer]
  refine run0 rfl (s1 := [.val d]) ?_ rfl
  unfold p_is_integer
  refine exL_rt ?_
  cases d <;> simp [exT, evX, evE, evT, evF, evL, evI, evC, SG.bnd, SG.ok, SG.opt, slotOf, rd, frz, frzs, opD, cmD, b1D, atD, setS, setTg, free, truD, isiD, tyOf, isNon, callD, at0, at1, at2, seqD, nodic, nodics, isIntB]
theorem num_two {l : List D} (h : isNumB (.tup l) = true) : l.length = 2 := by
  unfold isNumB at h
  split at h
  · rename_i e
    cases e
    rfl
  · cases h
theorem num_ints {x y : D} (h : isNumB (.tup [x, y]) = true) : isIntB x = true ∧ isIntB y = true := by
  unfold isNumB at h
  split at h
  · rename_i e
    cases e
    exact ⟨rfl, rfl⟩
  · cases h
theorem ne_num {l : List D} (h : l.length ≠ 2) : isNumB (.tup l) = false := by
  cases e : isNumB (.tup l) with
  | false => rfl
  | true => exact absurd (num_two e) h
theorem isnum_any (es : List D) (d : D) : f_is_number.run es [d] = some (.ok (.bl (isNumB d)), []) := by
  rw [fr_is_number]
  refine run0 rfl (s1 := [.val d, .un]) ?_ rfl
  unfold p_is_number
  by_cases ht : ∃ l, d = .tup l
  · obtain ⟨l, rfl⟩ := ht
    by_cases hl : l.length = 2
    · obtain ⟨x, y, rfl⟩ : ∃ x y, l = [x, y] := by
        match l, hl with
        | [x, y], _ => exact ⟨x, y, rfl⟩
      have hc := comp_al (e := fun d : D => d) (f := fun q => D.bl (isIntB q)) (P := fun _ => True) (i := 1) (it := .seqA (.var 0)) (el := .call f_is_integer (.cons (.var 1) .nil)) (st := [.val (.tup [x, y]), .un]) (si := .un) (qs := [x, y]) (by simp [exT, evX, evE, evT, evF, evL, evI, evC, SG.bnd, SG.ok, SG.opt, slotOf, rd, frz, frzs, opD, cmD, b1D, atD, setS, setTg, free, truD, isiD, tyOf, isNon, callD, at0, at1, at2, seqD, nodic, nodics]) rfl rfl (by simp)
        (fun q _ => by simp [exT, evX, evE, seqD, evT, evL, evC, SG.bnd, SG.ok, SG.opt, slotOf, rd, frz, frzs, frzR, opD, setS, setTg, free, truD, isiD, tyOf, callD, at_fr0, at_fr1, cm_ne_fr, cm_eq_fr, cm_ne_int, cm_gt_int, cm_lt_int, cm_eq_int, cm_ne_str, cm_eq_str, b1_repr, b1_int_bl, b1_tup_lst, b1_int_int, b1_len_tup, b1_len_lst, fl_is_integer, isint_any]) (fun _ _ => trivial)
      have ha := all_bl isIntB [x, y]
      simp only [List.map_cons, List.map_nil] at hc ha
      cases hi : [x, y].all isIntB with
      | false =>
        have hn : isNumB (.tup [x, y]) = false := by
          cases e : isNumB (.tup [x, y]) with
          | false => rfl
          | true =>
            obtain ⟨h1, h2⟩ := num_ints e
            simp [h1, h2] at hi
        rw [hn]
        rw [hi] at ha
        refine exL_rt ?_
        rw [exT_if (k := true) (s1 := [.val (.tup [x, y]), .un]) (by simp [exT, evX, evE, seqD, evT, evL, evC, SG.bnd, SG.ok, SG.opt, slotOf, rd, frz, frzs, frzR, opD, setS, setTg, free, truD, isiD, tyOf, callD, at_fr0, at_fr1, cm_ne_fr, cm_eq_fr, cm_ne_int, cm_gt_int, cm_lt_int, cm_eq_int, cm_ne_str, cm_eq_str, b1_repr, b1_int_bl, b1_tup_lst, b1_int_int, b1_len_tup, b1_len_lst, hc, ha, b1_len_tup]), if_pos rfl]
        exact exL_rt (by simp [exT, evX, evE, seqD, evT, evL, evC, SG.bnd, SG.ok, SG.opt, slotOf, rd, frz, frzs, frzR, opD, setS, setTg, free, truD, isiD, tyOf, callD, at_fr0, at_fr1, cm_ne_fr, cm_eq_fr, cm_ne_int, cm_gt_int, cm_lt_int, cm_eq_int, cm_ne_str, cm_eq_str, b1_repr, b1_int_bl, b1_tup_lst, b1_int_int, b1_len_tup, b1_len_lst])
      | true =>
        rw [hi] at ha
        rw [exL_nx (s1 := [.val (.tup [x, y]), .un]) (by rw [exT_if (k := false) (s1 := [.val (.tup [x, y]), .un]) (by simp [exT, evX, evE, seqD, evT, evL, evC, SG.bnd, SG.ok, SG.opt, slotOf, rd, frz, frzs, frzR, opD, setS, setTg, free, truD, isiD, tyOf, callD, at_fr0, at_fr1, cm_ne_fr, cm_eq_fr, cm_ne_int, cm_gt_int, cm_lt_int, cm_eq_int, cm_ne_str, cm_eq_str, b1_repr, b1_int_bl, b1_tup_lst, b1_int_int, b1_len_tup, b1_len_lst, hc, ha, b1_len_tup])]; simp [exL, exT, evX, evE, seqD, evT, evL, evC, SG.bnd, SG.ok, SG.opt, slotOf, rd, frz, frzs, frzR, opD, setS, setTg, free, truD, isiD, tyOf, callD, at_fr0, at_fr1, cm_ne_fr, cm_eq_fr, cm_ne_int, cm_gt_int, cm_lt_int, cm_eq_int, cm_ne_str, cm_eq_str, b1_repr, b1_int_bl, b1_tup_lst, b1_int_int, b1_len_tup, b1_len_lst])]
        obtain ⟨a, b, rfl, rfl⟩ : ∃ a b, x = .int a ∧ y = .int b := by
          simp only [List.all_cons, List.all_nil, Bool.and_true, Bool.and_eq_true] at hi
          cases x <;> cases y <;> simp [isIntB] at hi <;> exact ⟨_, _, rfl, rfl⟩
        have e0 : atD (.tup [.int a, .int b]) (.int 0) = some (.int a) := at0 _ _
        have e1 : atD (.tup [.int a, .int b]) (.int 1) = some (.int b) := at1 _ _ _
        refine exL_rt ?_
        by_cases hb : 1 ≤ b
        · simp [exT, evX, evE, seqD, evT, evL, evC, SG.bnd, SG.ok, SG.opt, slotOf, rd, frz, frzs, frzR, opD, setS, setTg, free, truD, isiD, tyOf, callD, at_fr0, at_fr1, cm_ne_fr, cm_eq_fr, cm_ne_int, cm_gt_int, cm_lt_int, cm_eq_int, cm_ne_str, cm_eq_str, b1_repr, b1_int_bl, b1_tup_lst, b1_int_int, b1_len_tup, b1_len_lst, e0, e1, cm_ge_int, hb, fl_common_divisor, cd_run, cm_eq_int, isNumB]
          by_cases hg : Int.gcd a b = 1
          · simp [hg]
          · simp [hg]
            omega
        · simp [exT, evX, evE, seqD, evT, evL, evC, SG.bnd, SG.ok, SG.opt, slotOf, rd, frz, frzs, frzR, opD, setS, setTg, free, truD, isiD, tyOf, callD, at_fr0, at_fr1, cm_ne_fr, cm_eq_fr, cm_ne_int, cm_gt_int, cm_lt_int, cm_eq_int, cm_ne_str, cm_eq_str, b1_repr, b1_int_bl, b1_tup_lst, b1_int_int, b1_len_tup, b1_len_lst, e0, e1, cm_ge_int, hb, isNumB]
    · rw [ne_num hl]
      have hl' : ¬ (l.length : Int) = 2 := by omega
      refine exL_rt ?_
      rw [exT_if (k := true) (s1 := [.val (.tup l), .un]) (by simp [exT, evX, evE, seqD, evT, evL, evC, SG.bnd, SG.ok, SG.opt, slotOf, rd, frz, frzs, frzR, opD, setS, setTg, free, truD, isiD, tyOf, callD, at_fr0, at_fr1, cm_ne_fr, cm_eq_fr, cm_ne_int, cm_gt_int, cm_lt_int, cm_eq_int, cm_ne_str, cm_eq_str, b1_repr, b1_int_bl, b1_tup_lst, b1_int_int, b1_len_tup, b1_len_lst, b1_len_tup, hl']), if_pos rfl]
      exact exL_rt (by simp [exT, evX, evE, seqD, evT, evL, evC, SG.bnd, SG.ok, SG.opt, slotOf, rd, frz, frzs, frzR, opD, setS, setTg, free, truD, isiD, tyOf, callD, at_fr0, at_fr1, cm_ne_fr, cm_eq_fr, cm_ne_int, cm_gt_int, cm_lt_int, cm_eq_int, cm_ne_str, cm_eq_str, b1_repr, b1_int_bl, b1_tup_lst, b1_int_int, b1_len_tup, b1_len_lst])
  · have hn : isNumB d = false := by
      cases d <;> first | rfl | exact absurd ⟨_, rfl⟩ ht
    rw [hn]
    refine exL_rt ?_
    rw [exT_if (k := true) (s1 := [.val d, .un]) (by cases d <;> first | exact absurd ⟨_, rfl⟩ ht | simp [exT, evX, evE, seqD, evT, evL, evC, SG.bnd, SG.ok, SG.opt, slotOf, rd, frz, frzs, frzR, opD, setS, setTg, free, truD, isiD, tyOf, callD, at_fr0, at_fr1, cm_ne_fr, cm_eq_fr, cm_ne_int, cm_gt_int, cm_lt_int, cm_eq_int, cm_ne_str, cm_eq_str, b1_repr, b1_int_bl, b1_tup_lst, b1_int_int, b1_len_tup, b1_len_lst]), if_pos rfl]
    exact exL_rt (by simp [exT, evX, evE, seqD, evT, evL, evC, SG.bnd, SG.ok, SG.opt, slotOf, rd, frz, frzs, frzR, opD, setS, setTg, free, truD, isiD, tyOf, callD, at_fr0, at_fr1, cm_ne_fr, cm_eq_fr, cm_ne_int, cm_gt_int, cm_lt_int, cm_eq_int, cm_ne_str, cm_eq_str, b1_repr, b1_int_bl, b1_tup_lst, b1_int_int, b1_len_tup, b1_len_lst])
theorem isprow_any (es : List D) (w : Int) (d : D) (hw : w ≤ 1000) : f_is_plain_row.run es [.int w, d] = some (.ok (.bl (isRowB w d)), []) := by
  rw [fr_is_plain_row]
  refine run0 rfl (s1 := [.val (.int w), .val d, .un]) ?_ rfl
  unfold p_is_plain_row
  refine exL_rt ?_
  by_cases ht : ∃ l, d = .tup l
  · obtain ⟨l, rfl⟩ := ht
    by_cases hl : (l.length : Int) = w
    · have hc := comp_al (e := fun d : D => d) (f := fun q => D.bl (isNumB q)) (P := fun _ => True) (i := 2) (it := .seqA (.var 1)) (el := .call f_is_number (.cons (.var 2) .nil)) (st := [.val (.int w), .val (.tup l), .un]) (si := .un) (qs := l) (by simp [exT, evX, evE, evT, evF, evL, evI, evC, SG.bnd, SG.ok, SG.opt, slotOf, rd, frz, frzs, opD, cmD, b1D, atD, setS, setTg, free, truD, isiD, tyOf, isNon, callD, at0, at1, at2, seqD, nodic, nodics]) rfl rfl (by omega)
        (fun q _ => by simp [exT, evX, evE, seqD, evT, evL, evC, SG.bnd, SG.ok, SG.opt, slotOf, rd, frz, frzs, frzR, opD, setS, setTg, free, truD, isiD, tyOf, callD, at_fr0, at_fr1, cm_ne_fr, cm_eq_fr, cm_ne_int, cm_gt_int, cm_lt_int, cm_eq_int, cm_ne_str, cm_eq_str, b1_repr, b1_int_bl, b1_tup_lst, b1_int_int, b1_len_tup, b1_len_lst, fl_is_number, isnum_any]) (fun _ _ => trivial)
      simp [exT, evX, evE, seqD, evT, evL, evC, SG.bnd, SG.ok, SG.opt, slotOf, rd, frz, frzs, frzR, opD, setS, setTg, free, truD, isiD, tyOf, callD, at_fr0, at_fr1, cm_ne_fr, cm_eq_fr, cm_ne_int, cm_gt_int, cm_lt_int, cm_eq_int, cm_ne_str, cm_eq_str, b1_repr, b1_int_bl, b1_tup_lst, b1_int_int, b1_len_tup, b1_len_lst, hc, all_bl, hl, isRowB, b1_len_tup, cm_eq_int]
    · simp [exT, evX, evE, seqD, evT, evL, evC, SG.bnd, SG.ok, SG.opt, slotOf, rd, frz, frzs, frzR, opD, setS, setTg, free, truD, isiD, tyOf, callD, at_fr0, at_fr1, cm_ne_fr, cm_eq_fr, cm_ne_int, cm_gt_int, cm_lt_int, cm_eq_int, cm_ne_str, cm_eq_str, b1_repr, b1_int_bl, b1_tup_lst, b1_int_int, b1_len_tup, b1_len_lst, hl, isRowB, b1_len_tup, cm_eq_int]
  · cases d <;> first | exact absurd ⟨_, rfl⟩ ht | simp [exT, evX, evE, seqD, evT, evL, evC, SG.bnd, SG.ok, SG.opt, slotOf, rd, frz, frzs, frzR, opD, setS, setTg, free, truD, isiD, tyOf, callD, at_fr0, at_fr1, cm_ne_fr, cm_eq_fr, cm_ne_int, cm_gt_int, cm_lt_int, cm_eq_int, cm_ne_str, cm_eq_str, b1_repr, b1_int_bl, b1_tup_lst, b1_int_int, b1_len_tup, b1_len_lst, isRowB]
theorem isptab_any (es : List D) (h w : Int) (d : D) (hw : w ≤ 1000) (hh : h ≤ 1000) : f_is_plain_table.run es [.int h, .int w, d] = some (.ok (.bl (isTabB h w d)), []) := by
  rw [fr_is_plain_table]
  refine run0 rfl (s1 := [.val (.int h), .val (.int w), .val d, .un]) ?_ rfl
  unfold p_is_plain_table
  refine exL_rt ?_
  by_cases ht : ∃ l, d = .tup l
  · obtain ⟨l, rfl⟩ := ht
    by_cases hl : (l.length : Int) = h
    · have hc := comp_al (e := fun d : D => d) (f := fun q => D.bl (isRowB w q)) (P := fun _ => True) (i := 3) (it := .seqA (.var 2)) (el := .call f_is_plain_row (.cons (.var 1) (.cons (.var 3) .nil))) (st := [.val (.int h), .val (.int w), .val (.tup l), .un]) (si := .un) (qs := l) (by simp [exT, evX, evE, evT, evF, evL, evI, evC, SG.bnd, SG.ok, SG.opt, slotOf, rd, frz, frzs, opD, cmD, b1D, atD, setS, setTg, free, truD, isiD, tyOf, isNon, callD, at0, at1, at2, seqD, nodic, nodics]) rfl rfl (by omega)
        (fun q _ => by simp [exT, evX, evE, seqD, evT, evL, evC, SG.bnd, SG.ok, SG.opt, slotOf, rd, frz, frzs, frzR, opD, setS, setTg, free, truD, isiD, tyOf, callD, at_fr0, at_fr1, cm_ne_fr, cm_eq_fr, cm_ne_int, cm_gt_int, cm_lt_int, cm_eq_int, cm_ne_str, cm_eq_str, b1_repr, b1_int_bl, b1_tup_lst, b1_int_int, b1_len_tup, b1_len_lst, fl_is_plain_row, isprow_any _ _ _ hw]) (fun _ _ => trivial)
      simp [exT, evX, evE, seqD, evT, evL, evC, SG.bnd, SG.ok, SG.opt, slotOf, rd, frz, frzs, frzR, opD, setS, setTg, free, truD, isiD, tyOf, callD, at_fr0, at_fr1, cm_ne_fr, cm_eq_fr, cm_ne_int, cm_gt_int, cm_lt_int, cm_eq_int, cm_ne_str, cm_eq_str, b1_repr, b1_int_bl, b1_tup_lst, b1_int_int, b1_len_tup, b1_len_lst, hc, all_bl, hl, isTabB, b1_len_tup, cm_eq_int]
    · simp [exT, evX, evE, seqD, evT, evL, evC, SG.bnd, SG.ok, SG.opt, slotOf, rd, frz, frzs, frzR, opD, setS, setTg, free, truD, isiD, tyOf, callD, at_fr0, at_fr1, cm_ne_fr, cm_eq_fr, cm_ne_int, cm_gt_int, cm_lt_int, cm_eq_int, cm_ne_str, cm_eq_str, b1_repr, b1_int_bl, b1_tup_lst, b1_int_int, b1_len_tup, b1_len_lst, hl, isTabB, b1_len_tup, cm_eq_int]
  · cases d <;> first | exact absurd ⟨_, rfl⟩ ht | simp [exT, evX, evE, seqD, evT, evL, evC, SG.bnd, SG.ok, SG.opt, slotOf, rd, frz, frzs, frzR, opD, setS, setTg, free, truD, isiD, tyOf, callD, at_fr0, at_fr1, cm_ne_fr, cm_eq_fr, cm_ne_int, cm_gt_int, cm_lt_int, cm_eq_int, cm_ne_str, cm_eq_str, b1_repr, b1_int_bl, b1_tup_lst, b1_int_int, b1_len_tup, b1_len_lst, isTabB]
/-! ### the same by the law's own look -/
theorem div_self {a b : Int} (hb : 1 ≤ b) : ((Rat.divInt a b).num = a ∧ ((Rat.divInt a b).den : Int) = b) ↔ Int.gcd a b = 1 := by
  have h := divInt_pos (t := a) (b := b) (by omega)
  unfold frD at h
  simp only [D.tup.injEq, List.cons.injEq, D.int.injEq, and_true] at h
  rw [h.1, h.2]
  constructor
  · intro ⟨_, h2⟩
    have g : (Int.gcd a b : Int) ∣ b := Int.gcd_dvd_right a b
    obtain ⟨k, hk⟩ := g
    have gp : 0 < (Int.gcd a b : Int) := by
      have := Int.gcd_pos_of_ne_zero_right a (show b ≠ 0 by omega)
      omega
    have e : b / (Int.gcd a b : Int) = k := Int.ediv_eq_of_eq_mul_right (by omega) hk
    rw [e] at h2
    have : (Int.gcd a b : Int) * b = 1 * b := by
      rw [Int.one_mul]
      have e3 : (Int.gcd a b : Int) * b = (Int.gcd a b : Int) * k := by rw [h2]
      rw [e3]
      exact hk.symm
    have := Int.eq_of_mul_eq_mul_right (show b ≠ 0 by omega) this
    omega
  · intro g
    rw [g]
    simp
theorem filt_all {α : Type} (p : α → Bool) (l : List α) : (l.filter fun q => !p q).isEmpty = l.all p := by
  induction l with
  | nil => rfl
  | cons x l ih =>
    rw [List.filter_cons, List.all_cons, ← ih]
    cases p x <;> simp
/-- [1 for x in l if not ..] -/
theorem ones_run {p : D → Bool} {P : D → Prop} {i : Nat} {it : IT} {c : E} {st : List S} {si : S} {l : List D} (hit : evI it st = some (.ok l, st)) (hi : st[i]? = some si) (pi : plainAt st i = true) (hl : l.length ≤ 100000)
    (hc : ∀ q, P q → evT c (st.set i (.val q)) = some (.ok (!p q), st.set i (.val q))) (hP : ∀ q ∈ l, P q) : evE (.cmp .eq (.fr (.comp (.nm i) it (.yes c) (.cst (.int 1)))) (.fr (.disp .nil))) st = some (.ok (.v (.bl (l.all p))), st) ∧ evT (.cmp .ne (.fr (.comp (.nm i) it (.yes c) (.cst (.int 1)))) (.fr (.disp .nil))) st = some (.ok (!l.all p), st) ∧
      evE (.cmp .ne (.fr (.comp (.nm i) it (.yes c) (.cst (.int 1)))) (.fr (.disp .nil))) st = some (.ok (.v (.bl (!l.all p))), st) := by
  have h := comp_if (e := fun d : D => d) (f := fun _ => D.int 1) (p := fun q => !p q) (P := P) (i := i) (it := it) (c := c) (el := .cst (.int 1)) (qs := l) (by rw [List.map_id']; exact hit) hi pi hl hc (fun _ _ _ => rfl) hP
  obtain ⟨k1, k2⟩ := cm_ones (l.filter fun q => !p q)
  rw [filt_all] at k1 k2
  have h2 : evF (.disp .nil) st = some (.ok [], st) := by simp [evF, evL, SG.bnd, SG.ok, frzs]
  refine ⟨?_, ?_, ?_⟩
  · simp only [evE, SG.bnd, SG.ok, SG.opt, rd, h, h2, k1]
  · simp only [evT, evE, SG.bnd, SG.ok, SG.opt, rd, h, h2, k2]
  · simp only [evE, SG.bnd, SG.ok, SG.opt, rd, h, h2, k2]
theorem lisnum_any (es : List D) {d : D} (hd : NF 8000 d) : f_law_is_number.run es [d] = some (.ok (.bl (isNumB d)), []) := by
  rw [fr_law_is_number]
  refine run0 rfl (s1 := [.val d, .un]) ?_ rfl
  unfold p_law_is_number
  by_cases ht : ∃ l, d = .tup l
  · obtain ⟨l, rfl⟩ := ht
    by_cases hl : l.length = 2
    · obtain ⟨x, y, rfl⟩ : ∃ x y, l = [x, y] := by
        match l, hl with
        | [x, y], _ => exact ⟨x, y, rfl⟩
      have hc := (ones_run (p := isIntB) (P := fun _ => True) (i := 1) (it := .seqA (.var 0)) (c := .or (.not (.isi (.var 1) "int")) (.isi (.var 1) "bool")) (st := [.val (.tup [x, y]), .un]) (si := .un) (l := [x, y]) (by simp [exT, evX, evE, evT, evF, evL, evI, evC, SG.bnd, SG.ok, SG.opt, slotOf, rd, frz, frzs, opD, cmD, b1D, atD, setS, setTg, free, truD, isiD, tyOf, isNon, callD, at0, at1, at2, seqD, nodic, nodics]) rfl rfl (by simp)
        (fun q _ => by cases q <;> simp [exT, evX, evE, evT, evF, evL, evI, evC, SG.bnd, SG.ok, SG.opt, slotOf, rd, frz, frzs, opD, cmD, b1D, atD, setS, setTg, free, truD, isiD, tyOf, isNon, callD, at0, at1, at2, seqD, nodic, nodics, isIntB]) (fun _ _ => trivial)).2.1
      rw [exL_nx (s1 := [.val (.tup [x, y]), .un]) (by rw [exT_if (k := false) (s1 := [.val (.tup [x, y]), .un]) (by simp [exT, evX, evE, seqD, evT, evL, evC, SG.bnd, SG.ok, SG.opt, slotOf, rd, frz, frzs, frzR, opD, setS, setTg, free, truD, isiD, tyOf, callD, at_fr0, at_fr1, cm_ne_fr, cm_eq_fr, cm_ne_int, cm_gt_int, cm_lt_int, cm_eq_int, cm_ne_str, cm_eq_str, b1_repr, b1_int_bl, b1_tup_lst, b1_int_int, b1_len_tup, b1_len_lst, b1_len_tup])]; simp [exL, exT, evX, evE, seqD, evT, evL, evC, SG.bnd, SG.ok, SG.opt, slotOf, rd, frz, frzs, frzR, opD, setS, setTg, free, truD, isiD, tyOf, callD, at_fr0, at_fr1, cm_ne_fr, cm_eq_fr, cm_ne_int, cm_gt_int, cm_lt_int, cm_eq_int, cm_ne_str, cm_eq_str, b1_repr, b1_int_bl, b1_tup_lst, b1_int_int, b1_len_tup, b1_len_lst])]
      cases hi : [x, y].all isIntB with
      | false =>
        have hn : isNumB (.tup [x, y]) = false := by
          cases e : isNumB (.tup [x, y]) with
          | false => rfl
          | true =>
            obtain ⟨h1, h2⟩ := num_ints e
            simp [h1, h2] at hi
        rw [hn]
        rw [hi] at hc
        refine exL_rt ?_
        rw [exT_if (k := true) (s1 := [.val (.tup [x, y]), .un]) hc, if_pos rfl]
        exact exL_rt (by simp [exT, evX, evE, seqD, evT, evL, evC, SG.bnd, SG.ok, SG.opt, slotOf, rd, frz, frzs, frzR, opD, setS, setTg, free, truD, isiD, tyOf, callD, at_fr0, at_fr1, cm_ne_fr, cm_eq_fr, cm_ne_int, cm_gt_int, cm_lt_int, cm_eq_int, cm_ne_str, cm_eq_str, b1_repr, b1_int_bl, b1_tup_lst, b1_int_int, b1_len_tup, b1_len_lst])
      | true =>
        rw [hi] at hc
        rw [exL_nx (s1 := [.val (.tup [x, y]), .un]) (by rw [exT_if (k := false) (s1 := [.val (.tup [x, y]), .un]) hc]; simp [exL, exT, evX, evE, seqD, evT, evL, evC, SG.bnd, SG.ok, SG.opt, slotOf, rd, frz, frzs, frzR, opD, setS, setTg, free, truD, isiD, tyOf, callD, at_fr0, at_fr1, cm_ne_fr, cm_eq_fr, cm_ne_int, cm_gt_int, cm_lt_int, cm_eq_int, cm_ne_str, cm_eq_str, b1_repr, b1_int_bl, b1_tup_lst, b1_int_int, b1_len_tup, b1_len_lst])]
        obtain ⟨a, b, rfl, rfl⟩ : ∃ a b, x = .int a ∧ y = .int b := by
          simp only [List.all_cons, List.all_nil, Bool.and_true, Bool.and_eq_true] at hi
          cases x <;> cases y <;> simp [isIntB] at hi <;> exact ⟨_, _, rfl, rfl⟩
        have e0 : atD (.tup [.int a, .int b]) (.int 0) = some (.int a) := at0 _ _
        have e1 : atD (.tup [.int a, .int b]) (.int 1) = some (.int b) := at1 _ _ _
        obtain ⟨b1, b2⟩ := hd a b rfl
        refine exL_rt ?_
        by_cases hb : 1 ≤ b
        · have key : cmD .eq (frD (Rat.divInt a b)) (.tup [.int a, .int b]) = some (decide (Int.gcd a b = 1)) := by
            have cd : Cd (.tup [.int a, .int b]) 1 := cd_tup fun d hd => by
              rcases List.mem_cons.mp hd with rfl | hd
              · exact cd_int _ _
              rcases List.mem_cons.mp hd with rfl | hd
              · exact cd_int _ _
              · cases hd
            rw [(cm_eq_of (cd_fr _) cd (by decide) (by decide) fun _ z => by cases z).1]
            unfold eqD frD
            simp only [D.toP, D.toPs, PyData.eqv, PyData.eqvAll]
            rw [show (decide (Int.gcd a b = 1)) = (decide ((Rat.divInt a b).num = a) && decide (((Rat.divInt a b).den : Int) = b)) from by rw [← Bool.decide_and]; exact decide_eq_decide.mpr (div_self hb).symm]
            rw [Bool.and_true]
            rfl
          simp [exT, evX, evE, seqD, evT, evL, evC, SG.bnd, SG.ok, SG.opt, slotOf, rd, frz, frzs, frzR, opD, setS, setTg, free, truD, isiD, tyOf, callD, at_fr0, at_fr1, cm_ne_fr, cm_eq_fr, cm_ne_int, cm_gt_int, cm_lt_int, cm_eq_int, cm_ne_str, cm_eq_str, b1_repr, b1_int_bl, b1_tup_lst, b1_int_int, b1_len_tup, b1_len_lst, e0, e1, cm_ge_int, hb, fl_law_fr, lawfr_run [] (show b ≠ 0 by omega) b1 b2, key, isNumB]
        · simp [exT, evX, evE, seqD, evT, evL, evC, SG.bnd, SG.ok, SG.opt, slotOf, rd, frz, frzs, frzR, opD, setS, setTg, free, truD, isiD, tyOf, callD, at_fr0, at_fr1, cm_ne_fr, cm_eq_fr, cm_ne_int, cm_gt_int, cm_lt_int, cm_eq_int, cm_ne_str, cm_eq_str, b1_repr, b1_int_bl, b1_tup_lst, b1_int_int, b1_len_tup, b1_len_lst, e0, e1, cm_ge_int, hb, isNumB]
    · rw [ne_num hl]
      have hl' : ¬ (l.length : Int) = 2 := by omega
      refine exL_rt ?_
      rw [exT_if (k := true) (s1 := [.val (.tup l), .un]) (by simp [exT, evX, evE, seqD, evT, evL, evC, SG.bnd, SG.ok, SG.opt, slotOf, rd, frz, frzs, frzR, opD, setS, setTg, free, truD, isiD, tyOf, callD, at_fr0, at_fr1, cm_ne_fr, cm_eq_fr, cm_ne_int, cm_gt_int, cm_lt_int, cm_eq_int, cm_ne_str, cm_eq_str, b1_repr, b1_int_bl, b1_tup_lst, b1_int_int, b1_len_tup, b1_len_lst, b1_len_tup, hl']), if_pos rfl]
      exact exL_rt (by simp [exT, evX, evE, seqD, evT, evL, evC, SG.bnd, SG.ok, SG.opt, slotOf, rd, frz, frzs, frzR, opD, setS, setTg, free, truD, isiD, tyOf, callD, at_fr0, at_fr1, cm_ne_fr, cm_eq_fr, cm_ne_int, cm_gt_int, cm_lt_int, cm_eq_int, cm_ne_str, cm_eq_str, b1_repr, b1_int_bl, b1_tup_lst, b1_int_int, b1_len_tup, b1_len_lst])
  · have hn : isNumB d = false := by
      cases d <;> first | rfl | exact absurd ⟨_, rfl⟩ ht
    rw [hn]
    refine exL_rt ?_
    rw [exT_if (k := true) (s1 := [.val d, .un]) (by cases d <;> first | exact absurd ⟨_, rfl⟩ ht | simp [exT, evX, evE, seqD, evT, evL, evC, SG.bnd, SG.ok, SG.opt, slotOf, rd, frz, frzs, frzR, opD, setS, setTg, free, truD, isiD, tyOf, callD, at_fr0, at_fr1, cm_ne_fr, cm_eq_fr, cm_ne_int, cm_gt_int, cm_lt_int, cm_eq_int, cm_ne_str, cm_eq_str, b1_repr, b1_int_bl, b1_tup_lst, b1_int_int, b1_len_tup, b1_len_lst]), if_pos rfl]
    exact exL_rt (by simp [exT, evX, evE, seqD, evT, evL, evC, SG.bnd, SG.ok, SG.opt, slotOf, rd, frz, frzs, frzR, opD, setS, setTg, free, truD, isiD, tyOf, callD, at_fr0, at_fr1, cm_ne_fr, cm_eq_fr, cm_ne_int, cm_gt_int, cm_lt_int, cm_eq_int, cm_ne_str, cm_eq_str, b1_repr, b1_int_bl, b1_tup_lst, b1_int_int, b1_len_tup, b1_len_lst])
theorem and_tt {a b : E} {st s1 : List S} (h : evE a st = some (.ok (.v (.bl true)), s1)) : evE (.and a b) st = evE b s1 := by
  rw [evE, h]
  show SG.bnd (evE b s1) _ = _
  cases evE b s1 with
  | none => rfl
  | some r =>
    obtain ⟨r, s⟩ := r
    cases r <;> rfl
theorem lisrow_any (es : List D) (w : Int) {d : D} (hd : RF 8000 d) (hw : w ≤ 1000) : f_law_is_row.run es [.int w, d] = some (.ok (.bl (isRowB w d)), []) := by
  rw [fr_law_is_row]
  refine run0 (init := [.val (.int w), .val d, .un]) rfl (s1 := [.val (.int w), .val d, .un]) ?_ rfl
  unfold p_law_is_row
  refine exL_rt ?_
  by_cases ht : ∃ l, d = .tup l
  · obtain ⟨l, rfl⟩ := ht
    by_cases hl : (l.length : Int) = w
    · have hc := (ones_run (p := isNumB) (P := NF 8000) (i := 2) (it := .seqA (.var 1)) (c := .not (.call f_law_is_number (.cons (.var 2) .nil))) (st := [.val (.int w), .val (.tup l), .un]) (si := .un) (l := l) (by simp [exT, evX, evE, evT, evF, evL, evI, evC, SG.bnd, SG.ok, SG.opt, slotOf, rd, frz, frzs, opD, cmD, b1D, atD, setS, setTg, free, truD, isiD, tyOf, isNon, callD, at0, at1, at2, seqD, nodic, nodics]) rfl rfl (by omega)
        (fun q h => by simp [exT, evX, evE, seqD, evT, evL, evC, SG.bnd, SG.ok, SG.opt, slotOf, rd, frz, frzs, frzR, opD, setS, setTg, free, truD, isiD, tyOf, callD, at_fr0, at_fr1, cm_ne_fr, cm_eq_fr, cm_ne_int, cm_gt_int, cm_lt_int, cm_eq_int, cm_ne_str, cm_eq_str, b1_repr, b1_int_bl, b1_tup_lst, b1_int_int, b1_len_tup, b1_len_lst, fl_law_is_number, lisnum_any _ h]) (hd l rfl)).1
      have e1 : evE (.isi (.var 1) "tuple") [.val (.int w), .val (.tup l), .un] = some (.ok (.v (.bl true)), [.val (.int w), .val (.tup l), .un]) := by simp [exT, evX, evE, seqD, evT, evL, evC, SG.bnd, SG.ok, SG.opt, slotOf, rd, frz, frzs, frzR, opD, setS, setTg, free, truD, isiD, tyOf, callD, at_fr0, at_fr1, cm_ne_fr, cm_eq_fr, cm_ne_int, cm_gt_int, cm_lt_int, cm_eq_int, cm_ne_str, cm_eq_str, b1_repr, b1_int_bl, b1_tup_lst, b1_int_int, b1_len_tup, b1_len_lst]
      have e2 : evE (.cmp .eq (.b1 .len (.var 1)) (.var 0)) [.val (.int w), .val (.tup l), .un] = some (.ok (.v (.bl true)), [.val (.int w), .val (.tup l), .un]) := by simp [exT, evX, evE, seqD, evT, evL, evC, SG.bnd, SG.ok, SG.opt, slotOf, rd, frz, frzs, frzR, opD, setS, setTg, free, truD, isiD, tyOf, callD, at_fr0, at_fr1, cm_ne_fr, cm_eq_fr, cm_ne_int, cm_gt_int, cm_lt_int, cm_eq_int, cm_ne_str, cm_eq_str, b1_repr, b1_int_bl, b1_tup_lst, b1_int_int, b1_len_tup, b1_len_lst, b1_len_tup, cm_eq_int, hl]
      rw [exT, and_tt e1, and_tt e2, hc]
      simp [SG.bnd, SG.ok, isRowB, hl, frz]
    · simp [exT, evX, evE, seqD, evT, evL, evC, SG.bnd, SG.ok, SG.opt, slotOf, rd, frz, frzs, frzR, opD, setS, setTg, free, truD, isiD, tyOf, callD, at_fr0, at_fr1, cm_ne_fr, cm_eq_fr, cm_ne_int, cm_gt_int, cm_lt_int, cm_eq_int, cm_ne_str, cm_eq_str, b1_repr, b1_int_bl, b1_tup_lst, b1_int_int, b1_len_tup, b1_len_lst, hl, isRowB, b1_len_tup, cm_eq_int]
  · cases d <;> first | exact absurd ⟨_, rfl⟩ ht | simp [exT, evX, evE, seqD, evT, evL, evC, SG.bnd, SG.ok, SG.opt, slotOf, rd, frz, frzs, frzR, opD, setS, setTg, free, truD, isiD, tyOf, callD, at_fr0, at_fr1, cm_ne_fr, cm_eq_fr, cm_ne_int, cm_gt_int, cm_lt_int, cm_eq_int, cm_ne_str, cm_eq_str, b1_repr, b1_int_bl, b1_tup_lst, b1_int_int, b1_len_tup, b1_len_lst, isRowB]
theorem listab_any (es : List D) (h w : Int) {d : D} (hd : TF 8000 d) (hw : w ≤ 1000) (hh : h ≤ 1000) : f_law_is_table.run es [.int h, .int w, d] = some (.ok (.bl (isTabB h w d)), []) := by
  rw [fr_law_is_table]
  refine run0 rfl (s1 := [.val (.int h), .val (.int w), .val d, .un]) ?_ rfl
  unfold p_law_is_table
  by_cases ht : ∃ l, d = .tup l
  · obtain ⟨l, rfl⟩ := ht
    by_cases hl : (l.length : Int) = h
    · have hc := (ones_run (p := isRowB w) (P := RF 8000) (i := 3) (it := .seqA (.var 2)) (c := .not (.call f_law_is_row (.cons (.var 1) (.cons (.var 3) .nil)))) (st := [.val (.int h), .val (.int w), .val (.tup l), .un]) (si := .un) (l := l) (by simp [exT, evX, evE, evT, evF, evL, evI, evC, SG.bnd, SG.ok, SG.opt, slotOf, rd, frz, frzs, opD, cmD, b1D, atD, setS, setTg, free, truD, isiD, tyOf, isNon, callD, at0, at1, at2, seqD, nodic, nodics]) rfl rfl (by omega)
        (fun q h => by simp [exT, evX, evE, seqD, evT, evL, evC, SG.bnd, SG.ok, SG.opt, slotOf, rd, frz, frzs, frzR, opD, setS, setTg, free, truD, isiD, tyOf, callD, at_fr0, at_fr1, cm_ne_fr, cm_eq_fr, cm_ne_int, cm_gt_int, cm_lt_int, cm_eq_int, cm_ne_str, cm_eq_str, b1_repr, b1_int_bl, b1_tup_lst, b1_int_int, b1_len_tup, b1_len_lst, fl_law_is_row, lisrow_any _ _ h hw]) (hd l rfl)).1
      rw [exL_nx (s1 := [.val (.int h), .val (.int w), .val (.tup l), .un]) (by rw [exT_if (k := false) (s1 := [.val (.int h), .val (.int w), .val (.tup l), .un]) (by simp [exT, evX, evE, seqD, evT, evL, evC, SG.bnd, SG.ok, SG.opt, slotOf, rd, frz, frzs, frzR, opD, setS, setTg, free, truD, isiD, tyOf, callD, at_fr0, at_fr1, cm_ne_fr, cm_eq_fr, cm_ne_int, cm_gt_int, cm_lt_int, cm_eq_int, cm_ne_str, cm_eq_str, b1_repr, b1_int_bl, b1_tup_lst, b1_int_int, b1_len_tup, b1_len_lst, b1_len_tup, hl])]; simp [exL, exT, evX, evE, seqD, evT, evL, evC, SG.bnd, SG.ok, SG.opt, slotOf, rd, frz, frzs, frzR, opD, setS, setTg, free, truD, isiD, tyOf, callD, at_fr0, at_fr1, cm_ne_fr, cm_eq_fr, cm_ne_int, cm_gt_int, cm_lt_int, cm_eq_int, cm_ne_str, cm_eq_str, b1_repr, b1_int_bl, b1_tup_lst, b1_int_int, b1_len_tup, b1_len_lst])]
      refine exL_rt ?_
      rw [exT, hc]
      simp [SG.bnd, SG.ok, isTabB, hl, frz]
    · rw [show isTabB h w (.tup l) = false by simp [isTabB, hl]]
      refine exL_rt ?_
      rw [exT_if (k := true) (s1 := [.val (.int h), .val (.int w), .val (.tup l), .un]) (by simp [exT, evX, evE, seqD, evT, evL, evC, SG.bnd, SG.ok, SG.opt, slotOf, rd, frz, frzs, frzR, opD, setS, setTg, free, truD, isiD, tyOf, callD, at_fr0, at_fr1, cm_ne_fr, cm_eq_fr, cm_ne_int, cm_gt_int, cm_lt_int, cm_eq_int, cm_ne_str, cm_eq_str, b1_repr, b1_int_bl, b1_tup_lst, b1_int_int, b1_len_tup, b1_len_lst, b1_len_tup, hl]), if_pos rfl]
      exact exL_rt (by simp [exT, evX, evE, seqD, evT, evL, evC, SG.bnd, SG.ok, SG.opt, slotOf, rd, frz, frzs, frzR, opD, setS, setTg, free, truD, isiD, tyOf, callD, at_fr0, at_fr1, cm_ne_fr, cm_eq_fr, cm_ne_int, cm_gt_int, cm_lt_int, cm_eq_int, cm_ne_str, cm_eq_str, b1_repr, b1_int_bl, b1_tup_lst, b1_int_int, b1_len_tup, b1_len_lst])
  · have hn : isTabB h w d = false := by
      cases d <;> first | rfl | exact absurd ⟨_, rfl⟩ ht
    rw [hn]
    refine exL_rt ?_
    rw [exT_if (k := true) (s1 := [.val (.int h), .val (.int w), .val d, .un]) (by cases d <;> first | exact absurd ⟨_, rfl⟩ ht | simp [exT, evX, evE, seqD, evT, evL, evC, SG.bnd, SG.ok, SG.opt, slotOf, rd, frz, frzs, frzR, opD, setS, setTg, free, truD, isiD, tyOf, callD, at_fr0, at_fr1, cm_ne_fr, cm_eq_fr, cm_ne_int, cm_gt_int, cm_lt_int, cm_eq_int, cm_ne_str, cm_eq_str, b1_repr, b1_int_bl, b1_tup_lst, b1_int_int, b1_len_tup, b1_len_lst]), if_pos rfl]
    exact exL_rt (by simp [exT, evX, evE, seqD, evT, evL, evC, SG.bnd, SG.ok, SG.opt, slotOf, rd, frz, frzs, frzR, opD, setS, setTg, free, truD, isiD, tyOf, callD, at_fr0, at_fr1, cm_ne_fr, cm_eq_fr, cm_ne_int, cm_gt_int, cm_lt_int, cm_eq_int, cm_ne_str, cm_eq_str, b1_repr, b1_int_bl, b1_tup_lst, b1_int_int, b1_len_tup, b1_len_lst])
/-! ### the package's own calls -/
theorem reqw_run (es : List D) {w : Int} (h0 : 0 ≤ w) (h : w ≤ 144) : f_require_width.run es [.int w] = some (.ok .non, []) := by
  have rc : f_require_count.run [] [.int w, .int 0, .int 144] = some (.ok .non, []) := by
    rw [fr_require_count]
    show runDef 3 false false p_require_count [] [.int w, .int 0, .int 144] = _
    refine runN (init := [.val (.int w), .val (.int 0), .val (.int 144)]) rfl (s1 := [.val (.int w), .val (.int 0), .val (.int 144)]) ?_ rfl
    unfold p_require_count
    rw [exL_nx (s1 := [.val (.int w), .val (.int 0), .val (.int 144)]) (by rw [exT_if (k := false) (s1 := [.val (.int w), .val (.int 0), .val (.int 144)]) (by simp [exT, evX, evE, seqD, evT, evL, evC, SG.bnd, SG.ok, SG.opt, slotOf, rd, frz, frzs, frzR, opD, setS, setTg, free, truD, isiD, tyOf, callD, at_fr0, at_fr1, cm_ne_fr, cm_eq_fr, cm_ne_int, cm_gt_int, cm_lt_int, cm_eq_int, cm_ne_str, cm_eq_str, b1_repr, b1_int_bl, b1_tup_lst, b1_int_int, b1_len_tup, b1_len_lst, fl_is_integer, isint_any, isIntB, cm_le_int, h0, h])]; simp [exL, exT, evX, evE, seqD, evT, evL, evC, SG.bnd, SG.ok, SG.opt, slotOf, rd, frz, frzs, frzR, opD, setS, setTg, free, truD, isiD, tyOf, callD, at_fr0, at_fr1, cm_ne_fr, cm_eq_fr, cm_ne_int, cm_gt_int, cm_lt_int, cm_eq_int, cm_ne_str, cm_eq_str, b1_repr, b1_int_bl, b1_tup_lst, b1_int_int, b1_len_tup, b1_len_lst])]
    exact exL_nil
  rw [fr_require_width]
  refine runN rfl (s1 := [.val (.int w)]) ?_ rfl
  unfold p_require_width
  rw [exL_nx (s1 := [.val (.int w)]) (by simp [exT, evX, evE, seqD, evT, evL, evC, SG.bnd, SG.ok, SG.opt, slotOf, rd, frz, frzs, frzR, opD, setS, setTg, free, truD, isiD, tyOf, callD, at_fr0, at_fr1, cm_ne_fr, cm_eq_fr, cm_ne_int, cm_gt_int, cm_lt_int, cm_eq_int, cm_ne_str, cm_eq_str, b1_repr, b1_int_bl, b1_tup_lst, b1_int_int, b1_len_tup, b1_len_lst, fl_require_count, rc, c_MAX_WIDTH])]
  exact exL_nil
theorem isrow_any (es : List D) {w : Int} (d : D) (h0 : 0 ≤ w) (h : w ≤ 144) : f_is_row.run es [.int w, d] = some (.ok (.bl (isRowB w d)), []) := by
  rw [fr_is_row]
  refine run0 rfl (s1 := [.val (.int w), .val d]) ?_ rfl
  unfold p_is_row
  rw [exL_nx (s1 := [.val (.int w), .val d]) (by simp [exT, evX, evE, seqD, evT, evL, evC, SG.bnd, SG.ok, SG.opt, slotOf, rd, frz, frzs, frzR, opD, setS, setTg, free, truD, isiD, tyOf, callD, at_fr0, at_fr1, cm_ne_fr, cm_eq_fr, cm_ne_int, cm_gt_int, cm_lt_int, cm_eq_int, cm_ne_str, cm_eq_str, b1_repr, b1_int_bl, b1_tup_lst, b1_int_int, b1_len_tup, b1_len_lst, fl_require_width, reqw_run _ h0 h])]
  exact exL_rt (by simp [exT, evX, evE, seqD, evT, evL, evC, SG.bnd, SG.ok, SG.opt, slotOf, rd, frz, frzs, frzR, opD, setS, setTg, free, truD, isiD, tyOf, callD, at_fr0, at_fr1, cm_ne_fr, cm_eq_fr, cm_ne_int, cm_gt_int, cm_lt_int, cm_eq_int, cm_ne_str, cm_eq_str, b1_repr, b1_int_bl, b1_tup_lst, b1_int_int, b1_len_tup, b1_len_lst, fl_is_plain_row, isprow_any _ _ _ (show w ≤ 1000 by omega)])
theorem istab_any (es : List D) {h w : Int} (d : D) (h0 : 0 ≤ w) (h1 : w ≤ 144) (k0 : 0 ≤ h) (k1 : h ≤ 144) : f_is_table.run es [.int h, .int w, d] = some (.ok (.bl (isTabB h w d)), []) := by
  rw [fr_is_table]
  refine run0 rfl (s1 := [.val (.int h), .val (.int w), .val d]) ?_ rfl
  unfold p_is_table
  rw [exL_nx (s1 := [.val (.int h), .val (.int w), .val d]) (by simp [exT, evX, evE, seqD, evT, evL, evC, SG.bnd, SG.ok, SG.opt, slotOf, rd, frz, frzs, frzR, opD, setS, setTg, free, truD, isiD, tyOf, callD, at_fr0, at_fr1, cm_ne_fr, cm_eq_fr, cm_ne_int, cm_gt_int, cm_lt_int, cm_eq_int, cm_ne_str, cm_eq_str, b1_repr, b1_int_bl, b1_tup_lst, b1_int_int, b1_len_tup, b1_len_lst, fl_require_width, reqw_run _ k0 k1]), exL_nx (s1 := [.val (.int h), .val (.int w), .val d]) (by simp [exT, evX, evE, seqD, evT, evL, evC, SG.bnd, SG.ok, SG.opt, slotOf, rd, frz, frzs, frzR, opD, setS, setTg, free, truD, isiD, tyOf, callD, at_fr0, at_fr1, cm_ne_fr, cm_eq_fr, cm_ne_int, cm_gt_int, cm_lt_int, cm_eq_int, cm_ne_str, cm_eq_str, b1_repr, b1_int_bl, b1_tup_lst, b1_int_int, b1_len_tup, b1_len_lst, fl_require_width, reqw_run _ h0 h1])]
  exact exL_rt (by simp [exT, evX, evE, seqD, evT, evL, evC, SG.bnd, SG.ok, SG.opt, slotOf, rd, frz, frzs, frzR, opD, setS, setTg, free, truD, isiD, tyOf, callD, at_fr0, at_fr1, cm_ne_fr, cm_eq_fr, cm_ne_int, cm_gt_int, cm_lt_int, cm_eq_int, cm_ne_str, cm_eq_str, b1_repr, b1_int_bl, b1_tup_lst, b1_int_int, b1_len_tup, b1_len_lst, fl_is_plain_table, isptab_any _ _ _ _ (show w ≤ 1000 by omega) (show h ≤ 1000 by omega)])
end B
namespace B
open PySem SG Gn LT
/-! ### bounds -/
def RB (n : Nat) (r : Row) : Prop := ∀ q ∈ r, FB n q
theorem RB.mono {m n : Nat} {r : Row} (h : RB m r) (l : m ≤ n) : RB n r := fun q hq => (h q hq).mono l
theorem FB0 (n : Nat) (h : 1 ≤ n) : FB n 0 := by
  have := Nat.pow_le_pow_right (show 0 < 2 by decide) h
  constructor <;> unfold Bd <;> simp <;> omega
theorem FB1 (n : Nat) (h : 1 ≤ n) : FB n 1 := by
  have := Nat.pow_le_pow_right (show 0 < 2 by decide) h
  constructor <;> unfold Bd <;> simp <;> omega
theorem RB.ent {n : Nat} {r : Row} (h : RB n r) (hn : 1 ≤ n) (c : Nat) : FB n (ent r c) := by
  by_cases hc : c < r.length
  · rw [ent_get hc]
    exact h _ (List.getElem_mem hc)
  · rw [ent_ge (by omega)]
    exact FB0 n hn
theorem rb_ent {n : Nat} {r : Row} (h : ∀ c, FB n (ent r c)) : RB n r := fun q hq => by
  obtain ⟨c, hc, rfl⟩ := List.getElem_of_mem hq
  rw [← ent_get hc]
  exact h c
theorem fb_of {v y z : Rat} {A B n : Nat} (hy : y ≠ 0) (iz : IB A z) (iy : IB B y) (e : v * y = z) (ha : A < 2 ^ n) (hb : B < 2 ^ n) : FB n v := by
  obtain ⟨zi, rfl, hz⟩ := iz
  obtain ⟨yi, rfl, hyb⟩ := iy
  have hyi : yi ≠ 0 := fun z => hy (by rw [z]; rfl)
  have : v = Rat.divInt zi yi := by
    rw [Rat.divInt_eq_div]
    grind
  rw [this]
  exact divInt_bd hyi (Nat.lt_of_le_of_lt hz ha) (Nat.lt_of_le_of_lt hyb hb)
/-- a row that an integer makes one of small integers -/
def Nrm (R : Nat) (r : Row) : Prop := ∃ q : Rat, q ≠ 0 ∧ IB R q ∧ ∀ c, IB R (q * ent r c)
theorem Nrm.sml {R : Nat} {r : Row} (h : Nrm R r) : Sml R r := let ⟨q, a, _, c⟩ := h; ⟨q, a, c⟩
theorem Nrm.mono {R S : Nat} {r : Row} (h : Nrm R r) (l : R ≤ S) : Nrm S r := let ⟨q, a, b, c⟩ := h; ⟨q, a, b.mono l, fun x => (c x).mono l⟩
theorem nrm_rb {n : Nat} : ∀ {r : Row}, RB n r → ∃ q : Rat, q ≠ 0 ∧ IB (2 ^ (n * r.length)) q ∧ ∀ x ∈ r, IB (2 ^ (n * (r.length + 1))) (q * x)
  | [], _ => ⟨1, by decide, IB.one (Nat.pow_pos (by decide)), fun _ h => (nomatch h)⟩
  | x :: r, h => by
    obtain ⟨q, a, b, c⟩ := nrm_rb fun y hy => h y (List.mem_cons_of_mem _ hy)
    obtain ⟨h1, h2⟩ := h x List.mem_cons_self
    have dp : (x.den : Rat) ≠ 0 := by
      have := x.den_pos
      exact_mod_cast (show x.den ≠ 0 by omega)
    have id : IB (2 ^ n) (x.den : Rat) := ⟨(x.den : Int), (Rat.intCast_natCast x.den).symm, by unfold Bd at h2; omega⟩
    have inn : IB (2 ^ n) (x.num : Rat) := ⟨x.num, rfl, by unfold Bd at h1; omega⟩
    refine ⟨x.den * q, ?_, ?_, ?_⟩
    · exact fun z => (by rcases Rat.mul_eq_zero.mp z with z | z; exact dp z; exact a z)
    · rw [List.length_cons, show n * (r.length + 1) = n + n * r.length by rw [Nat.mul_add]; omega, Nat.pow_add]
      exact id.mul b
    · intro y hy
      rw [List.length_cons]
      rcases List.mem_cons.mp hy with rfl | hy
      · have e : (y.den : Rat) * q * y = (y.num : Rat) * q := by
          have : (y.den : Rat) * y = y.num := by
            have h3 := Rat.num_divInt_den y
            rw [Rat.divInt_eq_div] at h3
            have h4 : ((y.den : Int) : Rat) = (y.den : Rat) := Rat.intCast_natCast y.den
            rw [h4] at h3
            grind
          rw [show (y.den : Rat) * q * y = ((y.den : Rat) * y) * q by grind, this]
        rw [e]
        refine (inn.mul b).mono ?_
        rw [← Nat.pow_add]
        exact Nat.pow_le_pow_right (by decide) (by rw [Nat.mul_add, Nat.mul_add]; omega)
      · rw [Rat.mul_assoc]
        refine (id.mul (c y hy)).mono ?_
        rw [← Nat.pow_add]
        exact Nat.pow_le_pow_right (by decide) (by rw [Nat.mul_add, Nat.mul_add, Nat.mul_add]; omega)
theorem rb_nrm {n : Nat} {r : Row} (h : RB n r) : Nrm (2 ^ (n * (r.length + 1))) r := by
  obtain ⟨q, a, b, c⟩ := nrm_rb h
  refine ⟨q, a, b.mono (Nat.pow_le_pow_right (by decide) (Nat.mul_le_mul_left _ (by omega))), fun x => ?_⟩
  by_cases hx : x < r.length
  · rw [ent_get hx]
    exact c _ (List.getElem_mem hx)
  · rw [ent_ge (by omega), Rat.mul_zero]
    exact IB.zero _
theorem sm_ib {α : Type} {f : α → Rat} {M : Nat} : ∀ {l : List α}, (∀ x ∈ l, IB M (f x)) → IB (l.length * M) (sm (l.map f))
  | [], _ => IB.zero _
  | x :: l, h => by
    have a := h x List.mem_cons_self
    have b := sm_ib fun y hy => h y (List.mem_cons_of_mem _ hy)
    have e : sm ((x :: l).map f) = f x - (0 - sm (l.map f)) := by
      show f x + sm (l.map f) = _
      grind
    rw [e, List.length_cons, Nat.succ_mul, Nat.add_comm]
    have z := (IB.zero 0).sub b
    rw [Nat.zero_add] at z
    exact a.sub z
section
variable {w R Dm N M : Nat} {lot : List Row} {row : Row} {d : Int}
theorem den_rb (k : Den Dm lot d) (hN : Dm < 2 ^ N) : ∀ l ∈ lot, RB N l := fun l hl => rb_ent fun c => by
  have dn : (d : Rat) ≠ 0 := by exact_mod_cast k.nz
  exact fb_of dn (k.ib l hl c) ⟨d, rfl, k.dm⟩ rfl hN hN
theorem rest_rb (h : Red w lot) (k : Den Dm lot d) (hr : row.length = w) (nr : Nrm R row) (hM : (w + 1) * (R * Dm) < 2 ^ M) : RB M (restR lot row) := rb_ent fun c => by
  obtain ⟨q, q0, qi, qe⟩ := nr
  have dn : (d : Rat) ≠ 0 := by exact_mod_cast k.nz
  have di : IB Dm (d : Rat) := ⟨d, rfl, k.dm⟩
  have hw := lot_len h
  have e : ent (restR lot row) c * (q * d) = (q * ent row c) * d - sm (lot.map fun l => (q * ent row (leadD l)) * (ent l c * d)) := by
    rw [(rest_ent h hr).2 c]
    have e2 : sm (lot.map fun l => (q * ent row (leadD l)) * (ent l c * d)) = (q * d) * sm (lot.map fun l => ent row (leadD l) * ent l c) := by
      rw [← sm_mul]
      exact sm_congr fun l _ => by grind
    rw [e2]
    grind
  have i1 : IB (R * Dm) ((q * ent row c) * d) := (qe c).mul di
  have i2 : IB (lot.length * (R * Dm)) (sm (lot.map fun l => (q * ent row (leadD l)) * (ent l c * d))) := sm_ib fun l hl => (qe _).mul (k.ib l hl c)
  have i3 := i1.sub i2
  have b1 : R * Dm + lot.length * (R * Dm) ≤ (w + 1) * (R * Dm) := by
    rw [Nat.succ_mul, Nat.add_comm]
    exact Nat.add_le_add_right (Nat.mul_le_mul_right _ hw) _
  have b2 : R * Dm ≤ (w + 1) * (R * Dm) := Nat.le_mul_of_pos_left _ (by omega)
  refine fb_of (fun z => ?_) i3 (qi.mul di) e (by omega) (by omega)
  rcases Rat.mul_eq_zero.mp z with z | z
  · exact q0 z
  · exact dn z
/-- the turns of a rest are in bounds -/
def ROK (M N : Nat) : List Row → Row → Prop
  | [], _ => True
  | l :: lot, row => RB M row ∧ RB N l ∧ row.length = l.length ∧ lead l = some (leadD l) ∧ leadD l < row.length ∧ ROK M N lot (lessR row (ent row (leadD l)) l)
theorem _root_.LT.Red.pre {a b : List Row} (h : Red w (a ++ b)) : Red w a := by
  have := h.take a.length
  rwa [List.take_left'] at this
  rfl
theorem _root_.LT.Den.pre {a b : List Row} (k : Den Dm (a ++ b) d) : Den Dm a d := ⟨k.nz, k.dm, fun l hl => k.ib l (List.mem_append_left _ hl)⟩
theorem rok_from (hr : row.length = w) (nr : Nrm R row) (hM : (w + 1) * (R * Dm) < 2 ^ M) (hN : Dm < 2 ^ N) : ∀ (suf pre : List Row), Red w (pre ++ suf) → Den Dm (pre ++ suf) d → ROK M N suf (restR pre row)
  | [], _, _, _ => trivial
  | l :: suf, pre, h, k => by
    have h1 := rest_len h.pre hr
    have lm : l ∈ pre ++ l :: suf := by simp
    have ll := h.len l lm
    have lo := h.one l lm
    have := ent_lt (show ent l (leadD l) ≠ 0 by rw [lo.2]; decide)
    refine ⟨rest_rb h.pre k.pre hr nr hM, den_rb k hN l lm, by rw [h1, ll], lo.1, by omega, ?_⟩
    have e : lessR (restR pre row) (ent (restR pre row) (leadD l)) l = restR (pre ++ [l]) row := by
      unfold restR
      rw [List.foldl_append]
      rfl
    rw [e]
    exact rok_from hr nr hM hN suf (pre ++ [l]) (by simpa using h) (by simpa using k)
theorem rok (h : Red w lot) (k : Den Dm lot d) (hr : row.length = w) (nr : Nrm R row) (hM : (w + 1) * (R * Dm) < 2 ^ M) (hN : Dm < 2 ^ N) : ROK M N lot row := rok_from hr nr hM hN lot [] h k
end
theorem den_mono {M N : Nat} {lot : List Row} {d : Int} (k : Den M lot d) (h : M ≤ N) : Den N lot d := ⟨k.nz, Nat.le_trans k.dm h, fun l hl c => (k.ib l hl c).mono h⟩
theorem span_den' {w R : Nat} {rows : List Row} (hr : ∀ r ∈ rows, r.length = w ∧ Nrm R r) : ∃ d, Den ((w * R + 1) ^ w) (spanR rows) d := by
  obtain ⟨d, k⟩ := span_den fun r h => ⟨(hr r h).1, (hr r h).2.sml⟩
  have hw := lot_len (span_red fun r h => (hr r h).1)
  refine ⟨d, den_mono k ?_⟩
  exact Nat.le_trans (Nat.pow_le_pow_left (by omega) _) (Nat.pow_le_pow_right (by omega) hw)
/-! ### rows by the law's own sums -/
theorem lminus_run (es : List D) {m n : Nat} {a b : Rat} (h : FB m a) (k : FB n b) (l : m + n < 8000) : f_law_minus.run es [frD a, frD b] = some (.ok (frD (a - b)), []) := by
  rw [fr_law_minus]
  obtain ⟨m1, m2, m3, m4, m5⟩ := muls (h.mono (show m ≤ 8000 by omega)) (k.mono (show n ≤ 8000 by omega)) (by decide)
  refine run0 rfl (s1 := [.val (frD a), .val (frD b)]) ?_ rfl
  unfold p_law_minus
  rw [sub_div]
  have hb : Bd (m + n + 1) (a.num * b.den - b.num * a.den) := by
    rw [Int.sub_eq_add_neg]
    exact (h.1.mul k.2).add ((k.1.mul h.2).mono (show n + m ≤ m + n by omega)).neg
  exact exL_rt (by simp [exT, evX, evE, evT, evF, evL, evI, evC, SG.bnd, SG.ok, SG.opt, slotOf, rd, frz, frzs, opD, cmD, b1D, atD, setS, setTg, free, truD, isiD, tyOf, isNon, callD, at0, at1, at2, seqD, nodic, nodics, frD, m1, m2, m3, fl_law_fr, lawfr_run [] (prod_ne a b) (hb.mono (by omega)) ((h.2.mul k.2).mono (by omega))])
theorem numbered_map {α : Type} (g : α → D) : ∀ (l : List α) (n : Nat), SG.numbered n (l.map g) = (l.zipIdx n).map fun p => .tup [.int (p.2 : Nat), g p.1]
  | [], _ => rfl
  | x :: l, n => by
    rw [List.map_cons, List.zipIdx_cons, List.map_cons, SG.numbered, numbered_map g l (n + 1)]
def leadV (r : Row) : D := match lead r with
  | none => .non
  | some i => .int (i : Nat)
theorem lead_filt : ∀ (r : Row) (n : Nat), (((r.zipIdx n).filter fun p => !decide (p.1.num = 0)).map fun p => p.2).head? = (lead r).map (n + ·)
  | [], _ => rfl
  | x :: r, n => by
    rw [List.zipIdx_cons, List.filter_cons]
    unfold lead
    rw [List.findIdx?_cons]
    by_cases h : x = 0
    · subst h
      rw [if_neg (by simp), if_neg (by simp), lead_filt r (n + 1)]
      unfold lead
      cases List.findIdx? (fun q => q != 0) r with
      | none => rfl
      | some i => simp; omega
    · have hn := num_ne h
      rw [if_pos (by simpa using hn), if_pos (by simpa using h)]
      simp
theorem llead_run (es : List D) {r : Row} (hl : r.length ≤ 1000) : f_law_lead.run es [rwD r] = some (.ok (leadV r), []) := by
  rw [fr_law_lead]
  have hc := comp_if2 (e := fun p : Rat × Nat => .tup [.int (p.2 : Nat), frD p.1]) (f := fun p => D.int (p.2 : Nat)) (a := fun p => D.int (p.2 : Nat)) (b := fun p => frD p.1) (P := fun _ => True) (p := fun p => !decide (p.1.num = 0)) (i := 2) (j := 3) (it := .enmA (.var 0))
    (c := .cmp .ne (.ix (.var 3) (.cst (.int 0))) (.cst (.int 0))) (el := .var 2) (st := [.val (rwD r), .un, .un, .un]) (si := .un) (sj := .un) (qs := r.zipIdx 0) (by simp [exT, evX, evE, evT, evF, evL, evI, evC, SG.bnd, SG.ok, SG.opt, slotOf, rd, frz, frzs, opD, cmD, b1D, atD, setS, setTg, free, truD, isiD, tyOf, isNon, callD, at0, at1, at2, seqD, nodic, nodics, rwD, ← numbered_map]) rfl rfl (by decide) (by simp; omega) (fun _ => rfl)
    (fun p _ => by simp [exT, evX, evE, seqD, evT, evL, evC, SG.bnd, SG.ok, SG.opt, slotOf, rd, frz, frzs, frzR, opD, setS, setTg, free, truD, isiD, tyOf, callD, at_fr0, at_fr1, cm_ne_fr, cm_eq_fr, cm_ne_int, cm_gt_int, cm_lt_int, cm_eq_int, cm_ne_str, cm_eq_str, b1_repr, b1_int_bl, b1_tup_lst, b1_int_int, b1_len_tup, b1_len_lst]) (fun p _ _ => by simp [exT, evX, evE, seqD, evT, evL, evC, SG.bnd, SG.ok, SG.opt, slotOf, rd, frz, frzs, frzR, opD, setS, setTg, free, truD, isiD, tyOf, callD, at_fr0, at_fr1, cm_ne_fr, cm_eq_fr, cm_ne_int, cm_gt_int, cm_lt_int, cm_eq_int, cm_ne_str, cm_eq_str, b1_repr, b1_int_bl, b1_tup_lst, b1_int_int, b1_len_tup, b1_len_lst]) (fun _ _ => trivial) rfl rfl
  have hf := lead_filt r 0
  generalize hL : ((r.zipIdx 0).filter fun p => !decide (p.1.num = 0)) = L at hc hf
  refine run0 (init := [.val (rwD r), .un, .un, .un]) rfl (s1 := [.val (rwD r), .own false (L.map fun p => D.int (p.2 : Nat)), .un, .un]) ?_ rfl
  unfold p_law_lead
  rw [exL_nx (s1 := [.val (rwD r), .own false (L.map fun p => D.int (p.2 : Nat)), .un, .un]) (by simp [exT, evX, SG.bnd, SG.ok, SG.opt, setS, free, hc])]
  have cn := (cm_nil_lst (l := L.map fun p => D.int (p.2 : Nat)) (n := 0) (fun d hd => by obtain ⟨_, _, rfl⟩ := List.mem_map.mp hd; exact cd_int _ _) (by decide)).2
  refine exL_rt ?_
  cases L with
  | nil =>
    have : lead r = none := by
      cases e : lead r with
      | none => rfl
      | some i => rw [e] at hf; cases hf
    simp only [List.map_nil] at cn ⊢
    have lv : leadV r = .non := by unfold leadV; rw [this]
    rw [lv]
    simp [exT, evE, evT, evF, evL, SG.bnd, SG.ok, SG.opt, slotOf, rd, frz, frzs, cn]
  | cons x L =>
    have : lead r = some x.2 := by
      cases e : lead r with
      | none => rw [e] at hf; cases hf
      | some i =>
        rw [e] at hf
        simp at hf
        rw [hf]
    have lv : leadV r = .int (x.2 : Nat) := by unfold leadV; rw [this]
    rw [lv]
    simp only [List.map_cons] at cn ⊢
    have a0 : atD (.lst (D.int (x.2 : Nat) :: L.map fun p => D.int (p.2 : Nat))) (.int 0) = some (.int (x.2 : Nat)) := at0 _ _
    simp [exT, evE, evT, evF, evL, SG.bnd, SG.ok, SG.opt, slotOf, rd, frz, frzs, cn, a0]
theorem pairs_eq : ∀ (r o : Row), pairs (r.map frD) (o.map frD) = (r.zip o).map fun p => .tup [frD p.1, frD p.2]
  | [], _ => by simp [pairs]
  | _ :: _, [] => by simp [pairs]
  | x :: r, y :: o => by
    simp only [List.map_cons, List.zip_cons_cons, pairs]
    rw [pairs_eq r o]
theorem less_zip (q : Rat) : ∀ (r o : Row), lessR r q o = (r.zip o).map fun p => p.1 - q * p.2
  | [], _ => by simp [lessR]
  | _ :: _, [] => by simp [lessR]
  | x :: r, y :: o => by
    have := less_zip q r o
    unfold lessR at *
    simp [this]
theorem less_zero {r o : Row} (h : r.length = o.length) : lessR r 0 o = r := row_ext (len_less _ h) fun c => by
  rw [ent_less _ h]
  grind
theorem lless_run (es : List D) {m n k : Nat} {r o : Row} {q : Rat} (hr : RB m r) (hq : FB n q) (ho : RB k o) (l : m + (n + k) < 8000) (hl : r.length = o.length) (hs : r.length ≤ 1000) : f_law_less.run es [rwD r, frD q, rwD o] = some (.ok (rwD (lessR r q o)), []) := by
  rw [fr_law_less]
  refine run0 (init := [.val (rwD r), .val (frD q), .val (rwD o), .un, .un]) rfl (s1 := [.val (rwD r), .val (frD q), .val (rwD o), .un, .un]) ?_ rfl
  unfold p_law_less
  by_cases h0 : q = 0
  · subst h0
    rw [less_zero hl]
    refine exL_rt ?_
    rw [exT_if (k := true) (s1 := [.val (rwD r), .val (frD 0), .val (rwD o), .un, .un]) (by simp [exT, evX, evE, seqD, evT, evL, evC, SG.bnd, SG.ok, SG.opt, slotOf, rd, frz, frzs, frzR, opD, setS, setTg, free, truD, isiD, tyOf, callD, at_fr0, at_fr1, cm_ne_fr, cm_eq_fr, cm_ne_int, cm_gt_int, cm_lt_int, cm_eq_int, cm_ne_str, cm_eq_str, b1_repr, b1_int_bl, b1_tup_lst, b1_int_int, b1_len_tup, b1_len_lst, cm_eq_int]), if_pos rfl]
    exact exL_rt (by simp [exT, evX, evE, seqD, evT, evL, evC, SG.bnd, SG.ok, SG.opt, slotOf, rd, frz, frzs, frzR, opD, setS, setTg, free, truD, isiD, tyOf, callD, at_fr0, at_fr1, cm_ne_fr, cm_eq_fr, cm_ne_int, cm_gt_int, cm_lt_int, cm_eq_int, cm_ne_str, cm_eq_str, b1_repr, b1_int_bl, b1_tup_lst, b1_int_int, b1_len_tup, b1_len_lst])
  · have hn := num_ne h0
    rw [exL_nx (s1 := [.val (rwD r), .val (frD q), .val (rwD o), .un, .un]) (by rw [exT_if (k := false) (s1 := [.val (rwD r), .val (frD q), .val (rwD o), .un, .un]) (by simp [exT, evX, evE, seqD, evT, evL, evC, SG.bnd, SG.ok, SG.opt, slotOf, rd, frz, frzs, frzR, opD, setS, setTg, free, truD, isiD, tyOf, callD, at_fr0, at_fr1, cm_ne_fr, cm_eq_fr, cm_ne_int, cm_gt_int, cm_lt_int, cm_eq_int, cm_ne_str, cm_eq_str, b1_repr, b1_int_bl, b1_tup_lst, b1_int_int, b1_len_tup, b1_len_lst, cm_eq_int, hn])]; simp [exL, exT, evX, evE, seqD, evT, evL, evC, SG.bnd, SG.ok, SG.opt, slotOf, rd, frz, frzs, frzR, opD, setS, setTg, free, truD, isiD, tyOf, callD, at_fr0, at_fr1, cm_ne_fr, cm_eq_fr, cm_ne_int, cm_gt_int, cm_lt_int, cm_eq_int, cm_ne_str, cm_eq_str, b1_repr, b1_int_bl, b1_tup_lst, b1_int_int, b1_len_tup, b1_len_lst])]
    have hc := comp_all2 (e := fun p : Rat × Rat => .tup [frD p.1, frD p.2]) (f := fun p => frD (p.1 - q * p.2)) (a := fun p => frD p.1) (b := fun p => frD p.2) (P := fun p => FB m p.1 ∧ FB k p.2) (i := 3) (j := 4) (it := .zipA (.var 0) (.var 2))
      (el := .call f_law_minus (.cons (.var 3) (.cons (.call f_law_times (.cons (.var 1) (.cons (.var 4) .nil))) .nil))) (st := [.val (rwD r), .val (frD q), .val (rwD o), .un, .un]) (si := .un) (sj := .un) (qs := r.zip o) (by simp [exT, evX, evE, evT, evF, evL, evI, evC, SG.bnd, SG.ok, SG.opt, slotOf, rd, frz, frzs, opD, cmD, b1D, atD, setS, setTg, free, truD, isiD, tyOf, isNon, callD, at0, at1, at2, seqD, nodic, nodics, rwD, ← pairs_eq]) rfl rfl (by decide) (by simp; omega) (fun _ => rfl)
      (fun p hp => by simp [exT, evX, evE, seqD, evT, evL, evC, SG.bnd, SG.ok, SG.opt, slotOf, rd, frz, frzs, frzR, opD, setS, setTg, free, truD, isiD, tyOf, callD, at_fr0, at_fr1, cm_ne_fr, cm_eq_fr, cm_ne_int, cm_gt_int, cm_lt_int, cm_eq_int, cm_ne_str, cm_eq_str, b1_repr, b1_int_bl, b1_tup_lst, b1_int_int, b1_len_tup, b1_len_lst, fl_law_minus, fl_law_times, ltimes_run _ hq hp.2 (by omega), lminus_run _ hp.1 (hq.mul hp.2) (by omega)]) (fun p hp => by
        have := List.of_mem_zip hp
        exact ⟨hr _ this.1, ho _ this.2⟩) rfl rfl
    rw [ret_tup hc]
    unfold rwD
    rw [less_zip, List.map_map]
    rfl
theorem at_row {r : Row} {i : Nat} (h : i < r.length) : atD (rwD r) (.int (i : Int)) = some (frD (ent r i)) := by
  unfold rwD
  show L2.atI _ _ = _
  refine at_nat ?_
  rw [List.getElem?_map, List.getElem?_eq_getElem h, ent_get h]
  rfl
theorem leadV_of {r : Row} {i : Nat} (h : lead r = some i) : leadV r = .int (i : Nat) := by unfold leadV; rw [h]
theorem leadV_no {r : Row} (h : lead r = none) : leadV r = .non := by unfold leadV; rw [h]
theorem lrest_loop (M N : Nat) (l1 : M + (M + N) < 8000) (hM1 : 1 ≤ M) : ∀ (lot : List Row) (row : Row) (a : D) (s : S), free [.val a, .val (rwD row), s] 2 = true → row.length ≤ 1000 → ROK M N lot row →
    ∃ s', loopT (.nm 2) (fun st => exL (.cons (.asg 1 (.e (.call f_law_less (.cons (.var 1) (.cons (.ix (.var 1) (.call f_law_lead (.cons (.var 2) .nil))) (.cons (.var 2) .nil)))))) .nil) st) (lot.map rwD) [.val a, .val (rwD row), s] = SG.ok .nx [.val a, .val (rwD (restR lot row)), s']
  | [], row, a, s, _, _, _ => ⟨s, rfl⟩
  | l :: lot, row, a, s, hf, hl, h => by
    obtain ⟨h1, h2, h3, h4, h5, h6⟩ := h
    have hs : setTg [.val a, .val (rwD row), s] (.nm 2) (rwD l) = some [.val a, .val (rwD row), .val (rwD l)] := by
      show (if free _ 2 then _ else _) = _
      rw [if_pos hf]
      rfl
    have body : exL (.cons (.asg 1 (.e (.call f_law_less (.cons (.var 1) (.cons (.ix (.var 1) (.call f_law_lead (.cons (.var 2) .nil))) (.cons (.var 2) .nil)))))) .nil) [.val a, .val (rwD row), .val (rwD l)] = some (.ok .nx, [.val a, .val (rwD (lessR row (ent row (leadD l)) l)), .val (rwD l)]) := by
      rw [exL_nx (s1 := [.val a, .val (rwD (lessR row (ent row (leadD l)) l)), .val (rwD l)]) (by simp [exT, evX, evE, seqD, evT, evL, evC, SG.bnd, SG.ok, SG.opt, slotOf, rd, frz, frzs, frzR, opD, setS, setTg, free, truD, isiD, tyOf, callD, at_fr0, at_fr1, cm_ne_fr, cm_eq_fr, cm_ne_int, cm_gt_int, cm_lt_int, cm_eq_int, cm_ne_str, cm_eq_str, b1_repr, b1_int_bl, b1_tup_lst, b1_int_int, b1_len_tup, b1_len_lst, fl_law_lead, fl_law_less, llead_run _ (show l.length ≤ 1000 by omega), leadV_of h4, at_row h5, lless_run _ h1 (h1.ent hM1 _) h2 l1 h3 hl])]
      exact exL_nil
    obtain ⟨s', hs'⟩ := lrest_loop M N l1 hM1 lot (lessR row (ent row (leadD l)) l) a (.val (rwD l)) rfl (by rw [len_less _ h3]; exact hl) h6
    refine ⟨s', ?_⟩
    show (match setTg _ _ _ with | none => none | some s1 => turnS (exL _ s1) _) = _
    rw [hs]
    show turnS (exL _ _) _ = _
    rw [body]
    exact hs'
theorem lrest_run (es : List D) (M N : Nat) (l1 : M + (M + N) < 8000) (hM1 : 1 ≤ M) {lot : List Row} {row : Row} (hl : row.length ≤ 1000) (hk : lot.length ≤ 1000) (h : ROK M N lot row) : f_law_rest.run es [ltD lot, rwD row] = some (.ok (rwD (restR lot row)), []) := by
  rw [fr_law_rest]
  obtain ⟨s', hs'⟩ := lrest_loop M N l1 hM1 lot row (ltD lot) .un rfl hl h
  refine run0 (init := [.val (ltD lot), .val (rwD row), .un]) rfl (s1 := [.val (ltD lot), .val (rwD (restR lot row)), s']) ?_ rfl
  unfold p_law_rest
  rw [exL_nx (s1 := [.val (ltD lot), .val (rwD (restR lot row)), s']) (by rw [exT_for (items := lot.map rwD) (s1 := [.val (ltD lot), .val (rwD row), .un]) (by simp [exT, evX, evE, evT, evF, evL, evI, evC, SG.bnd, SG.ok, SG.opt, slotOf, rd, frz, frzs, opD, cmD, b1D, atD, setS, setTg, free, truD, isiD, tyOf, isNon, callD, at0, at1, at2, seqD, nodic, nodics, ltD]) (by rw [List.length_map]; omega)]; exact hs')]
  exact exL_rt (by simp [exT, evX, evE, seqD, evT, evL, evC, SG.bnd, SG.ok, SG.opt, slotOf, rd, frz, frzs, frzR, opD, setS, setTg, free, truD, isiD, tyOf, callD, at_fr0, at_fr1, cm_ne_fr, cm_eq_fr, cm_ne_int, cm_gt_int, cm_lt_int, cm_eq_int, cm_ne_str, cm_eq_str, b1_repr, b1_int_bl, b1_tup_lst, b1_int_int, b1_len_tup, b1_len_lst])
end B
namespace B
open PySem SG Gn LT
/-- rows of these bounds keep all sums small -/
structure Fit (w R N M : Nat) : Prop where
  hM : (w + 1) * (R * (w * R + 1) ^ w) < 2 ^ M
  hN : (w * R + 1) ^ w < 2 ^ N
  l1 : M + (M + N) < 8000
  l2 : N + (N + N) < 8000
  w : w ≤ 1000
theorem Fit.m1 {w R N M : Nat} (F : Fit w R N M) : 1 ≤ N := by
  have := F.hN
  have h : 0 < (w * R + 1) ^ w := Nat.pow_pos (by omega)
  refine Nat.one_le_iff_ne_zero.mpr fun z => ?_
  subst z
  omega
theorem inv_div {q : Rat} (h : q ≠ 0) : Rat.divInt q.den q.num = 1 / q := by
  rw [div_div']
  show _ = Rat.divInt (1 * (q.den : Int)) (1 * q.num)
  rw [Int.one_mul, Int.one_mul]
theorem FB.inv {n : Nat} {q : Rat} (h : FB n q) (h0 : q ≠ 0) : FB n (1 / q) := by
  rw [← inv_div h0]
  exact divInt_bd (num_ne h0) h.2 h.1
/-- pairs of leads and rows -/
def pairL (r : Row) : D := .tup [.int (leadD r : Nat), rwD r]
theorem firsts_pairs : ∀ l : List Row, firstsOf (l.map pairL) = some (l.map fun r => ((leadD r : Nat) : Int))
  | [] => rfl
  | r :: l => by
    rw [List.map_cons]
    unfold pairL
    rw [firstsOf]
    show (firstsOf (l.map pairL)).map _ = _
    rw [firsts_pairs l]
    rfl
theorem sort_pairs (l : List Row) : SR.sortK ((l.map fun r => ((leadD r : Nat) : Int)).zip (l.map pairL)) = (sortL l).map pairL := by
  unfold sortL
  rw [← SR.sortK_map]
  congr 1
  rw [List.zip_map_right]
  rfl
/-- the lot with a row: its rows before they are sorted -/
def rowsW (lot : List Row) (row : Row) (i : Nat) : List Row := lot.map (fun o => lessR o (ent o i) (newR lot row i)) ++ [newR lot row i]
section
variable {w : Nat} {lot : List Row} {row : Row} {i : Nat}
theorem rowsW_mem (hi : lead (restR lot row) = some i) {r : Row} : r ∈ rowsW lot row i ↔ r ∈ withR lot row := by
  rw [with_mem hi]
  unfold rowsW
  rw [List.mem_append, List.mem_map, List.mem_singleton]
  constructor
  · rintro (⟨o, h1, h2⟩ | h)
    · exact .inr ⟨o, h1, h2.symm⟩
    · exact .inl h
  · rintro (h | ⟨o, h1, h2⟩)
    · exact .inr h
    · exact .inl ⟨o, h1, h2.symm⟩
theorem rowsW_lead (h : Red w lot) (hl : row.length = w) (hi : lead (restR lot row) = some i) : ∀ r ∈ rowsW lot row i, lead r = some (leadD r) := fun r hr => ((with_red h hl).one r ((rowsW_mem hi).mp hr)).1
theorem rowsW_nodup (h : Red w lot) (hl : row.length = w) (hi : lead (restR lot row) = some i) : ((rowsW lot row i).map fun r => ((leadD r : Nat) : Int)).Nodup := by
  have h1 := (with_red h hl).srt
  rw [with_some hi] at h1
  have p : (sortL (rowsW lot row i)).Perm (rowsW lot row i) := sortL_perm _
  refine (p.map fun r => ((leadD r : Nat) : Int)).nodup_iff.mp ?_
  refine List.pairwise_map.mpr (h1.imp fun {a b} z => ?_)
  omega
end
theorem lwith_run (es : List D) {w R N M : Nat} (F : Fit w R N M) {lot : List Row} {row : Row} {d d' : Int} (h : Red w lot) (k : Den ((w * R + 1) ^ w) lot d) (hr : row.length = w) (nr : Nrm R row) (k' : Den ((w * R + 1) ^ w) (withR lot row) d') :
    f_law_with_row.run es [ltD lot, rwD row] = some (.ok (ltD (withR lot row)), []) := by
  rw [fr_law_with_row]
  have hw := F.w
  have N1 := F.m1
  have hll := lot_len h
  have rk := rok h k hr nr F.hM F.hN
  have M1 : 1 ≤ M := by
    have := F.hM
    refine Nat.one_le_iff_ne_zero.mpr fun z => ?_
    subst z
    obtain ⟨q, q0, ⟨z, e, hz⟩, _⟩ := nr
    have zn : z ≠ 0 := fun y => q0 (by rw [e, y]; rfl)
    have R1 : 1 ≤ R := by omega
    have h0 : 0 < (w * R + 1) ^ w := Nat.pow_pos (by omega)
    have h1 : 0 < R * (w * R + 1) ^ w := Nat.mul_pos R1 h0
    have h2 : 0 < (w + 1) * (R * (w * R + 1) ^ w) := Nat.mul_pos (by omega) h1
    omega
  have r1 := rest_len h hr
  have rr := rest_rb h k hr nr F.hM
  have e1 : f_law_rest.run [] [ltD lot, rwD row] = some (.ok (rwD (restR lot row)), []) := lrest_run [] M N F.l1 M1 (by omega) (by omega) rk
  unfold p_law_with_row
  cases hi : lead (restR lot row) with
  | none =>
    rw [with_none hi]
    refine run0 (init := [.val (ltD lot), .val (rwD row), .un, .un, .un, .un, .un, .un]) rfl (s1 := [.val (ltD lot), .val (rwD row), .val (rwD (restR lot row)), .val .non, .un, .un, .un, .un]) ?_ rfl
    rw [exL_nx (s1 := [.val (ltD lot), .val (rwD row), .val (rwD (restR lot row)), .un, .un, .un, .un, .un]) (by simp [exT, evX, evE, seqD, evT, evL, evC, SG.bnd, SG.ok, SG.opt, slotOf, rd, frz, frzs, frzR, opD, setS, setTg, free, truD, isiD, tyOf, callD, at_fr0, at_fr1, cm_ne_fr, cm_eq_fr, cm_ne_int, cm_gt_int, cm_lt_int, cm_eq_int, cm_ne_str, cm_eq_str, b1_repr, b1_int_bl, b1_tup_lst, b1_int_int, b1_len_tup, b1_len_lst, fl_law_rest, e1]),
      exL_nx (s1 := [.val (ltD lot), .val (rwD row), .val (rwD (restR lot row)), .val .non, .un, .un, .un, .un]) (by simp [exT, evX, evE, seqD, evT, evL, evC, SG.bnd, SG.ok, SG.opt, slotOf, rd, frz, frzs, frzR, opD, setS, setTg, free, truD, isiD, tyOf, callD, at_fr0, at_fr1, cm_ne_fr, cm_eq_fr, cm_ne_int, cm_gt_int, cm_lt_int, cm_eq_int, cm_ne_str, cm_eq_str, b1_repr, b1_int_bl, b1_tup_lst, b1_int_int, b1_len_tup, b1_len_lst, fl_law_lead, llead_run _ (show (restR lot row).length ≤ 1000 by omega), leadV_no hi])]
    refine exL_rt ?_
    rw [exT_if (k := true) (s1 := [.val (ltD lot), .val (rwD row), .val (rwD (restR lot row)), .val .non, .un, .un, .un, .un]) (by simp [exT, evX, evE, seqD, evT, evL, evC, SG.bnd, SG.ok, SG.opt, slotOf, rd, frz, frzs, frzR, opD, setS, setTg, free, truD, isiD, tyOf, callD, at_fr0, at_fr1, cm_ne_fr, cm_eq_fr, cm_ne_int, cm_gt_int, cm_lt_int, cm_eq_int, cm_ne_str, cm_eq_str, b1_repr, b1_int_bl, b1_tup_lst, b1_int_int, b1_len_tup, b1_len_lst, isNon]), if_pos rfl]
    exact exL_rt (by simp [exT, evX, evE, seqD, evT, evL, evC, SG.bnd, SG.ok, SG.opt, slotOf, rd, frz, frzs, frzR, opD, setS, setTg, free, truD, isiD, tyOf, callD, at_fr0, at_fr1, cm_ne_fr, cm_eq_fr, cm_ne_int, cm_gt_int, cm_lt_int, cm_eq_int, cm_ne_str, cm_eq_str, b1_repr, b1_int_bl, b1_tup_lst, b1_int_int, b1_len_tup, b1_len_lst])
  | some i =>
    have hn := (lead_some.mp hi).1
    have hil := ent_lt hn
    have qb : FB M (ent (restR lot row) i) := rr.ent M1 i
    have ai := at_row hil
    have lv := leadV_of hi
    have nb : RB N (newR lot row i) := den_rb k' F.hN _ ((with_mem hi _).mpr (.inl rfl))
    have lb := den_rb k F.hN
    have nlen : (newR lot row i).length = w := (new_facts h hr hi).1
    have ld := rowsW_lead h hr hi
    have nd := rowsW_nodup h hr hi
    have rl : ∀ r ∈ rowsW lot row i, r.length = w := fun r hr' => (with_red h hr).len r ((rowsW_mem hi).mp hr')
    have wl : (rowsW lot row i).length ≤ 1001 := by unfold rowsW; simp; omega
    have wl2 : (sortL (rowsW lot row i)).length ≤ 1001 := by rw [(sortL_perm _).length_eq]; exact wl
    rw [with_some hi]
    change _ = some (Except.ok (ltD (sortL (rowsW lot row i))), [])
    generalize hS : restR lot row = rst at *
    have hq : (frD (ent rst i)) = .tup [.int (ent rst i).num, .int (ent rst i).den] := rfl
    have c1 := comp_al (e := frD) (f := fun x => frD (x * (1 / ent rst i))) (P := FB M) (i := 5) (it := .seqA (.var 2)) (el := .call f_law_times (.cons (.var 5) (.cons (.call f_law_fr (.cons (.ix (.ix (.var 2) (.var 3)) (.cst (.int 1))) (.cons (.ix (.ix (.var 2) (.var 3)) (.cst (.int 0))) .nil))) .nil)))
      (st := [.val (ltD lot), .val (rwD row), .val (rwD rst), .val (.int (i : Nat)), .un, .un, .un, .un]) (si := .un) (qs := rst) (by simp [exT, evX, evE, evT, evF, evL, evI, evC, SG.bnd, SG.ok, SG.opt, slotOf, rd, frz, frzs, opD, cmD, b1D, atD, setS, setTg, free, truD, isiD, tyOf, isNon, callD, at0, at1, at2, seqD, nodic, nodics, rwD]) rfl rfl (by omega)
      (fun x hx => by simp [exT, evX, evE, seqD, evT, evL, evC, SG.bnd, SG.ok, SG.opt, slotOf, rd, frz, frzs, frzR, opD, setS, setTg, free, truD, isiD, tyOf, callD, at_fr0, at_fr1, cm_ne_fr, cm_eq_fr, cm_ne_int, cm_gt_int, cm_lt_int, cm_eq_int, cm_ne_str, cm_eq_str, b1_repr, b1_int_bl, b1_tup_lst, b1_int_int, b1_len_tup, b1_len_lst, fl_law_times, fl_law_fr, ai, lawfr_run [] (num_ne hn) (qb.2.mono (show M ≤ 8000 by have := F.l1; omega)) (qb.1.mono (show M ≤ 8000 by have := F.l1; omega)), inv_div hn, ltimes_run _ hx (qb.inv hn) (show M + M < 8000 by have := F.l1; omega)]) (fun x hx => rr x hx)
    have en : (rst.map fun x => frD (x * (1 / ent rst i))) = (newR lot row i).map frD := by
      unfold newR scR
      rw [hS, List.map_map]
      exact List.map_congr_left fun x _ => by show frD _ = frD _; rw [Rat.mul_comm]
    rw [en] at c1
    have c2 := comp_al (e := rwD) (f := fun o => rwD (lessR o (ent o i) (newR lot row i))) (P := fun o => RB N o ∧ o.length = w) (i := 6) (it := .seqA (.var 0)) (el := .call f_law_less (.cons (.var 6) (.cons (.ix (.var 6) (.var 3)) (.cons (.var 2) .nil))))
      (st := [.val (ltD lot), .val (rwD row), .val (rwD (newR lot row i)), .val (.int (i : Nat)), .un, .un, .un, .un]) (si := .un) (qs := lot) (by simp [exT, evX, evE, evT, evF, evL, evI, evC, SG.bnd, SG.ok, SG.opt, slotOf, rd, frz, frzs, opD, cmD, b1D, atD, setS, setTg, free, truD, isiD, tyOf, isNon, callD, at0, at1, at2, seqD, nodic, nodics, ltD]) rfl rfl (by omega)
      (fun o ho => by simp [exT, evX, evE, seqD, evT, evL, evC, SG.bnd, SG.ok, SG.opt, slotOf, rd, frz, frzs, frzR, opD, setS, setTg, free, truD, isiD, tyOf, callD, at_fr0, at_fr1, cm_ne_fr, cm_eq_fr, cm_ne_int, cm_gt_int, cm_lt_int, cm_eq_int, cm_ne_str, cm_eq_str, b1_repr, b1_int_bl, b1_tup_lst, b1_int_int, b1_len_tup, b1_len_lst, fl_law_less, at_row (show i < o.length by rw [ho.2]; omega), lless_run _ ho.1 (ho.1.ent N1 i) nb F.l2 (by rw [ho.2, nlen]) (by rw [ho.2]; omega)]) (fun o ho => ⟨lb o ho, h.len o ho⟩)
    have er : (lot.map fun o => rwD (lessR o (ent o i) (newR lot row i))) ++ [rwD (newR lot row i)] = (rowsW lot row i).map rwD := by
      unfold rowsW
      rw [List.map_append, List.map_map]
      rfl
    have c3 := comp_alg (e := rwD) (f := pairL) (P := fun r => lead r = some (leadD r) ∧ r.length = w) (i := 6) (it := .seqA (.var 4)) (el := .tup (.cons (.call f_law_lead (.cons (.var 6) .nil)) (.cons (.var 6) .nil)))
      (st0 := [.val (ltD lot), .val (rwD row), .val (rwD (newR lot row i)), .val (.int (i : Nat)), .own false ((rowsW lot row i).map rwD), .un, .un, .un])
      (st := [.val (ltD lot), .val (rwD row), .val (rwD (newR lot row i)), .val (.int (i : Nat)), .val (.lst ((rowsW lot row i).map rwD)), .un, .un, .un]) (si := .un) (qs := rowsW lot row i) (by simp [exT, evX, evE, evT, evF, evL, evI, evC, SG.bnd, SG.ok, SG.opt, slotOf, rd, frz, frzs, opD, cmD, b1D, atD, setS, setTg, free, truD, isiD, tyOf, isNon, callD, at0, at1, at2, seqD, nodic, nodics]) rfl rfl (by omega)
      (fun r hr' => by simp [exT, evX, evE, seqD, evT, evL, evC, SG.bnd, SG.ok, SG.opt, slotOf, rd, frz, frzs, frzR, opD, setS, setTg, free, truD, isiD, tyOf, callD, at_fr0, at_fr1, cm_ne_fr, cm_eq_fr, cm_ne_int, cm_gt_int, cm_lt_int, cm_eq_int, cm_ne_str, cm_eq_str, b1_repr, b1_int_bl, b1_tup_lst, b1_int_int, b1_len_tup, b1_len_lst, fl_law_lead, llead_run _ (show r.length ≤ 1000 by omega), leadV_of hr'.1, pairL]) (fun r hr' => ⟨ld r hr', rl r hr'⟩)
    have c4 := comp_al2g (e := pairL) (f := rwD) (a := fun r => D.int (leadD r : Nat)) (b := rwD) (P := fun _ => True) (i := 7) (j := 6) (it := .seqA (.fr (.sortF (.fr (.comp (.nm 6) (.seqA (.var 4)) .no (.tup (.cons (.call f_law_lead (.cons (.var 6) .nil)) (.cons (.var 6) .nil)))))))) (el := .var 6)
      (st0 := [.val (ltD lot), .val (rwD row), .val (rwD (newR lot row i)), .val (.int (i : Nat)), .own false ((rowsW lot row i).map rwD), .un, .un, .un])
      (st := [.val (ltD lot), .val (rwD row), .val (rwD (newR lot row i)), .val (.int (i : Nat)), .val (.lst ((rowsW lot row i).map rwD)), .un, .un, .un]) (si := .un) (sj := .un) (qs := sortL (rowsW lot row i)) (by
        rw [evI, evE, evF, evE, c3]
        simp [SG.bnd, SG.ok, rd, frz, firsts_pairs, nd, sort_pairs]) rfl rfl (by decide) (by omega) (fun _ => rfl)
      (fun r _ => by simp [exT, evX, evE, seqD, evT, evL, evC, SG.bnd, SG.ok, SG.opt, slotOf, rd, frz, frzs, frzR, opD, setS, setTg, free, truD, isiD, tyOf, callD, at_fr0, at_fr1, cm_ne_fr, cm_eq_fr, cm_ne_int, cm_gt_int, cm_lt_int, cm_eq_int, cm_ne_str, cm_eq_str, b1_repr, b1_int_bl, b1_tup_lst, b1_int_int, b1_len_tup, b1_len_lst]) (fun _ _ => trivial) rfl rfl
    refine run0 (init := [.val (ltD lot), .val (rwD row), .un, .un, .un, .un, .un, .un]) rfl (s1 := [.val (ltD lot), .val (rwD row), .val (rwD (newR lot row i)), .val (.int (i : Nat)), .val (.lst ((rowsW lot row i).map rwD)), .un, .un, .un]) ?_ rfl
    rw [exL_nx (s1 := [.val (ltD lot), .val (rwD row), .val (rwD rst), .un, .un, .un, .un, .un]) (by simp [exT, evX, evE, seqD, evT, evL, evC, SG.bnd, SG.ok, SG.opt, slotOf, rd, frz, frzs, frzR, opD, setS, setTg, free, truD, isiD, tyOf, callD, at_fr0, at_fr1, cm_ne_fr, cm_eq_fr, cm_ne_int, cm_gt_int, cm_lt_int, cm_eq_int, cm_ne_str, cm_eq_str, b1_repr, b1_int_bl, b1_tup_lst, b1_int_int, b1_len_tup, b1_len_lst, fl_law_rest, e1]),
      exL_nx (s1 := [.val (ltD lot), .val (rwD row), .val (rwD rst), .val (.int (i : Nat)), .un, .un, .un, .un]) (by simp [exT, evX, evE, seqD, evT, evL, evC, SG.bnd, SG.ok, SG.opt, slotOf, rd, frz, frzs, frzR, opD, setS, setTg, free, truD, isiD, tyOf, callD, at_fr0, at_fr1, cm_ne_fr, cm_eq_fr, cm_ne_int, cm_gt_int, cm_lt_int, cm_eq_int, cm_ne_str, cm_eq_str, b1_repr, b1_int_bl, b1_tup_lst, b1_int_int, b1_len_tup, b1_len_lst, fl_law_lead, llead_run _ (show rst.length ≤ 1000 by omega), lv]),
      exL_nx (s1 := [.val (ltD lot), .val (rwD row), .val (rwD rst), .val (.int (i : Nat)), .un, .un, .un, .un]) (by rw [exT_if (k := false) (s1 := [.val (ltD lot), .val (rwD row), .val (rwD rst), .val (.int (i : Nat)), .un, .un, .un, .un]) (by simp [exT, evX, evE, seqD, evT, evL, evC, SG.bnd, SG.ok, SG.opt, slotOf, rd, frz, frzs, frzR, opD, setS, setTg, free, truD, isiD, tyOf, callD, at_fr0, at_fr1, cm_ne_fr, cm_eq_fr, cm_ne_int, cm_gt_int, cm_lt_int, cm_eq_int, cm_ne_str, cm_eq_str, b1_repr, b1_int_bl, b1_tup_lst, b1_int_int, b1_len_tup, b1_len_lst, isNon])]; simp [exL, exT, evX, evE, seqD, evT, evL, evC, SG.bnd, SG.ok, SG.opt, slotOf, rd, frz, frzs, frzR, opD, setS, setTg, free, truD, isiD, tyOf, callD, at_fr0, at_fr1, cm_ne_fr, cm_eq_fr, cm_ne_int, cm_gt_int, cm_lt_int, cm_eq_int, cm_ne_str, cm_eq_str, b1_repr, b1_int_bl, b1_tup_lst, b1_int_int, b1_len_tup, b1_len_lst]),
      exL_nx (s1 := [.val (ltD lot), .val (rwD row), .val (rwD (newR lot row i)), .val (.int (i : Nat)), .un, .un, .un, .un]) (by rw [exT, evX, tup_of c1]; simp [SG.bnd, SG.ok, SG.opt, frz, setS, free, rwD]),
      exL_nx (s1 := [.val (ltD lot), .val (rwD row), .val (rwD (newR lot row i)), .val (.int (i : Nat)), .own false ((rowsW lot row i).map rwD), .un, .un, .un]) (by
        have p2 : evF (.plus (.fr (.comp (.nm 6) (.seqA (.var 0)) .no (.call f_law_less (.cons (.var 6) (.cons (.ix (.var 6) (.var 3)) (.cons (.var 2) .nil)))))) (.fr (.disp (.cons (.var 2) .nil)))) [.val (ltD lot), .val (rwD row), .val (rwD (newR lot row i)), .val (.int (i : Nat)), .un, .un, .un, .un] = some (.ok ((rowsW lot row i).map rwD), [.val (ltD lot), .val (rwD row), .val (rwD (newR lot row i)), .val (.int (i : Nat)), .un, .un, .un, .un]) := by
          rw [evF, evE, c2]
          rw [← er]
          simp [exT, evX, evE, evT, evF, evL, evI, evC, SG.bnd, SG.ok, SG.opt, slotOf, rd, frz, frzs, opD, cmD, b1D, atD, setS, setTg, free, truD, isiD, tyOf, isNon, callD, at0, at1, at2, seqD, nodic, nodics, show lot.length ≤ 99999 by omega]
        rw [exT, evX, p2]
        simp [SG.bnd, SG.ok, SG.opt, setS, free])]
    refine exL_rt ?_
    rw [exT, evE, evE, c4]
    simp [SG.bnd, SG.ok, SG.opt, rd, frz, b1_tup_lst, ltD]
theorem span_snoc (rows : List Row) (r : Row) : spanR (rows ++ [r]) = withR (spanR rows) r := by
  unfold spanR
  rw [List.foldl_append]
  rfl
/-- the law's own lot of rows -/
theorem llot_run (es : List D) {w R N M : Nat} (F : Fit w R N M) {rows : List Row} {d0 : D} (hd : seqD d0 = some (rows.map rwD)) (hr : ∀ r ∈ rows, r.length = w ∧ Nrm R r) (hl : rows.length ≤ 100000) : f_law_lot.run es [d0] = some (.ok (ltD (spanR rows)), []) := by
  rw [fr_law_lot]
  have key : ∀ (suf pre : List Row) (s : S), (∀ r ∈ pre ++ suf, r.length = w ∧ Nrm R r) → free [.val d0, .val (ltD (spanR pre)), s] 2 = true →
      ∃ s', loopT (.nm 2) (fun st => exL (.cons (.asg 1 (.e (.call f_law_with_row (.cons (.var 1) (.cons (.var 2) .nil))))) .nil) st) (suf.map rwD) [.val d0, .val (ltD (spanR pre)), s] = SG.ok .nx [.val d0, .val (ltD (spanR (pre ++ suf))), s'] := by
    intro suf
    induction suf with
    | nil =>
      intro pre s _ _
      rw [List.append_nil]
      exact ⟨s, rfl⟩
    | cons r suf ih =>
      intro pre s hp hf
      have hs : setTg [.val d0, .val (ltD (spanR pre)), s] (.nm 2) (rwD r) = some [.val d0, .val (ltD (spanR pre)), .val (rwD r)] := by
        show (if free _ 2 then _ else _) = _
        rw [if_pos hf]
        rfl
      have hp1 : ∀ x ∈ pre, x.length = w ∧ Nrm R x := fun x hx => hp x (by simp [hx])
      have hp2 : ∀ x ∈ pre ++ [r], x.length = w ∧ Nrm R x := fun x hx => hp x (by
        rcases List.mem_append.mp hx with hx | hx
        · simp [hx]
        · simp at hx
          simp [hx])
      obtain ⟨d, k⟩ := span_den' hp1
      obtain ⟨d', k'⟩ := span_den' hp2
      rw [span_snoc] at k'
      have rr := hp r (by simp)
      have body : exL (.cons (.asg 1 (.e (.call f_law_with_row (.cons (.var 1) (.cons (.var 2) .nil))))) .nil) [.val d0, .val (ltD (spanR pre)), .val (rwD r)] = some (.ok .nx, [.val d0, .val (ltD (spanR (pre ++ [r]))), .val (rwD r)]) := by
        rw [exL_nx (s1 := [.val d0, .val (ltD (spanR (pre ++ [r]))), .val (rwD r)]) (by simp [exT, evX, evE, seqD, evT, evL, evC, SG.bnd, SG.ok, SG.opt, slotOf, rd, frz, frzs, frzR, opD, setS, setTg, free, truD, isiD, tyOf, callD, at_fr0, at_fr1, cm_ne_fr, cm_eq_fr, cm_ne_int, cm_gt_int, cm_lt_int, cm_eq_int, cm_ne_str, cm_eq_str, b1_repr, b1_int_bl, b1_tup_lst, b1_int_int, b1_len_tup, b1_len_lst, fl_law_with_row, lwith_run [] F (span_red fun x hx => (hp1 x hx).1) k rr.1 rr.2 k', span_snoc])]
        exact exL_nil
      obtain ⟨s', hs'⟩ := ih (pre ++ [r]) (.val (rwD r)) (by simpa using hp) rfl
      refine ⟨s', ?_⟩
      show (match setTg _ _ _ with | none => none | some s1 => turnS (exL _ s1) _) = _
      rw [hs]
      show turnS (exL _ _) _ = _
      rw [body]
      rw [show pre ++ r :: suf = pre ++ [r] ++ suf by simp]
      exact hs'
  obtain ⟨s', hs'⟩ := key rows [] .un hr rfl
  have hit : evI (.seqA (.var 0)) [.val d0, .val (ltD []), .un] = some (.ok (rows.map rwD), [.val d0, .val (ltD []), .un]) := by
    unfold seqD at hd
    split at hd
    · cases hd; simp [exT, evX, evE, evT, evF, evL, evI, evC, SG.bnd, SG.ok, SG.opt, slotOf, rd, frz, frzs, opD, cmD, b1D, atD, setS, setTg, free, truD, isiD, tyOf, isNon, callD, at0, at1, at2, seqD, nodic, nodics]
    · cases hd; simp [exT, evX, evE, evT, evF, evL, evI, evC, SG.bnd, SG.ok, SG.opt, slotOf, rd, frz, frzs, opD, cmD, b1D, atD, setS, setTg, free, truD, isiD, tyOf, isNon, callD, at0, at1, at2, seqD, nodic, nodics]
    · cases hd
  refine run0 (init := [.val d0, .un, .un]) rfl (s1 := [.val d0, .val (ltD (spanR rows)), s']) ?_ rfl
  unfold p_law_lot
  rw [exL_nx (s1 := [.val d0, .val (ltD []), .un]) (by simp [exT, evX, evE, seqD, evT, evL, evC, SG.bnd, SG.ok, SG.opt, slotOf, rd, frz, frzs, frzR, opD, setS, setTg, free, truD, isiD, tyOf, callD, at_fr0, at_fr1, cm_ne_fr, cm_eq_fr, cm_ne_int, cm_gt_int, cm_lt_int, cm_eq_int, cm_ne_str, cm_eq_str, b1_repr, b1_int_bl, b1_tup_lst, b1_int_int, b1_len_tup, b1_len_lst, ltD]), exL_nx (s1 := [.val d0, .val (ltD (spanR rows)), s']) (by rw [exT_for hit (by rw [List.length_map]; omega)]; exact hs')]
  exact exL_rt (by simp [exT, evX, evE, seqD, evT, evL, evC, SG.bnd, SG.ok, SG.opt, slotOf, rd, frz, frzs, frzR, opD, setS, setTg, free, truD, isiD, tyOf, callD, at_fr0, at_fr1, cm_ne_fr, cm_eq_fr, cm_ne_int, cm_gt_int, cm_lt_int, cm_eq_int, cm_ne_str, cm_eq_str, b1_repr, b1_int_bl, b1_tup_lst, b1_int_int, b1_len_tup, b1_len_lst])
end B
namespace B
open PySem SG Gn LT
/-! ### the package's look at lots -/
theorem num_fr {d : D} (h : isNumB d = true) : ∃ q : Rat, d = frD q := by
  unfold isNumB at h
  split at h
  · rename_i a b
    rw [Bool.and_eq_true, decide_eq_true_eq, decide_eq_true_eq] at h
    obtain ⟨h1, h2⟩ := (div_self h.1).mpr h.2
    exact ⟨Rat.divInt a b, by unfold frD; rw [h1, h2]⟩
  · cases h
theorem isNum_fr (q : Rat) : isNumB (frD q) = true := by
  have h1 := den_pos q
  have h2 := num_gcd q
  simp [frD, isNumB, h1, h2]
theorem row_rw {w : Int} {d : D} (h : isRowB w d = true) : ∃ r : Row, d = rwD r ∧ (r.length : Int) = w := by
  unfold isRowB at h
  split at h
  · rename_i l
    rw [Bool.and_eq_true, decide_eq_true_eq] at h
    obtain ⟨qs, rfl, _⟩ := all_of (g := frD) (P := fun _ => True) (ds := l) fun d hd => by
      obtain ⟨q, hq⟩ := num_fr (List.all_eq_true.mp h.2 d hd)
      exact ⟨q, hq, trivial⟩
    exact ⟨qs, rfl, by simpa using h.1⟩
  · cases h
theorem isRow_rw {w : Nat} {r : Row} : isRowB w (rwD r) = decide (r.length = w) := by
  have : (r.map frD).all isNumB = true := List.all_eq_true.mpr fun d hd => by
    obtain ⟨q, _, rfl⟩ := List.mem_map.mp hd
    exact isNum_fr q
  simp only [isRowB, rwD, this, Bool.and_true, List.length_map]
  exact decide_eq_decide.mpr (by omega)
theorem rows_rw {w : Nat} {l : List D} (h : l.all (isRowB w) = true) : ∃ rows : List Row, l = rows.map rwD ∧ ∀ r ∈ rows, r.length = w :=
  all_of fun d hd => by
    obtain ⟨r, h1, h2⟩ := row_rw (List.all_eq_true.mp h d hd)
    exact ⟨r, h1, by omega⟩
theorem fold_first (n : Nat) : ∀ r : Row, ∀ n, foldR (fun (_ : Unit) (p : Rat × Nat) => if p.1 = 0 then (.inr () : D ⊕ Unit) else .inl (.int (p.2 : Nat))) (r.zipIdx n) () = match lead r with
    | none => .inr ()
    | some i => .inl (.int ((n + i : Nat) : Int))
  | [], n => rfl
  | x :: r, n => by
    rw [List.zipIdx_cons, foldR]
    unfold lead
    rw [List.findIdx?_cons]
    by_cases h : x = 0
    · subst h
      rw [if_pos rfl, if_neg (by simp)]
      dsimp only
      rw [fold_first n r (n + 1)]
      unfold lead
      cases List.findIdx? (fun q => q != 0) r with
      | none => rfl
      | some i => simp; omega
    · rw [if_neg h, if_pos (by simpa using h)]
      rfl
theorem first_run (es : List D) {r : Row} (hl : r.length ≤ 1000) : f_first_index.run es [rwD r] = some (.ok (leadV r), []) := by
  rw [fr_first_index]
  have key := for_ret (e := fun p : Rat × Nat => .tup [.int (p.2 : Nat), frD p.1]) (I := fun _ => True) (P := fun _ => True) (K := fun s => s[0]? = some (.val (rwD r))) (body := fun s => exL (.cons (.ife (.cmp .ne (.var 2) (.glb "NOUGHT" c_NOUGHT)) (.cons (.ret (.var 1)) .nil) (.nil)) .nil) s) (tg := .two 1 2)
    (mk := fun (_ : Unit) p => [.val (rwD r), .val (.int (p.2 : Nat)), .val (frD p.1)]) (m0 := fun _ => [.val (rwD r), .un, .un]) (step := fun _ p => if p.1 = 0 then .inr () else .inl (.int (p.2 : Nat)))
    (fun a q => by simp [setTg, free]) (fun a y q => by simp [setTg, free]) (fun a q _ _ => by
      by_cases h : q.1 = 0
      · refine ⟨fun d hd => ?_, fun a' ha => ?_⟩
        · rw [if_pos h] at hd
          cases hd
        · refine ⟨?_, trivial⟩
          rw [exL_nx (s1 := [.val (rwD r), .val (.int (q.2 : Nat)), .val (frD q.1)]) (by rw [exT_if (k := false) (s1 := [.val (rwD r), .val (.int (q.2 : Nat)), .val (frD q.1)]) (by simp [exT, evX, evE, seqD, evT, evL, evC, SG.bnd, SG.ok, SG.opt, slotOf, rd, frz, frzs, frzR, opD, setS, setTg, free, truD, isiD, tyOf, callD, at_fr0, at_fr1, cm_ne_fr, cm_eq_fr, cm_ne_int, cm_gt_int, cm_lt_int, cm_eq_int, cm_ne_str, cm_eq_str, b1_repr, b1_int_bl, b1_tup_lst, b1_int_int, b1_len_tup, b1_len_lst, nought, cm_ne_q, h])]; simp [exL, exT, evX, evE, seqD, evT, evL, evC, SG.bnd, SG.ok, SG.opt, slotOf, rd, frz, frzs, frzR, opD, setS, setTg, free, truD, isiD, tyOf, callD, at_fr0, at_fr1, cm_ne_fr, cm_eq_fr, cm_ne_int, cm_gt_int, cm_lt_int, cm_eq_int, cm_ne_str, cm_eq_str, b1_repr, b1_int_bl, b1_tup_lst, b1_int_int, b1_len_tup, b1_len_lst])]
          exact exL_nil
      · refine ⟨fun d hd => ?_, fun a' ha => ?_⟩
        · rw [if_neg h] at hd
          cases hd
          refine ⟨[.val (rwD r), .val (.int (q.2 : Nat)), .val (frD q.1)], exL_rt ?_, rfl⟩
          rw [exT_if (k := true) (s1 := [.val (rwD r), .val (.int (q.2 : Nat)), .val (frD q.1)]) (by simp [exT, evX, evE, seqD, evT, evL, evC, SG.bnd, SG.ok, SG.opt, slotOf, rd, frz, frzs, frzR, opD, setS, setTg, free, truD, isiD, tyOf, callD, at_fr0, at_fr1, cm_ne_fr, cm_eq_fr, cm_ne_int, cm_gt_int, cm_lt_int, cm_eq_int, cm_ne_str, cm_eq_str, b1_repr, b1_int_bl, b1_tup_lst, b1_int_int, b1_len_tup, b1_len_lst, nought, cm_ne_q, h]), if_pos rfl]
          exact exL_rt (by simp [exT, evX, evE, seqD, evT, evL, evC, SG.bnd, SG.ok, SG.opt, slotOf, rd, frz, frzs, frzR, opD, setS, setTg, free, truD, isiD, tyOf, callD, at_fr0, at_fr1, cm_ne_fr, cm_eq_fr, cm_ne_int, cm_gt_int, cm_lt_int, cm_eq_int, cm_ne_str, cm_eq_str, b1_repr, b1_int_bl, b1_tup_lst, b1_int_int, b1_len_tup, b1_len_lst])
        · rw [if_neg h] at ha
          cases ha) (r.zipIdx 0) () [.val (rwD r), .un, .un] trivial (fun _ _ => trivial) (.inl rfl)
  rw [fold_first 0 r 0] at key
  have hit : evI (.enmA (.var 0)) [.val (rwD r), .un, .un] = some (.ok ((r.zipIdx 0).map fun p => .tup [.int (p.2 : Nat), frD p.1]), [.val (rwD r), .un, .un]) := by simp [exT, evX, evE, evT, evF, evL, evI, evC, SG.bnd, SG.ok, SG.opt, slotOf, rd, frz, frzs, opD, cmD, b1D, atD, setS, setTg, free, truD, isiD, tyOf, isNon, callD, at0, at1, at2, seqD, nodic, nodics, rwD, ← numbered_map]
  cases hi : lead r with
  | none =>
    rw [leadV_no hi]
    rw [hi] at key
    obtain ⟨st', h1, h2⟩ := key.2 () rfl
    have e0 : st'[0]? = some (.val (rwD r)) := by rcases h2 with rfl | ⟨y, rfl⟩ <;> rfl
    refine run0 (init := [.val (rwD r), .un, .un]) rfl (s1 := st') ?_ (by rw [e0])
    unfold p_first_index
    rw [exL_nx (s1 := st') (by rw [exT_for hit (by simp; omega)]; exact h1)]
    exact exL_rt (by simp [exT, evX, evE, seqD, evT, evL, evC, SG.bnd, SG.ok, SG.opt, slotOf, rd, frz, frzs, frzR, opD, setS, setTg, free, truD, isiD, tyOf, callD, at_fr0, at_fr1, cm_ne_fr, cm_eq_fr, cm_ne_int, cm_gt_int, cm_lt_int, cm_eq_int, cm_ne_str, cm_eq_str, b1_repr, b1_int_bl, b1_tup_lst, b1_int_int, b1_len_tup, b1_len_lst])
  | some i =>
    rw [leadV_of hi]
    rw [hi] at key
    obtain ⟨st', h1, hk⟩ := key.1 _ rfl
    rw [Nat.zero_add] at h1
    refine run0 (init := [.val (rwD r), .un, .un]) rfl (s1 := st') ?_ (by rw [hk])
    unfold p_first_index
    exact exL_rt (by rw [exT_for hit (by simp; omega)]; exact h1)
end B
namespace B
open PySem SG Gn LT
/-! ### which rows are a lot -/
def otherB (rows : List Row) (n i : Nat) : Bool := ((rows.zipIdx 0).filter fun p => !decide (p.2 = n)).any fun p => !decide (ent p.1 i = 0)
def lotStep (rows : List Row) (a : Int × S) (p : Row × Nat) : D ⊕ (Int × S) := match lead p.1 with
  | none => .inl (.bl false)
  | some i => if (i : Int) ≤ a.1 ∨ ent p.1 i ≠ 1 then .inl (.bl false) else if otherB rows p.2 i = true then .inl (.bl false) else .inr ((i : Int), .val (.int (i : Nat)))
def Good (rows : List Row) (r : Row) (n : Nat) : Prop := lead r = some (leadD r) ∧ ent r (leadD r) = 1 ∧ ∀ p ∈ rows.zipIdx 0, p.2 ≠ n → ent p.1 (leadD r) = 0
theorem other_false {rows : List Row} {n i : Nat} : otherB rows n i = false ↔ ∀ p ∈ rows.zipIdx 0, p.2 ≠ n → ent p.1 i = 0 := by
  unfold otherB
  rw [List.any_eq_false]
  constructor
  · intro h p hp hn
    have := h p (List.mem_filter.mpr ⟨hp, by simpa using hn⟩)
    simpa using this
  · intro h p hp
    obtain ⟨h1, h2⟩ := List.mem_filter.mp hp
    have := h p h1 (by simpa using h2)
    simpa using this
theorem lot_fold (rows : List Row) : ∀ (suf : List Row) (n : Nat) (a : Int × S), (∀ d, foldR (lotStep rows) (suf.zipIdx n) a = .inl d → d = .bl false) ∧ ((∃ a', foldR (lotStep rows) (suf.zipIdx n) a = .inr a') ↔ (∀ p ∈ suf.zipIdx n, Good rows p.1 p.2) ∧ (a.1 :: suf.map fun r => ((leadD r : Nat) : Int)).Pairwise (· < ·))
  | [], n, a => ⟨fun d h => (by cases h), by simp [foldR]⟩
  | r :: suf, n, a => by
    rw [List.zipIdx_cons, foldR]
    cases hl : lead r with
    | none =>
      have hs : lotStep rows a (r, n) = .inl (.bl false) := by unfold lotStep; rw [hl]
      rw [hs]
      refine ⟨fun d h => by cases h; rfl, ⟨fun ⟨a', h⟩ => (by cases h), fun ⟨h1, h2⟩ => ?_⟩⟩
      have := (h1 (r, n) List.mem_cons_self).1
      rw [hl] at this
      cases this
    | some i =>
      have hd : leadD r = i := lead_of hl
      by_cases h1 : (i : Int) ≤ a.1 ∨ ent r i ≠ 1
      · have hs : lotStep rows a (r, n) = .inl (.bl false) := by unfold lotStep; rw [hl]; simp only [if_pos h1]
        rw [hs]
        refine ⟨fun d h => by cases h; rfl, ⟨fun ⟨a', h⟩ => (by cases h), fun ⟨h2, h3⟩ => ?_⟩⟩
        have g := (h2 (r, n) List.mem_cons_self).2.1
        simp only [List.map_cons] at h3
        have := (List.pairwise_cons.mp h3).1 _ List.mem_cons_self
        rw [hd] at this g
        rcases h1 with h1 | h1
        · omega
        · exact absurd g h1
      · by_cases h2 : otherB rows n i = true
        · have hs : lotStep rows a (r, n) = .inl (.bl false) := by unfold lotStep; rw [hl]; simp only [if_neg h1, if_pos h2]
          rw [hs]
          refine ⟨fun d h => by cases h; rfl, ⟨fun ⟨a', h⟩ => (by cases h), fun ⟨h3, _⟩ => ?_⟩⟩
          have g := (h3 (r, n) List.mem_cons_self).2.2
          rw [hd] at g
          rw [other_false.mpr g] at h2
          cases h2
        · have hs : lotStep rows a (r, n) = .inr ((i : Int), .val (.int (i : Nat))) := by unfold lotStep; rw [hl]; simp only [if_neg h1, if_neg h2]
          rw [hs]
          dsimp only
          obtain ⟨k1, k2⟩ := lot_fold rows suf (n + 1) ((i : Int), .val (.int (i : Nat)))
          refine ⟨k1, k2.trans ?_⟩
          have h1a : a.1 < (i : Int) := by
            have : ¬ (i : Int) ≤ a.1 := fun z => h1 (.inl z)
            omega
          have h1b : ent r i = 1 := Classical.byContradiction fun z => h1 (.inr z)
          have h2b := other_false.mp (show otherB rows n i = false by simpa using h2)
          constructor
          · rintro ⟨x, y⟩
            refine ⟨fun p hp => ?_, ?_⟩
            · rcases List.mem_cons.mp hp with rfl | hp
              · exact ⟨by rw [hd]; exact hl, by rw [hd]; exact h1b, by rw [hd]; exact h2b⟩
              · exact x p hp
            · rw [List.map_cons, hd]
              refine List.pairwise_cons.mpr ⟨fun z hz => ?_, y⟩
              rcases List.mem_cons.mp hz with rfl | hz
              · exact h1a
              · have := (List.pairwise_cons.mp y).1 z hz
                simp only at this
                omega
          · rintro ⟨x, y⟩
            refine ⟨fun p hp => x p (List.mem_cons_of_mem _ hp), ?_⟩
            rw [List.map_cons, hd] at y
            exact (List.pairwise_cons.mp y).2
theorem zip_get {rows : List Row} {p : Row × Nat} : p ∈ rows.zipIdx 0 ↔ rows[p.2]? = some p.1 := by
  rw [List.mem_zipIdx_iff_getElem?]
theorem good_red {w : Nat} {rows : List Row} (hr : ∀ r ∈ rows, r.length = w) : ((∀ p ∈ rows.zipIdx 0, Good rows p.1 p.2) ∧ ((-1 : Int) :: rows.map fun r => ((leadD r : Nat) : Int)).Pairwise (· < ·)) ↔ Red w rows := by
  constructor
  · rintro ⟨h1, h2⟩
    have h2' := List.pairwise_map.mp (List.pairwise_cons.mp h2).2
    have at' : ∀ r ∈ rows, ∃ n, rows[n]? = some r ∧ Good rows r n := fun r hm => by
      obtain ⟨n, hn, e⟩ := List.getElem_of_mem hm
      have e2 : rows[n]? = some r := by rw [List.getElem?_eq_getElem hn, e]
      exact ⟨n, e2, h1 (r, n) (zip_get.mpr e2)⟩
    refine ⟨hr, fun r hm => ?_, fun a ha b hb hab => ?_, h2'.imp fun {a b} z => by omega⟩
    · obtain ⟨n, _, g⟩ := at' r hm
      exact ⟨g.1, g.2.1⟩
    · obtain ⟨n, en, _⟩ := at' a ha
      obtain ⟨m, em, g⟩ := at' b hb
      refine g.2.2 (a, n) (zip_get.mpr en) fun z => ?_
      simp only at z
      rw [z, em] at en
      cases en
      exact hab rfl
  · intro h
    refine ⟨fun p hp => ?_, List.pairwise_cons.mpr ⟨fun z hz => ?_, List.pairwise_map.mpr (h.srt.imp fun {a b} z => by omega)⟩⟩
    · have hp' := zip_get.mp hp
      have hm := List.mem_of_getElem? hp'
      refine ⟨(h.one _ hm).1, (h.one _ hm).2, fun q hq hne => ?_⟩
      have hq' := zip_get.mp hq
      refine h.orth _ (List.mem_of_getElem? hq') _ hm fun z => ?_
      have e := h.inj (List.mem_of_getElem? hq') hm z
      rw [e] at hq'
      have nd := h.nodup
      obtain ⟨l1, e1⟩ := List.getElem?_eq_some_iff.mp hq'
      obtain ⟨l2, e2⟩ := List.getElem?_eq_some_iff.mp hp'
      exact hne ((List.getElem_inj nd).mp (e1.trans e2.symm))
    · obtain ⟨r, _, rfl⟩ := List.mem_map.mp hz
      omega
open Classical in
noncomputable def redB (w : Nat) (rows : List Row) : Bool := decide (Red w rows)
open Classical in
theorem redB_iff {w : Nat} {rows : List Row} : redB w rows = true ↔ Red w rows := by unfold redB; exact decide_eq_true_iff
theorem redB_not {w : Nat} {rows : List Row} : redB w rows = false ↔ ¬ Red w rows := by
  rw [← redB_iff]
  simp
theorem lot_dec {w : Nat} {rows : List Row} (hr : ∀ r ∈ rows, r.length = w) : (redB w rows = true → ∃ a', foldR (lotStep rows) (rows.zipIdx 0) (-1, .un) = .inr a') ∧ (redB w rows = false → foldR (lotStep rows) (rows.zipIdx 0) (-1, .un) = .inl (.bl false)) := by
  obtain ⟨h1, h2⟩ := lot_fold rows rows 0 (-1, .un)
  rw [good_red hr] at h2
  refine ⟨fun h => h2.mpr (redB_iff.mp h), fun h => ?_⟩
  have hn := redB_not.mp h
  cases e : foldR (lotStep rows) (rows.zipIdx 0) (-1, .un) with
  | inl d => rw [h1 d e]
  | inr a' => exact absurd (h2.mp ⟨a', e⟩) hn
theorem plot_body {w : Nat} {rows : List Row} (hr : ∀ r ∈ rows, r.length = w) (hw : w ≤ 1000) (hl : rows.length ≤ 1000) (a : Int × S) (s5 : a.2 = .un ∨ ∃ i : Int, a.2 = .val (.int i)) (q : Row × Nat) (hq : q.1.length = w) :
    (∀ d, lotStep rows a q = .inl d → ∃ s, exL (.cons (.asg 5 (.e (.call f_first_index (.cons (.var 4) .nil)))) (.cons (.ife (.or (.cmp .isn (.var 5) (.cst .non)) (.or (.cmp .le (.var 5) (.var 2)) (.cmp .ne (.ix (.var 4) (.var 5)) (.glb "ONE" c_ONE)))) (.cons (.ret (.cst (.bl false))) .nil) (.nil)) (.cons (.ife (.b1 .any (.fr (.comp (.two 6 7) (.enmA (.var 1)) (.yes (.cmp .ne (.var 6) (.var 3))) (.cmp .ne (.ix (.var 7) (.var 5)) (.glb "NOUGHT" c_NOUGHT))))) (.cons (.ret (.cst (.bl false))) .nil) (.nil)) (.cons (.asg 2 (.e (.var 5))) .nil))))
      [.val (.int w), .val (ltD rows), .val (.int a.1), .val (.int (q.2 : Nat)), .val (rwD q.1), a.2, .un, .un] = some (.ok (.rt d), s) ∧ s[0]? = some (.val (.int w))) ∧
    ∀ a', lotStep rows a q = .inr a' → exL (.cons (.asg 5 (.e (.call f_first_index (.cons (.var 4) .nil)))) (.cons (.ife (.or (.cmp .isn (.var 5) (.cst .non)) (.or (.cmp .le (.var 5) (.var 2)) (.cmp .ne (.ix (.var 4) (.var 5)) (.glb "ONE" c_ONE)))) (.cons (.ret (.cst (.bl false))) .nil) (.nil)) (.cons (.ife (.b1 .any (.fr (.comp (.two 6 7) (.enmA (.var 1)) (.yes (.cmp .ne (.var 6) (.var 3))) (.cmp .ne (.ix (.var 7) (.var 5)) (.glb "NOUGHT" c_NOUGHT))))) (.cons (.ret (.cst (.bl false))) .nil) (.nil)) (.cons (.asg 2 (.e (.var 5))) .nil))))
      [.val (.int w), .val (ltD rows), .val (.int a.1), .val (.int (q.2 : Nat)), .val (rwD q.1), a.2, .un, .un] = some (.ok .nx, [.val (.int w), .val (ltD rows), .val (.int a'.1), .val (.int (q.2 : Nat)), .val (rwD q.1), a'.2, .un, .un]) ∧ (a'.2 = .un ∨ ∃ i : Int, a'.2 = .val (.int i)) := by
  obtain ⟨a1, a2⟩ := a
  obtain ⟨r, n⟩ := q
  simp only at hq s5 ⊢
  have fi := first_run [] (r := r) (by omega)
  have asg : ∀ (x : TL) (d : D), leadV r = d → exL (.cons (.asg 5 (.e (.call f_first_index (.cons (.var 4) .nil)))) x) [.val (.int w), .val (ltD rows), .val (.int a1), .val (.int (n : Nat)), .val (rwD r), a2, .un, .un] = exL x [.val (.int w), .val (ltD rows), .val (.int a1), .val (.int (n : Nat)), .val (rwD r), .val d, .un, .un] := fun x d e => by
    rw [e] at fi
    refine exL_nx ?_
    rcases s5 with rfl | ⟨i, rfl⟩ <;> simp [exT, evX, evE, seqD, evT, evL, evC, SG.bnd, SG.ok, SG.opt, slotOf, rd, frz, frzs, frzR, opD, setS, setTg, free, truD, isiD, tyOf, callD, at_fr0, at_fr1, cm_ne_fr, cm_eq_fr, cm_ne_int, cm_gt_int, cm_lt_int, cm_eq_int, cm_ne_str, cm_eq_str, b1_repr, b1_int_bl, b1_tup_lst, b1_int_int, b1_len_tup, b1_len_lst, fl_first_index, fi]
  cases hi : lead r with
  | none =>
    have hs : lotStep rows (a1, a2) (r, n) = .inl (.bl false) := by unfold lotStep; rw [hi]
    rw [hs, asg _ _ (leadV_no hi)]
    refine ⟨fun d h => ?_, fun a' h => (by cases h)⟩
    cases h
    refine ⟨[.val (.int w), .val (ltD rows), .val (.int a1), .val (.int (n : Nat)), .val (rwD r), .val .non, .un, .un], exL_rt ?_, rfl⟩
    rw [exT_if (k := true) (s1 := [.val (.int w), .val (ltD rows), .val (.int a1), .val (.int (n : Nat)), .val (rwD r), .val .non, .un, .un]) (by simp [exT, evX, evE, seqD, evT, evL, evC, SG.bnd, SG.ok, SG.opt, slotOf, rd, frz, frzs, frzR, opD, setS, setTg, free, truD, isiD, tyOf, callD, at_fr0, at_fr1, cm_ne_fr, cm_eq_fr, cm_ne_int, cm_gt_int, cm_lt_int, cm_eq_int, cm_ne_str, cm_eq_str, b1_repr, b1_int_bl, b1_tup_lst, b1_int_int, b1_len_tup, b1_len_lst, isNon]), if_pos rfl]
    exact exL_rt (by simp [exT, evX, evE, seqD, evT, evL, evC, SG.bnd, SG.ok, SG.opt, slotOf, rd, frz, frzs, frzR, opD, setS, setTg, free, truD, isiD, tyOf, callD, at_fr0, at_fr1, cm_ne_fr, cm_eq_fr, cm_ne_int, cm_gt_int, cm_lt_int, cm_eq_int, cm_ne_str, cm_eq_str, b1_repr, b1_int_bl, b1_tup_lst, b1_int_int, b1_len_tup, b1_len_lst])
  | some i =>
    have il := ent_lt (lead_some.mp hi).1
    have ai := at_row il
    rw [asg _ _ (leadV_of hi)]
    have hc := comp_if2 (e := fun p : Row × Nat => .tup [.int (p.2 : Nat), rwD p.1]) (f := fun p => D.bl (!decide (ent p.1 i = 0))) (a := fun p => D.int (p.2 : Nat)) (b := fun p => rwD p.1) (P := fun p => p.1.length = w) (p := fun p => !decide (p.2 = n)) (i := 6) (j := 7) (it := .enmA (.var 1))
      (c := .cmp .ne (.var 6) (.var 3)) (el := .cmp .ne (.ix (.var 7) (.var 5)) (.glb "NOUGHT" c_NOUGHT)) (st := [.val (.int w), .val (ltD rows), .val (.int a1), .val (.int (n : Nat)), .val (rwD r), .val (.int (i : Nat)), .un, .un]) (si := .un) (sj := .un) (qs := rows.zipIdx 0) (by simp [exT, evX, evE, evT, evF, evL, evI, evC, SG.bnd, SG.ok, SG.opt, slotOf, rd, frz, frzs, opD, cmD, b1D, atD, setS, setTg, free, truD, isiD, tyOf, isNon, callD, at0, at1, at2, seqD, nodic, nodics, ltD, ← numbered_map]) rfl rfl (by decide) (by simp; omega) (fun _ => rfl)
      (fun p _ => by
        have : (decide ((p.2 : Int) = (n : Int))) = decide (p.2 = n) := decide_eq_decide.mpr (by omega)
        simp [exT, evX, evE, seqD, evT, evL, evC, SG.bnd, SG.ok, SG.opt, slotOf, rd, frz, frzs, frzR, opD, setS, setTg, free, truD, isiD, tyOf, callD, at_fr0, at_fr1, cm_ne_fr, cm_eq_fr, cm_ne_int, cm_gt_int, cm_lt_int, cm_eq_int, cm_ne_str, cm_eq_str, b1_repr, b1_int_bl, b1_tup_lst, b1_int_int, b1_len_tup, b1_len_lst, this]) (fun p hp _ => by simp [exT, evX, evE, seqD, evT, evL, evC, SG.bnd, SG.ok, SG.opt, slotOf, rd, frz, frzs, frzR, opD, setS, setTg, free, truD, isiD, tyOf, callD, at_fr0, at_fr1, cm_ne_fr, cm_eq_fr, cm_ne_int, cm_gt_int, cm_lt_int, cm_eq_int, cm_ne_str, cm_eq_str, b1_repr, b1_int_bl, b1_tup_lst, b1_int_int, b1_len_tup, b1_len_lst, at_row (show i < p.1.length by omega), nought, cm_ne_q]) (fun p hp => hr _ (List.mem_of_getElem? (zip_get.mp hp))) rfl rfl
    have ha := any_bl (fun p : Row × Nat => !decide (ent p.1 i = 0)) ((rows.zipIdx 0).filter fun p => !decide (p.2 = n))
    change _ = some (D.bl (otherB rows n i)) at ha
    by_cases h1 : (i : Int) ≤ a1 ∨ ent r i ≠ 1
    · have hs : lotStep rows (a1, a2) (r, n) = .inl (.bl false) := by unfold lotStep; rw [hi]; simp only [if_pos h1]
      rw [hs]
      refine ⟨fun d h => ?_, fun a' h => (by cases h)⟩
      cases h
      refine ⟨[.val (.int w), .val (ltD rows), .val (.int a1), .val (.int (n : Nat)), .val (rwD r), .val (.int (i : Nat)), .un, .un], exL_rt ?_, rfl⟩
      rw [exT_if (k := true) (s1 := [.val (.int w), .val (ltD rows), .val (.int a1), .val (.int (n : Nat)), .val (rwD r), .val (.int (i : Nat)), .un, .un]) (by
        by_cases h2 : (i : Int) ≤ a1
        · simp [exT, evX, evE, seqD, evT, evL, evC, SG.bnd, SG.ok, SG.opt, slotOf, rd, frz, frzs, frzR, opD, setS, setTg, free, truD, isiD, tyOf, callD, at_fr0, at_fr1, cm_ne_fr, cm_eq_fr, cm_ne_int, cm_gt_int, cm_lt_int, cm_eq_int, cm_ne_str, cm_eq_str, b1_repr, b1_int_bl, b1_tup_lst, b1_int_int, b1_len_tup, b1_len_lst, isNon, cm_le_int, h2]
        · rcases h1 with h1 | h1
          · exact absurd h1 h2
          · simp [exT, evX, evE, seqD, evT, evL, evC, SG.bnd, SG.ok, SG.opt, slotOf, rd, frz, frzs, frzR, opD, setS, setTg, free, truD, isiD, tyOf, callD, at_fr0, at_fr1, cm_ne_fr, cm_eq_fr, cm_ne_int, cm_gt_int, cm_lt_int, cm_eq_int, cm_ne_str, cm_eq_str, b1_repr, b1_int_bl, b1_tup_lst, b1_int_int, b1_len_tup, b1_len_lst, isNon, cm_le_int, h2, ai, one', cm_ne_q, h1]), if_pos rfl]
      exact exL_rt (by simp [exT, evX, evE, seqD, evT, evL, evC, SG.bnd, SG.ok, SG.opt, slotOf, rd, frz, frzs, frzR, opD, setS, setTg, free, truD, isiD, tyOf, callD, at_fr0, at_fr1, cm_ne_fr, cm_eq_fr, cm_ne_int, cm_gt_int, cm_lt_int, cm_eq_int, cm_ne_str, cm_eq_str, b1_repr, b1_int_bl, b1_tup_lst, b1_int_int, b1_len_tup, b1_len_lst])
    · have h1a : ¬ (i : Int) ≤ a1 := fun z => h1 (.inl z)
      have h1b : ent r i = 1 := Classical.byContradiction fun z => h1 (.inr z)
      have st1 : ∀ x : TL, exL (.cons (.ife (.or (.cmp .isn (.var 5) (.cst .non)) (.or (.cmp .le (.var 5) (.var 2)) (.cmp .ne (.ix (.var 4) (.var 5)) (.glb "ONE" c_ONE)))) (.cons (.ret (.cst (.bl false))) .nil) (.nil)) x) [.val (.int w), .val (ltD rows), .val (.int a1), .val (.int (n : Nat)), .val (rwD r), .val (.int (i : Nat)), .un, .un] = exL x [.val (.int w), .val (ltD rows), .val (.int a1), .val (.int (n : Nat)), .val (rwD r), .val (.int (i : Nat)), .un, .un] := fun x => by
        refine exL_nx ?_
        rw [exT_if (k := false) (s1 := [.val (.int w), .val (ltD rows), .val (.int a1), .val (.int (n : Nat)), .val (rwD r), .val (.int (i : Nat)), .un, .un]) (by simp [exT, evX, evE, seqD, evT, evL, evC, SG.bnd, SG.ok, SG.opt, slotOf, rd, frz, frzs, frzR, opD, setS, setTg, free, truD, isiD, tyOf, callD, at_fr0, at_fr1, cm_ne_fr, cm_eq_fr, cm_ne_int, cm_gt_int, cm_lt_int, cm_eq_int, cm_ne_str, cm_eq_str, b1_repr, b1_int_bl, b1_tup_lst, b1_int_int, b1_len_tup, b1_len_lst, isNon, cm_le_int, h1a, ai, one', cm_ne_q, h1b])]
        simp [exL, exT, evX, evE, seqD, evT, evL, evC, SG.bnd, SG.ok, SG.opt, slotOf, rd, frz, frzs, frzR, opD, setS, setTg, free, truD, isiD, tyOf, callD, at_fr0, at_fr1, cm_ne_fr, cm_eq_fr, cm_ne_int, cm_gt_int, cm_lt_int, cm_eq_int, cm_ne_str, cm_eq_str, b1_repr, b1_int_bl, b1_tup_lst, b1_int_int, b1_len_tup, b1_len_lst]
      rw [st1]
      have tst : evT (.b1 .any (.fr (.comp (.two 6 7) (.enmA (.var 1)) (.yes (.cmp .ne (.var 6) (.var 3))) (.cmp .ne (.ix (.var 7) (.var 5)) (.glb "NOUGHT" c_NOUGHT))))) [.val (.int w), .val (ltD rows), .val (.int a1), .val (.int (n : Nat)), .val (rwD r), .val (.int (i : Nat)), .un, .un] = some (.ok (otherB rows n i), [.val (.int w), .val (ltD rows), .val (.int a1), .val (.int (n : Nat)), .val (rwD r), .val (.int (i : Nat)), .un, .un]) := by
        rw [evT, evE, hc]
        simp only [SG.bnd, SG.ok, SG.opt, rd, ha, truD]
      cases h2 : otherB rows n i with
      | true =>
        have hs : lotStep rows (a1, a2) (r, n) = .inl (.bl false) := by unfold lotStep; rw [hi]; simp only [if_neg h1, if_pos h2]
        rw [hs]
        refine ⟨fun d h => ?_, fun a' h => (by cases h)⟩
        cases h
        refine ⟨[.val (.int w), .val (ltD rows), .val (.int a1), .val (.int (n : Nat)), .val (rwD r), .val (.int (i : Nat)), .un, .un], exL_rt ?_, rfl⟩
        rw [h2] at tst
        rw [exT_if tst, if_pos rfl]
        exact exL_rt (by simp [exT, evX, evE, seqD, evT, evL, evC, SG.bnd, SG.ok, SG.opt, slotOf, rd, frz, frzs, frzR, opD, setS, setTg, free, truD, isiD, tyOf, callD, at_fr0, at_fr1, cm_ne_fr, cm_eq_fr, cm_ne_int, cm_gt_int, cm_lt_int, cm_eq_int, cm_ne_str, cm_eq_str, b1_repr, b1_int_bl, b1_tup_lst, b1_int_int, b1_len_tup, b1_len_lst])
      | false =>
        have hs : lotStep rows (a1, a2) (r, n) = .inr ((i : Int), .val (.int (i : Nat))) := by unfold lotStep; rw [hi]; simp only [if_neg h1, h2, Bool.false_eq_true, if_false]
        rw [hs]
        refine ⟨fun d h => (by cases h), fun a' h => ?_⟩
        cases h
        refine ⟨?_, .inr ⟨_, rfl⟩⟩
        rw [h2] at tst
        rw [exL_nx (s1 := [.val (.int w), .val (ltD rows), .val (.int a1), .val (.int (n : Nat)), .val (rwD r), .val (.int (i : Nat)), .un, .un]) (by rw [exT_if tst]; simp [exL, exT, evX, evE, seqD, evT, evL, evC, SG.bnd, SG.ok, SG.opt, slotOf, rd, frz, frzs, frzR, opD, setS, setTg, free, truD, isiD, tyOf, callD, at_fr0, at_fr1, cm_ne_fr, cm_eq_fr, cm_ne_int, cm_gt_int, cm_lt_int, cm_eq_int, cm_ne_str, cm_eq_str, b1_repr, b1_int_bl, b1_tup_lst, b1_int_int, b1_len_tup, b1_len_lst]),
          exL_nx (s1 := [.val (.int w), .val (ltD rows), .val (.int (i : Nat)), .val (.int (n : Nat)), .val (rwD r), .val (.int (i : Nat)), .un, .un]) (by simp [exT, evX, evE, seqD, evT, evL, evC, SG.bnd, SG.ok, SG.opt, slotOf, rd, frz, frzs, frzR, opD, setS, setTg, free, truD, isiD, tyOf, callD, at_fr0, at_fr1, cm_ne_fr, cm_eq_fr, cm_ne_int, cm_gt_int, cm_lt_int, cm_eq_int, cm_ne_str, cm_eq_str, b1_repr, b1_int_bl, b1_tup_lst, b1_int_int, b1_len_tup, b1_len_lst])]
        exact exL_nil
open Classical in
noncomputable def isLotB (w : Nat) (d : D) : Bool := decide (∃ rows, d = ltD rows ∧ Red w rows)
open Classical in
theorem isLotB_iff {w : Nat} {d : D} : isLotB w d = true ↔ ∃ rows, d = ltD rows ∧ Red w rows := by unfold isLotB; exact decide_eq_true_iff
theorem rwD_inj {r s : Row} (h : rwD r = rwD s) : r = s := by
  unfold rwD at h
  injection h with h
  exact (List.map_inj_right fun a b z => frD_inj z).mp h
theorem ltD_inj {r s : List Row} (h : ltD r = ltD s) : r = s := by
  unfold ltD at h
  injection h with h
  exact (List.map_inj_right fun a b z => rwD_inj z).mp h
theorem isLot_lt {w : Nat} {rows : List Row} : isLotB w (ltD rows) = redB w rows := by
  rw [Bool.eq_iff_iff, isLotB_iff, redB_iff]
  exact ⟨fun ⟨rs, h1, h2⟩ => by rw [ltD_inj h1]; exact h2, fun h => ⟨rows, rfl, h⟩⟩
theorem lot_rows {w : Nat} {rows : List Row} (h : Red w rows) : (rows.map rwD).all (isRowB w) = true := List.all_eq_true.mpr fun d hd => by
  obtain ⟨r, hm, rfl⟩ := List.mem_map.mp hd
  rw [isRow_rw, h.len r hm]
  simp
theorem lot_no {w : Nat} {d : D} (h : ∀ l, d = .tup l → l.all (isRowB w) = false) : isLotB w d = false := by
  cases e : isLotB w d with
  | false => rfl
  | true =>
    obtain ⟨rows, rfl, hr⟩ := isLotB_iff.mp e
    have := h _ rfl
    rw [lot_rows hr] at this
    cases this
theorem isplot_any (es : List D) {w : Nat} (d : D) (hw : w ≤ 1000) (hd : ∀ l, d = .tup l → l.length ≤ 1000) : f_is_plain_lot.run es [.int w, d] = some (.ok (.bl (isLotB w d)), []) := by
  rw [fr_is_plain_lot]
  by_cases ht : ∃ l, d = .tup l
  · obtain ⟨l, rfl⟩ := ht
    have hl := hd l rfl
    have hc := comp_al (e := fun d : D => d) (f := fun q => D.bl (isRowB w q)) (P := fun _ => True) (i := 4) (it := .seqA (.var 1)) (el := .call f_is_plain_row (.cons (.var 0) (.cons (.var 4) .nil))) (st := [.val (.int w), .val (.tup l), .un, .un, .un, .un, .un, .un]) (si := .un) (qs := l) (by simp [exT, evX, evE, evT, evF, evL, evI, evC, SG.bnd, SG.ok, SG.opt, slotOf, rd, frz, frzs, opD, cmD, b1D, atD, setS, setTg, free, truD, isiD, tyOf, isNon, callD, at0, at1, at2, seqD, nodic, nodics]) rfl rfl (by omega)
      (fun q _ => by simp [exT, evX, evE, seqD, evT, evL, evC, SG.bnd, SG.ok, SG.opt, slotOf, rd, frz, frzs, frzR, opD, setS, setTg, free, truD, isiD, tyOf, callD, at_fr0, at_fr1, cm_ne_fr, cm_eq_fr, cm_ne_int, cm_gt_int, cm_lt_int, cm_eq_int, cm_ne_str, cm_eq_str, b1_repr, b1_int_bl, b1_tup_lst, b1_int_int, b1_len_tup, b1_len_lst, fl_is_plain_row, isprow_any _ _ _ (show (w : Int) ≤ 1000 by omega)]) (fun _ _ => trivial)
    cases ha : l.all (isRowB w) with
    | false =>
      have : isLotB w (.tup l) = false := lot_no fun l' e => by cases e; exact ha
      rw [this]
      refine run0 (init := [.val (.int w), .val (.tup l), .un, .un, .un, .un, .un, .un]) rfl (s1 := [.val (.int w), .val (.tup l), .un, .un, .un, .un, .un, .un]) ?_ rfl
      unfold p_is_plain_lot
      refine exL_rt ?_
      rw [exT_if (k := true) (s1 := [.val (.int w), .val (.tup l), .un, .un, .un, .un, .un, .un]) (by simp [exT, evX, evE, seqD, evT, evL, evC, SG.bnd, SG.ok, SG.opt, slotOf, rd, frz, frzs, frzR, opD, setS, setTg, free, truD, isiD, tyOf, callD, at_fr0, at_fr1, cm_ne_fr, cm_eq_fr, cm_ne_int, cm_gt_int, cm_lt_int, cm_eq_int, cm_ne_str, cm_eq_str, b1_repr, b1_int_bl, b1_tup_lst, b1_int_int, b1_len_tup, b1_len_lst, hc, all_bl, ha]), if_pos rfl]
      exact exL_rt (by simp [exT, evX, evE, seqD, evT, evL, evC, SG.bnd, SG.ok, SG.opt, slotOf, rd, frz, frzs, frzR, opD, setS, setTg, free, truD, isiD, tyOf, callD, at_fr0, at_fr1, cm_ne_fr, cm_eq_fr, cm_ne_int, cm_gt_int, cm_lt_int, cm_eq_int, cm_ne_str, cm_eq_str, b1_repr, b1_int_bl, b1_tup_lst, b1_int_int, b1_len_tup, b1_len_lst])
    | true =>
      have f1 : exT (.ife (.or (.not (.isi (.var 1) "tuple")) (.not (.b1 .all (.fr (.comp (.nm 4) (.seqA (.var 1)) .no (.call f_is_plain_row (.cons (.var 0) (.cons (.var 4) .nil)))))))) (.cons (.ret (.cst (.bl false))) .nil) (.nil)) [.val (.int w), .val (.tup l), .un, .un, .un, .un, .un, .un] = some (.ok .nx, [.val (.int w), .val (.tup l), .un, .un, .un, .un, .un, .un]) := by
        rw [exT_if (k := false) (s1 := [.val (.int w), .val (.tup l), .un, .un, .un, .un, .un, .un]) (by simp [exT, evX, evE, seqD, evT, evL, evC, SG.bnd, SG.ok, SG.opt, slotOf, rd, frz, frzs, frzR, opD, setS, setTg, free, truD, isiD, tyOf, callD, at_fr0, at_fr1, cm_ne_fr, cm_eq_fr, cm_ne_int, cm_gt_int, cm_lt_int, cm_eq_int, cm_ne_str, cm_eq_str, b1_repr, b1_int_bl, b1_tup_lst, b1_int_int, b1_len_tup, b1_len_lst, hc, all_bl, ha])]
        simp [exL, exT, evX, evE, seqD, evT, evL, evC, SG.bnd, SG.ok, SG.opt, slotOf, rd, frz, frzs, frzR, opD, setS, setTg, free, truD, isiD, tyOf, callD, at_fr0, at_fr1, cm_ne_fr, cm_eq_fr, cm_ne_int, cm_gt_int, cm_lt_int, cm_eq_int, cm_ne_str, cm_eq_str, b1_repr, b1_int_bl, b1_tup_lst, b1_int_int, b1_len_tup, b1_len_lst]
      obtain ⟨rows, rfl, hr⟩ := rows_rw ha
      rw [List.length_map] at hl
      change exT _ [.val (.int w), .val (ltD rows), .un, .un, .un, .un, .un, .un] = some (.ok .nx, [.val (.int w), .val (ltD rows), .un, .un, .un, .un, .un, .un]) at f1
      change _ = some (Except.ok (D.bl (isLotB w (ltD rows))), [])
      rw [isLot_lt]
      have key := for_ret (e := fun p : Row × Nat => .tup [.int (p.2 : Nat), rwD p.1]) (I := fun a : Int × S => a.2 = .un ∨ ∃ i : Int, a.2 = .val (.int i)) (P := fun p => p.1.length = w) (K := fun s => s[0]? = some (.val (.int w)))
        (body := fun s => exL (.cons (.asg 5 (.e (.call f_first_index (.cons (.var 4) .nil)))) (.cons (.ife (.or (.cmp .isn (.var 5) (.cst .non)) (.or (.cmp .le (.var 5) (.var 2)) (.cmp .ne (.ix (.var 4) (.var 5)) (.glb "ONE" c_ONE)))) (.cons (.ret (.cst (.bl false))) .nil) (.nil)) (.cons (.ife (.b1 .any (.fr (.comp (.two 6 7) (.enmA (.var 1)) (.yes (.cmp .ne (.var 6) (.var 3))) (.cmp .ne (.ix (.var 7) (.var 5)) (.glb "NOUGHT" c_NOUGHT))))) (.cons (.ret (.cst (.bl false))) .nil) (.nil)) (.cons (.asg 2 (.e (.var 5))) .nil)))) s) (tg := .two 3 4)
        (mk := fun a p => [.val (.int w), .val (ltD rows), .val (.int a.1), .val (.int (p.2 : Nat)), .val (rwD p.1), a.2, .un, .un]) (m0 := fun a => [.val (.int w), .val (ltD rows), .val (.int a.1), .un, .un, a.2, .un, .un]) (step := lotStep rows)
        (fun a q => by simp [setTg, free]) (fun a y q => by simp [setTg, free]) (fun a q ha hq => plot_body hr hw hl a ha q hq) (rows.zipIdx 0) (-1, .un) [.val (.int w), .val (ltD rows), .val (.int (-1)), .un, .un, .un, .un, .un] (.inl rfl) (fun p hp => hr _ (List.mem_of_getElem? (zip_get.mp hp))) (.inl rfl)
      have hit : evI (.enmA (.var 1)) [.val (.int w), .val (ltD rows), .val (.int (-1)), .un, .un, .un, .un, .un] = some (.ok ((rows.zipIdx 0).map fun p => .tup [.int (p.2 : Nat), rwD p.1]), [.val (.int w), .val (ltD rows), .val (.int (-1)), .un, .un, .un, .un, .un]) := by simp [exT, evX, evE, evT, evF, evL, evI, evC, SG.bnd, SG.ok, SG.opt, slotOf, rd, frz, frzs, opD, cmD, b1D, atD, setS, setTg, free, truD, isiD, tyOf, isNon, callD, at0, at1, at2, seqD, nodic, nodics, ltD, ← numbered_map]
      obtain ⟨d1, d2⟩ := lot_dec hr
      cases hb : redB w rows with
      | true =>
        obtain ⟨a', ha'⟩ := d1 hb
        obtain ⟨st', h1, h2⟩ := key.2 a' ha'
        have e0 : st'[0]? = some (.val (.int w)) := by rcases h2 with rfl | ⟨y, rfl⟩ <;> rfl
        refine run0 (init := [.val (.int w), .val (ltD rows), .un, .un, .un, .un, .un, .un]) rfl (s1 := st') ?_ (by rw [e0])
        unfold p_is_plain_lot
        rw [exL_nx f1, exL_nx (s1 := [.val (.int w), .val (ltD rows), .val (.int (-1)), .un, .un, .un, .un, .un]) (by simp [exT, evX, evE, seqD, evT, evL, evC, SG.bnd, SG.ok, SG.opt, slotOf, rd, frz, frzs, frzR, opD, setS, setTg, free, truD, isiD, tyOf, callD, at_fr0, at_fr1, cm_ne_fr, cm_eq_fr, cm_ne_int, cm_gt_int, cm_lt_int, cm_eq_int, cm_ne_str, cm_eq_str, b1_repr, b1_int_bl, b1_tup_lst, b1_int_int, b1_len_tup, b1_len_lst, ltD]), exL_nx (s1 := st') (by rw [exT_for hit (by simp; omega)]; exact h1)]
        exact exL_rt (by simp [exT, evX, evE, seqD, evT, evL, evC, SG.bnd, SG.ok, SG.opt, slotOf, rd, frz, frzs, frzR, opD, setS, setTg, free, truD, isiD, tyOf, callD, at_fr0, at_fr1, cm_ne_fr, cm_eq_fr, cm_ne_int, cm_gt_int, cm_lt_int, cm_eq_int, cm_ne_str, cm_eq_str, b1_repr, b1_int_bl, b1_tup_lst, b1_int_int, b1_len_tup, b1_len_lst])
      | false =>
        obtain ⟨st', h1, h2⟩ := key.1 _ (d2 hb)
        refine run0 (init := [.val (.int w), .val (ltD rows), .un, .un, .un, .un, .un, .un]) rfl (s1 := st') ?_ (by rw [h2])
        unfold p_is_plain_lot
        rw [exL_nx f1, exL_nx (s1 := [.val (.int w), .val (ltD rows), .val (.int (-1)), .un, .un, .un, .un, .un]) (by simp [exT, evX, evE, seqD, evT, evL, evC, SG.bnd, SG.ok, SG.opt, slotOf, rd, frz, frzs, frzR, opD, setS, setTg, free, truD, isiD, tyOf, callD, at_fr0, at_fr1, cm_ne_fr, cm_eq_fr, cm_ne_int, cm_gt_int, cm_lt_int, cm_eq_int, cm_ne_str, cm_eq_str, b1_repr, b1_int_bl, b1_tup_lst, b1_int_int, b1_len_tup, b1_len_lst, ltD])]
        exact exL_rt (by rw [exT_for hit (by simp; omega)]; exact h1)
  · have hn : isLotB w d = false := lot_no fun l e => absurd ⟨l, e⟩ ht
    rw [hn]
    refine run0 (init := [.val (.int w), .val d, .un, .un, .un, .un, .un, .un]) rfl (s1 := [.val (.int w), .val d, .un, .un, .un, .un, .un, .un]) ?_ rfl
    unfold p_is_plain_lot
    refine exL_rt ?_
    rw [exT_if (k := true) (s1 := [.val (.int w), .val d, .un, .un, .un, .un, .un, .un]) (by cases d <;> first | exact absurd ⟨_, rfl⟩ ht | simp [exT, evX, evE, seqD, evT, evL, evC, SG.bnd, SG.ok, SG.opt, slotOf, rd, frz, frzs, frzR, opD, setS, setTg, free, truD, isiD, tyOf, callD, at_fr0, at_fr1, cm_ne_fr, cm_eq_fr, cm_ne_int, cm_gt_int, cm_lt_int, cm_eq_int, cm_ne_str, cm_eq_str, b1_repr, b1_int_bl, b1_tup_lst, b1_int_int, b1_len_tup, b1_len_lst]), if_pos rfl]
    exact exL_rt (by simp [exT, evX, evE, seqD, evT, evL, evC, SG.bnd, SG.ok, SG.opt, slotOf, rd, frz, frzs, frzR, opD, setS, setTg, free, truD, isiD, tyOf, callD, at_fr0, at_fr1, cm_ne_fr, cm_eq_fr, cm_ne_int, cm_gt_int, cm_lt_int, cm_eq_int, cm_ne_str, cm_eq_str, b1_repr, b1_int_bl, b1_tup_lst, b1_int_int, b1_len_tup, b1_len_lst])
/-- the numbers of any row are in bounds -/
theorem rf_rw {n : Nat} {r : Row} (h : RF n (rwD r)) : RB n r := fun q hq => h _ rfl (frD q) (List.mem_map.mpr ⟨q, hq, rfl⟩) _ _ rfl
theorem notin_leads : ∀ rows : List Row, (rows.map leadV).any (fun z => eqD z .non) = !rows.all (fun r => (lead r).isSome)
  | [] => rfl
  | r :: rows => by
    rw [List.map_cons, List.any_cons, List.all_cons, notin_leads rows, Bool.not_and]
    congr 1
    unfold leadV eqD
    cases lead r <;> simp [D.toP, PyData.eqv]
theorem lislot_any (es : List D) {w R N M n : Nat} (F : Fit w R N M) (hR : 2 ^ (n * (w + 1)) ≤ R) (hn : n ≤ 8000) {d : D} (hd : ∀ l, d = .tup l → l.length ≤ 1000) (hb : TF n d) : f_law_is_lot.run es [.int w, d] = some (.ok (.bl (isLotB w d)), []) := by
  rw [fr_law_is_lot]
  have hw := F.w
  by_cases ht : ∃ l, d = .tup l
  · obtain ⟨l, rfl⟩ := ht
    have hl := hd l rfl
    have hc := (ones_run (p := isRowB w) (P := RF 8000) (i := 2) (it := .seqA (.var 1)) (c := .not (.call f_law_is_row (.cons (.var 0) (.cons (.var 2) .nil)))) (st := [.val (.int w), .val (.tup l), .un]) (si := .un) (l := l) (by simp [exT, evX, evE, evT, evF, evL, evI, evC, SG.bnd, SG.ok, SG.opt, slotOf, rd, frz, frzs, opD, cmD, b1D, atD, setS, setTg, free, truD, isiD, tyOf, isNon, callD, at0, at1, at2, seqD, nodic, nodics]) rfl rfl (by omega)
      (fun q h => by simp [exT, evX, evE, seqD, evT, evL, evC, SG.bnd, SG.ok, SG.opt, slotOf, rd, frz, frzs, frzR, opD, setS, setTg, free, truD, isiD, tyOf, callD, at_fr0, at_fr1, cm_ne_fr, cm_eq_fr, cm_ne_int, cm_gt_int, cm_lt_int, cm_eq_int, cm_ne_str, cm_eq_str, b1_repr, b1_int_bl, b1_tup_lst, b1_int_int, b1_len_tup, b1_len_lst, fl_law_is_row, lisrow_any _ _ h (show (w : Int) ≤ 1000 by omega)]) (fun x hx => (hb l rfl x hx).mono hn)).2.1
    have tst : evT (.or (.not (.isi (.var 1) "tuple")) (.cmp .ne (.fr (.comp (.nm 2) (.seqA (.var 1)) (.yes (.not (.call f_law_is_row (.cons (.var 0) (.cons (.var 2) .nil))))) (.cst (.int 1)))) (.fr (.disp .nil)))) [.val (.int w), .val (.tup l), .un] = some (.ok (!l.all (isRowB w)), [.val (.int w), .val (.tup l), .un]) := by
      rw [evT, show evT (.not (.isi (.var 1) "tuple")) [.val (.int w), .val (.tup l), .un] = some (.ok false, [.val (.int w), .val (.tup l), .un]) from by simp [exT, evX, evE, seqD, evT, evL, evC, SG.bnd, SG.ok, SG.opt, slotOf, rd, frz, frzs, frzR, opD, setS, setTg, free, truD, isiD, tyOf, callD, at_fr0, at_fr1, cm_ne_fr, cm_eq_fr, cm_ne_int, cm_gt_int, cm_lt_int, cm_eq_int, cm_ne_str, cm_eq_str, b1_repr, b1_int_bl, b1_tup_lst, b1_int_int, b1_len_tup, b1_len_lst]]
      exact hc
    cases ha : l.all (isRowB w) with
    | false =>
      have : isLotB w (.tup l) = false := lot_no fun l' e => by cases e; exact ha
      rw [this]
      rw [ha] at tst
      refine run0 (init := [.val (.int w), .val (.tup l), .un]) rfl (s1 := [.val (.int w), .val (.tup l), .un]) ?_ rfl
      unfold p_law_is_lot
      refine exL_rt ?_
      rw [exT_if tst]
      show (if true = true then _ else _) = _
      rw [if_pos rfl]
      exact exL_rt (by simp [exT, evX, evE, seqD, evT, evL, evC, SG.bnd, SG.ok, SG.opt, slotOf, rd, frz, frzs, frzR, opD, setS, setTg, free, truD, isiD, tyOf, callD, at_fr0, at_fr1, cm_ne_fr, cm_eq_fr, cm_ne_int, cm_gt_int, cm_lt_int, cm_eq_int, cm_ne_str, cm_eq_str, b1_repr, b1_int_bl, b1_tup_lst, b1_int_int, b1_len_tup, b1_len_lst])
    | true =>
      rw [ha] at tst
      obtain ⟨rows, rfl, hr⟩ := rows_rw ha
      rw [List.length_map] at hl
      change evT _ [.val (.int w), .val (ltD rows), .un] = some (.ok (!true), [.val (.int w), .val (ltD rows), .un]) at tst
      change _ = some (Except.ok (D.bl (isLotB w (ltD rows))), [])
      rw [isLot_lt]
      have rb : ∀ r ∈ rows, RB n r := fun r hm => rf_rw (hb _ rfl (rwD r) (List.mem_map.mpr ⟨r, hm, rfl⟩))
      have nr : ∀ r ∈ rows, r.length = w ∧ Nrm R r := fun r hm => ⟨hr r hm, (rb_nrm (rb r hm)).mono (by rw [hr r hm]; exact hR)⟩
      have c1 := comp_al (e := rwD) (f := leadV) (P := fun r => r.length = w) (i := 2) (it := .seqA (.var 1)) (el := .call f_law_lead (.cons (.var 2) .nil)) (st := [.val (.int w), .val (ltD rows), .un]) (si := .un) (qs := rows) (by simp [exT, evX, evE, evT, evF, evL, evI, evC, SG.bnd, SG.ok, SG.opt, slotOf, rd, frz, frzs, opD, cmD, b1D, atD, setS, setTg, free, truD, isiD, tyOf, isNon, callD, at0, at1, at2, seqD, nodic, nodics, ltD]) rfl rfl (by omega)
        (fun r hr => by simp [exT, evX, evE, seqD, evT, evL, evC, SG.bnd, SG.ok, SG.opt, slotOf, rd, frz, frzs, frzR, opD, setS, setTg, free, truD, isiD, tyOf, callD, at_fr0, at_fr1, cm_ne_fr, cm_eq_fr, cm_ne_int, cm_gt_int, cm_lt_int, cm_eq_int, cm_ne_str, cm_eq_str, b1_repr, b1_int_bl, b1_tup_lst, b1_int_int, b1_len_tup, b1_len_lst, fl_law_lead, llead_run _ (show r.length ≤ 1000 by omega)]) hr
      have cdl : ∀ d ∈ rows.map leadV, Cd d 0 := fun d hd => by
        obtain ⟨r, _, rfl⟩ := List.mem_map.mp hd
        unfold leadV
        cases lead r
        · exact cd_non _
        · exact cd_int _ _
      have ni : cmD .notin .non (.lst (rows.map leadV)) = some (rows.all fun r => (lead r).isSome) := by
        have s1 := cd_shp (cd_non 0) (by decide)
        have s2 := cd_shp (cd_lst cdl) (by decide)
        simp only [cmD, s1, s2, Bool.and_self, if_true, notin_leads, Bool.not_not]
      have e1 : evE (.cmp .notin (.cst .non) (.fr (.comp (.nm 2) (.seqA (.var 1)) .no (.call f_law_lead (.cons (.var 2) .nil))))) [.val (.int w), .val (ltD rows), .un] = some (.ok (.v (.bl (rows.all fun r => (lead r).isSome))), [.val (.int w), .val (ltD rows), .un]) := by
        rw [evE]
        · simp only [evE, SG.bnd, SG.ok, SG.opt, rd, c1, ni]
        all_goals (intros; first | contradiction | (rename_i z; cases z) | skip)
      have e2 : evE (.cmp .eq (.call f_law_lot (.cons (.var 1) .nil)) (.var 1)) [.val (.int w), .val (ltD rows), .un] = some (.ok (.v (.bl (decide (spanR rows = rows)))), [.val (.int w), .val (ltD rows), .un]) := by
        simp [exT, evX, evE, seqD, evT, evL, evC, SG.bnd, SG.ok, SG.opt, slotOf, rd, frz, frzs, frzR, opD, setS, setTg, free, truD, isiD, tyOf, callD, at_fr0, at_fr1, cm_ne_fr, cm_eq_fr, cm_ne_int, cm_gt_int, cm_lt_int, cm_eq_int, cm_ne_str, cm_eq_str, b1_repr, b1_int_bl, b1_tup_lst, b1_int_int, b1_len_tup, b1_len_lst, fl_law_lot, llot_run [] F (d0 := ltD rows) rfl nr (by omega), cm_eq_lt]
      have fin : ((rows.all fun r => (lead r).isSome) && decide (spanR rows = rows)) = redB w rows := by
        rw [Bool.eq_iff_iff, redB_iff, Bool.and_eq_true, decide_eq_true_eq]
        constructor
        · rintro ⟨_, h⟩
          rw [← h]
          exact span_red hr
        · intro h
          refine ⟨List.all_eq_true.mpr fun r hm => ?_, span_red_id h⟩
          rw [(h.one r hm).1]
          rfl
      have e3 : evE (.and (.cmp .notin (.cst .non) (.fr (.comp (.nm 2) (.seqA (.var 1)) .no (.call f_law_lead (.cons (.var 2) .nil))))) (.cmp .eq (.call f_law_lot (.cons (.var 1) .nil)) (.var 1))) [.val (.int w), .val (ltD rows), .un] = some (.ok (.v (.bl (redB w rows))), [.val (.int w), .val (ltD rows), .un]) := by
        rw [← fin]
        cases hx : rows.all fun r => (lead r).isSome with
        | true =>
          rw [hx] at e1
          rw [and_tt e1, e2]
          rfl
        | false =>
          rw [hx] at e1
          rw [evE, e1]
          rfl
      refine run0 (init := [.val (.int w), .val (ltD rows), .un]) rfl (s1 := [.val (.int w), .val (ltD rows), .un]) ?_ rfl
      unfold p_law_is_lot
      rw [exL_nx (s1 := [.val (.int w), .val (ltD rows), .un]) (by rw [exT_if tst]; simp [exL, exT, evX, evE, seqD, evT, evL, evC, SG.bnd, SG.ok, SG.opt, slotOf, rd, frz, frzs, frzR, opD, setS, setTg, free, truD, isiD, tyOf, callD, at_fr0, at_fr1, cm_ne_fr, cm_eq_fr, cm_ne_int, cm_gt_int, cm_lt_int, cm_eq_int, cm_ne_str, cm_eq_str, b1_repr, b1_int_bl, b1_tup_lst, b1_int_int, b1_len_tup, b1_len_lst])]
      refine exL_rt ?_
      rw [exT, e3]
      rfl
  · have hn : isLotB w d = false := lot_no fun l e => absurd ⟨l, e⟩ ht
    rw [hn]
    refine run0 (init := [.val (.int w), .val d, .un]) rfl (s1 := [.val (.int w), .val d, .un]) ?_ rfl
    unfold p_law_is_lot
    refine exL_rt ?_
    rw [exT_if (k := true) (s1 := [.val (.int w), .val d, .un]) (by cases d <;> first | exact absurd ⟨_, rfl⟩ ht | simp [exT, evX, evE, seqD, evT, evL, evC, SG.bnd, SG.ok, SG.opt, slotOf, rd, frz, frzs, frzR, opD, setS, setTg, free, truD, isiD, tyOf, callD, at_fr0, at_fr1, cm_ne_fr, cm_eq_fr, cm_ne_int, cm_gt_int, cm_lt_int, cm_eq_int, cm_ne_str, cm_eq_str, b1_repr, b1_int_bl, b1_tup_lst, b1_int_int, b1_len_tup, b1_len_lst]), if_pos rfl]
    exact exL_rt (by simp [exT, evX, evE, seqD, evT, evL, evC, SG.bnd, SG.ok, SG.opt, slotOf, rd, frz, frzs, frzR, opD, setS, setTg, free, truD, isiD, tyOf, callD, at_fr0, at_fr1, cm_ne_fr, cm_eq_fr, cm_ne_int, cm_gt_int, cm_lt_int, cm_eq_int, cm_ne_str, cm_eq_str, b1_repr, b1_int_bl, b1_tup_lst, b1_int_int, b1_len_tup, b1_len_lst])
theorem islot_any (es : List D) {w : Nat} (d : D) (h : w ≤ 144) (hd : ∀ l, d = .tup l → l.length ≤ 1000) : f_is_lot.run es [.int w, d] = some (.ok (.bl (isLotB w d)), []) := by
  rw [fr_is_lot]
  refine run0 rfl (s1 := [.val (.int w), .val d]) ?_ rfl
  unfold p_is_lot
  rw [exL_nx (s1 := [.val (.int w), .val d]) (by simp [exT, evX, evE, seqD, evT, evL, evC, SG.bnd, SG.ok, SG.opt, slotOf, rd, frz, frzs, frzR, opD, setS, setTg, free, truD, isiD, tyOf, callD, at_fr0, at_fr1, cm_ne_fr, cm_eq_fr, cm_ne_int, cm_gt_int, cm_lt_int, cm_eq_int, cm_ne_str, cm_eq_str, b1_repr, b1_int_bl, b1_tup_lst, b1_int_int, b1_len_tup, b1_len_lst, fl_require_width, reqw_run _ (show (0 : Int) ≤ w by omega) (show (w : Int) ≤ 144 by omega)])]
  exact exL_rt (by simp [exT, evX, evE, seqD, evT, evL, evC, SG.bnd, SG.ok, SG.opt, slotOf, rd, frz, frzs, frzR, opD, setS, setTg, free, truD, isiD, tyOf, callD, at_fr0, at_fr1, cm_ne_fr, cm_eq_fr, cm_ne_int, cm_gt_int, cm_lt_int, cm_eq_int, cm_ne_str, cm_eq_str, b1_repr, b1_int_bl, b1_tup_lst, b1_int_int, b1_len_tup, b1_len_lst, fl_is_plain_lot, isplot_any _ _ (show w ≤ 1000 by omega) hd])
end B
namespace B
open PySem SG Gn LT
/-! ### drawn rows -/
theorem rng_ev {a : E} {st : List S} {w : Nat} (ha : evE a st = some (.ok (.v (.int w)), st)) (hw : w ≤ 100000) : evI (.rng1 a) st = some (.ok ((List.range w).map fun (i : Nat) => D.int i), st) := by
  rw [evI, ha]
  show (if _ then _ else _) = _
  rw [if_pos (by omega)]
  unfold rngD
  simp [SG.ok]
/-- one of some numbers -/
def Sm (L : List D) (s : S) : Prop := s = .own false L ∨ s = .val (.lst L)
/-- tuple([tuple([pick(dice, some) for at in range(width)]) for line in range(height)]) : slots dice 0, height 1, width 2, some 3, line 4, at 5 -/
theorem drawn_ev {L : List D} {P : Rat → Prop} (hL : ∀ d ∈ L, ∃ q, d = frD q ∧ P q) (hne : L ≠ []) (hlen : L.length ≤ 1000) {ds : List D} (hd : Dc ds) {h w : Nat} (hh : h ≤ 1000) (hw : w ≤ 1000) :
    ∃ (t : List Row) (ds' : List D) (s3 : S), evE (.b1 .tup (.fr (.comp (.nm 4) (.rng1 (.var 1)) .no (.b1 .tup (.fr (.comp (.nm 5) (.rng1 (.var 2)) .no (.call f_law_pick (.cons (.var 0) (.cons (.var 3) .nil))))))))) [.own true ds, .val (.int h), .val (.int w), .own false L, .un, .un] =
      some (.ok (.v (ltD t)), [.own true ds', .val (.int h), .val (.int w), s3, .un, .un]) ∧ Dc ds' ∧ t.length = h ∧ ∀ r ∈ t, r.length = w ∧ ∀ q ∈ r, P q := by
  have inner : ∀ (d : List D) (sm s4 : S), Dc d → Sm L sm → ∃ r d' sm', frzR (evE (.b1 .tup (.fr (.comp (.nm 5) (.rng1 (.var 2)) .no (.call f_law_pick (.cons (.var 0) (.cons (.var 3) .nil)))))) [.own true d, .val (.int h), .val (.int w), sm, s4, .un]) = some (.ok (rwD r), [.own true d', .val (.int h), .val (.int w), sm', s4, .un]) ∧
      (Dc d' ∧ Sm L sm') ∧ (r.length = w ∧ ∀ q ∈ r, P q) := fun d sm s4 hd hsm => by
    obtain ⟨es, a', s', k1, k2, k3, k4⟩ := turns_thread (α := List D × S) (I := fun a => Dc a.1 ∧ Sm L a.2) (Pd := fun d => ∃ q, d = frD q ∧ P q) (tg := .nm 5) (test := fun s => evC .no s) (elt := fun s => frzR (evE (.call f_law_pick (.cons (.var 0) (.cons (.var 3) .nil))) s)) (M := fun a s => [.own true a.1, .val (.int h), .val (.int w), a.2, s4, s])
      (fun a s x => by simp [setTg, free, wipeS, Tg.slots]) (fun _ => rfl) (fun a s ha => by
        obtain ⟨x, hx, d1, h1, hd1⟩ := pick_run ha.1 (its := L) hne hlen
        refine ⟨x, (d1, .val (.lst L)), ?_, ⟨hd1, .inr rfl⟩, hL x hx⟩
        rcases ha.2 with e | e
        · simp [exT, evX, evE, seqD, evT, evL, evC, SG.bnd, SG.ok, SG.opt, slotOf, rd, frz, frzs, frzR, opD, setS, setTg, free, truD, isiD, tyOf, callD, at_fr0, at_fr1, cm_ne_fr, cm_eq_fr, cm_ne_int, cm_gt_int, cm_lt_int, cm_eq_int, cm_ne_str, cm_eq_str, b1_repr, b1_int_bl, b1_tup_lst, b1_int_int, b1_len_tup, b1_len_lst, e, fl_law_pick, h1]
        · simp [exT, evX, evE, seqD, evT, evL, evC, SG.bnd, SG.ok, SG.opt, slotOf, rd, frz, frzs, frzR, opD, setS, setTg, free, truD, isiD, tyOf, callD, at_fr0, at_fr1, cm_ne_fr, cm_eq_fr, cm_ne_int, cm_gt_int, cm_lt_int, cm_eq_int, cm_ne_str, cm_eq_str, b1_repr, b1_int_bl, b1_tup_lst, b1_int_int, b1_len_tup, b1_len_lst, e, fl_law_pick, h1]) ((List.range w).map fun (i : Nat) => D.int i) (d, sm) .un ⟨hd, hsm⟩
    obtain ⟨qs, rfl, hqs⟩ := all_of k4
    refine ⟨qs, a'.1, a'.2, ?_, k2, by simpa using k3, hqs⟩
    have hc : evF (.comp (.nm 5) (.rng1 (.var 2)) .no (.call f_law_pick (.cons (.var 0) (.cons (.var 3) .nil)))) [.own true d, .val (.int h), .val (.int w), sm, s4, .un] = some (.ok (qs.map frD), [.own true a'.1, .val (.int h), .val (.int w), a'.2, s4, .un]) := by
      rw [evF.eq_2, rng_ev (w := w) (by simp [evE, slotOf, SG.ok]) (by omega)]
      show (if _ then _ else _) = _
      rw [if_pos (by simp [Tg.slots, plainAt]; omega), k1]
      simp [restore, Tg.slots, SG.ok]
    simp [frzR, evE, SG.bnd, SG.ok, SG.opt, rd, frz, b1_tup_lst, hc, rwD]
  obtain ⟨es, a', s', k1, k2, k3, k4⟩ := turns_thread (α := List D × S) (I := fun a => Dc a.1 ∧ Sm L a.2) (Pd := fun d => ∃ r, d = rwD r ∧ (r.length = w ∧ ∀ q ∈ r, P q)) (tg := .nm 4) (test := fun s => evC .no s) (elt := fun s => frzR (evE (.b1 .tup (.fr (.comp (.nm 5) (.rng1 (.var 2)) .no (.call f_law_pick (.cons (.var 0) (.cons (.var 3) .nil)))))) s)) (M := fun a s => [.own true a.1, .val (.int h), .val (.int w), a.2, s, .un])
    (fun a s x => by simp [setTg, free, wipeS, Tg.slots]) (fun _ => rfl) (fun a s ha => by
      obtain ⟨r, d', sm', j1, j2, j3⟩ := inner a.1 a.2 s ha.1 ha.2
      exact ⟨_, (d', sm'), j1, j2, r, rfl, j3⟩) ((List.range h).map fun (i : Nat) => D.int i) (ds, .own false L) .un ⟨hd, .inl rfl⟩
  obtain ⟨t, rfl, ht⟩ := all_of k4
  have hc : evF (.comp (.nm 4) (.rng1 (.var 1)) .no (.b1 .tup (.fr (.comp (.nm 5) (.rng1 (.var 2)) .no (.call f_law_pick (.cons (.var 0) (.cons (.var 3) .nil))))))) [.own true ds, .val (.int h), .val (.int w), .own false L, .un, .un] = some (.ok (t.map rwD), [.own true a'.1, .val (.int h), .val (.int w), a'.2, .un, .un]) := by
    rw [evF.eq_2, rng_ev (w := h) (by simp [evE, slotOf, SG.ok]) (by omega)]
    show (if _ then _ else _) = _
    rw [if_pos (by simp [Tg.slots, plainAt]; omega), k1]
    simp [restore, Tg.slots, SG.ok]
  exact ⟨t, a'.1, a'.2, by simp [evE, SG.bnd, SG.ok, SG.opt, rd, b1_tup_lst, hc, ltD], k2.1, by simpa using k3, ht⟩
/-! ### all ints in data are in bounds -/
mutual
def FinD (n : Nat) : D → Prop
  | .int i => Bd n i
  | .tup l => FinsD n l
  | .lst l => FinsD n l
  | _ => True
def FinsD (n : Nat) : List D → Prop
  | [] => True
  | d :: r => FinD n d ∧ FinsD n r
end
theorem fins_iff {n : Nat} : ∀ {l : List D}, FinsD n l ↔ ∀ d ∈ l, FinD n d
  | [] => ⟨fun _ _ z => (nomatch z), fun _ => trivial⟩
  | d :: l => by
    unfold FinsD
    rw [fins_iff (l := l)]
    simp
theorem fin_tup {n : Nat} {l : List D} : FinD n (.tup l) ↔ ∀ d ∈ l, FinD n d := by
  rw [show FinD n (.tup l) = FinsD n l from by unfold FinD; rfl]
  exact fins_iff
theorem fin_lst {n : Nat} {l : List D} : FinD n (.lst l) ↔ ∀ d ∈ l, FinD n d := by
  rw [show FinD n (.lst l) = FinsD n l from by unfold FinD; rfl]
  exact fins_iff
theorem FinD.nf {n : Nat} {d : D} (h : FinD n d) : NF n d := fun a b e => by
  subst e
  have := fin_tup.mp h
  have h1 := this (.int a) (by simp)
  have h2 := this (.int b) (by simp)
  unfold FinD at h1 h2
  exact ⟨h1, h2⟩
theorem FinD.rf {n : Nat} {d : D} (h : FinD n d) : RF n d := fun l e x hx => by
  subst e
  exact (fin_tup.mp h x hx).nf
theorem FinD.tf {n : Nat} {d : D} (h : FinD n d) : TF n d := fun l e x hx => by
  subst e
  exact (fin_tup.mp h x hx).rf
theorem fin_fr {n : Nat} {q : Rat} (h : FB n q) : FinD n (frD q) := fin_tup.mpr fun d hd => by
  simp only [List.mem_cons, List.not_mem_nil, or_false] at hd
  rcases hd with rfl | rfl
  · unfold FinD; exact h.1
  · unfold FinD; exact h.2
theorem fin_rw {n : Nat} {r : Row} (h : RB n r) : FinD n (rwD r) := fin_tup.mpr fun d hd => by
  obtain ⟨q, hq, rfl⟩ := List.mem_map.mp hd
  exact fin_fr (h q hq)
theorem fin_lt {n : Nat} {t : List Row} (h : ∀ r ∈ t, RB n r) : FinD n (ltD t) := fin_tup.mpr fun d hd => by
  obtain ⟨q, hq, rfl⟩ := List.mem_map.mp hd
  exact fin_rw (h q hq)
theorem cut_mem {l : List D} {lo hi : Option Int} {d : D} (h : d ∈ cutD l lo hi) : d ∈ l := List.mem_of_mem_drop (List.mem_of_mem_take h)
theorem cut_len {l : List D} {lo hi : Option Int} : (cutD l lo hi).length ≤ l.length := by
  unfold cutD
  rw [List.length_take, List.length_drop]
  omega
/-! ### the law's loop over the spots of a script -/
theorem spots_run {f : Fn} (hf : f.lend = true ∧ f.fresh = false ∧ f.many = 1) (hr : ∀ ds, Dc ds → ∃ zs, f.run ds [] = some (.ok (.bl true), zs)) (ns : List Int) (r : List S) (hr1 : r[0]? = some .un) : ∀ (its : List Nat) (s1 : S), Fr s1 → ∃ s1', loopT (.nm 1) (fun s => exL (.cons (.ife (.not (.callT f (.callF f_law_dice (.cons (.var 0) (.cons (.var 1) .nil))))) (.cons (.ret (.cst (.bl false))) .nil) (.nil)) .nil) s) (its.map fun (i : Nat) => D.int (0 + (i : Int))) (.val (.lst (ns.map D.int)) :: s1 :: r) =
    SG.ok .nx (.val (.lst (ns.map D.int)) :: s1' :: r) ∧ Fr s1'
  | [], s1, f1 => ⟨s1, rfl, f1⟩
  | k :: its, s1, f1 => by
    obtain ⟨ds, h1, hd⟩ := dice_run ns k
    obtain ⟨zs, h2⟩ := hr ds hd
    obtain ⟨u1, h3, k1⟩ := spots_run hf hr ns r hr1 its (.val (.int k)) (.inr (.inl ⟨_, rfl⟩))
    refine ⟨u1, ?_, k1⟩
    have fr1 : free (.val (.lst (ns.map D.int)) :: s1 :: r) 1 = true := free_of rfl f1
    rw [List.map_cons]
    unfold loopT
    rw [show setTg (.val (.lst (ns.map D.int)) :: s1 :: r) (.nm 1) (.int (0 + (k : Int))) = some (.val (.lst (ns.map D.int)) :: .val (.int (k : Int)) :: r) from by rw [set_nm fr1, Int.zero_add]; rfl]
    dsimp only
    have e0 : evT (.not (.callT f (.callF f_law_dice (.cons (.var 0) (.cons (.var 1) .nil))))) (.val (.lst (ns.map D.int)) :: .val (.int (k : Int)) :: r) = some (.ok false, .val (.lst (ns.map D.int)) :: .val (.int (k : Int)) :: r) := by
      simp [exT, evX, evE, evT, evF, evL, evI, evC, SG.bnd, SG.ok, SG.opt, slotOf, rd, frz, frzs, opD, cmD, b1D, atD, setS, setTg, free, truD, isiD, tyOf, isNon, callD, at0, at1, at2, seqD, nodic, nodics, fl_law_dice, h1, lentD, hf, h2]
    rw [exL_nx (s1 := .val (.lst (ns.map D.int)) :: .val (.int (k : Int)) :: r) (by rw [exT_if e0]; simp [exL, SG.ok]), exL_nil]
    exact h3
theorem spots_rng (c : Int) (hc : 1 ≤ c) (hc2 : c ≤ 100) (ns : List Int) (r : List S) : ∃ m : Nat, m ≤ 100 ∧ evI (.rng1 (.max2 (.cst (.int 1)) (.min2 (.cst (.int c)) (.b1 .len (.var 0))))) (.val (.lst (ns.map D.int)) :: r) = some (.ok (rngD 0 m), .val (.lst (ns.map D.int)) :: r) := by
  obtain ⟨v, hv⟩ : ∃ v : Int, v = (if (if (ns.length : Int) < c then (ns.length : Int) else c) > 1 then (if (ns.length : Int) < c then (ns.length : Int) else c) else 1) := ⟨_, rfl⟩
  have v0 : 1 ≤ v ∧ v ≤ 100 := by rw [hv]; split <;> split <;> omega
  refine ⟨v.toNat, by omega, ?_⟩
  have e1 : (-100000 : Int) ≤ v ∧ v ≤ 100000 := by omega
  have e2 : evE (.max2 (.cst (.int 1)) (.min2 (.cst (.int c)) (.b1 .len (.var 0)))) (.val (.lst (ns.map D.int)) :: r) = some (.ok (.v (.int v)), .val (.lst (ns.map D.int)) :: r) := by
    rw [hv]
    simp [evE, SG.bnd, SG.ok, SG.opt, slotOf, rd, b1D]
  rw [evI.eq_1, e2]
  show (if _ then _ else _) = _
  rw [if_pos e1]
  rfl
end B
namespace B
open PySem SG Gn LT
/-- a loop that keeps something -/
theorem for_inv {tg : Tg} {body : List S → R Fl} {I : Nat → List S → Prop} (N : Nat) : ∀ (items : List D) (n : Nat) (st : List S), n + items.length ≤ N → (∀ x ∈ items, ∀ n st, n < N → I n st → ∃ st1, setTg st tg x = some st1 ∧ ∃ st2, body st1 = some (.ok .nx, st2) ∧ I (n + 1) st2) → I n st → ∃ st', loopT tg body items st = some (.ok .nx, st') ∧ I (n + items.length) st'
  | [], n, st, _, _, h => ⟨st, rfl, h⟩
  | x :: items, n, st, hN, hs, h => by
    rw [List.length_cons] at hN
    obtain ⟨st1, h1, st2, h2, h3⟩ := hs x List.mem_cons_self n st (by omega) h
    obtain ⟨st', h4, h5⟩ := for_inv N items (n + 1) st2 (by omega) (fun y hy => hs y (List.mem_cons_of_mem _ hy)) h3
    refine ⟨st', ?_, by rw [List.length_cons, show n + (items.length + 1) = n + 1 + items.length by omega]; exact h5⟩
    unfold loopT
    rw [h1]
    dsimp only
    rw [h2]
    exact h4
theorem add_run {a b : E} {st s1 s2 : List S} {xs ys : List D} (h1 : evE a st = some (.ok (.v (.tup xs)), s1)) (h2 : evE b s1 = some (.ok (.v (.tup ys)), s2)) (l1 : xs.length ≤ 1000) (l2 : ys.length ≤ 1000) : evE (.bin .add a b) st = some (.ok (.v (.tup (xs ++ ys))), s2) := by
  rw [evE, h1]
  show SG.bnd (evE b s1) _ = _
  rw [h2]
  simp only [SG.bnd, SG.ok, SG.opt, rd, opD]
  rw [if_pos (by omega)]
theorem slc_lo {a b : E} {st : List S} {xs : List D} {i : Int} (h1 : evE a st = some (.ok (.v (.tup xs)), st)) (h2 : evE b st = some (.ok (.v (.int i)), st)) : evE (.slc a (.yes b) .no) st = some (.ok (.v (.tup (cutD xs (some i) none))), st) := by
  simp [evE, evO, SG.bnd, SG.ok, rd, h1, h2]
theorem slc_hi {a b : E} {st : List S} {xs : List D} {i : Int} (h1 : evE a st = some (.ok (.v (.tup xs)), st)) (h2 : evE b st = some (.ok (.v (.int i)), st)) : evE (.slc a .no (.yes b)) st = some (.ok (.v (.tup (cutD xs none (some i)))), st) := by
  simp [evE, evO, SG.bnd, SG.ok, rd, h1, h2]
theorem ix_run {a b : E} {st : List S} {x d : D} {i : Int} (h1 : evE a st = some (.ok (.v x), st)) (h2 : evE b st = some (.ok (.v (.int i)), st)) (h3 : atD x (.int i) = some d) : evE (.ix a b) st = some (.ok (.v d), st) := by
  simp [evE, SG.bnd, SG.ok, SG.opt, rd, h1, h2, h3]
theorem var_run {i : Nat} {st : List S} {d : D} (h : st[i]? = some (.val d)) : evE (.var i) st = some (.ok (.v d), st) := by
  simp [evE, slotOf, h, SG.ok]
theorem one_run {a : E} {st : List S} {d : D} (h : evE a st = some (.ok (.v d), st)) : evE (.tup (.cons a .nil)) st = some (.ok (.v (.tup [d])), st) := by
  simp [evE, evL, SG.bnd, SG.ok, frzs, frz, h]
theorem cst_run {st : List S} {d : D} : evE (.cst d) st = some (.ok (.v d), st) := by simp [evE, SG.ok]
theorem inc_run {b : E} {st : List S} {i : Int} (h : evE b st = some (.ok (.v (.int i)), st)) : evE (.bin .add b (.cst (.int 1))) st = some (.ok (.v (.int (i + 1))), st) := by
  simp [evE, SG.bnd, SG.ok, SG.opt, rd, h, opD]
theorem len_run {a : E} {st : List S} {xs : List D} (h : evE a st = some (.ok (.v (.tup xs)), st)) : evE (.b1 .len a) st = some (.ok (.v (.int xs.length)), st) := by
  simp [evE, SG.bnd, SG.ok, SG.opt, rd, h, b1_len_tup]
/-- append -/
theorem app_run {i : Nat} {e : E} {st s1 : List S} {d : D} {ds : List D} {m m' : Bool} (h0 : ∃ es, st[i]? = some (.own m' es)) (h : evE e st = some (.ok (.v d), s1)) (h1 : s1[i]? = some (.own m ds)) (hl : ds.length ≤ 100000) : exT (.app i e) st = some (.ok .nx, s1.set i (.own m (ds ++ [d]))) := by
  obtain ⟨es, h0⟩ := h0
  simp only [exT, h0, evX, SG.bnd, SG.ok, frz, h, h1]
  rw [if_pos hl]
/-- a value among others: x[:i] + (d,) + x[i + 1:] -/
theorem ins_run {a b c : E} {st : List S} {xs : List D} {i : Int} {d : D} (h1 : evE a st = some (.ok (.v (.tup xs)), st)) (h2 : evE b st = some (.ok (.v (.int i)), st)) (h3 : evE c st = some (.ok (.v d), st)) (hl : xs.length ≤ 500) :
    evE (.bin .add (.bin .add (.slc a .no (.yes b)) (.tup (.cons c .nil))) (.slc a (.yes (.bin .add b (.cst (.int 1)))) .no)) st = some (.ok (.v (.tup (cutD xs none (some i) ++ [d] ++ cutD xs (some (i + 1)) none))), st) := by
  have c1 := cut_len (l := xs) (lo := none) (hi := some i)
  have c2 := cut_len (l := xs) (lo := some (i + 1)) (hi := none)
  exact add_run (add_run (slc_hi h1 h2) (one_run h3) (by omega) (by simp)) (slc_lo h1 (inc_run h2)) (by simp; omega) (by omega)
/-! ### values near rows -/
theorem FinD.mono {m n : Nat} (l : m ≤ n) : ∀ {d : D}, FinD m d → FinD n d := fun {d} => by
  refine D.rec (motive_1 := fun d => FinD m d → FinD n d) (motive_2 := fun ds => FinsD m ds → FinsD n ds) ?_ ?_ ?_ ?_ ?_ ?_ ?_ ?_ ?_ d
  · intro h; unfold FinD; trivial
  · intro _ h; unfold FinD; trivial
  · intro i h; unfold FinD at *; exact h.mono l
  · intro _ h; unfold FinD; trivial
  · intro ds ih h
    unfold FinD at h ⊢
    exact ih h
  · intro ds ih h
    unfold FinD at h ⊢
    exact ih h
  · intro h; unfold FinD; trivial
  · intro h; unfold FinsD; trivial
  · intro d ds h1 h2 h
    unfold FinsD at h ⊢
    exact ⟨h1 h.1, h2 h.2⟩
/-- ints in bounds, and not too long -/
def Vl (n : Nat) (v : D) : Prop := FinD n v ∧ ∀ l, v = .tup l → l.length ≤ 100
def Vs (n : Nat) (vs : List D) : Prop := ∀ v ∈ vs, Vl n v
theorem vl_tup {n : Nat} {l : List D} (h : ∀ d ∈ l, FinD n d) (hl : l.length ≤ 100) : Vl n (.tup l) := ⟨fin_tup.mpr h, fun l' e => by cases e; exact hl⟩
theorem vl_no {n : Nat} {v : D} (h : FinD n v) (hn : ∀ l, v ≠ .tup l) : Vl n v := ⟨h, fun l e => absurd e (hn l)⟩
theorem vs_cons {n : Nat} {v : D} {vs : List D} (h : Vl n v) (k : Vs n vs) : Vs n (v :: vs) := fun x hx => by
  rcases List.mem_cons.mp hx with rfl | hx
  · exact h
  · exact k x hx
theorem vs_nil (n : Nat) : Vs n [] := fun _ h => nomatch h
theorem vs_app {n : Nat} {vs ws : List D} (h : Vs n vs) (k : Vs n ws) : Vs n (vs ++ ws) := fun x hx => by
  rcases List.mem_append.mp hx with hx | hx
  · exact h x hx
  · exact k x hx
theorem vl_ins {n : Nat} {L : List D} {d : D} {a b c e : Option Int} (h : ∀ d ∈ L, FinD n d) (hd : FinD n d) (hl : L.length ≤ 40) : Vl n (.tup (cutD L a b ++ [d] ++ cutD L c e)) := by
  have c1 := cut_len (l := L) (lo := a) (hi := b)
  have c2 := cut_len (l := L) (lo := c) (hi := e)
  refine vl_tup (fun x hx => ?_) (by simp; omega)
  simp only [List.mem_append, List.mem_singleton] at hx
  rcases hx with (hx | rfl) | hx
  · exact h x (cut_mem hx)
  · exact hd
  · exact h x (cut_mem hx)
theorem roll_pos {ds : List D} (hd : Dc ds) {n : Nat} (h0 : 0 < n) (h1 : n ≤ 1000) : ∃ (r : Nat) (ds' : List D), f_law_roll.run ds [.int n] = some (.ok (.int r), ds') ∧ Dc ds' ∧ r < n := by
  obtain ⟨r, ds', h, hd', a, b⟩ := roll_run hd (n := (n : Int)) (by omega) (len_bits h1)
  refine ⟨r.toNat, ds', ?_, hd', by omega⟩
  rw [h, show ((r.toNat : Nat) : Int) = r by omega]
theorem at_lt {t : List Row} {i : Nat} (h : i < t.length) : atD (ltD t) (.int (i : Int)) = some (rwD t[i]) := by
  unfold ltD
  show L2.atI _ _ = _
  refine at_nat ?_
  rw [List.getElem?_map, List.getElem?_eq_getElem h]
  rfl
/-! ### parts of a program -/
def nthT : Nat → TL → T
  | 0, .cons t _ => t
  | n + 1, .cons _ r => nthT n r
  | _, .nil => .pas
def bodyOf : T → TL
  | .forr _ _ b => b
  | .whl _ _ b => b
  | _ => .nil
def thenOf : T → TL
  | .ife _ a _ => a
  | _ => .nil
theorem evL_c {e : E} {r : EL} {st s1 s2 : List S} {x : W} {ws : List W} (h : evE e st = some (.ok x, s1)) (k : evL r s1 = some (.ok ws, s2)) : evL (.cons e r) st = some (.ok (x :: ws), s2) := by
  rw [evL, h]
  show SG.bnd (evL r s1) _ = _
  rw [k]
  rfl
theorem evL_n {st : List S} : evL .nil st = some (.ok [], st) := by rw [evL]; rfl
theorem frzs_vals : ∀ (ds : List D) (st : List S), frzs st (ds.map W.v) = some (ds, st)
  | [], st => rfl
  | d :: ds, st => by
    rw [List.map_cons, frzs]
    show (match frzs st (ds.map W.v) with | none => none | some (es, s2) => some (d :: es, s2)) = _
    rw [frzs_vals ds st]
theorem tup_run {es : EL} {st s1 : List S} {ds : List D} (h : evL es st = some (.ok (ds.map W.v), s1)) (hl : ds.length ≤ 100000) : evE (.tup es) st = some (.ok (.v (.tup ds)), s1) := by
  rw [evE, h]
  show (match frzs s1 (ds.map W.v) with | some (ds, s2) => _ | none => none) = _
  rw [frzs_vals]
  show (if _ then _ else _) = _
  rw [if_pos hl]
  rfl
theorem disp_run {es : EL} {st s1 : List S} {ds : List D} (h : evL es st = some (.ok (ds.map W.v), s1)) (hl : ds.length ≤ 100000) : evF (.disp es) st = some (.ok ds, s1) := by
  rw [evF, h]
  show (match frzs s1 (ds.map W.v) with | some (ds, s2) => _ | none => none) = _
  rw [frzs_vals]
  show (if _ then _ else _) = _
  rw [if_pos hl]
  rfl
theorem fr_run {f : FE} {st s1 : List S} {ds : List D} (h : evF f st = some (.ok ds, s1)) : evE (.fr f) st = some (.ok (.v (.lst ds)), s1) := by
  rw [evE, h]
  rfl
theorem listOf_run {a : E} {st : List S} {ds : List D} (h : evE a st = some (.ok (.v (.tup ds)), st)) : evF (.listOf a) st = some (.ok ds, st) := by
  rw [evF, h]
  rfl
theorem seqA_run {a : E} {st : List S} {ds : List D} (h : evE a st = some (.ok (.v (.tup ds)), st)) : evI (.seqA a) st = some (.ok ds, st) := by
  rw [evI, h]
  rfl
theorem seqA_lst {a : E} {st s1 : List S} {ds : List D} (h : evE a st = some (.ok (.v (.lst ds)), s1)) : evI (.seqA a) st = some (.ok ds, s1) := by
  rw [evI, h]
  rfl
theorem plus_run {a b : E} {st : List S} {x y : W} {xs ys : List D} (h1 : evE a st = some (.ok x, st)) (h2 : evE b st = some (.ok y, st)) (e1 : rd st x = some (.lst xs)) (e2 : rd st y = some (.lst ys)) (hl : xs.length + ys.length ≤ 100000) : evF (.plus a b) st = some (.ok (xs ++ ys), st) := by
  rw [evF, h1]
  show SG.bnd (evE b st) _ = _
  rw [h2]
  simp only [SG.bnd, SG.ok, e1, e2]
  rw [if_pos hl]
theorem asgF_run {f : FE} {i : Nat} {st s1 : List S} {ds : List D} (h : evF f st = some (.ok ds, s1)) (hf : free s1 i = true) : exT (.asg i (.f f)) st = some (.ok .nx, s1.set i (.own false ds)) := by
  rw [exT, evX, h]
  show SG.bnd (SG.opt (setS s1 i (.own false ds)) s1) _ = _
  unfold setS
  rw [if_pos hf]
  rfl
theorem var_own {i : Nat} {st : List S} {m : Bool} {ds : List D} (h : st[i]? = some (.own m ds)) : evE (.var i) st = some (.ok (.o i), st) := by
  rw [evE]
  unfold slotOf
  rw [h]
  rfl
theorem ret_own {i : Nat} {st : List S} {ds : List D} {r : TL} (h : st[i]? = some (.own false ds)) : exL (.cons (.ret (.var i)) r) st = some (.ok (.rt (.lst ds)), st.set i (.val (.lst ds))) := by
  refine exL_rt ?_
  have hf : frz st (.o i) = some (.lst ds, st.set i (.val (.lst ds))) := by simp only [frz, h]
  rw [exT, var_own h]
  simp only [SG.bnd, hf]
  rfl
theorem par_roll {st s1 s2 : List S} {i j : Nat} {a b : E} {x y : D} (h1 : evE a st = some (.ok (.v x), s1)) (h2 : evE b s1 = some (.ok (.v y), s2)) (f1 : free s2 i = true) (f2 : free (s2.set i (.val x)) j = true) : exT (.par2 i j (.e a) (.e b)) st = some (.ok .nx, (s2.set i (.val x)).set j (.val y)) := by
  simp [exT, evX, SG.bnd, SG.ok, SG.opt, frz, setS, h1, h2, f1, f2]
/-- a throw from a list in the first slot -/
theorem roll_ev {ds : List D} (hd : Dc ds) {n : Nat} (h0 : 0 < n) (h1 : n ≤ 1000) {a : E} {r : List S} (ha : evE a (.own true ds :: r) = some (.ok (.v (.int n)), .own true ds :: r)) : ∃ (k : Nat) (ds' : List D), evE (.call f_law_roll (.cons (.var 0) (.cons a .nil))) (.own true ds :: r) = some (.ok (.v (.int k)), .own true ds' :: r) ∧ Dc ds' ∧ k < n := by
  obtain ⟨k, ds', h, hd', hk⟩ := roll_pos hd h0 h1
  refine ⟨k, ds', ?_, hd', hk⟩
  rw [evE, evL_c (var_own (st := .own true ds :: r) (i := 0) rfl) (evL_c ha evL_n)]
  show (match f_law_roll.fresh with | false => _ | true => none) = _
  rw [fl_law_roll.1]
  simp [callD, fl_law_roll, frzs, frz, h, SG.bnd, SG.ok]
theorem vs_mono {m n : Nat} {vs : List D} (l : m ≤ n) (h : Vs m vs) : Vs n vs := fun v hv => ⟨FinD.mono l (h v hv).1, (h v hv).2⟩
theorem call_run {f : Fn} {es : EL} {st s1 : List S} {ds : List D} {d : D} {z : List D} (hf : f.fresh = false ∧ f.lend = false ∧ f.many = ds.length) (h : evL es st = some (.ok (ds.map W.v), s1)) (hr : f.run [] ds = some (.ok d, z)) : evE (.call f es) st = some (.ok (.v d), s1) := by
  rw [evE, h]
  show (match f.fresh with | false => _ | true => none) = _
  rw [hf.1]
  simp only [SG.bnd, SG.ok, callD, hf.2.1, frzs_vals, hf.2.2, hr, if_true]
/-- .. that is lent the list of the first slot -/
theorem lend_run {f : Fn} {es : EL} {r : List S} {ds zs : List D} {m : Bool} {es0 : List D} {d : D} (hf : f.fresh = false ∧ f.lend = true ∧ f.many = ds.length + 1) (h : evL es (.own m es0 :: r) = some (.ok (ds.map W.v), .own m es0 :: r)) (hr : f.run es0 ds = some (.ok d, zs)) : evE (.call f (.cons (.var 0) es)) (.own m es0 :: r) = some (.ok (.v d), .own m zs :: r) := by
  rw [evE, evL_c (var_own (st := .own m es0 :: r) (i := 0) rfl) h]
  show (match f.fresh with | false => _ | true => none) = _
  rw [hf.1]
  simp only [SG.bnd, SG.ok, callD, hf.2.1, frzs_vals, hf.2.2, hr, if_true, List.getElem?_cons_zero, List.set_cons_zero]
theorem cm_ne_bl (a : Bool) : cmD .ne (.bl a) (.bl a) = some false := by cases a <;> rfl
theorem cm_eq_bl (a : Bool) : cmD .eq (.bl a) (.bl a) = some true := by cases a <;> rfl
theorem sh_bl (a : Bool) : shownOk (.bl a) = true := by cases a <;> kernel_rfl
theorem sh_bl3 (a b c : Bool) : shownOk (.lst [.bl a, .bl b, .bl c]) = true := by cases a <;> cases b <;> cases c <;> kernel_rfl
theorem repr_run {a : E} {st : List S} {x : W} {d : D} (h : evE a st = some (.ok x, st)) (hd : rd st x = some d) (hs : shownOk d = true) : evE (.b1 .repr a) st = some (.ok (.v (.str d.toP.shown)), st) := by
  rw [evE, h]
  simp only [SG.bnd, SG.ok, SG.opt, hd, b1_repr, hs, if_true]
def notIs : Cm → Bool
  | .isn => false
  | .nisn => false
  | _ => true
theorem cmT_run {o : Cm} (ho : notIs o = true) {a b : E} {st s1 s2 : List S} {x y : D} {c : Bool} (h : evE a st = some (.ok (.v x), s1)) (k : evE b s1 = some (.ok (.v y), s2)) (hc : cmD o x y = some c) : evT (.cmp o a b) st = some (.ok c, s2) ∧ evE (.cmp o a b) st = some (.ok (.v (.bl c)), s2) := by
  cases o <;> first
    | exact absurd ho (by decide)
    | (constructor
       · simp [evT, h, k, SG.bnd, SG.ok, SG.opt, rd, hc]
       · simp [evE, h, k, SG.bnd, SG.ok, SG.opt, rd, hc])
theorem ne_str_run {a b : E} {st : List S} {x : Str} (h : evE a st = some (.ok (.v (.str x)), st)) (k : evE b st = some (.ok (.v (.str x)), st)) : evT (.cmp .ne a b) st = some (.ok false, st) := (cmT_run rfl h k (cm_ne_str x)).1
theorem loop_cons {tg : Tg} {body : List S → R Fl} {x : D} {xs : List D} {st s1 s2 : List S} (h : setTg st tg x = some s1) (k : body s1 = some (.ok .nx, s2)) : loopT tg body (x :: xs) st = loopT tg body xs s2 := by
  rw [loopT, h]
  dsimp only
  rw [k]
  rfl
theorem ix_run2 {a b : E} {st s1 : List S} {x d : D} {i : Int} (h1 : evE a st = some (.ok (.v x), s1)) (h2 : evE b s1 = some (.ok (.v (.int i)), s1)) (h3 : atD x (.int i) = some d) : evE (.ix a b) st = some (.ok (.v d), s1) := by
  simp [evE, SG.bnd, SG.ok, SG.opt, rd, h1, h2, h3]
end B
namespace K25
open PySem PySem.Spec L2 SG B
/-! ### the defs' texts -/
abbrev n_is_integer : List Str := ["value"]
abbrev q_is_integer : List Str := ["value"]
abbrev n_common_divisor : List Str := ["one", "other"]
abbrev q_common_divisor : List Str := ["one", "other"]
abbrev n_is_number : List Str := ["value", "one"]
abbrev q_is_number : List Str := ["value"]
abbrev n_require_count : List Str := ["value", "least", "most"]
abbrev q_require_count : List Str := ["value", "least", "most"]
abbrev n_is_plain_row : List Str := ["width", "value", "one"]
abbrev q_is_plain_row : List Str := ["width", "value"]
abbrev n_is_plain_table : List Str := ["height", "width", "value", "row"]
abbrev q_is_plain_table : List Str := ["height", "width", "value"]
abbrev n_first_index : List Str := ["row", "index", "one"]
abbrev q_first_index : List Str := ["row"]
abbrev n_is_plain_lot : List Str := ["width", "value", "ahead", "place", "row", "index", "at", "other"]
abbrev q_is_plain_lot : List Str := ["width", "value"]
abbrev n_require_width : List Str := ["width"]
abbrev q_require_width : List Str := ["width"]
abbrev n_is_row : List Str := ["width", "value"]
abbrev q_is_row : List Str := ["width", "value"]
abbrev n_is_table : List Str := ["height", "width", "value"]
abbrev q_is_table : List Str := ["height", "width", "value"]
abbrev n_is_lot : List Str := ["width", "value"]
abbrev q_is_lot : List Str := ["width", "value"]
abbrev n_law_dice : List Str := ["script", "spot", "cell", "great", "seed"]
abbrev q_law_dice : List Str := ["script", "spot"]
abbrev n_law_roll : List Str := ["dice", "total", "one", "two", "found"]
abbrev q_law_roll : List Str := ["dice", "total"]
abbrev n_law_pick : List Str := ["dice", "items"]
abbrev q_law_pick : List Str := ["dice", "items"]
abbrev n_law_fr : List Str := ["top", "bottom", "sign", "one", "other"]
abbrev q_law_fr : List Str := ["top", "bottom"]
abbrev n_law_plus : List Str := ["one", "other"]
abbrev q_law_plus : List Str := ["one", "other"]
abbrev n_law_times : List Str := ["one", "other"]
abbrev q_law_times : List Str := ["one", "other"]
abbrev n_law_minus : List Str := ["one", "other"]
abbrev q_law_minus : List Str := ["one", "other"]
abbrev n_law_less : List Str := ["row", "number", "other", "one", "two"]
abbrev q_law_less : List Str := ["row", "number", "other"]
abbrev n_law_lead : List Str := ["row", "found", "at", "one"]
abbrev q_law_lead : List Str := ["row"]
abbrev n_law_rest : List Str := ["lot", "row", "line"]
abbrev q_law_rest : List Str := ["lot", "row"]
abbrev n_law_with_row : List Str := ["lot", "row", "left", "spot", "rows", "one", "line", "at"]
abbrev q_law_with_row : List Str := ["lot", "row"]
abbrev n_law_lot : List Str := ["rows", "lot", "row"]
abbrev q_law_lot : List Str := ["rows"]
abbrev n_law_is_number : List Str := ["value", "one"]
abbrev q_law_is_number : List Str := ["value"]
abbrev n_law_is_row : List Str := ["width", "value", "one"]
abbrev q_law_is_row : List Str := ["width", "value"]
abbrev n_law_is_table : List Str := ["height", "width", "value", "one"]
abbrev q_law_is_table : List Str := ["height", "width", "value"]
abbrev n_law_is_lot : List Str := ["width", "value", "row"]
abbrev q_law_is_lot : List Str := ["width", "value"]
/-- _law_drawn: slots dice 0, height 1, width 2, some 3, line 4, at 5 -/
def p_law_drawn : TL := .cons (.asg 3 (.f (.disp (.cons (.tup (.cons (.cst (.int 0)) (.cons (.cst (.int 1)) .nil))) (.cons (.tup (.cons (.cst (.int 0)) (.cons (.cst (.int 1)) .nil))) (.cons (.tup (.cons (.cst (.int 0)) (.cons (.cst (.int 1)) .nil))) (.cons (.tup (.cons (.cst (.int 1)) (.cons (.cst (.int 1)) .nil))) (.cons (.tup (.cons (.neg (.cst (.int 1))) (.cons (.cst (.int 1)) .nil))) (.cons (.tup (.cons (.cst (.int 2)) (.cons (.cst (.int 1)) .nil))) (.cons (.tup (.cons (.cst (.int 1)) (.cons (.cst (.int 2)) .nil))) .nil)))))))))) (.cons (.ret (.b1 .tup (.fr (.comp (.nm 4) (.rng1 (.var 1)) .no (.b1 .tup (.fr (.comp (.nm 5) (.rng1 (.var 2)) .no (.call f_law_pick (.cons (.var 0) (.cons (.var 3) .nil)))))))))) .nil)
def f_law_drawn : Fn := ⟨"_law_drawn", 3, true, false, 3, runDef 6 true false p_law_drawn⟩
theorem fr_law_drawn : f_law_drawn.run = runDef 6 true false p_law_drawn := by simp only [f_law_drawn]
theorem fl_law_drawn : f_law_drawn.fresh = false ∧ f_law_drawn.lend = true ∧ f_law_drawn.many = 3 := ⟨rfl, rfl, rfl⟩
abbrev n_law_drawn : List Str := ["dice", "height", "width", "some", "line", "at"]
abbrev q_law_drawn : List Str := ["dice", "height", "width"]
/-- _law_near: slots dice 0, rows 1, found 2, bads 3, bad 4, row 5, line 6, at 7, other 8, one 9, two 10 -/
def p_law_near : TL := .cons (.asg 2 (.f (.disp (.cons (.var 1) (.cons (.fr (.listOf (.var 1))) (.cons (.slc (.var 1) .no (.yes (.neg (.cst (.int 1))))) (.cons (.rev (.var 1)) (.cons (.bin .add (.var 1) (.slc (.var 1) .no (.yes (.cst (.int 1))))) (.cons (.bin .add (.var 1) (.tup (.cons (.tup .nil) .nil))) (.cons (.cst .non) (.cons (.cst (.int 0)) (.cons (.cst (.str "rows")) (.cons .dic0 (.cons (.tup (.cons (.cst .non) .nil)) .nil)))))))))))))) (.cons (.ife (.and (.cmp .ne (.var 1) (.tup .nil)) (.cmp .ne (.ix (.var 1) (.cst (.int 0))) (.tup .nil))) (.cons (.par2 6 7 (.e (.call f_law_roll (.cons (.var 0) (.cons (.b1 .len (.var 1)) .nil)))) (.e (.call f_law_roll (.cons (.var 0) (.cons (.b1 .len (.ix (.var 1) (.cst (.int 0)))) .nil))))) (.cons (.asg 3 (.f (.disp (.cons (.tup (.cons (.cst (.int 0)) (.cons (.cst (.int 2)) .nil))) (.cons (.tup (.cons (.cst (.int 2)) (.cons (.cst (.int 2)) .nil))) (.cons (.cst (.bl true)) (.cons (.cst (.int 1)) (.cons (.cst .non) (.cons (.cst (.str "1")) (.cons (.tup (.cons (.cst (.int 1)) (.cons (.cst (.int 0)) .nil))) (.cons (.tup (.cons (.cst (.int 1)) (.cons (.neg (.cst (.int 1))) .nil))) (.cons (.fr (.disp (.cons (.cst (.int 1)) (.cons (.cst (.int 1)) .nil)))) (.cons (.tup (.cons (.cst (.bl true)) (.cons (.cst (.int 1)) .nil))) (.cons (.tup (.cons (.cst (.int 1)) .nil)) (.cons (.tup (.cons (.cst (.int 1)) (.cons (.cst (.int 1)) (.cons (.cst (.int 1)) .nil)))) (.cons (.tup (.cons (.cst (.int 3)) (.cons (.cst (.int 1)) .nil))) (.cons (.tup (.cons (.cst (.int 0)) (.cons (.cst (.int 1)) .nil))) .nil))))))))))))))))) (.cons (.forr (.nm 4) (.seqA (.fr (.plus (.var 3) (.fr (.disp (.cons (.tup (.cons (.cst (.int 1)) (.cons (.cst (.int 1)) .nil))) (.cons (.tup (.cons (.neg (.cst (.int 1))) (.cons (.cst (.int 1)) .nil))) .nil))))))) (.cons (.asg 5 (.e (.bin .add (.bin .add (.slc (.ix (.var 1) (.var 6)) .no (.yes (.var 7))) (.tup (.cons (.var 4) .nil))) (.slc (.ix (.var 1) (.var 6)) (.yes (.bin .add (.var 7) (.cst (.int 1)))) .no)))) (.cons (.app 2 (.bin .add (.bin .add (.slc (.var 1) .no (.yes (.var 6))) (.tup (.cons (.var 5) .nil))) (.slc (.var 1) (.yes (.bin .add (.var 6) (.cst (.int 1)))) .no))) .nil))) (.cons (.forr (.nm 5) (.seqA (.tup (.cons (.fr (.listOf (.ix (.var 1) (.var 6)))) (.cons (.slc (.ix (.var 1) (.var 6)) (.yes (.cst (.int 1))) .no) (.cons (.bin .add (.ix (.var 1) (.var 6)) (.tup (.cons (.tup (.cons (.cst (.int 0)) (.cons (.cst (.int 1)) .nil))) .nil))) .nil))))) (.cons (.app 2 (.bin .add (.bin .add (.slc (.var 1) .no (.yes (.var 6))) (.tup (.cons (.var 5) .nil))) (.slc (.var 1) (.yes (.bin .add (.var 6) (.cst (.int 1)))) .no))) .nil)) (.cons (.ife (.cmp .gt (.b1 .len (.var 1)) (.cst (.int 1))) (.cons (.asg 8 (.e (.b1 .tup (.fr (.comp (.two 9 10) (.zipA (.ix (.var 1) (.cst (.int 0))) (.ix (.var 1) (.cst (.int 1)))) .no (.call f_law_plus (.cons (.var 9) (.cons (.var 10) .nil)))))))) (.cons (.asg 2 (.f (.plus (.var 2) (.fr (.disp (.cons (.bin .add (.tup (.cons (.var 8) .nil)) (.slc (.var 1) (.yes (.cst (.int 1))) .no)) (.cons (.bin .add (.bin .add (.slc (.var 1) .no (.yes (.cst (.int 1)))) (.tup (.cons (.var 8) .nil))) (.slc (.var 1) (.yes (.cst (.int 2))) .no)) (.cons (.bin .add (.var 1) (.tup (.cons (.bin .mul (.tup (.cons (.tup (.cons (.cst (.int 0)) (.cons (.cst (.int 1)) .nil))) .nil)) (.b1 .len (.ix (.var 1) (.cst (.int 0))))) .nil))) .nil)))))))) .nil)) (.nil)) .nil))))) (.nil)) (.cons (.ret (.var 2)) .nil))
def f_law_near : Fn := ⟨"_law_near", 3, true, false, 2, runDef 11 true false p_law_near⟩
theorem fr_law_near : f_law_near.run = runDef 11 true false p_law_near := by simp only [f_law_near]
theorem fl_law_near : f_law_near.fresh = false ∧ f_law_near.lend = true ∧ f_law_near.many = 2 := ⟨rfl, rfl, rfl⟩
abbrev n_law_near : List Str := ["dice", "rows", "found", "bads", "bad", "row", "line", "at", "other", "one", "two"]
abbrev q_law_near : List Str := ["dice", "rows"]
/-- _law_near_row: slots dice 0, row 1, found 2, bad 3, at 4 -/
def p_law_near_row : TL := .cons (.asg 2 (.f (.disp (.cons (.var 1) (.cons (.fr (.listOf (.var 1))) (.cons (.slc (.var 1) .no (.yes (.neg (.cst (.int 1))))) (.cons (.rev (.var 1)) (.cons (.bin .add (.var 1) (.tup (.cons (.tup (.cons (.cst (.int 0)) (.cons (.cst (.int 1)) .nil))) .nil))) (.cons (.cst .non) (.cons (.cst (.int 0)) (.cons (.tup .nil) (.cons .dic0 (.cons (.tup (.cons (.cst .non) .nil)) (.cons (.cst (.str "row")) .nil)))))))))))))) (.cons (.forr (.nm 3) (.seqA (.fr (.disp (.cons (.tup (.cons (.cst (.int 0)) (.cons (.cst (.int 2)) .nil))) (.cons (.tup (.cons (.cst (.int 2)) (.cons (.cst (.int 2)) .nil))) (.cons (.cst (.bl true)) (.cons (.cst (.int 1)) (.cons (.cst .non) (.cons (.tup (.cons (.cst (.int 1)) (.cons (.cst (.int 0)) .nil))) (.cons (.tup (.cons (.cst (.int 1)) (.cons (.neg (.cst (.int 1))) .nil))) (.cons (.fr (.disp (.cons (.cst (.int 1)) (.cons (.cst (.int 1)) .nil)))) (.cons (.tup (.cons (.cst (.bl true)) (.cons (.cst (.int 1)) .nil))) (.cons (.tup (.cons (.cst (.int 1)) .nil)) (.cons (.tup (.cons (.cst (.int 1)) (.cons (.cst (.int 1)) (.cons (.cst (.int 1)) .nil)))) (.cons (.tup (.cons (.bin .pow (.cst (.int 10)) (.cst (.int 50))) (.cons (.cst (.int 3)) .nil))) .nil))))))))))))))) (.cons (.ife (.cmp .ne (.var 1) (.tup .nil)) (.cons (.asg 4 (.e (.call f_law_roll (.cons (.var 0) (.cons (.b1 .len (.var 1)) .nil))))) (.cons (.app 2 (.bin .add (.bin .add (.slc (.var 1) .no (.yes (.var 4))) (.tup (.cons (.var 3) .nil))) (.slc (.var 1) (.yes (.bin .add (.var 4) (.cst (.int 1)))) .no))) .nil)) (.nil)) .nil)) (.cons (.ret (.var 2)) .nil))
def f_law_near_row : Fn := ⟨"_law_near_row", 2, true, false, 2, runDef 5 true false p_law_near_row⟩
theorem fr_law_near_row : f_law_near_row.run = runDef 5 true false p_law_near_row := by simp only [f_law_near_row]
theorem fl_law_near_row : f_law_near_row.fresh = false ∧ f_law_near_row.lend = true ∧ f_law_near_row.many = 2 := ⟨rfl, rfl, rfl⟩
abbrev n_law_near_row : List Str := ["dice", "row", "found", "bad", "at"]
abbrev q_law_near_row : List Str := ["dice", "row"]
/-- _law_right: slots dice 0, rows 1, some 2, row 3, value 4, height 5, width 6, told 7, due 8 -/
def p_law_right : TL := .cons (.par2 5 6 (.e (.call f_law_roll (.cons (.var 0) (.cons (.cst (.int 5)) .nil)))) (.e (.call f_law_roll (.cons (.var 0) (.cons (.cst (.int 6)) .nil))))) (.cons (.asg 1 (.e (.call f_law_drawn (.cons (.var 0) (.cons (.var 5) (.cons (.var 6) .nil)))))) (.cons (.forr (.nm 2) (.seqA (.tup (.cons (.var 1) (.cons (.call f_law_lot (.cons (.var 1) .nil)) .nil)))) (.cons (.forr (.nm 4) (.seqA (.call f_law_near (.cons (.var 0) (.cons (.var 2) .nil)))) (.cons (.asg 7 (.f (.disp (.cons (.call f_is_table (.cons (.var 5) (.cons (.var 6) (.cons (.var 4) .nil)))) (.cons (.call f_is_lot (.cons (.var 6) (.cons (.var 4) .nil))) (.cons (.call f_is_row (.cons (.var 6) (.cons (.var 4) .nil))) .nil)))))) (.cons (.asg 8 (.f (.disp (.cons (.call f_law_is_table (.cons (.var 5) (.cons (.var 6) (.cons (.var 4) .nil)))) (.cons (.call f_law_is_lot (.cons (.var 6) (.cons (.var 4) .nil))) (.cons (.call f_law_is_row (.cons (.var 6) (.cons (.var 4) .nil))) .nil)))))) (.cons (.ife (.cmp .ne (.b1 .repr (.var 7)) (.b1 .repr (.var 8))) (.cons (.ret (.cst (.bl false))) .nil) (.nil)) (.cons (.ife (.cmp .ne (.call f_is_row (.cons (.b1 .len (.var 2)) (.cons (.var 4) .nil))) (.call f_law_is_row (.cons (.b1 .len (.var 2)) (.cons (.var 4) .nil)))) (.cons (.ret (.cst (.bl false))) .nil) (.nil)) .nil))))) .nil)) (.cons (.asg 3 (.e (.ix (.call f_law_drawn (.cons (.var 0) (.cons (.cst (.int 1)) (.cons (.var 6) .nil)))) (.cst (.int 0))))) (.cons (.forr (.nm 4) (.seqA (.call f_law_near_row (.cons (.var 0) (.cons (.var 3) .nil)))) (.cons (.ife (.cmp .ne (.b1 .repr (.call f_is_row (.cons (.var 6) (.cons (.var 4) .nil)))) (.b1 .repr (.call f_law_is_row (.cons (.var 6) (.cons (.var 4) .nil))))) (.cons (.ret (.cst (.bl false))) .nil) (.nil)) .nil)) (.cons (.ret (.cmp .eq (.call f_is_table (.cons (.var 6) (.cons (.var 5) (.cons (.var 1) .nil)))) (.call f_law_is_table (.cons (.var 6) (.cons (.var 5) (.cons (.var 1) .nil)))))) .nil)))))
def f_law_right : Fn := ⟨"_law_right", 8, true, false, 1, runDef 9 true false p_law_right⟩
theorem fr_law_right : f_law_right.run = runDef 9 true false p_law_right := by simp only [f_law_right]
theorem fl_law_right : f_law_right.fresh = false ∧ f_law_right.lend = true ∧ f_law_right.many = 1 := ⟨rfl, rfl, rfl⟩
abbrev n_law_right : List Str := ["dice", "rows", "some", "row", "value", "height", "width", "told", "due"]
abbrev q_law_right : List Str := ["dice"]
/-- law: slots script 0, spot 1, told 2 -/
def p_law : TL := .cons (.forr (.nm 1) (.rng1 (.max2 (.cst (.int 1)) (.min2 (.cst (.int 6)) (.b1 .len (.var 0))))) (.cons (.ife (.not (.callT f_law_right (.callF f_law_dice (.cons (.var 0) (.cons (.var 1) .nil))))) (.cons (.ret (.cst (.bl false))) .nil) (.nil)) .nil)) (.cons (.asg 2 (.f (.disp (.cons (.call f_is_lot (.cons (.cst (.int 0)) (.cons (.tup .nil) .nil))) (.cons (.call f_is_table (.cons (.cst (.int 0)) (.cons (.cst (.int 5)) (.cons (.tup .nil) .nil)))) (.cons (.call f_is_table (.cons (.cst (.int 2)) (.cons (.cst (.int 0)) (.cons (.tup (.cons (.tup .nil) (.cons (.tup .nil) .nil))) .nil)))) (.cons (.call f_is_lot (.cons (.cst (.int 2)) (.cons (.tup (.cons (.tup .nil) .nil)) .nil))) (.cons (.call f_is_row (.cons (.cst (.int 0)) (.cons (.tup .nil) .nil))) .nil)))))))) (.cons (.asg 2 (.f (.plus (.var 2) (.fr (.disp (.cons (.call f_is_lot (.cons (.cst (.int 3)) (.cons (.tup (.cons (.tup (.cons (.tup (.cons (.cst (.int 1)) (.cons (.cst (.int 1)) .nil))) (.cons (.tup (.cons (.cst (.int 2)) (.cons (.cst (.int 1)) .nil))) (.cons (.tup (.cons (.cst (.int 0)) (.cons (.cst (.int 1)) .nil))) .nil)))) (.cons (.tup (.cons (.tup (.cons (.cst (.int 0)) (.cons (.cst (.int 1)) .nil))) (.cons (.tup (.cons (.cst (.int 1)) (.cons (.cst (.int 1)) .nil))) (.cons (.tup (.cons (.cst (.int 0)) (.cons (.cst (.int 1)) .nil))) .nil)))) .nil))) .nil))) (.cons (.call f_is_row (.cons (.cst (.int 1)) (.cons (.tup (.cons (.tup (.cons (.bin .pow (.cst (.int 10)) (.cst (.int 60))) (.cons (.cst (.int 1)) .nil))) .nil)) .nil))) .nil))))))) (.cons (.ret (.cmp .eq (.b1 .repr (.var 2)) (.b1 .repr (.fr (.disp (.cons (.cst (.bl true)) (.cons (.cst (.bl true)) (.cons (.cst (.bl true)) (.cons (.cst (.bl false)) (.cons (.cst (.bl true)) (.cons (.cst (.bl false)) (.cons (.cst (.bl true)) .nil)))))))))))) .nil)))
def f_law : Fn := ⟨"law", 9, false, false, 1, runDef 3 false false p_law⟩
theorem fr_law : f_law.run = runDef 3 false false p_law := by simp only [f_law]
theorem fl_law : f_law.fresh = false ∧ f_law.lend = false ∧ f_law.many = 1 := ⟨rfl, rfl, rfl⟩
abbrev n_law : List Str := ["script", "spot", "told"]
abbrev q_law : List Str := ["script"]
end K25
namespace K25
open PySem PySem.Spec L2 PyProof.Rows SG B
/-! ### the texts are these programs -/
def topS (i : Nat) : Stmt := PySem.Challenge.pw_stillgauge_k25_judges_of_rows_tables_and.main.body.getD i (.Pass ⟨0, 0, 0, 0⟩)
theorem e_is_integer : okS n_is_integer 0 false p_is_integer (defScope (topS 6)) (defBody (topS 6)) = true := by decide +kernel
theorem sc_is_integer : C8.scC n_is_integer q_is_integer (defScope (topS 6)) = true := by decide +kernel
theorem e_common_divisor : okS n_common_divisor 0 false p_common_divisor (defScope (topS 7)) (defBody (topS 7)) = true := by decide +kernel
theorem sc_common_divisor : C8.scC n_common_divisor q_common_divisor (defScope (topS 7)) = true := by decide +kernel
theorem e_is_number : okS n_is_number 1 false p_is_number (defScope (topS 8)) (defBody (topS 8)) = true := by decide +kernel
theorem sc_is_number : C8.scC n_is_number q_is_number (defScope (topS 8)) = true := by decide +kernel
theorem e_require_count : okS n_require_count 1 false p_require_count (defScope (topS 9)) (defBody (topS 9)) = true := by decide +kernel
theorem sc_require_count : C8.scC n_require_count q_require_count (defScope (topS 9)) = true := by decide +kernel
theorem e_is_plain_row : okS n_is_plain_row 2 false p_is_plain_row (defScope (topS 11)) (defBody (topS 11)) = true := by decide +kernel
theorem sc_is_plain_row : C8.scC n_is_plain_row q_is_plain_row (defScope (topS 11)) = true := by decide +kernel
theorem e_is_plain_table : okS n_is_plain_table 3 false p_is_plain_table (defScope (topS 12)) (defBody (topS 12)) = true := by decide +kernel
theorem sc_is_plain_table : C8.scC n_is_plain_table q_is_plain_table (defScope (topS 12)) = true := by decide +kernel
theorem e_first_index : okS n_first_index 0 false p_first_index (defScope (topS 13)) (defBody (topS 13)) = true := by decide +kernel
theorem sc_first_index : C8.scC n_first_index q_first_index (defScope (topS 13)) = true := by decide +kernel
theorem e_is_plain_lot : okS n_is_plain_lot 3 false p_is_plain_lot (defScope (topS 14)) (defBody (topS 14)) = true := by decide +kernel
theorem sc_is_plain_lot : C8.scC n_is_plain_lot q_is_plain_lot (defScope (topS 14)) = true := by decide +kernel
theorem e_require_width : okS n_require_width 2 false p_require_width (defScope (topS 17)) (defBody (topS 17)) = true := by decide +kernel
theorem sc_require_width : C8.scC n_require_width q_require_width (defScope (topS 17)) = true := by decide +kernel
theorem e_is_row : okS n_is_row 3 false p_is_row (defScope (topS 18)) (defBody (topS 18)) = true := by decide +kernel
theorem sc_is_row : C8.scC n_is_row q_is_row (defScope (topS 18)) = true := by decide +kernel
theorem e_is_table : okS n_is_table 4 false p_is_table (defScope (topS 19)) (defBody (topS 19)) = true := by decide +kernel
theorem sc_is_table : C8.scC n_is_table q_is_table (defScope (topS 19)) = true := by decide +kernel
theorem e_is_lot : okS n_is_lot 4 false p_is_lot (defScope (topS 20)) (defBody (topS 20)) = true := by decide +kernel
theorem sc_is_lot : C8.scC n_is_lot q_is_lot (defScope (topS 20)) = true := by decide +kernel
theorem e_law_dice : okS n_law_dice 0 true p_law_dice (defScope (topS 22)) (defBody (topS 22)) = true := by decide +kernel
theorem sc_law_dice : C8.scC n_law_dice q_law_dice (defScope (topS 22)) = true := by decide +kernel
theorem e_law_roll : okS n_law_roll 0 false p_law_roll (defScope (topS 23)) (defBody (topS 23)) = true := by decide +kernel
theorem sc_law_roll : C8.scC n_law_roll q_law_roll (defScope (topS 23)) = true := by decide +kernel
theorem e_law_pick : okS n_law_pick 1 false p_law_pick (defScope (topS 24)) (defBody (topS 24)) = true := by decide +kernel
theorem sc_law_pick : C8.scC n_law_pick q_law_pick (defScope (topS 24)) = true := by decide +kernel
theorem e_law_fr : okS n_law_fr 0 false p_law_fr (defScope (topS 25)) (defBody (topS 25)) = true := by decide +kernel
theorem sc_law_fr : C8.scC n_law_fr q_law_fr (defScope (topS 25)) = true := by decide +kernel
theorem e_law_plus : okS n_law_plus 1 false p_law_plus (defScope (topS 26)) (defBody (topS 26)) = true := by decide +kernel
theorem sc_law_plus : C8.scC n_law_plus q_law_plus (defScope (topS 26)) = true := by decide +kernel
theorem e_law_times : okS n_law_times 1 false p_law_times (defScope (topS 27)) (defBody (topS 27)) = true := by decide +kernel
theorem sc_law_times : C8.scC n_law_times q_law_times (defScope (topS 27)) = true := by decide +kernel
theorem e_law_minus : okS n_law_minus 1 false p_law_minus (defScope (topS 28)) (defBody (topS 28)) = true := by decide +kernel
theorem sc_law_minus : C8.scC n_law_minus q_law_minus (defScope (topS 28)) = true := by decide +kernel
theorem e_law_less : okS n_law_less 2 false p_law_less (defScope (topS 29)) (defBody (topS 29)) = true := by decide +kernel
theorem sc_law_less : C8.scC n_law_less q_law_less (defScope (topS 29)) = true := by decide +kernel
theorem e_law_lead : okS n_law_lead 0 false p_law_lead (defScope (topS 30)) (defBody (topS 30)) = true := by decide +kernel
theorem sc_law_lead : C8.scC n_law_lead q_law_lead (defScope (topS 30)) = true := by decide +kernel
theorem e_law_rest : okS n_law_rest 3 false p_law_rest (defScope (topS 31)) (defBody (topS 31)) = true := by decide +kernel
theorem sc_law_rest : C8.scC n_law_rest q_law_rest (defScope (topS 31)) = true := by decide +kernel
theorem e_law_with_row : okS n_law_with_row 4 false p_law_with_row (defScope (topS 32)) (defBody (topS 32)) = true := by decide +kernel
theorem sc_law_with_row : C8.scC n_law_with_row q_law_with_row (defScope (topS 32)) = true := by decide +kernel
theorem e_law_lot : okS n_law_lot 5 false p_law_lot (defScope (topS 33)) (defBody (topS 33)) = true := by decide +kernel
theorem sc_law_lot : C8.scC n_law_lot q_law_lot (defScope (topS 33)) = true := by decide +kernel
theorem e_law_is_number : okS n_law_is_number 1 false p_law_is_number (defScope (topS 34)) (defBody (topS 34)) = true := by decide +kernel
theorem sc_law_is_number : C8.scC n_law_is_number q_law_is_number (defScope (topS 34)) = true := by decide +kernel
theorem e_law_is_row : okS n_law_is_row 2 false p_law_is_row (defScope (topS 35)) (defBody (topS 35)) = true := by decide +kernel
theorem sc_law_is_row : C8.scC n_law_is_row q_law_is_row (defScope (topS 35)) = true := by decide +kernel
theorem e_law_is_table : okS n_law_is_table 3 false p_law_is_table (defScope (topS 36)) (defBody (topS 36)) = true := by decide +kernel
theorem sc_law_is_table : C8.scC n_law_is_table q_law_is_table (defScope (topS 36)) = true := by decide +kernel
theorem e_law_is_lot : okS n_law_is_lot 6 false p_law_is_lot (defScope (topS 37)) (defBody (topS 37)) = true := by decide +kernel
theorem sc_law_is_lot : C8.scC n_law_is_lot q_law_is_lot (defScope (topS 37)) = true := by decide +kernel
theorem e_law_drawn : okS n_law_drawn 2 false p_law_drawn (defScope (topS 38)) (defBody (topS 38)) = true := by decide +kernel
theorem sc_law_drawn : C8.scC n_law_drawn q_law_drawn (defScope (topS 38)) = true := by decide +kernel
theorem e_law_near : okS n_law_near 2 false p_law_near (defScope (topS 39)) (defBody (topS 39)) = true := by decide +kernel
theorem sc_law_near : C8.scC n_law_near q_law_near (defScope (topS 39)) = true := by decide +kernel
theorem e_law_near_row : okS n_law_near_row 1 false p_law_near_row (defScope (topS 40)) (defBody (topS 40)) = true := by decide +kernel
theorem sc_law_near_row : C8.scC n_law_near_row q_law_near_row (defScope (topS 40)) = true := by decide +kernel
theorem e_law_right : okS n_law_right 7 false p_law_right (defScope (topS 41)) (defBody (topS 41)) = true := by decide +kernel
theorem sc_law_right : C8.scC n_law_right q_law_right (defScope (topS 41)) = true := by decide +kernel
theorem e_law : okS n_law 8 false p_law (defScope (topS 42)) (defBody (topS 42)) = true := by decide +kernel
theorem sc_law : C8.scC n_law q_law (defScope (topS 42)) = true := by decide +kernel
/-- what stands behind the top -/
structure Top (K : PySem.W.Frag) (mg : Str → Option Value) : Prop where
  blt : ∀ x ∈ bltWords, mg x = none
  g_NOUGHT : Glo K mg "NOUGHT" c_NOUGHT
  g_ONE : Glo K mg "ONE" c_ONE
  g_MAX_WIDTH : Glo K mg "MAX_WIDTH" c_MAX_WIDTH
  d_is_integer : DefAt K mg "is_integer" (topS 6) []
  d_common_divisor : DefAt K mg "common_divisor" (topS 7) []
  d_is_number : DefAt K mg "is_number" (topS 8) []
  d_require_count : DefAt K mg "require_count" (topS 9) [.int 0, .int 60]
  d_is_plain_row : DefAt K mg "is_plain_row" (topS 11) []
  d_is_plain_table : DefAt K mg "is_plain_table" (topS 12) []
  d_first_index : DefAt K mg "first_index" (topS 13) []
  d_is_plain_lot : DefAt K mg "is_plain_lot" (topS 14) []
  d_require_width : DefAt K mg "require_width" (topS 17) []
  d_is_row : DefAt K mg "is_row" (topS 18) []
  d_is_table : DefAt K mg "is_table" (topS 19) []
  d_is_lot : DefAt K mg "is_lot" (topS 20) []
  d_law_dice : DefAt K mg "_law_dice" (topS 22) []
  d_law_roll : DefAt K mg "_law_roll" (topS 23) []
  d_law_pick : DefAt K mg "_law_pick" (topS 24) []
  d_law_fr : DefAt K mg "_law_fr" (topS 25) []
  d_law_plus : DefAt K mg "_law_plus" (topS 26) []
  d_law_times : DefAt K mg "_law_times" (topS 27) []
  d_law_minus : DefAt K mg "_law_minus" (topS 28) []
  d_law_less : DefAt K mg "_law_less" (topS 29) []
  d_law_lead : DefAt K mg "_law_lead" (topS 30) []
  d_law_rest : DefAt K mg "_law_rest" (topS 31) []
  d_law_with_row : DefAt K mg "_law_with_row" (topS 32) []
  d_law_lot : DefAt K mg "_law_lot" (topS 33) []
  d_law_is_number : DefAt K mg "_law_is_number" (topS 34) []
  d_law_is_row : DefAt K mg "_law_is_row" (topS 35) []
  d_law_is_table : DefAt K mg "_law_is_table" (topS 36) []
  d_law_is_lot : DefAt K mg "_law_is_lot" (topS 37) []
  d_law_drawn : DefAt K mg "_law_drawn" (topS 38) []
  d_law_near : DefAt K mg "_law_near" (topS 39) []
  d_law_near_row : DefAt K mg "_law_near_row" (topS 40) []
  d_law_right : DefAt K mg "_law_right" (topS 41) []
  d_law : DefAt K mg "law" (topS 42) []
section
variable {P : Program} {w : World} {K : PySem.W.Frag} {mg : Str → Option Value} {base : Heap}
theorem s_is_integer (A : Top K mg) : FnSnd P w K mg base f_is_integer := snd0 A.d_is_integer sc_is_integer (fun _ _ _ _ _ _ us hl => match us, hl with | [_], _ => rfl) e_is_integer ⟨⟨trivial, trivial⟩, trivial⟩ A.blt
theorem s_common_divisor (A : Top K mg) : FnSnd P w K mg base f_common_divisor := snd0 A.d_common_divisor sc_common_divisor (fun _ _ _ _ _ _ us hl => match us, hl with | [_, _], _ => rfl) e_common_divisor ⟨⟨trivial, trivial⟩, ⟨⟨⟨trivial, trivial⟩, ⟨⟨trivial, ⟨trivial, trivial⟩⟩, trivial⟩⟩, ⟨trivial, trivial⟩⟩⟩ A.blt
theorem s_is_number (A : Top K mg) : FnSnd P w K mg base f_is_number := snd0 A.d_is_number sc_is_number (fun _ _ _ _ _ _ us hl => match us, hl with | [_], _ => rfl) e_is_number ⟨⟨⟨trivial, ⟨⟨trivial, trivial⟩, ⟨trivial, trivial, ⟨s_is_integer A, ⟨trivial, trivial⟩⟩⟩⟩⟩, ⟨trivial, trivial⟩, trivial⟩, ⟨⟨⟨⟨trivial, trivial⟩, trivial⟩, ⟨⟨s_common_divisor A, ⟨⟨trivial, trivial⟩, ⟨⟨trivial, trivial⟩, trivial⟩⟩⟩, trivial⟩⟩, trivial⟩⟩ A.blt
theorem s_require_count (A : Top K mg) : FnSnd P w K mg base f_require_count := sndD 3 2 A.d_require_count sc_require_count (by decide) rfl (fun _ _ _ _ _ _ _ us its h1 h2 => match us, its, h1, h2 with | [_, _, _], [_, _], _, _ => ⟨_, rfl, rfl⟩) e_require_count ⟨⟨⟨⟨s_is_integer A, ⟨trivial, trivial⟩⟩, ⟨trivial, trivial, trivial⟩⟩, ⟨trivial, trivial⟩, trivial⟩, trivial⟩ A.blt
theorem s_is_plain_row (A : Top K mg) : FnSnd P w K mg base f_is_plain_row := snd0 A.d_is_plain_row sc_is_plain_row (fun _ _ _ _ _ _ us hl => match us, hl with | [_, _], _ => rfl) e_is_plain_row ⟨⟨trivial, ⟨⟨trivial, trivial⟩, ⟨trivial, trivial, ⟨s_is_number A, ⟨trivial, trivial⟩⟩⟩⟩⟩, trivial⟩ A.blt
theorem s_is_plain_table (A : Top K mg) : FnSnd P w K mg base f_is_plain_table := snd0 A.d_is_plain_table sc_is_plain_table (fun _ _ _ _ _ _ us hl => match us, hl with | [_, _, _], _ => rfl) e_is_plain_table ⟨⟨trivial, ⟨⟨trivial, trivial⟩, ⟨trivial, trivial, ⟨s_is_plain_row A, ⟨trivial, ⟨trivial, trivial⟩⟩⟩⟩⟩⟩, trivial⟩ A.blt
theorem s_first_index (A : Top K mg) : FnSnd P w K mg base f_first_index := snd0 A.d_first_index sc_first_index (fun _ _ _ _ _ _ us hl => match us, hl with | [_], _ => rfl) e_first_index ⟨⟨trivial, ⟨⟨⟨trivial, A.g_NOUGHT⟩, ⟨trivial, trivial⟩, trivial⟩, trivial⟩⟩, ⟨trivial, trivial⟩⟩ A.blt
theorem s_is_plain_lot (A : Top K mg) : FnSnd P w K mg base f_is_plain_lot := snd0 A.d_is_plain_lot sc_is_plain_lot (fun _ _ _ _ _ _ us hl => match us, hl with | [_, _], _ => rfl) e_is_plain_lot ⟨⟨⟨trivial, ⟨trivial, trivial, ⟨s_is_plain_row A, ⟨trivial, ⟨trivial, trivial⟩⟩⟩⟩⟩, ⟨trivial, trivial⟩, trivial⟩, ⟨trivial, ⟨⟨trivial, ⟨⟨s_first_index A, ⟨trivial, trivial⟩⟩, ⟨⟨⟨⟨trivial, trivial⟩, ⟨⟨trivial, trivial⟩, ⟨⟨trivial, trivial⟩, A.g_ONE⟩⟩⟩, ⟨trivial, trivial⟩, trivial⟩, ⟨⟨⟨trivial, ⟨trivial, trivial⟩, ⟨⟨trivial, trivial⟩, A.g_NOUGHT⟩⟩, ⟨trivial, trivial⟩, trivial⟩, ⟨trivial, trivial⟩⟩⟩⟩⟩, ⟨trivial, trivial⟩⟩⟩⟩ A.blt
theorem s_require_width (A : Top K mg) : FnSnd P w K mg base f_require_width := snd0 A.d_require_width sc_require_width (fun _ _ _ _ _ _ us hl => match us, hl with | [_], _ => rfl) e_require_width ⟨⟨s_require_count A, ⟨trivial, ⟨trivial, ⟨A.g_MAX_WIDTH, trivial⟩⟩⟩⟩, trivial⟩ A.blt
theorem s_is_row (A : Top K mg) : FnSnd P w K mg base f_is_row := snd0 A.d_is_row sc_is_row (fun _ _ _ _ _ _ us hl => match us, hl with | [_, _], _ => rfl) e_is_row ⟨⟨s_require_width A, ⟨trivial, trivial⟩⟩, ⟨⟨s_is_plain_row A, ⟨trivial, ⟨trivial, trivial⟩⟩⟩, trivial⟩⟩ A.blt
theorem s_is_table (A : Top K mg) : FnSnd P w K mg base f_is_table := snd0 A.d_is_table sc_is_table (fun _ _ _ _ _ _ us hl => match us, hl with | [_, _, _], _ => rfl) e_is_table ⟨⟨s_require_width A, ⟨trivial, trivial⟩⟩, ⟨⟨s_require_width A, ⟨trivial, trivial⟩⟩, ⟨⟨s_is_plain_table A, ⟨trivial, ⟨trivial, ⟨trivial, trivial⟩⟩⟩⟩, trivial⟩⟩⟩ A.blt
theorem s_is_lot (A : Top K mg) : FnSnd P w K mg base f_is_lot := snd0 A.d_is_lot sc_is_lot (fun _ _ _ _ _ _ us hl => match us, hl with | [_, _], _ => rfl) e_is_lot ⟨⟨s_require_width A, ⟨trivial, trivial⟩⟩, ⟨⟨s_is_plain_lot A, ⟨trivial, ⟨trivial, trivial⟩⟩⟩, trivial⟩⟩ A.blt
theorem s_law_dice (A : Top K mg) : FnSnd P w K mg base f_law_dice := snd0 A.d_law_dice sc_law_dice (fun _ _ _ _ _ _ us hl => match us, hl with | [_, _], _ => rfl) e_law_dice ⟨⟨⟨trivial, trivial⟩, ⟨trivial, trivial⟩, ⟨⟨trivial, trivial⟩, trivial⟩⟩, ⟨⟨trivial, ⟨⟨trivial, trivial⟩, trivial⟩⟩, ⟨⟨⟨⟨⟨⟨trivial, trivial⟩, trivial⟩, ⟨trivial, trivial⟩⟩, ⟨trivial, ⟨trivial, trivial⟩⟩⟩, trivial⟩, ⟨⟨⟨trivial, ⟨trivial, ⟨trivial, trivial⟩⟩⟩, ⟨trivial, ⟨trivial, trivial⟩⟩⟩, trivial⟩⟩⟩⟩ A.blt
theorem s_law_roll (A : Top K mg) : FnSnd P w K mg base f_law_roll := snd0 A.d_law_roll sc_law_roll (fun _ _ _ _ _ _ us hl => match us, hl with | [_, _], _ => rfl) e_law_roll ⟨⟨⟨⟨trivial, trivial⟩, trivial⟩, ⟨⟨⟨trivial, trivial⟩, trivial⟩, ⟨⟨trivial, ⟨⟨trivial, trivial⟩, trivial⟩⟩, ⟨trivial, trivial⟩⟩⟩, trivial⟩, ⟨⟨trivial, ⟨⟨trivial, trivial⟩, trivial⟩⟩, ⟨⟨⟨⟨trivial, trivial⟩, ⟨trivial, ⟨trivial, trivial⟩⟩⟩, trivial⟩, ⟨⟨⟨⟨⟨⟨trivial, trivial⟩, ⟨trivial, ⟨trivial, trivial⟩⟩⟩, trivial⟩, trivial⟩, trivial⟩, ⟨⟨⟨trivial, trivial⟩, trivial⟩, trivial⟩⟩⟩⟩⟩ A.blt
theorem s_law_pick (A : Top K mg) : FnSnd P w K mg base f_law_pick := snd0 A.d_law_pick sc_law_pick (fun _ _ _ _ _ _ us hl => match us, hl with | [_, _], _ => rfl) e_law_pick ⟨⟨trivial, ⟨s_law_roll A, ⟨trivial, ⟨trivial, trivial⟩⟩⟩⟩, trivial⟩ A.blt
theorem s_law_fr (A : Top K mg) : FnSnd P w K mg base f_law_fr := snd0 A.d_law_fr sc_law_fr (fun _ _ _ _ _ _ us hl => match us, hl with | [_, _], _ => rfl) e_law_fr ⟨⟨trivial, trivial⟩, ⟨⟨⟨trivial, trivial⟩, ⟨⟨trivial, ⟨trivial, trivial⟩⟩, trivial⟩⟩, ⟨⟨⟨trivial, trivial⟩, trivial, trivial⟩, ⟨⟨⟨⟨trivial, trivial⟩, trivial⟩, ⟨⟨⟨trivial, trivial⟩, trivial⟩, trivial⟩⟩, trivial⟩⟩⟩⟩ A.blt
theorem s_law_plus (A : Top K mg) : FnSnd P w K mg base f_law_plus := snd0 A.d_law_plus sc_law_plus (fun _ _ _ _ _ _ us hl => match us, hl with | [_, _], _ => rfl) e_law_plus ⟨⟨s_law_fr A, ⟨⟨⟨⟨trivial, trivial⟩, ⟨trivial, trivial⟩⟩, ⟨⟨trivial, trivial⟩, ⟨trivial, trivial⟩⟩⟩, ⟨⟨⟨trivial, trivial⟩, ⟨trivial, trivial⟩⟩, trivial⟩⟩⟩, trivial⟩ A.blt
theorem s_law_times (A : Top K mg) : FnSnd P w K mg base f_law_times := snd0 A.d_law_times sc_law_times (fun _ _ _ _ _ _ us hl => match us, hl with | [_, _], _ => rfl) e_law_times ⟨⟨s_law_fr A, ⟨⟨⟨trivial, trivial⟩, ⟨trivial, trivial⟩⟩, ⟨⟨⟨trivial, trivial⟩, ⟨trivial, trivial⟩⟩, trivial⟩⟩⟩, trivial⟩ A.blt
theorem s_law_minus (A : Top K mg) : FnSnd P w K mg base f_law_minus := snd0 A.d_law_minus sc_law_minus (fun _ _ _ _ _ _ us hl => match us, hl with | [_, _], _ => rfl) e_law_minus ⟨⟨s_law_fr A, ⟨⟨⟨⟨trivial, trivial⟩, ⟨trivial, trivial⟩⟩, ⟨⟨trivial, trivial⟩, ⟨trivial, trivial⟩⟩⟩, ⟨⟨⟨trivial, trivial⟩, ⟨trivial, trivial⟩⟩, trivial⟩⟩⟩, trivial⟩ A.blt
theorem s_law_less (A : Top K mg) : FnSnd P w K mg base f_law_less := snd0 A.d_law_less sc_law_less (fun _ _ _ _ _ _ us hl => match us, hl with | [_, _, _], _ => rfl) e_law_less ⟨⟨⟨⟨trivial, trivial⟩, trivial⟩, ⟨trivial, trivial⟩, trivial⟩, ⟨⟨⟨trivial, trivial⟩, trivial, ⟨s_law_minus A, ⟨trivial, ⟨⟨s_law_times A, ⟨trivial, ⟨trivial, trivial⟩⟩⟩, trivial⟩⟩⟩⟩, trivial⟩⟩ A.blt
theorem s_law_lead (A : Top K mg) : FnSnd P w K mg base f_law_lead := snd0 A.d_law_lead sc_law_lead (fun _ _ _ _ _ _ us hl => match us, hl with | [_], _ => rfl) e_law_lead ⟨⟨trivial, ⟨⟨trivial, trivial⟩, trivial⟩, trivial⟩, ⟨⟨⟨trivial, trivial⟩, ⟨trivial, trivial⟩, trivial⟩, trivial⟩⟩ A.blt
theorem s_law_rest (A : Top K mg) : FnSnd P w K mg base f_law_rest := snd0 A.d_law_rest sc_law_rest (fun _ _ _ _ _ _ us hl => match us, hl with | [_, _], _ => rfl) e_law_rest ⟨⟨trivial, ⟨⟨s_law_less A, ⟨trivial, ⟨⟨trivial, ⟨s_law_lead A, ⟨trivial, trivial⟩⟩⟩, ⟨trivial, trivial⟩⟩⟩⟩, trivial⟩⟩, ⟨trivial, trivial⟩⟩ A.blt
theorem s_law_with_row (A : Top K mg) : FnSnd P w K mg base f_law_with_row := snd0 A.d_law_with_row sc_law_with_row (fun _ _ _ _ _ _ us hl => match us, hl with | [_, _], _ => rfl) e_law_with_row ⟨⟨s_law_rest A, ⟨trivial, ⟨trivial, trivial⟩⟩⟩, ⟨⟨s_law_lead A, ⟨trivial, trivial⟩⟩, ⟨⟨⟨trivial, trivial⟩, ⟨trivial, trivial⟩, trivial⟩, ⟨⟨trivial, trivial, ⟨s_law_times A, ⟨trivial, ⟨⟨s_law_fr A, ⟨⟨⟨trivial, trivial⟩, trivial⟩, ⟨⟨⟨trivial, trivial⟩, trivial⟩, trivial⟩⟩⟩, trivial⟩⟩⟩⟩, ⟨⟨⟨trivial, trivial, ⟨s_law_less A, ⟨trivial, ⟨⟨trivial, trivial⟩, ⟨trivial, trivial⟩⟩⟩⟩⟩, ⟨trivial, trivial⟩⟩, ⟨⟨⟨trivial, trivial, ⟨⟨s_law_lead A, ⟨trivial, trivial⟩⟩, ⟨trivial, trivial⟩⟩⟩, trivial, trivial⟩, trivial⟩⟩⟩⟩⟩⟩ A.blt
theorem s_law_lot (A : Top K mg) : FnSnd P w K mg base f_law_lot := snd0 A.d_law_lot sc_law_lot (fun _ _ _ _ _ _ us hl => match us, hl with | [_], _ => rfl) e_law_lot ⟨trivial, ⟨⟨trivial, ⟨⟨s_law_with_row A, ⟨trivial, ⟨trivial, trivial⟩⟩⟩, trivial⟩⟩, ⟨trivial, trivial⟩⟩⟩ A.blt
theorem s_law_is_number (A : Top K mg) : FnSnd P w K mg base f_law_is_number := snd0 A.d_law_is_number sc_law_is_number (fun _ _ _ _ _ _ us hl => match us, hl with | [_], _ => rfl) e_law_is_number ⟨⟨⟨trivial, ⟨trivial, trivial⟩⟩, ⟨trivial, trivial⟩, trivial⟩, ⟨⟨⟨⟨trivial, ⟨trivial, trivial⟩, trivial⟩, trivial⟩, ⟨trivial, trivial⟩, trivial⟩, ⟨⟨⟨⟨trivial, trivial⟩, trivial⟩, ⟨⟨s_law_fr A, ⟨⟨trivial, trivial⟩, ⟨⟨trivial, trivial⟩, trivial⟩⟩⟩, trivial⟩⟩, trivial⟩⟩⟩ A.blt
theorem s_law_is_row (A : Top K mg) : FnSnd P w K mg base f_law_is_row := snd0 A.d_law_is_row sc_law_is_row (fun _ _ _ _ _ _ us hl => match us, hl with | [_, _], _ => rfl) e_law_is_row ⟨⟨trivial, ⟨⟨trivial, trivial⟩, ⟨⟨trivial, ⟨s_law_is_number A, ⟨trivial, trivial⟩⟩, trivial⟩, trivial⟩⟩⟩, trivial⟩ A.blt
theorem s_law_is_table (A : Top K mg) : FnSnd P w K mg base f_law_is_table := snd0 A.d_law_is_table sc_law_is_table (fun _ _ _ _ _ _ us hl => match us, hl with | [_, _, _], _ => rfl) e_law_is_table ⟨⟨⟨trivial, ⟨trivial, trivial⟩⟩, ⟨trivial, trivial⟩, trivial⟩, ⟨⟨⟨trivial, ⟨s_law_is_row A, ⟨trivial, ⟨trivial, trivial⟩⟩⟩, trivial⟩, trivial⟩, trivial⟩⟩ A.blt
theorem s_law_is_lot (A : Top K mg) : FnSnd P w K mg base f_law_is_lot := snd0 A.d_law_is_lot sc_law_is_lot (fun _ _ _ _ _ _ us hl => match us, hl with | [_, _], _ => rfl) e_law_is_lot ⟨⟨⟨trivial, ⟨⟨trivial, ⟨s_law_is_row A, ⟨trivial, ⟨trivial, trivial⟩⟩⟩, trivial⟩, trivial⟩⟩, ⟨trivial, trivial⟩, trivial⟩, ⟨⟨⟨trivial, ⟨trivial, trivial, ⟨s_law_lead A, ⟨trivial, trivial⟩⟩⟩⟩, ⟨⟨s_law_lot A, ⟨trivial, trivial⟩⟩, trivial⟩⟩, trivial⟩⟩ A.blt
theorem s_law_drawn (A : Top K mg) : FnSnd P w K mg base f_law_drawn := snd0 A.d_law_drawn sc_law_drawn (fun _ _ _ _ _ _ us hl => match us, hl with | [_, _, _], _ => rfl) e_law_drawn ⟨⟨⟨trivial, ⟨trivial, trivial⟩⟩, ⟨⟨trivial, ⟨trivial, trivial⟩⟩, ⟨⟨trivial, ⟨trivial, trivial⟩⟩, ⟨⟨trivial, ⟨trivial, trivial⟩⟩, ⟨⟨trivial, ⟨trivial, trivial⟩⟩, ⟨⟨trivial, ⟨trivial, trivial⟩⟩, ⟨⟨trivial, ⟨trivial, trivial⟩⟩, trivial⟩⟩⟩⟩⟩⟩⟩, ⟨⟨trivial, trivial, ⟨trivial, trivial, ⟨s_law_pick A, ⟨trivial, ⟨trivial, trivial⟩⟩⟩⟩⟩, trivial⟩⟩ A.blt
theorem s_law_near (A : Top K mg) : FnSnd P w K mg base f_law_near := snd0 A.d_law_near sc_law_near (fun _ _ _ _ _ _ us hl => match us, hl with | [_, _], _ => rfl) e_law_near ⟨⟨trivial, ⟨trivial, ⟨⟨trivial, trivial, trivial⟩, ⟨trivial, ⟨⟨trivial, ⟨trivial, trivial, trivial⟩⟩, ⟨⟨trivial, ⟨trivial, trivial⟩⟩, ⟨trivial, ⟨trivial, ⟨trivial, ⟨trivial, ⟨⟨trivial, trivial⟩, trivial⟩⟩⟩⟩⟩⟩⟩⟩⟩⟩⟩, ⟨⟨⟨⟨trivial, trivial⟩, ⟨⟨trivial, trivial⟩, trivial⟩⟩, ⟨⟨⟨s_law_roll A, ⟨trivial, ⟨trivial, trivial⟩⟩⟩, ⟨s_law_roll A, ⟨trivial, ⟨⟨trivial, trivial⟩, trivial⟩⟩⟩⟩, ⟨⟨⟨trivial, ⟨trivial, trivial⟩⟩, ⟨⟨trivial, ⟨trivial, trivial⟩⟩, ⟨trivial, ⟨trivial, ⟨trivial, ⟨trivial, ⟨⟨trivial, ⟨trivial, trivial⟩⟩, ⟨⟨trivial, ⟨trivial, trivial⟩⟩, ⟨⟨trivial, ⟨trivial, trivial⟩⟩, ⟨⟨trivial, ⟨trivial, trivial⟩⟩, ⟨⟨trivial, trivial⟩, ⟨⟨trivial, ⟨trivial, ⟨trivial, trivial⟩⟩⟩, ⟨⟨trivial, ⟨trivial, trivial⟩⟩, ⟨⟨trivial, ⟨trivial, trivial⟩⟩, trivial⟩⟩⟩⟩⟩⟩⟩⟩⟩⟩⟩⟩⟩⟩, ⟨⟨⟨trivial, ⟨⟨trivial, ⟨trivial, trivial⟩⟩, ⟨⟨trivial, ⟨trivial, trivial⟩⟩, trivial⟩⟩⟩, ⟨⟨⟨⟨⟨trivial, trivial⟩, trivial, trivial⟩, ⟨trivial, trivial⟩⟩, ⟨⟨trivial, trivial⟩, ⟨trivial, trivial⟩, trivial⟩⟩, ⟨⟨⟨⟨trivial, trivial, trivial⟩, ⟨trivial, trivial⟩⟩, ⟨trivial, ⟨trivial, trivial⟩, trivial⟩⟩, trivial⟩⟩⟩, ⟨⟨⟨⟨trivial, trivial⟩, ⟨⟨⟨trivial, trivial⟩, trivial, trivial⟩, ⟨⟨⟨trivial, trivial⟩, ⟨⟨trivial, ⟨trivial, trivial⟩⟩, trivial⟩⟩, trivial⟩⟩⟩, ⟨⟨⟨⟨trivial, trivial, trivial⟩, ⟨trivial, trivial⟩⟩, ⟨trivial, ⟨trivial, trivial⟩, trivial⟩⟩, trivial⟩⟩, ⟨⟨⟨trivial, trivial⟩, ⟨⟨⟨⟨trivial, trivial⟩, ⟨trivial, trivial⟩⟩, trivial, ⟨s_law_plus A, ⟨trivial, ⟨trivial, trivial⟩⟩⟩⟩, ⟨⟨trivial, ⟨⟨⟨trivial, trivial⟩, ⟨trivial, trivial, trivial⟩⟩, ⟨⟨⟨⟨trivial, trivial, trivial⟩, ⟨trivial, trivial⟩⟩, ⟨trivial, trivial, trivial⟩⟩, ⟨⟨trivial, ⟨⟨⟨⟨trivial, ⟨trivial, trivial⟩⟩, trivial⟩, ⟨trivial, trivial⟩⟩, trivial⟩⟩, trivial⟩⟩⟩⟩, trivial⟩⟩, trivial⟩, trivial⟩⟩⟩⟩⟩, trivial⟩, ⟨trivial, trivial⟩⟩⟩ A.blt
theorem s_law_near_row (A : Top K mg) : FnSnd P w K mg base f_law_near_row := snd0 A.d_law_near_row sc_law_near_row (fun _ _ _ _ _ _ us hl => match us, hl with | [_, _], _ => rfl) e_law_near_row ⟨⟨trivial, ⟨trivial, ⟨⟨trivial, trivial, trivial⟩, ⟨trivial, ⟨⟨trivial, ⟨⟨trivial, ⟨trivial, trivial⟩⟩, trivial⟩⟩, ⟨trivial, ⟨trivial, ⟨trivial, ⟨trivial, ⟨⟨trivial, trivial⟩, ⟨trivial, trivial⟩⟩⟩⟩⟩⟩⟩⟩⟩⟩⟩, ⟨⟨⟨⟨trivial, ⟨trivial, trivial⟩⟩, ⟨⟨trivial, ⟨trivial, trivial⟩⟩, ⟨trivial, ⟨trivial, ⟨trivial, ⟨⟨trivial, ⟨trivial, trivial⟩⟩, ⟨⟨trivial, ⟨trivial, trivial⟩⟩, ⟨⟨trivial, ⟨trivial, trivial⟩⟩, ⟨⟨trivial, ⟨trivial, trivial⟩⟩, ⟨⟨trivial, trivial⟩, ⟨⟨trivial, ⟨trivial, ⟨trivial, trivial⟩⟩⟩, ⟨⟨⟨trivial, trivial⟩, ⟨trivial, trivial⟩⟩, trivial⟩⟩⟩⟩⟩⟩⟩⟩⟩⟩⟩⟩, ⟨⟨⟨trivial, trivial⟩, ⟨⟨s_law_roll A, ⟨trivial, ⟨trivial, trivial⟩⟩⟩, ⟨⟨⟨⟨trivial, trivial, trivial⟩, ⟨trivial, trivial⟩⟩, ⟨trivial, ⟨trivial, trivial⟩, trivial⟩⟩, trivial⟩⟩, trivial⟩, trivial⟩⟩, ⟨trivial, trivial⟩⟩⟩ A.blt
theorem s_law_right (A : Top K mg) : FnSnd P w K mg base f_law_right := snd0 A.d_law_right sc_law_right (fun _ _ _ _ _ _ us hl => match us, hl with | [_], _ => rfl) e_law_right ⟨⟨⟨s_law_roll A, ⟨trivial, ⟨trivial, trivial⟩⟩⟩, ⟨s_law_roll A, ⟨trivial, ⟨trivial, trivial⟩⟩⟩⟩, ⟨⟨s_law_drawn A, ⟨trivial, ⟨trivial, ⟨trivial, trivial⟩⟩⟩⟩, ⟨⟨⟨trivial, ⟨⟨s_law_lot A, ⟨trivial, trivial⟩⟩, trivial⟩⟩, ⟨⟨⟨s_law_near A, ⟨trivial, ⟨trivial, trivial⟩⟩⟩, ⟨⟨⟨s_is_table A, ⟨trivial, ⟨trivial, ⟨trivial, trivial⟩⟩⟩⟩, ⟨⟨s_is_lot A, ⟨trivial, ⟨trivial, trivial⟩⟩⟩, ⟨⟨s_is_row A, ⟨trivial, ⟨trivial, trivial⟩⟩⟩, trivial⟩⟩⟩, ⟨⟨⟨s_law_is_table A, ⟨trivial, ⟨trivial, ⟨trivial, trivial⟩⟩⟩⟩, ⟨⟨s_law_is_lot A, ⟨trivial, ⟨trivial, trivial⟩⟩⟩, ⟨⟨s_law_is_row A, ⟨trivial, ⟨trivial, trivial⟩⟩⟩, trivial⟩⟩⟩, ⟨⟨⟨trivial, trivial⟩, ⟨trivial, trivial⟩, trivial⟩, ⟨⟨⟨⟨s_is_row A, ⟨trivial, ⟨trivial, trivial⟩⟩⟩, ⟨s_law_is_row A, ⟨trivial, ⟨trivial, trivial⟩⟩⟩⟩, ⟨trivial, trivial⟩, trivial⟩, trivial⟩⟩⟩⟩⟩, trivial⟩⟩, ⟨⟨⟨s_law_drawn A, ⟨trivial, ⟨trivial, ⟨trivial, trivial⟩⟩⟩⟩, trivial⟩, ⟨⟨⟨s_law_near_row A, ⟨trivial, ⟨trivial, trivial⟩⟩⟩, ⟨⟨⟨⟨s_is_row A, ⟨trivial, ⟨trivial, trivial⟩⟩⟩, ⟨s_law_is_row A, ⟨trivial, ⟨trivial, trivial⟩⟩⟩⟩, ⟨trivial, trivial⟩, trivial⟩, trivial⟩⟩, ⟨⟨⟨s_is_table A, ⟨trivial, ⟨trivial, ⟨trivial, trivial⟩⟩⟩⟩, ⟨s_law_is_table A, ⟨trivial, ⟨trivial, ⟨trivial, trivial⟩⟩⟩⟩⟩, trivial⟩⟩⟩⟩⟩⟩ A.blt
theorem s_law (A : Top K mg) : FnSnd P w K mg base f_law := snd0 A.d_law sc_law (fun _ _ _ _ _ _ us hl => match us, hl with | [_], _ => rfl) e_law ⟨⟨⟨trivial, ⟨trivial, trivial⟩⟩, ⟨⟨⟨s_law_right A, ⟨s_law_dice A, ⟨trivial, ⟨trivial, trivial⟩⟩⟩⟩, ⟨trivial, trivial⟩, trivial⟩, trivial⟩⟩, ⟨⟨⟨s_is_lot A, ⟨trivial, ⟨trivial, trivial⟩⟩⟩, ⟨⟨s_is_table A, ⟨trivial, ⟨trivial, ⟨trivial, trivial⟩⟩⟩⟩, ⟨⟨s_is_table A, ⟨trivial, ⟨trivial, ⟨⟨trivial, ⟨trivial, trivial⟩⟩, trivial⟩⟩⟩⟩, ⟨⟨s_is_lot A, ⟨trivial, ⟨⟨trivial, trivial⟩, trivial⟩⟩⟩, ⟨⟨s_is_row A, ⟨trivial, ⟨trivial, trivial⟩⟩⟩, trivial⟩⟩⟩⟩⟩, ⟨⟨trivial, ⟨⟨s_is_lot A, ⟨trivial, ⟨⟨⟨⟨trivial, ⟨trivial, trivial⟩⟩, ⟨⟨trivial, ⟨trivial, trivial⟩⟩, ⟨⟨trivial, ⟨trivial, trivial⟩⟩, trivial⟩⟩⟩, ⟨⟨⟨trivial, ⟨trivial, trivial⟩⟩, ⟨⟨trivial, ⟨trivial, trivial⟩⟩, ⟨⟨trivial, ⟨trivial, trivial⟩⟩, trivial⟩⟩⟩, trivial⟩⟩, trivial⟩⟩⟩, ⟨⟨s_is_row A, ⟨trivial, ⟨⟨⟨⟨trivial, trivial⟩, ⟨trivial, trivial⟩⟩, trivial⟩, trivial⟩⟩⟩, trivial⟩⟩⟩, ⟨⟨trivial, ⟨trivial, ⟨trivial, ⟨trivial, ⟨trivial, ⟨trivial, ⟨trivial, ⟨trivial, trivial⟩⟩⟩⟩⟩⟩⟩⟩, trivial⟩⟩⟩⟩ A.blt
end
theorem top_mk {K : PySem.W.Frag} {h : Heap} {mg : Str → Option Value} (X : K.In h) (G : h.Ns mainGlobals mg)
    {F_is_integer : Addr} {od_is_integer an_is_integer : Option Addr} {sl_is_integer : Array (Option Value)} {oc_is_integer kV_is_integer dc_is_integer pm_is_integer cd_is_integer ct_is_integer : Value}
    (a_is_integer : PySem.W.nsIn K mainGlobals "is_integer" = some (some (.ref F_is_integer))) (l_is_integer : K.lookup F_is_integer = some ⟨oc_is_integer, od_is_integer, .func (PySem.W.fnOf "is_integer" "is_integer" (defArgs (topS 6)) (defBody (topS 6)) (defScope (topS 6)) .none kV_is_integer dc_is_integer pm_is_integer an_is_integer cd_is_integer ct_is_integer), sl_is_integer⟩) (c_is_integer : PySem.W.codeIn K cd_is_integer "is_integer" = true) (k_is_integer : PySem.W.keepIn K (.ref F_is_integer) = true)
    {F_common_divisor : Addr} {od_common_divisor an_common_divisor : Option Addr} {sl_common_divisor : Array (Option Value)} {oc_common_divisor kV_common_divisor dc_common_divisor pm_common_divisor cd_common_divisor ct_common_divisor : Value}
    (a_common_divisor : PySem.W.nsIn K mainGlobals "common_divisor" = some (some (.ref F_common_divisor))) (l_common_divisor : K.lookup F_common_divisor = some ⟨oc_common_divisor, od_common_divisor, .func (PySem.W.fnOf "common_divisor" "common_divisor" (defArgs (topS 7)) (defBody (topS 7)) (defScope (topS 7)) .none kV_common_divisor dc_common_divisor pm_common_divisor an_common_divisor cd_common_divisor ct_common_divisor), sl_common_divisor⟩) (c_common_divisor : PySem.W.codeIn K cd_common_divisor "common_divisor" = true) (k_common_divisor : PySem.W.keepIn K (.ref F_common_divisor) = true)
    {F_is_number : Addr} {od_is_number an_is_number : Option Addr} {sl_is_number : Array (Option Value)} {oc_is_number kV_is_number dc_is_number pm_is_number cd_is_number ct_is_number : Value}
    (a_is_number : PySem.W.nsIn K mainGlobals "is_number" = some (some (.ref F_is_number))) (l_is_number : K.lookup F_is_number = some ⟨oc_is_number, od_is_number, .func (PySem.W.fnOf "is_number" "is_number" (defArgs (topS 8)) (defBody (topS 8)) (defScope (topS 8)) .none kV_is_number dc_is_number pm_is_number an_is_number cd_is_number ct_is_number), sl_is_number⟩) (c_is_number : PySem.W.codeIn K cd_is_number "is_number" = true) (k_is_number : PySem.W.keepIn K (.ref F_is_number) = true)
    {F_require_count : Addr} {od_require_count an_require_count : Option Addr} {sl_require_count : Array (Option Value)} {oc_require_count kV_require_count dc_require_count pm_require_count cd_require_count ct_require_count : Value}
    {T_require_count : Addr} {cT_require_count : Value} {dT_require_count : Option Addr} {sT_require_count : Array (Option Value)} {mT_require_count : Nat} {tk_require_count_0 tk_require_count_1 : Tok}
    (a_require_count : PySem.W.nsIn K mainGlobals "require_count" = some (some (.ref F_require_count))) (l_require_count : K.lookup F_require_count = some ⟨oc_require_count, od_require_count, .func (PySem.W.fnOf "require_count" "require_count" (defArgs (topS 9)) (defBody (topS 9)) (defScope (topS 9)) (.ref T_require_count) kV_require_count dc_require_count pm_require_count an_require_count cd_require_count ct_require_count), sl_require_count⟩) (c_require_count : PySem.W.codeIn K cd_require_count "require_count" = true) (k_require_count : PySem.W.keepIn K (.ref F_require_count) = true)
    (t_require_count : K.lookup T_require_count = some ⟨cT_require_count, dT_require_count, .seq [.int 0 tk_require_count_0, .int 60 tk_require_count_1].toArray mT_require_count, sT_require_count⟩)
    {F_is_plain_row : Addr} {od_is_plain_row an_is_plain_row : Option Addr} {sl_is_plain_row : Array (Option Value)} {oc_is_plain_row kV_is_plain_row dc_is_plain_row pm_is_plain_row cd_is_plain_row ct_is_plain_row : Value}
    (a_is_plain_row : PySem.W.nsIn K mainGlobals "is_plain_row" = some (some (.ref F_is_plain_row))) (l_is_plain_row : K.lookup F_is_plain_row = some ⟨oc_is_plain_row, od_is_plain_row, .func (PySem.W.fnOf "is_plain_row" "is_plain_row" (defArgs (topS 11)) (defBody (topS 11)) (defScope (topS 11)) .none kV_is_plain_row dc_is_plain_row pm_is_plain_row an_is_plain_row cd_is_plain_row ct_is_plain_row), sl_is_plain_row⟩) (c_is_plain_row : PySem.W.codeIn K cd_is_plain_row "is_plain_row" = true) (k_is_plain_row : PySem.W.keepIn K (.ref F_is_plain_row) = true)
    {F_is_plain_table : Addr} {od_is_plain_table an_is_plain_table : Option Addr} {sl_is_plain_table : Array (Option Value)} {oc_is_plain_table kV_is_plain_table dc_is_plain_table pm_is_plain_table cd_is_plain_table ct_is_plain_table : Value}
    (a_is_plain_table : PySem.W.nsIn K mainGlobals "is_plain_table" = some (some (.ref F_is_plain_table))) (l_is_plain_table : K.lookup F_is_plain_table = some ⟨oc_is_plain_table, od_is_plain_table, .func (PySem.W.fnOf "is_plain_table" "is_plain_table" (defArgs (topS 12)) (defBody (topS 12)) (defScope (topS 12)) .none kV_is_plain_table dc_is_plain_table pm_is_plain_table an_is_plain_table cd_is_plain_table ct_is_plain_table), sl_is_plain_table⟩) (c_is_plain_table : PySem.W.codeIn K cd_is_plain_table "is_plain_table" = true) (k_is_plain_table : PySem.W.keepIn K (.ref F_is_plain_table) = true)
    {F_first_index : Addr} {od_first_index an_first_index : Option Addr} {sl_first_index : Array (Option Value)} {oc_first_index kV_first_index dc_first_index pm_first_index cd_first_index ct_first_index : Value}
    (a_first_index : PySem.W.nsIn K mainGlobals "first_index" = some (some (.ref F_first_index))) (l_first_index : K.lookup F_first_index = some ⟨oc_first_index, od_first_index, .func (PySem.W.fnOf "first_index" "first_index" (defArgs (topS 13)) (defBody (topS 13)) (defScope (topS 13)) .none kV_first_index dc_first_index pm_first_index an_first_index cd_first_index ct_first_index), sl_first_index⟩) (c_first_index : PySem.W.codeIn K cd_first_index "first_index" = true) (k_first_index : PySem.W.keepIn K (.ref F_first_index) = true)
    {F_is_plain_lot : Addr} {od_is_plain_lot an_is_plain_lot : Option Addr} {sl_is_plain_lot : Array (Option Value)} {oc_is_plain_lot kV_is_plain_lot dc_is_plain_lot pm_is_plain_lot cd_is_plain_lot ct_is_plain_lot : Value}
    (a_is_plain_lot : PySem.W.nsIn K mainGlobals "is_plain_lot" = some (some (.ref F_is_plain_lot))) (l_is_plain_lot : K.lookup F_is_plain_lot = some ⟨oc_is_plain_lot, od_is_plain_lot, .func (PySem.W.fnOf "is_plain_lot" "is_plain_lot" (defArgs (topS 14)) (defBody (topS 14)) (defScope (topS 14)) .none kV_is_plain_lot dc_is_plain_lot pm_is_plain_lot an_is_plain_lot cd_is_plain_lot ct_is_plain_lot), sl_is_plain_lot⟩) (c_is_plain_lot : PySem.W.codeIn K cd_is_plain_lot "is_plain_lot" = true) (k_is_plain_lot : PySem.W.keepIn K (.ref F_is_plain_lot) = true)
    {F_require_width : Addr} {od_require_width an_require_width : Option Addr} {sl_require_width : Array (Option Value)} {oc_require_width kV_require_width dc_require_width pm_require_width cd_require_width ct_require_width : Value}
    (a_require_width : PySem.W.nsIn K mainGlobals "require_width" = some (some (.ref F_require_width))) (l_require_width : K.lookup F_require_width = some ⟨oc_require_width, od_require_width, .func (PySem.W.fnOf "require_width" "require_width" (defArgs (topS 17)) (defBody (topS 17)) (defScope (topS 17)) .none kV_require_width dc_require_width pm_require_width an_require_width cd_require_width ct_require_width), sl_require_width⟩) (c_require_width : PySem.W.codeIn K cd_require_width "require_width" = true) (k_require_width : PySem.W.keepIn K (.ref F_require_width) = true)
    {F_is_row : Addr} {od_is_row an_is_row : Option Addr} {sl_is_row : Array (Option Value)} {oc_is_row kV_is_row dc_is_row pm_is_row cd_is_row ct_is_row : Value}
    (a_is_row : PySem.W.nsIn K mainGlobals "is_row" = some (some (.ref F_is_row))) (l_is_row : K.lookup F_is_row = some ⟨oc_is_row, od_is_row, .func (PySem.W.fnOf "is_row" "is_row" (defArgs (topS 18)) (defBody (topS 18)) (defScope (topS 18)) .none kV_is_row dc_is_row pm_is_row an_is_row cd_is_row ct_is_row), sl_is_row⟩) (c_is_row : PySem.W.codeIn K cd_is_row "is_row" = true) (k_is_row : PySem.W.keepIn K (.ref F_is_row) = true)
    {F_is_table : Addr} {od_is_table an_is_table : Option Addr} {sl_is_table : Array (Option Value)} {oc_is_table kV_is_table dc_is_table pm_is_table cd_is_table ct_is_table : Value}
    (a_is_table : PySem.W.nsIn K mainGlobals "is_table" = some (some (.ref F_is_table))) (l_is_table : K.lookup F_is_table = some ⟨oc_is_table, od_is_table, .func (PySem.W.fnOf "is_table" "is_table" (defArgs (topS 19)) (defBody (topS 19)) (defScope (topS 19)) .none kV_is_table dc_is_table pm_is_table an_is_table cd_is_table ct_is_table), sl_is_table⟩) (c_is_table : PySem.W.codeIn K cd_is_table "is_table" = true) (k_is_table : PySem.W.keepIn K (.ref F_is_table) = true)
    {F_is_lot : Addr} {od_is_lot an_is_lot : Option Addr} {sl_is_lot : Array (Option Value)} {oc_is_lot kV_is_lot dc_is_lot pm_is_lot cd_is_lot ct_is_lot : Value}
    (a_is_lot : PySem.W.nsIn K mainGlobals "is_lot" = some (some (.ref F_is_lot))) (l_is_lot : K.lookup F_is_lot = some ⟨oc_is_lot, od_is_lot, .func (PySem.W.fnOf "is_lot" "is_lot" (defArgs (topS 20)) (defBody (topS 20)) (defScope (topS 20)) .none kV_is_lot dc_is_lot pm_is_lot an_is_lot cd_is_lot ct_is_lot), sl_is_lot⟩) (c_is_lot : PySem.W.codeIn K cd_is_lot "is_lot" = true) (k_is_lot : PySem.W.keepIn K (.ref F_is_lot) = true)
    {F_law_dice : Addr} {od_law_dice an_law_dice : Option Addr} {sl_law_dice : Array (Option Value)} {oc_law_dice kV_law_dice dc_law_dice pm_law_dice cd_law_dice ct_law_dice : Value}
    (a_law_dice : PySem.W.nsIn K mainGlobals "_law_dice" = some (some (.ref F_law_dice))) (l_law_dice : K.lookup F_law_dice = some ⟨oc_law_dice, od_law_dice, .func (PySem.W.fnOf "_law_dice" "_law_dice" (defArgs (topS 22)) (defBody (topS 22)) (defScope (topS 22)) .none kV_law_dice dc_law_dice pm_law_dice an_law_dice cd_law_dice ct_law_dice), sl_law_dice⟩) (c_law_dice : PySem.W.codeIn K cd_law_dice "_law_dice" = true) (k_law_dice : PySem.W.keepIn K (.ref F_law_dice) = true)
    {F_law_roll : Addr} {od_law_roll an_law_roll : Option Addr} {sl_law_roll : Array (Option Value)} {oc_law_roll kV_law_roll dc_law_roll pm_law_roll cd_law_roll ct_law_roll : Value}
    (a_law_roll : PySem.W.nsIn K mainGlobals "_law_roll" = some (some (.ref F_law_roll))) (l_law_roll : K.lookup F_law_roll = some ⟨oc_law_roll, od_law_roll, .func (PySem.W.fnOf "_law_roll" "_law_roll" (defArgs (topS 23)) (defBody (topS 23)) (defScope (topS 23)) .none kV_law_roll dc_law_roll pm_law_roll an_law_roll cd_law_roll ct_law_roll), sl_law_roll⟩) (c_law_roll : PySem.W.codeIn K cd_law_roll "_law_roll" = true) (k_law_roll : PySem.W.keepIn K (.ref F_law_roll) = true)
    {F_law_pick : Addr} {od_law_pick an_law_pick : Option Addr} {sl_law_pick : Array (Option Value)} {oc_law_pick kV_law_pick dc_law_pick pm_law_pick cd_law_pick ct_law_pick : Value}
    (a_law_pick : PySem.W.nsIn K mainGlobals "_law_pick" = some (some (.ref F_law_pick))) (l_law_pick : K.lookup F_law_pick = some ⟨oc_law_pick, od_law_pick, .func (PySem.W.fnOf "_law_pick" "_law_pick" (defArgs (topS 24)) (defBody (topS 24)) (defScope (topS 24)) .none kV_law_pick dc_law_pick pm_law_pick an_law_pick cd_law_pick ct_law_pick), sl_law_pick⟩) (c_law_pick : PySem.W.codeIn K cd_law_pick "_law_pick" = true) (k_law_pick : PySem.W.keepIn K (.ref F_law_pick) = true)
    {F_law_fr : Addr} {od_law_fr an_law_fr : Option Addr} {sl_law_fr : Array (Option Value)} {oc_law_fr kV_law_fr dc_law_fr pm_law_fr cd_law_fr ct_law_fr : Value}
    (a_law_fr : PySem.W.nsIn K mainGlobals "_law_fr" = some (some (.ref F_law_fr))) (l_law_fr : K.lookup F_law_fr = some ⟨oc_law_fr, od_law_fr, .func (PySem.W.fnOf "_law_fr" "_law_fr" (defArgs (topS 25)) (defBody (topS 25)) (defScope (topS 25)) .none kV_law_fr dc_law_fr pm_law_fr an_law_fr cd_law_fr ct_law_fr), sl_law_fr⟩) (c_law_fr : PySem.W.codeIn K cd_law_fr "_law_fr" = true) (k_law_fr : PySem.W.keepIn K (.ref F_law_fr) = true)
    {F_law_plus : Addr} {od_law_plus an_law_plus : Option Addr} {sl_law_plus : Array (Option Value)} {oc_law_plus kV_law_plus dc_law_plus pm_law_plus cd_law_plus ct_law_plus : Value}
    (a_law_plus : PySem.W.nsIn K mainGlobals "_law_plus" = some (some (.ref F_law_plus))) (l_law_plus : K.lookup F_law_plus = some ⟨oc_law_plus, od_law_plus, .func (PySem.W.fnOf "_law_plus" "_law_plus" (defArgs (topS 26)) (defBody (topS 26)) (defScope (topS 26)) .none kV_law_plus dc_law_plus pm_law_plus an_law_plus cd_law_plus ct_law_plus), sl_law_plus⟩) (c_law_plus : PySem.W.codeIn K cd_law_plus "_law_plus" = true) (k_law_plus : PySem.W.keepIn K (.ref F_law_plus) = true)
    {F_law_times : Addr} {od_law_times an_law_times : Option Addr} {sl_law_times : Array (Option Value)} {oc_law_times kV_law_times dc_law_times pm_law_times cd_law_times ct_law_times : Value}
    (a_law_times : PySem.W.nsIn K mainGlobals "_law_times" = some (some (.ref F_law_times))) (l_law_times : K.lookup F_law_times = some ⟨oc_law_times, od_law_times, .func (PySem.W.fnOf "_law_times" "_law_times" (defArgs (topS 27)) (defBody (topS 27)) (defScope (topS 27)) .none kV_law_times dc_law_times pm_law_times an_law_times cd_law_times ct_law_times), sl_law_times⟩) (c_law_times : PySem.W.codeIn K cd_law_times "_law_times" = true) (k_law_times : PySem.W.keepIn K (.ref F_law_times) = true)
    {F_law_minus : Addr} {od_law_minus an_law_minus : Option Addr} {sl_law_minus : Array (Option Value)} {oc_law_minus kV_law_minus dc_law_minus pm_law_minus cd_law_minus ct_law_minus : Value}
    (a_law_minus : PySem.W.nsIn K mainGlobals "_law_minus" = some (some (.ref F_law_minus))) (l_law_minus : K.lookup F_law_minus = some ⟨oc_law_minus, od_law_minus, .func (PySem.W.fnOf "_law_minus" "_law_minus" (defArgs (topS 28)) (defBody (topS 28)) (defScope (topS 28)) .none kV_law_minus dc_law_minus pm_law_minus an_law_minus cd_law_minus ct_law_minus), sl_law_minus⟩) (c_law_minus : PySem.W.codeIn K cd_law_minus "_law_minus" = true) (k_law_minus : PySem.W.keepIn K (.ref F_law_minus) = true)
    {F_law_less : Addr} {od_law_less an_law_less : Option Addr} {sl_law_less : Array (Option Value)} {oc_law_less kV_law_less dc_law_less pm_law_less cd_law_less ct_law_less : Value}
    (a_law_less : PySem.W.nsIn K mainGlobals "_law_less" = some (some (.ref F_law_less))) (l_law_less : K.lookup F_law_less = some ⟨oc_law_less, od_law_less, .func (PySem.W.fnOf "_law_less" "_law_less" (defArgs (topS 29)) (defBody (topS 29)) (defScope (topS 29)) .none kV_law_less dc_law_less pm_law_less an_law_less cd_law_less ct_law_less), sl_law_less⟩) (c_law_less : PySem.W.codeIn K cd_law_less "_law_less" = true) (k_law_less : PySem.W.keepIn K (.ref F_law_less) = true)
    {F_law_lead : Addr} {od_law_lead an_law_lead : Option Addr} {sl_law_lead : Array (Option Value)} {oc_law_lead kV_law_lead dc_law_lead pm_law_lead cd_law_lead ct_law_lead : Value}
    (a_law_lead : PySem.W.nsIn K mainGlobals "_law_lead" = some (some (.ref F_law_lead))) (l_law_lead : K.lookup F_law_lead = some ⟨oc_law_lead, od_law_lead, .func (PySem.W.fnOf "_law_lead" "_law_lead" (defArgs (topS 30)) (defBody (topS 30)) (defScope (topS 30)) .none kV_law_lead dc_law_lead pm_law_lead an_law_lead cd_law_lead ct_law_lead), sl_law_lead⟩) (c_law_lead : PySem.W.codeIn K cd_law_lead "_law_lead" = true) (k_law_lead : PySem.W.keepIn K (.ref F_law_lead) = true)
    {F_law_rest : Addr} {od_law_rest an_law_rest : Option Addr} {sl_law_rest : Array (Option Value)} {oc_law_rest kV_law_rest dc_law_rest pm_law_rest cd_law_rest ct_law_rest : Value}
    (a_law_rest : PySem.W.nsIn K mainGlobals "_law_rest" = some (some (.ref F_law_rest))) (l_law_rest : K.lookup F_law_rest = some ⟨oc_law_rest, od_law_rest, .func (PySem.W.fnOf "_law_rest" "_law_rest" (defArgs (topS 31)) (defBody (topS 31)) (defScope (topS 31)) .none kV_law_rest dc_law_rest pm_law_rest an_law_rest cd_law_rest ct_law_rest), sl_law_rest⟩) (c_law_rest : PySem.W.codeIn K cd_law_rest "_law_rest" = true) (k_law_rest : PySem.W.keepIn K (.ref F_law_rest) = true)
    {F_law_with_row : Addr} {od_law_with_row an_law_with_row : Option Addr} {sl_law_with_row : Array (Option Value)} {oc_law_with_row kV_law_with_row dc_law_with_row pm_law_with_row cd_law_with_row ct_law_with_row : Value}
    (a_law_with_row : PySem.W.nsIn K mainGlobals "_law_with_row" = some (some (.ref F_law_with_row))) (l_law_with_row : K.lookup F_law_with_row = some ⟨oc_law_with_row, od_law_with_row, .func (PySem.W.fnOf "_law_with_row" "_law_with_row" (defArgs (topS 32)) (defBody (topS 32)) (defScope (topS 32)) .none kV_law_with_row dc_law_with_row pm_law_with_row an_law_with_row cd_law_with_row ct_law_with_row), sl_law_with_row⟩) (c_law_with_row : PySem.W.codeIn K cd_law_with_row "_law_with_row" = true) (k_law_with_row : PySem.W.keepIn K (.ref F_law_with_row) = true)
    {F_law_lot : Addr} {od_law_lot an_law_lot : Option Addr} {sl_law_lot : Array (Option Value)} {oc_law_lot kV_law_lot dc_law_lot pm_law_lot cd_law_lot ct_law_lot : Value}
    (a_law_lot : PySem.W.nsIn K mainGlobals "_law_lot" = some (some (.ref F_law_lot))) (l_law_lot : K.lookup F_law_lot = some ⟨oc_law_lot, od_law_lot, .func (PySem.W.fnOf "_law_lot" "_law_lot" (defArgs (topS 33)) (defBody (topS 33)) (defScope (topS 33)) .none kV_law_lot dc_law_lot pm_law_lot an_law_lot cd_law_lot ct_law_lot), sl_law_lot⟩) (c_law_lot : PySem.W.codeIn K cd_law_lot "_law_lot" = true) (k_law_lot : PySem.W.keepIn K (.ref F_law_lot) = true)
    {F_law_is_number : Addr} {od_law_is_number an_law_is_number : Option Addr} {sl_law_is_number : Array (Option Value)} {oc_law_is_number kV_law_is_number dc_law_is_number pm_law_is_number cd_law_is_number ct_law_is_number : Value}
    (a_law_is_number : PySem.W.nsIn K mainGlobals "_law_is_number" = some (some (.ref F_law_is_number))) (l_law_is_number : K.lookup F_law_is_number = some ⟨oc_law_is_number, od_law_is_number, .func (PySem.W.fnOf "_law_is_number" "_law_is_number" (defArgs (topS 34)) (defBody (topS 34)) (defScope (topS 34)) .none kV_law_is_number dc_law_is_number pm_law_is_number an_law_is_number cd_law_is_number ct_law_is_number), sl_law_is_number⟩) (c_law_is_number : PySem.W.codeIn K cd_law_is_number "_law_is_number" = true) (k_law_is_number : PySem.W.keepIn K (.ref F_law_is_number) = true)
    {F_law_is_row : Addr} {od_law_is_row an_law_is_row : Option Addr} {sl_law_is_row : Array (Option Value)} {oc_law_is_row kV_law_is_row dc_law_is_row pm_law_is_row cd_law_is_row ct_law_is_row : Value}
    (a_law_is_row : PySem.W.nsIn K mainGlobals "_law_is_row" = some (some (.ref F_law_is_row))) (l_law_is_row : K.lookup F_law_is_row = some ⟨oc_law_is_row, od_law_is_row, .func (PySem.W.fnOf "_law_is_row" "_law_is_row" (defArgs (topS 35)) (defBody (topS 35)) (defScope (topS 35)) .none kV_law_is_row dc_law_is_row pm_law_is_row an_law_is_row cd_law_is_row ct_law_is_row), sl_law_is_row⟩) (c_law_is_row : PySem.W.codeIn K cd_law_is_row "_law_is_row" = true) (k_law_is_row : PySem.W.keepIn K (.ref F_law_is_row) = true)
    {F_law_is_table : Addr} {od_law_is_table an_law_is_table : Option Addr} {sl_law_is_table : Array (Option Value)} {oc_law_is_table kV_law_is_table dc_law_is_table pm_law_is_table cd_law_is_table ct_law_is_table : Value}
    (a_law_is_table : PySem.W.nsIn K mainGlobals "_law_is_table" = some (some (.ref F_law_is_table))) (l_law_is_table : K.lookup F_law_is_table = some ⟨oc_law_is_table, od_law_is_table, .func (PySem.W.fnOf "_law_is_table" "_law_is_table" (defArgs (topS 36)) (defBody (topS 36)) (defScope (topS 36)) .none kV_law_is_table dc_law_is_table pm_law_is_table an_law_is_table cd_law_is_table ct_law_is_table), sl_law_is_table⟩) (c_law_is_table : PySem.W.codeIn K cd_law_is_table "_law_is_table" = true) (k_law_is_table : PySem.W.keepIn K (.ref F_law_is_table) = true)
    {F_law_is_lot : Addr} {od_law_is_lot an_law_is_lot : Option Addr} {sl_law_is_lot : Array (Option Value)} {oc_law_is_lot kV_law_is_lot dc_law_is_lot pm_law_is_lot cd_law_is_lot ct_law_is_lot : Value}
    (a_law_is_lot : PySem.W.nsIn K mainGlobals "_law_is_lot" = some (some (.ref F_law_is_lot))) (l_law_is_lot : K.lookup F_law_is_lot = some ⟨oc_law_is_lot, od_law_is_lot, .func (PySem.W.fnOf "_law_is_lot" "_law_is_lot" (defArgs (topS 37)) (defBody (topS 37)) (defScope (topS 37)) .none kV_law_is_lot dc_law_is_lot pm_law_is_lot an_law_is_lot cd_law_is_lot ct_law_is_lot), sl_law_is_lot⟩) (c_law_is_lot : PySem.W.codeIn K cd_law_is_lot "_law_is_lot" = true) (k_law_is_lot : PySem.W.keepIn K (.ref F_law_is_lot) = true)
    {F_law_drawn : Addr} {od_law_drawn an_law_drawn : Option Addr} {sl_law_drawn : Array (Option Value)} {oc_law_drawn kV_law_drawn dc_law_drawn pm_law_drawn cd_law_drawn ct_law_drawn : Value}
    (a_law_drawn : PySem.W.nsIn K mainGlobals "_law_drawn" = some (some (.ref F_law_drawn))) (l_law_drawn : K.lookup F_law_drawn = some ⟨oc_law_drawn, od_law_drawn, .func (PySem.W.fnOf "_law_drawn" "_law_drawn" (defArgs (topS 38)) (defBody (topS 38)) (defScope (topS 38)) .none kV_law_drawn dc_law_drawn pm_law_drawn an_law_drawn cd_law_drawn ct_law_drawn), sl_law_drawn⟩) (c_law_drawn : PySem.W.codeIn K cd_law_drawn "_law_drawn" = true) (k_law_drawn : PySem.W.keepIn K (.ref F_law_drawn) = true)
    {F_law_near : Addr} {od_law_near an_law_near : Option Addr} {sl_law_near : Array (Option Value)} {oc_law_near kV_law_near dc_law_near pm_law_near cd_law_near ct_law_near : Value}
    (a_law_near : PySem.W.nsIn K mainGlobals "_law_near" = some (some (.ref F_law_near))) (l_law_near : K.lookup F_law_near = some ⟨oc_law_near, od_law_near, .func (PySem.W.fnOf "_law_near" "_law_near" (defArgs (topS 39)) (defBody (topS 39)) (defScope (topS 39)) .none kV_law_near dc_law_near pm_law_near an_law_near cd_law_near ct_law_near), sl_law_near⟩) (c_law_near : PySem.W.codeIn K cd_law_near "_law_near" = true) (k_law_near : PySem.W.keepIn K (.ref F_law_near) = true)
    {F_law_near_row : Addr} {od_law_near_row an_law_near_row : Option Addr} {sl_law_near_row : Array (Option Value)} {oc_law_near_row kV_law_near_row dc_law_near_row pm_law_near_row cd_law_near_row ct_law_near_row : Value}
    (a_law_near_row : PySem.W.nsIn K mainGlobals "_law_near_row" = some (some (.ref F_law_near_row))) (l_law_near_row : K.lookup F_law_near_row = some ⟨oc_law_near_row, od_law_near_row, .func (PySem.W.fnOf "_law_near_row" "_law_near_row" (defArgs (topS 40)) (defBody (topS 40)) (defScope (topS 40)) .none kV_law_near_row dc_law_near_row pm_law_near_row an_law_near_row cd_law_near_row ct_law_near_row), sl_law_near_row⟩) (c_law_near_row : PySem.W.codeIn K cd_law_near_row "_law_near_row" = true) (k_law_near_row : PySem.W.keepIn K (.ref F_law_near_row) = true)
    {F_law_right : Addr} {od_law_right an_law_right : Option Addr} {sl_law_right : Array (Option Value)} {oc_law_right kV_law_right dc_law_right pm_law_right cd_law_right ct_law_right : Value}
    (a_law_right : PySem.W.nsIn K mainGlobals "_law_right" = some (some (.ref F_law_right))) (l_law_right : K.lookup F_law_right = some ⟨oc_law_right, od_law_right, .func (PySem.W.fnOf "_law_right" "_law_right" (defArgs (topS 41)) (defBody (topS 41)) (defScope (topS 41)) .none kV_law_right dc_law_right pm_law_right an_law_right cd_law_right ct_law_right), sl_law_right⟩) (c_law_right : PySem.W.codeIn K cd_law_right "_law_right" = true) (k_law_right : PySem.W.keepIn K (.ref F_law_right) = true)
    {F_law : Addr} {od_law an_law : Option Addr} {sl_law : Array (Option Value)} {oc_law kV_law dc_law pm_law cd_law ct_law : Value}
    (a_law : PySem.W.nsIn K mainGlobals "law" = some (some (.ref F_law))) (l_law : K.lookup F_law = some ⟨oc_law, od_law, .func (PySem.W.fnOf "law" "law" (defArgs (topS 42)) (defBody (topS 42)) (defScope (topS 42)) .none kV_law dc_law pm_law an_law cd_law ct_law), sl_law⟩) (c_law : PySem.W.codeIn K cd_law "law" = true) (k_law : PySem.W.keepIn K (.ref F_law) = true)
    {A_NOUGHT : Addr} {dd_NOUGHT : Option Addr} {sl_NOUGHT : Array (Option Value)} {m_NOUGHT : Nat} {tk_NOUGHT_0 tk_NOUGHT_1 : Tok} (a_NOUGHT : PySem.W.nsIn K mainGlobals "NOUGHT" = some (some (.ref A_NOUGHT))) (l_NOUGHT : K.lookup A_NOUGHT = some ⟨.type "tuple", dd_NOUGHT, .seq [.int 0 tk_NOUGHT_0, .int 1 tk_NOUGHT_1].toArray m_NOUGHT, sl_NOUGHT⟩)
    {A_ONE : Addr} {dd_ONE : Option Addr} {sl_ONE : Array (Option Value)} {m_ONE : Nat} {tk_ONE_0 tk_ONE_1 : Tok} (a_ONE : PySem.W.nsIn K mainGlobals "ONE" = some (some (.ref A_ONE))) (l_ONE : K.lookup A_ONE = some ⟨.type "tuple", dd_ONE, .seq [.int 1 tk_ONE_0, .int 1 tk_ONE_1].toArray m_ONE, sl_ONE⟩)
    (q_MAX_WIDTH : Glo K mg "MAX_WIDTH" c_MAX_WIDTH)
    (z_len : PySem.W.nsIn K mainGlobals "len" = some none)
    (z_abs : PySem.W.nsIn K mainGlobals "abs" = some none)
    (z_int : PySem.W.nsIn K mainGlobals "int" = some none)
    (z_repr : PySem.W.nsIn K mainGlobals "repr" = some none)
    (z_tuple : PySem.W.nsIn K mainGlobals "tuple" = some none)
    (z_all : PySem.W.nsIn K mainGlobals "all" = some none)
    (z_any : PySem.W.nsIn K mainGlobals "any" = some none)
    (z_str : PySem.W.nsIn K mainGlobals "str" = some none)
    (z_isinstance : PySem.W.nsIn K mainGlobals "isinstance" = some none)
    (z_bool : PySem.W.nsIn K mainGlobals "bool" = some none)
    (z_list : PySem.W.nsIn K mainGlobals "list" = some none)
    (z_dict : PySem.W.nsIn K mainGlobals "dict" = some none)
    (z_max : PySem.W.nsIn K mainGlobals "max" = some none)
    (z_min : PySem.W.nsIn K mainGlobals "min" = some none)
    (z_range : PySem.W.nsIn K mainGlobals "range" = some none)
    (z_zip : PySem.W.nsIn K mainGlobals "zip" = some none)
    (z_enumerate : PySem.W.nsIn K mainGlobals "enumerate" = some none)
    (z_sorted : PySem.W.nsIn K mainGlobals "sorted" = some none) : Top K mg where
  blt := by
    intro x hx
    simp only [bltWords, List.mem_cons, List.not_mem_nil, or_false] at hx
    rcases hx with rfl | rfl | rfl | rfl | rfl | rfl | rfl | rfl | rfl | rfl | rfl | rfl | rfl | rfl | rfl | rfl | rfl | rfl
    · exact PySem.W.mg_none_of X G z_len
    · exact PySem.W.mg_none_of X G z_abs
    · exact PySem.W.mg_none_of X G z_int
    · exact PySem.W.mg_none_of X G z_repr
    · exact PySem.W.mg_none_of X G z_tuple
    · exact PySem.W.mg_none_of X G z_all
    · exact PySem.W.mg_none_of X G z_any
    · exact PySem.W.mg_none_of X G z_str
    · exact PySem.W.mg_none_of X G z_isinstance
    · exact PySem.W.mg_none_of X G z_bool
    · exact PySem.W.mg_none_of X G z_list
    · exact PySem.W.mg_none_of X G z_dict
    · exact PySem.W.mg_none_of X G z_max
    · exact PySem.W.mg_none_of X G z_min
    · exact PySem.W.mg_none_of X G z_range
    · exact PySem.W.mg_none_of X G z_zip
    · exact PySem.W.mg_none_of X G z_enumerate
    · exact PySem.W.mg_none_of X G z_sorted
  d_is_integer := defAt X G a_is_integer l_is_integer c_is_integer k_is_integer
  d_common_divisor := defAt X G a_common_divisor l_common_divisor c_common_divisor k_common_divisor
  d_is_number := defAt X G a_is_number l_is_number c_is_number k_is_number
  d_require_count := defAtD X G a_require_count l_require_count c_require_count k_require_count (dvs := [.int 0, .int 60]) t_require_count rfl (.cons ⟨_, rfl⟩ (.cons ⟨_, rfl⟩ (.nil))) (.cons (.int _) (.cons (.int _) (.nil))) (by simp)
  d_is_plain_row := defAt X G a_is_plain_row l_is_plain_row c_is_plain_row k_is_plain_row
  d_is_plain_table := defAt X G a_is_plain_table l_is_plain_table c_is_plain_table k_is_plain_table
  d_first_index := defAt X G a_first_index l_first_index c_first_index k_first_index
  d_is_plain_lot := defAt X G a_is_plain_lot l_is_plain_lot c_is_plain_lot k_is_plain_lot
  d_require_width := defAt X G a_require_width l_require_width c_require_width k_require_width
  d_is_row := defAt X G a_is_row l_is_row c_is_row k_is_row
  d_is_table := defAt X G a_is_table l_is_table c_is_table k_is_table
  d_is_lot := defAt X G a_is_lot l_is_lot c_is_lot k_is_lot
  d_law_dice := defAt X G a_law_dice l_law_dice c_law_dice k_law_dice
  d_law_roll := defAt X G a_law_roll l_law_roll c_law_roll k_law_roll
  d_law_pick := defAt X G a_law_pick l_law_pick c_law_pick k_law_pick
  d_law_fr := defAt X G a_law_fr l_law_fr c_law_fr k_law_fr
  d_law_plus := defAt X G a_law_plus l_law_plus c_law_plus k_law_plus
  d_law_times := defAt X G a_law_times l_law_times c_law_times k_law_times
  d_law_minus := defAt X G a_law_minus l_law_minus c_law_minus k_law_minus
  d_law_less := defAt X G a_law_less l_law_less c_law_less k_law_less
  d_law_lead := defAt X G a_law_lead l_law_lead c_law_lead k_law_lead
  d_law_rest := defAt X G a_law_rest l_law_rest c_law_rest k_law_rest
  d_law_with_row := defAt X G a_law_with_row l_law_with_row c_law_with_row k_law_with_row
  d_law_lot := defAt X G a_law_lot l_law_lot c_law_lot k_law_lot
  d_law_is_number := defAt X G a_law_is_number l_law_is_number c_law_is_number k_law_is_number
  d_law_is_row := defAt X G a_law_is_row l_law_is_row c_law_is_row k_law_is_row
  d_law_is_table := defAt X G a_law_is_table l_law_is_table c_law_is_table k_law_is_table
  d_law_is_lot := defAt X G a_law_is_lot l_law_is_lot c_law_is_lot k_law_is_lot
  d_law_drawn := defAt X G a_law_drawn l_law_drawn c_law_drawn k_law_drawn
  d_law_near := defAt X G a_law_near l_law_near c_law_near k_law_near
  d_law_near_row := defAt X G a_law_near_row l_law_near_row c_law_near_row k_law_near_row
  d_law_right := defAt X G a_law_right l_law_right c_law_right k_law_right
  d_law := defAt X G a_law l_law c_law k_law
  g_NOUGHT := gloTup (l := [(0, tk_NOUGHT_0), (1, tk_NOUGHT_1)]) X G a_NOUGHT l_NOUGHT rfl rfl (by simp [sizeLine_eq])
  g_ONE := gloTup (l := [(1, tk_ONE_0), (1, tk_ONE_1)]) X G a_ONE l_ONE rfl rfl (by simp [sizeLine_eq])
  g_MAX_WIDTH := q_MAX_WIDTH
end K25
namespace K25
open PySem SG Gn LT B
def someL : List D := [frD 0, frD 0, frD 0, frD 1, frD (-1), frD 2, frD (Rat.divInt 1 2)]
theorem some_eq : someL = [.tup [.int 0, .int 1], .tup [.int 0, .int 1], .tup [.int 0, .int 1], .tup [.int 1, .int 1], .tup [.int (-1), .int 1], .tup [.int 2, .int 1], .tup [.int 1, .int 2]] := by
  unfold someL
  rw [divInt_pos (by decide)]
  rfl
def PQ (q : Rat) : Prop := FB 3 q ∧ IB 4 (2 * q)
theorem half2 : (2 : Rat) * Rat.divInt 1 2 = 1 := by
  rw [Rat.divInt_eq_div]
  grind
theorem some_fr : ∀ d ∈ someL, ∃ q, d = frD q ∧ PQ q := fun d hd => by
  unfold someL at hd
  simp only [List.mem_cons, List.not_mem_nil, or_false] at hd
  rcases hd with rfl | rfl | rfl | rfl | rfl | rfl | rfl
  · exact ⟨_, rfl, FB0 3 (by decide), ⟨0, by decide +kernel, by decide⟩⟩
  · exact ⟨_, rfl, FB0 3 (by decide), ⟨0, by decide +kernel, by decide⟩⟩
  · exact ⟨_, rfl, FB0 3 (by decide), ⟨0, by decide +kernel, by decide⟩⟩
  · exact ⟨_, rfl, FB1 3 (by decide), ⟨2, by decide +kernel, by decide⟩⟩
  · exact ⟨_, rfl, by unfold FB Bd; exact ⟨by decide +kernel, by decide +kernel⟩, ⟨-2, by decide +kernel, by decide⟩⟩
  · exact ⟨_, rfl, by unfold FB Bd; exact ⟨by decide +kernel, by decide +kernel⟩, ⟨4, by decide +kernel, by decide⟩⟩
  · exact ⟨_, rfl, divInt_bd (by decide) (by unfold Bd; decide +kernel) (by unfold Bd; decide +kernel), ⟨1, by rw [half2]; rfl, by decide⟩⟩
theorem drawn_run {ds : List D} (hd : Dc ds) {h w : Nat} (hh : h ≤ 1000) (hw : w ≤ 1000) : ∃ (t : List Row) (ds' : List D), f_law_drawn.run ds [.int h, .int w] = some (.ok (ltD t), ds') ∧ Dc ds' ∧ t.length = h ∧ ∀ r ∈ t, r.length = w ∧ ∀ q ∈ r, PQ q := by
  obtain ⟨t, ds', s3, h1, h2, h3, h4⟩ := drawn_ev some_fr (by unfold someL; simp) (by unfold someL; simp) hd hh hw
  refine ⟨t, ds', ?_, h2, h3, h4⟩
  rw [fr_law_drawn]
  refine runL (init := [.own true ds, .val (.int h), .val (.int w), .un, .un, .un]) rfl (s1 := [.own true ds', .val (.int h), .val (.int w), s3, .un, .un]) ?_ rfl
  unfold p_law_drawn
  rw [exL_nx (s1 := [.own true ds, .val (.int h), .val (.int w), .own false someL, .un, .un]) (by simp [evF, exT, evX, evE, seqD, evT, evL, evC, SG.bnd, SG.ok, SG.opt, slotOf, rd, frz, frzs, frzR, opD, setS, setTg, free, truD, isiD, tyOf, callD, at_fr0, at_fr1, cm_ne_fr, cm_eq_fr, cm_ne_int, cm_gt_int, cm_lt_int, cm_eq_int, cm_ne_str, cm_eq_str, b1_repr, b1_int_bl, b1_tup_lst, b1_int_int, b1_len_tup, b1_len_lst, some_eq])]
  refine exL_rt ?_
  rw [exT, h1]
  rfl
theorem nrm_of {r : Row} (h : ∀ q ∈ r, PQ q) : Nrm 4 r := ⟨2, by decide +kernel, ⟨2, rfl, by decide⟩, fun c => by
  by_cases hc : c < r.length
  · rw [ent_get hc]
    exact (h _ (List.getElem_mem hc)).2
  · rw [ent_ge (by omega), Rat.mul_zero]
    exact IB.zero _⟩
/-! ### values near rows -/
theorem zero3 (n : Nat) (h : 3 ≤ n) : FinD n (.tup [.int 0, .int 1]) := FinD.mono h (by simp [FinD, FinsD, Bd])
def badL : List D := [.tup [.int 0, .int 2], .tup [.int 2, .int 2], .bl true, .int 1, .non, .str "1", .tup [.int 1, .int 0], .tup [.int 1, .int (-1)], .lst [.int 1, .int 1], .tup [.bl true, .int 1], .tup [.int 1], .tup [.int 1, .int 1, .int 1], .tup [.int 3, .int 1], .tup [.int 0, .int 1]]
def badM : List D := [.tup [.int 1, .int 1], .tup [.int (-1), .int 1]]
theorem bad_fin {n : Nat} (h : 3 ≤ n) : ∀ d ∈ badL ++ badM, FinD n d := fun d hd => by
  refine FinD.mono h ?_
  simp only [badL, badM, List.cons_append, List.nil_append, List.mem_cons, List.not_mem_nil, or_false] at hd
  rcases hd with rfl | rfl | rfl | rfl | rfl | rfl | rfl | rfl | rfl | rfl | rfl | rfl | rfl | rfl | rfl | rfl <;> simp [FinD, FinsD, Bd]

def found0 (t : List Row) : List D := [ltD t, .lst (t.map rwD), .tup (cutD (t.map rwD) none (some (-1))), .tup (t.map rwD).reverse, .tup (t.map rwD ++ cutD (t.map rwD) none (some 1)), .tup (t.map rwD ++ [.tup []]), .non, .int 0, .str "rows", .dic, .tup [.non]]
theorem first_ok (ds : List D) {t : List Row} (ht : t.length ≤ 40) : exT (nthT 0 p_law_near) [.own true ds, .val (ltD t), .un, .un, .un, .un, .un, .un, .un, .un, .un] = some (.ok .nx, [.own true ds, .val (ltD t), .own false (found0 t), .un, .un, .un, .un, .un, .un, .un, .un]) := by
  have c := cut_len (l := t.map rwD) (lo := none) (hi := some 1)
  rw [List.length_map] at c
  simp [nthT, p_law_near, exT, evX, evE, evF, evL, evO, SG.bnd, SG.ok, SG.opt, slotOf, rd, frz, frzs, opD, setS, free, ltD, found0, show t.length + (cutD (t.map rwD) none (some 1)).length ≤ 100000 by omega, show t.length ≤ 99999 by omega]
theorem found0_ok {n : Nat} (hn : 3 ≤ n) {t : List Row} (ht : t.length ≤ 40) (hb : ∀ r ∈ t, RB n r) : Vs n (found0 t) := by
  have hL : ∀ d ∈ t.map rwD, FinD n d := fun d hd => by
    obtain ⟨r, hr, rfl⟩ := List.mem_map.mp hd
    exact fin_rw (hb r hr)
  have c1 := cut_len (l := t.map rwD) (lo := none) (hi := some 1)
  have c2 := cut_len (l := t.map rwD) (lo := none) (hi := some (-1))
  rw [List.length_map] at c1 c2
  have e0 : FinD n (.tup []) := fin_tup.mpr fun _ h => nomatch h
  have k0 : FinD n (.int 0) := FinD.mono hn (by simp [FinD, Bd])
  have k1 : FinD n .non := by unfold FinD; trivial
  unfold found0
  refine vs_cons (vl_tup hL (by simp; omega)) (vs_cons (vl_no (fin_lst.mpr hL) fun _ z => by cases z) (vs_cons (vl_tup (fun d h => hL d (cut_mem h)) (by omega)) (vs_cons (vl_tup (fun d h => hL d (List.mem_reverse.mp h)) (by simp; omega)) (vs_cons (vl_tup (fun d h => ?_) (by simp; omega)) (vs_cons (vl_tup (fun d h => ?_) (by simp; omega)) (vs_cons (vl_no k1 fun _ z => by cases z) (vs_cons (vl_no k0 fun _ z => by cases z) (vs_cons (vl_no (by unfold FinD; trivial) fun _ z => by cases z) (vs_cons (vl_no (by unfold FinD; trivial) fun _ z => by cases z) (vs_cons (vl_tup (fun d h => ?_) (by simp)) (vs_nil n)))))))))))
  · rcases List.mem_append.mp h with h | h
    · exact hL d h
    · exact hL d (cut_mem h)
  · rcases List.mem_append.mp h with h | h
    · exact hL d h
    · rw [List.mem_singleton.mp h]
      exact e0
  · rw [List.mem_singleton.mp h]
    exact k1
def St (ds : List D) (t : List Row) (f : List D) (s3 s4 s5 : S) (i j : Nat) : List S := [.own true ds, .val (ltD t), .own false f, s3, s4, s5, .val (.int (i : Nat)), .val (.int (j : Nat)), .un, .un, .un]
section
variable {n : Nat} (hn : 3 ≤ n) {ds : List D} {t : List Row} (ht : t.length ≤ 40) (hb : ∀ r ∈ t, RB n r) (hlen : ∀ r ∈ t, r.length ≤ 40) {i j : Nat} (hi : i < t.length)
include hn ht hb hlen hi
theorem loop1 {f : List D} (hf : Vs n f) (h0 : f.length ≤ 20) : ∃ f' s4 s5, loopT (.nm 4) (fun s => exL (bodyOf (nthT 2 (thenOf (nthT 1 p_law_near)))) s) (badL ++ badM) (St ds t f (.own false badL) .un .un i j) = some (.ok .nx, St ds t f' (.own false badL) s4 s5 i j) ∧ Vs n f' ∧ f'.length ≤ 40 ∧ Fr s5 := by
  obtain ⟨st', h1, f', s4, s5, rfl, h3, h4, h5, h6⟩ := for_inv (tg := .nm 4) (body := fun s => exL (bodyOf (nthT 2 (thenOf (nthT 1 p_law_near)))) s) (I := fun k st => ∃ f' s4 s5, st = St ds t f' (.own false badL) s4 s5 i j ∧ Vs n f' ∧ f'.length ≤ 20 + k ∧ Fr s4 ∧ Fr s5) 40 (badL ++ badM) 0 (St ds t f (.own false badL) .un .un i j) (by simp [badL, badM])
    (fun x hx k st hk ⟨f', s4, s5, e, h1, h2, h3, h4⟩ => by
      subst e
      have hxs : x ∈ badL ++ badM := hx
      have hL : ∀ d ∈ t.map rwD, FinD n d := fun d hd => by
        obtain ⟨r, hr, rfl⟩ := List.mem_map.mp hd
        exact fin_rw (hb r hr)
      have hR : ∀ d ∈ t[i].map frD, FinD n d := fun d hd => by
        obtain ⟨q, hq, rfl⟩ := List.mem_map.mp hd
        exact fin_fr (hb _ (List.getElem_mem hi) q hq)
      have rr : RB n t[i] := hb _ (List.getElem_mem hi)
      have rl : t[i].length ≤ 40 := hlen _ (List.getElem_mem hi)
      refine ⟨St ds t f' (.own false badL) (.val x) s5 i j, ?_, ?_⟩
      · have f4 : free (St ds t f' (.own false badL) s4 s5 i j) 4 = true := free_of rfl h3
        rw [set_nm f4]
        rfl
      · refine ⟨St ds t (f' ++ [.tup (cutD (t.map rwD) none (some (i : Nat)) ++ [.tup (cutD (t[i].map frD) none (some (j : Nat)) ++ [x] ++ cutD (t[i].map frD) (some ((j : Nat) + 1)) none)] ++ cutD (t.map rwD) (some ((i : Nat) + 1)) none)]) (.own false badL) (.val x) (.val (.tup (cutD (t[i].map frD) none (some (j : Nat)) ++ [x] ++ cutD (t[i].map frD) (some ((j : Nat) + 1)) none))) i j, ?_, _, _, _, rfl, ?_, ?_, .inr (.inl ⟨_, rfl⟩), .inr (.inl ⟨_, rfl⟩)⟩
        · simp only [bodyOf, nthT, thenOf, p_law_near]
          have e1 : evE (.ix (.var 1) (.var 6)) (St ds t f' (.own false badL) (.val x) s5 i j) = some (.ok (.v (.tup (t[i].map frD))), St ds t f' (.own false badL) (.val x) s5 i j) := ix_run (var_run rfl) (var_run rfl) (at_lt hi)
          have f5 : free (St ds t f' (.own false badL) (.val x) s5 i j) 5 = true := free_of rfl h4
          rw [exL_nx (asg_run (ins_run e1 (var_run rfl) (var_run rfl) (by simp; omega)) f5)]
          refine (exL_nx (app_run (m := false) ⟨f', rfl⟩ (ins_run (xs := t.map rwD) (i := (i : Nat)) (var_run rfl) (var_run rfl) (var_run rfl) (by simp; omega)) rfl ?_)).trans exL_nil
          omega
        · exact vs_app h1 (vs_cons (vl_ins hL (vl_ins hR (bad_fin hn x hxs) (by simp; omega)).1 (by simp; omega)) (vs_nil n))
        · simp
          omega) ⟨f, .un, .un, rfl, hf, h0, .inl rfl, .inl rfl⟩
  exact ⟨f', s4, s5, h1, h3, by simp [badL, badM] at h4; omega, h6⟩
theorem loop2 {f : List D} (hf : Vs n f) (h0 : f.length ≤ 40) {s3 s4 s5 : S} (f5 : Fr s5) (items : List D) (hI : ∀ x ∈ items, FinD n x) (hIl : items.length ≤ 10) : ∃ f' s5', loopT (.nm 5) (fun s => exL (bodyOf (nthT 3 (thenOf (nthT 1 p_law_near)))) s) items (St ds t f s3 s4 s5 i j) = some (.ok .nx, St ds t f' s3 s4 s5' i j) ∧ Vs n f' ∧ f'.length ≤ 50 := by
  obtain ⟨st', h1, f', s5', rfl, h3, h4, h6⟩ := for_inv (tg := .nm 5) (body := fun s => exL (bodyOf (nthT 3 (thenOf (nthT 1 p_law_near)))) s) (I := fun k st => ∃ f' s5, st = St ds t f' s3 s4 s5 i j ∧ Vs n f' ∧ f'.length ≤ 40 + k ∧ Fr s5) 10 items 0 (St ds t f s3 s4 s5 i j) (by omega)
    (fun x hx k st hk ⟨f', s5, e, h1, h2, h4⟩ => by
      subst e
      have hL : ∀ d ∈ t.map rwD, FinD n d := fun d hd => by
        obtain ⟨r, hr, rfl⟩ := List.mem_map.mp hd
        exact fin_rw (hb r hr)
      refine ⟨St ds t f' s3 s4 (.val x) i j, ?_, ?_⟩
      · have f5 : free (St ds t f' s3 s4 s5 i j) 5 = true := free_of rfl h4
        rw [set_nm f5]
        rfl
      · refine ⟨St ds t (f' ++ [.tup (cutD (t.map rwD) none (some (i : Nat)) ++ [x] ++ cutD (t.map rwD) (some ((i : Nat) + 1)) none)]) s3 s4 (.val x) i j, ?_, _, _, rfl, ?_, ?_, .inr (.inl ⟨_, rfl⟩)⟩
        · simp only [bodyOf, nthT, thenOf, p_law_near]
          refine (exL_nx (app_run (m := false) ⟨f', rfl⟩ (ins_run (xs := t.map rwD) (i := (i : Nat)) (var_run rfl) (var_run rfl) (var_run rfl) (by simp; omega)) rfl ?_)).trans exL_nil
          omega
        · exact vs_app h1 (vs_cons (vl_ins hL (hI x hx) (by simp; omega)) (vs_nil n))
        · simp
          omega) ⟨f, s5, rfl, hf, by omega, f5⟩
  exact ⟨f', s5', h1, h3, by omega⟩
end
/-- the sum of two rows -/
def plusR (r s : Row) : Row := (r.zip s).map fun p => p.1 + p.2
theorem third_ok {n : Nat} (hn : 3 ≤ n) (hn2 : n ≤ 2000) {ds : List D} {t : List Row} (ht : t.length ≤ 30) (hb : ∀ r ∈ t, RB n r) (hlen : ∀ r ∈ t, r.length ≤ 30) (i j : Nat) (h2 : 1 < t.length) {f : List D} (hf : Vs n f) (h0 : f.length ≤ 50) {s3 s4 s5 : S} : ∃ f' s8, exL (thenOf (nthT 4 (thenOf (nthT 1 p_law_near)))) (St ds t f s3 s4 s5 i j) =
    some (.ok .nx, [.own true ds, .val (ltD t), .own false f', s3, s4, s5, .val (.int (i : Nat)), .val (.int (j : Nat)), s8, .un, .un]) ∧ Vs (n + n + 1) f' ∧ f'.length ≤ 60 := by
  have hL : ∀ d ∈ t.map rwD, FinD (n + n + 1) d := fun d hd => by
    obtain ⟨r, hr, rfl⟩ := List.mem_map.mp hd
    exact FinD.mono (by omega) (fin_rw (hb r hr))
  have b0 : RB n (t[0]'(by omega)) := hb _ (List.getElem_mem _)
  have b1 : RB n (t[1]'h2) := hb _ (List.getElem_mem _)
  have l0 : (t[0]'(by omega)).length ≤ 30 := hlen _ (List.getElem_mem _)
  obtain ⟨r0, er0⟩ : ∃ r0, r0 = t[0]'(by omega) := ⟨_, rfl⟩
  obtain ⟨r1, er1⟩ : ∃ r1, r1 = t[1]'h2 := ⟨_, rfl⟩
  rw [← er0] at b0 l0
  rw [← er1] at b1
  have a0 : atD (ltD t) (.int 0) = some (rwD r0) := by rw [er0]; exact at_lt (i := 0) (by omega)
  have a1 : atD (ltD t) (.int 1) = some (rwD r1) := by rw [er1]; exact at_lt (i := 1) h2
  have e0 : ∀ st : List S, st[1]? = some (.val (ltD t)) → evE (.ix (.var 1) (.cst (.int 0))) st = some (.ok (.v (rwD r0)), st) := fun st h => ix_run (var_run h) cst_run a0
  have e1 : ∀ st : List S, st[1]? = some (.val (ltD t)) → evE (.ix (.var 1) (.cst (.int 1))) st = some (.ok (.v (rwD r1)), st) := fun st h => ix_run (var_run h) cst_run a1
  have hc := comp_all2 (e := fun p : Rat × Rat => .tup [frD p.1, frD p.2]) (f := fun p => frD (p.1 + p.2)) (a := fun p => frD p.1) (b := fun p => frD p.2) (P := fun p => FB n p.1 ∧ FB n p.2) (i := 9) (j := 10) (it := .zipA (.ix (.var 1) (.cst (.int 0))) (.ix (.var 1) (.cst (.int 1))))
    (el := .call f_law_plus (.cons (.var 9) (.cons (.var 10) .nil))) (st := St ds t f s3 s4 s5 i j) (si := .un) (sj := .un) (qs := r0.zip r1) (by
      rw [evI, e0 _ rfl]
      show SG.bnd (evE _ _) _ = _
      rw [e1 _ rfl]
      simp [SG.bnd, SG.ok, frzs, frz, seqD, rwD, ← pairs_eq]) rfl rfl (by decide) (by simp; omega) (fun _ => rfl)
    (fun p hp => by simp [St, exT, evX, evE, seqD, evT, evL, evC, SG.bnd, SG.ok, SG.opt, slotOf, rd, frz, frzs, frzR, opD, setS, setTg, free, truD, isiD, tyOf, callD, at_fr0, at_fr1, cm_ne_fr, cm_eq_fr, cm_ne_int, cm_gt_int, cm_lt_int, cm_eq_int, cm_ne_str, cm_eq_str, b1_repr, b1_int_bl, b1_tup_lst, b1_int_int, b1_len_tup, b1_len_lst, fl_law_plus, lplus_run _ hp.1 hp.2 (by omega)]) (fun p hp => by
      have := List.of_mem_zip hp
      exact ⟨b0 _ this.1, b1 _ this.2⟩) rfl rfl
  obtain ⟨other, eo⟩ : ∃ other : D, other = .tup ((r0.zip r1).map fun p => frD (p.1 + p.2)) := ⟨_, rfl⟩
  have ho : FinD (n + n + 1) other := by
    rw [eo]
    refine fin_tup.mpr fun d hd => ?_
    obtain ⟨p, hp, rfl⟩ := List.mem_map.mp hd
    have := List.of_mem_zip hp
    exact fin_fr ((b0 _ this.1).add (b1 _ this.2))
  obtain ⟨L, eL⟩ : ∃ L : List D, L = t.map rwD := ⟨_, rfl⟩
  rw [← eL] at hL
  have hLl : L.length ≤ 30 := by rw [eL, List.length_map]; exact ht
  obtain ⟨Z, eZ⟩ : ∃ Z : List D, Z = (List.replicate r0.length [D.tup [.int 0, .int 1]]).flatten := ⟨_, rfl⟩
  have hZ : FinD (n + n + 1) (.tup Z) := fin_tup.mpr fun d hd => by
    rw [eZ] at hd
    obtain ⟨l, h1, h2⟩ := List.mem_flatten.mp hd
    rw [List.eq_of_mem_replicate h1, List.mem_singleton] at h2
    rw [h2]
    exact zero3 _ (by omega)
  obtain ⟨st1, est1⟩ : ∃ st1 : List S, st1 = [.own true ds, .val (.tup L), .own false f, s3, s4, s5, .val (.int (i : Nat)), .val (.int (j : Nat)), .val other, .un, .un] := ⟨_, rfl⟩
  have v1 : evE (.var 1) st1 = some (.ok (.v (.tup L)), st1) := by rw [est1]; exact var_run rfl
  have v8 : evE (.var 8) st1 = some (.ok (.v other), st1) := by rw [est1]; exact var_run rfl
  have s1 : evE (.bin .add (.tup (.cons (.var 8) .nil)) (.slc (.var 1) (.yes (.cst (.int 1))) .no)) st1 = some (.ok (.v (.tup ([other] ++ cutD L (some 1) none))), st1) := by
    have c := cut_len (l := L) (lo := some 1) (hi := none)
    exact add_run (one_run v8) (slc_lo v1 cst_run) (by simp) (by omega)
  have s2 : evE (.bin .add (.bin .add (.slc (.var 1) .no (.yes (.cst (.int 1)))) (.tup (.cons (.var 8) .nil))) (.slc (.var 1) (.yes (.cst (.int 2))) .no)) st1 = some (.ok (.v (.tup (cutD L none (some 1) ++ [other] ++ cutD L (some 2) none))), st1) := by
    have c := cut_len (l := L) (lo := none) (hi := some 1)
    have c' := cut_len (l := L) (lo := some 2) (hi := none)
    exact add_run (add_run (slc_hi v1 cst_run) (one_run v8) (by omega) (by simp)) (slc_lo v1 cst_run) (by simp; omega) (by omega)
  have m0 : evE (.bin .mul (.tup (.cons (.tup (.cons (.cst (.int 0)) (.cons (.cst (.int 1)) .nil))) .nil)) (.b1 .len (.ix (.var 1) (.cst (.int 0))))) st1 = some (.ok (.v (.tup Z)), st1) := by
    have t0 : evE (.tup (.cons (.tup (.cons (.cst (.int 0)) (.cons (.cst (.int 1)) .nil))) .nil)) st1 = some (.ok (.v (.tup [.tup [.int 0, .int 1]])), st1) := one_run (tup_run (ds := [.int 0, .int 1]) (evL_c cst_run (evL_c cst_run evL_n)) (by simp))
    have l0' : evE (.b1 .len (.ix (.var 1) (.cst (.int 0)))) st1 = some (.ok (.v (.int (r0.length : Nat))), st1) := by
      have := len_run (e0 st1 (by rw [est1, eL]; rfl))
      rw [List.length_map] at this
      exact this
    rw [evE, t0]
    show SG.bnd (evE _ st1) _ = _
    rw [l0']
    simp only [SG.bnd, SG.ok, SG.opt, rd, opD]
    rw [if_pos ⟨by simp, by omega, by omega, by simp⟩, eZ]
    simp
  have s3' : evE (.bin .add (.var 1) (.tup (.cons (.bin .mul (.tup (.cons (.tup (.cons (.cst (.int 0)) (.cons (.cst (.int 1)) .nil))) .nil)) (.b1 .len (.ix (.var 1) (.cst (.int 0))))) .nil))) st1 = some (.ok (.v (.tup (L ++ [.tup Z]))), st1) := add_run v1 (one_run m0) (by omega) (by simp)
  have pl := plus_run (a := .var 2) (x := .o 2) (st := st1) (xs := f) (by rw [est1]; exact var_own rfl) (fr_run (disp_run (ds := [.tup ([other] ++ cutD L (some 1) none), .tup (cutD L none (some 1) ++ [other] ++ cutD L (some 2) none), .tup (L ++ [.tup Z])]) (evL_c s1 (evL_c s2 (evL_c s3' evL_n))) (by simp))) (by rw [est1]; rfl) rfl (by simp; omega)
  have c1 := cut_len (l := L) (lo := some 1) (hi := none)
  refine ⟨f ++ [.tup ([other] ++ cutD L (some 1) none), .tup (cutD L none (some 1) ++ [other] ++ cutD L (some 2) none), .tup (L ++ [.tup Z])], .val other, ?_, vs_app (vs_mono (by omega) hf) (vs_cons (vl_tup (fun d hd => ?_) (by simp; omega)) (vs_cons (vl_ins hL ho (by omega)) (vs_cons (vl_tup (fun d hd => ?_) (by simp; omega)) (vs_nil _)))), by simp; omega⟩
  · simp only [nthT, thenOf, p_law_near]
    have ea : evE (.b1 .tup (.fr (.comp (.two 9 10) (.zipA (.ix (.var 1) (.cst (.int 0))) (.ix (.var 1) (.cst (.int 1)))) .no (.call f_law_plus (.cons (.var 9) (.cons (.var 10) .nil)))))) (St ds t f s3 s4 s5 i j) = some (.ok (.v other), St ds t f s3 s4 s5 i j) := by
      rw [eo]
      exact tup_of hc
    rw [exL_nx (asg_run ea rfl)]
    have es1 : (St ds t f s3 s4 s5 i j).set 8 (.val other) = st1 := by
      rw [est1, eL]
      rfl
    rw [es1, exL_nx (asgF_run pl (by rw [est1]; rfl)), exL_nil, est1, eL]
    rfl
  · rcases List.mem_append.mp hd with hd | hd
    · rw [List.mem_singleton.mp hd]
      exact ho
    · exact hL d (cut_mem hd)
  · rcases List.mem_append.mp hd with hd | hd
    · exact hL d hd
    · rw [List.mem_singleton.mp hd]
      exact hZ
end K25
namespace K25
open PySem SG Gn LT B
theorem near_run {n : Nat} (hn : 3 ≤ n) (hn2 : n ≤ 2000) {ds : List D} (hd : Dc ds) {t : List Row} {w : Nat} (ht : t.length ≤ 30) (hw : w ≤ 30) (hlen : ∀ r ∈ t, r.length = w) (hb : ∀ r ∈ t, RB n r) :
    ∃ vs ds', f_law_near.run ds [ltD t] = some (.ok (.lst vs), ds') ∧ Dc ds' ∧ Vs (n + n + 1) vs ∧ vs.length ≤ 100 := by
  rw [fr_law_near]
  have hlen' : ∀ r ∈ t, r.length ≤ 40 := fun r hr => by rw [hlen r hr]; omega
  have h00 := found0_ok hn (by omega) hb
  have l00 : (found0 t).length ≤ 20 := by simp [found0]
  have split0 : p_law_near = .cons (nthT 0 p_law_near) (.cons (nthT 1 p_law_near) (.cons (.ret (.var 2)) .nil)) := by simp only [p_law_near, nthT]
  -- the test
  have tst : evT (.and (.cmp .ne (.var 1) (.tup .nil)) (.cmp .ne (.ix (.var 1) (.cst (.int 0))) (.tup .nil))) [.own true ds, .val (ltD t), .own false (found0 t), .un, .un, .un, .un, .un, .un, .un, .un] = some (.ok (!t.isEmpty && !decide (w = 0)), [.own true ds, .val (ltD t), .own false (found0 t), .un, .un, .un, .un, .un, .un, .un, .un]) := by
    have c1 := (cm_nil_tup (l := t.map rwD) (n := 2) (fun d hd => by obtain ⟨r, _, rfl⟩ := List.mem_map.mp hd; exact cd_rw r) (by decide)).2
    cases t with
    | nil => simp [evT, evE, evL, SG.bnd, SG.ok, SG.opt, slotOf, rd, frzs, ltD] at c1 ⊢; simp [c1]
    | cons r0 t' =>
      have c2 := (cm_nil_tup (l := r0.map frD) (n := 1) (fun d hd => by obtain ⟨r, _, rfl⟩ := List.mem_map.mp hd; exact cd_fr r) (by decide)).2
      have a0 : atD (ltD (r0 :: t')) (.int 0) = some (rwD r0) := at_lt (t := r0 :: t') (i := 0) (by simp)
      have e1 : evE (.tup .nil) [.own true ds, .val (ltD (r0 :: t')), .own false (found0 (r0 :: t')), .un, .un, .un, .un, .un, .un, .un, .un] = some (.ok (.v (.tup [])), [.own true ds, .val (ltD (r0 :: t')), .own false (found0 (r0 :: t')), .un, .un, .un, .un, .un, .un, .un, .un]) := by simp [evE, evL, SG.bnd, SG.ok, frzs]
      have w0 : r0.length = w := hlen r0 (by simp)
      have hx : (!(r0.map frD).isEmpty) = !decide (w = 0) := by
        cases r0 with
        | nil => simp at w0; simp [← w0]
        | cons _ _ => simp at w0; simp; omega
      rw [hx] at c2
      change cmD .ne (rwD r0) (.tup []) = _ at c2
      change cmD .ne (ltD (r0 :: t')) (.tup []) = _ at c1
      simp only [evT, evE, evL, SG.bnd, SG.ok, SG.opt, slotOf, rd, frzs, c1, c2, a0, List.getElem?_cons_succ, List.getElem?_cons_zero, List.length_nil, Nat.zero_le, if_true, List.map_cons, List.isEmpty_cons, Bool.not_false, Bool.true_and]
  have fin : ∀ (st : List S) (f : List D) (ds' : List D), st[2]? = some (.own false f) → (∃ r, st = .own true ds' :: r) → exL p_law_near [.own true ds, .val (ltD t), .un, .un, .un, .un, .un, .un, .un, .un, .un] = exL (.cons (.ret (.var 2)) .nil) st → runDef 11 true false p_law_near ds [ltD t] = some (.ok (.lst f), ds') := fun st f ds' h1 ⟨r, h2⟩ h3 => by
    refine runL (init := [.own true ds, .val (ltD t), .un, .un, .un, .un, .un, .un, .un, .un, .un]) rfl (s1 := st.set 2 (.val (.lst f))) (h3.trans (ret_own h1)) ?_
    subst h2
    rfl
  have go : ∀ st, exT (nthT 1 p_law_near) [.own true ds, .val (ltD t), .own false (found0 t), .un, .un, .un, .un, .un, .un, .un, .un] = some (.ok .nx, st) → exL p_law_near [.own true ds, .val (ltD t), .un, .un, .un, .un, .un, .un, .un, .un, .un] = exL (.cons (.ret (.var 2)) .nil) st := fun st h => by
    conv => lhs; rw [split0]
    rw [exL_nx (first_ok ds (by omega)), exL_nx h]
  have e1 : nthT 1 p_law_near = .ife (.and (.cmp .ne (.var 1) (.tup .nil)) (.cmp .ne (.ix (.var 1) (.cst (.int 0))) (.tup .nil))) (thenOf (nthT 1 p_law_near)) .nil := by simp only [p_law_near, nthT, thenOf]
  cases hc : (!t.isEmpty && !decide (w = 0)) with
  | false =>
    rw [hc] at tst
    refine ⟨found0 t, ds, fin _ _ _ ?_ ⟨_, rfl⟩ (go [.own true ds, .val (ltD t), .own false (found0 t), .un, .un, .un, .un, .un, .un, .un, .un] ?_), hd, vs_mono (by omega) h00, by omega⟩
    · rfl
    · rw [e1, exT_if tst]
      simp [exL, SG.ok]
  | true =>
    rw [hc] at tst
    have tne : 0 < t.length := by
      cases t with
      | nil => simp at hc
      | cons _ _ => simp
    have w0 : 0 < w := by
      simp only [Bool.and_eq_true, Bool.not_eq_true', decide_eq_false_iff_not] at hc
      omega
    obtain ⟨i, d1, r1, hd1, hi⟩ := roll_ev hd (n := t.length) tne (by omega) (a := .b1 .len (.var 1)) (r := [.val (ltD t), .own false (found0 t), .un, .un, .un, .un, .un, .un, .un, .un]) (by
      have := len_run (a := .var 1) (st := [.own true ds, .val (ltD t), .own false (found0 t), .un, .un, .un, .un, .un, .un, .un, .un]) (xs := t.map rwD) (var_run rfl)
      rw [List.length_map] at this
      exact this)
    obtain ⟨j, d2, r2, hd2, hj⟩ := roll_ev hd1 (n := w) w0 (by omega) (a := .b1 .len (.ix (.var 1) (.cst (.int 0)))) (r := [.val (ltD t), .own false (found0 t), .un, .un, .un, .un, .un, .un, .un, .un]) (by
      have := len_run (a := .ix (.var 1) (.cst (.int 0))) (st := [.own true d1, .val (ltD t), .own false (found0 t), .un, .un, .un, .un, .un, .un, .un, .un]) (xs := (t[0]'tne).map frD) (ix_run (var_run rfl) cst_run (at_lt (i := 0) tne))
      rw [List.length_map, hlen _ (List.getElem_mem _)] at this
      exact this)
    -- the loops
    obtain ⟨f1, s4, s5, k1, v1, l1, fr5⟩ := loop1 hn (by omega) hb hlen' hi (ds := d2) (j := j) h00 l00
    have rr : RB n t[i] := hb _ (List.getElem_mem hi)
    have rl : t[i].length ≤ 30 := by rw [hlen _ (List.getElem_mem hi)]; exact hw
    have hR : ∀ d ∈ t[i].map frD, FinD n d := fun d hd => by
      obtain ⟨q, hq, rfl⟩ := List.mem_map.mp hd
      exact fin_fr (rr q hq)
    obtain ⟨f2, s5', k2, v2, l2⟩ := loop2 hn (by omega) hb hlen' hi (ds := d2) (j := j) v1 l1 (s3 := .own false badL) (s4 := s4) fr5 [.lst (t[i].map frD), .tup (cutD (t[i].map frD) (some 1) none), .tup (t[i].map frD ++ [.tup [.int 0, .int 1]])] (fun x hx => by
      simp only [List.mem_cons, List.not_mem_nil, or_false] at hx
      rcases hx with rfl | rfl | rfl
      · exact fin_lst.mpr hR
      · exact fin_tup.mpr fun d hd => hR d (cut_mem hd)
      · refine fin_tup.mpr fun d hd => ?_
        rcases List.mem_append.mp hd with hd | hd
        · exact hR d hd
        · rw [List.mem_singleton.mp hd]
          exact zero3 n hn) (by simp)
    have m0 : exT (nthT 0 (thenOf (nthT 1 p_law_near))) [.own true ds, .val (ltD t), .own false (found0 t), .un, .un, .un, .un, .un, .un, .un, .un] = some (.ok .nx, St d2 t (found0 t) .un .un .un i j) := by
      simp only [nthT, thenOf, p_law_near]
      exact par_roll r1 r2 rfl rfl
    have m1 : exT (nthT 1 (thenOf (nthT 1 p_law_near))) (St d2 t (found0 t) .un .un .un i j) = some (.ok .nx, St d2 t (found0 t) (.own false badL) .un .un i j) := by
      simp [nthT, thenOf, p_law_near, exT, evX, evE, evF, evL, SG.bnd, SG.ok, SG.opt, rd, frz, frzs, setS, free, St, badL]
    have m2 : exT (nthT 2 (thenOf (nthT 1 p_law_near))) (St d2 t (found0 t) (.own false badL) .un .un i j) = some (.ok .nx, St d2 t f1 (.own false badL) s4 s5 i j) := by
      have e2 : ∃ it, nthT 2 (thenOf (nthT 1 p_law_near)) = .forr (.nm 4) it (bodyOf (nthT 2 (thenOf (nthT 1 p_law_near)))) ∧ evI it (St d2 t (found0 t) (.own false badL) .un .un i j) = some (.ok (badL ++ badM), St d2 t (found0 t) (.own false badL) .un .un i j) := by
        refine ⟨_, by simp only [nthT, thenOf, bodyOf, p_law_near]; rfl, ?_⟩
        simp [evI, evE, evF, evL, SG.bnd, SG.ok, SG.opt, slotOf, rd, frz, frzs, St, badL, badM]
      obtain ⟨it, e3, e4⟩ := e2
      rw [e3, exT_for e4 (by simp [badL, badM])]
      exact k1
    have m3 : exT (nthT 3 (thenOf (nthT 1 p_law_near))) (St d2 t f1 (.own false badL) s4 s5 i j) = some (.ok .nx, St d2 t f2 (.own false badL) s4 s5' i j) := by
      have ex : evE (.ix (.var 1) (.var 6)) (St d2 t f1 (.own false badL) s4 s5 i j) = some (.ok (.v (.tup (t[i].map frD))), St d2 t f1 (.own false badL) s4 s5 i j) := ix_run (var_run rfl) (var_run rfl) (at_lt hi)
      have z1 : evE (.tup (.cons (.tup (.cons (.cst (.int 0)) (.cons (.cst (.int 1)) .nil))) .nil)) (St d2 t f1 (.own false badL) s4 s5 i j) = some (.ok (.v (.tup [.tup [.int 0, .int 1]])), St d2 t f1 (.own false badL) s4 s5 i j) := one_run (tup_run (ds := [.int 0, .int 1]) (evL_c cst_run (evL_c cst_run evL_n)) (by simp))
      have e2 : ∃ it, nthT 3 (thenOf (nthT 1 p_law_near)) = .forr (.nm 5) it (bodyOf (nthT 3 (thenOf (nthT 1 p_law_near)))) ∧ evI it (St d2 t f1 (.own false badL) s4 s5 i j) = some (.ok [.lst (t[i].map frD), .tup (cutD (t[i].map frD) (some 1) none), .tup (t[i].map frD ++ [.tup [.int 0, .int 1]])], St d2 t f1 (.own false badL) s4 s5 i j) := by
        refine ⟨_, by simp only [nthT, thenOf, bodyOf, p_law_near]; rfl, ?_⟩
        exact seqA_run (tup_run (ds := [.lst (t[i].map frD), .tup (cutD (t[i].map frD) (some 1) none), .tup (t[i].map frD ++ [.tup [.int 0, .int 1]])]) (evL_c (fr_run (listOf_run ex)) (evL_c (slc_lo ex cst_run) (evL_c (add_run ex z1 (by simp; omega) (by simp)) evL_n))) (by simp))
      obtain ⟨it, e3, e4⟩ := e2
      rw [e3, exT_for e4 (by simp)]
      exact k2
    have c4 : evT (.cmp .gt (.b1 .len (.var 1)) (.cst (.int 1))) (St d2 t f2 (.own false badL) s4 s5' i j) = some (.ok (decide (1 < t.length)), St d2 t f2 (.own false badL) s4 s5' i j) := by
      have : decide ((1 : Int) < (t.length : Int)) = decide (1 < t.length) := decide_eq_decide.mpr (by omega)
      simp [evT, evE, SG.bnd, SG.ok, SG.opt, slotOf, rd, St, ltD, b1_len_tup, cm_gt_int, this]
    have e5 : nthT 4 (thenOf (nthT 1 p_law_near)) = .ife (.cmp .gt (.b1 .len (.var 1)) (.cst (.int 1))) (thenOf (nthT 4 (thenOf (nthT 1 p_law_near)))) .nil := by simp only [p_law_near, nthT, thenOf]
    have split1 : thenOf (nthT 1 p_law_near) = .cons (nthT 0 (thenOf (nthT 1 p_law_near))) (.cons (nthT 1 (thenOf (nthT 1 p_law_near))) (.cons (nthT 2 (thenOf (nthT 1 p_law_near))) (.cons (nthT 3 (thenOf (nthT 1 p_law_near))) (.cons (nthT 4 (thenOf (nthT 1 p_law_near))) .nil)))) := by simp only [p_law_near, nthT, thenOf]
    have all4 : ∀ st, exT (nthT 4 (thenOf (nthT 1 p_law_near))) (St d2 t f2 (.own false badL) s4 s5' i j) = some (.ok .nx, st) → exT (nthT 1 p_law_near) [.own true ds, .val (ltD t), .own false (found0 t), .un, .un, .un, .un, .un, .un, .un, .un] = some (.ok .nx, st) := fun st h => by
      rw [e1, exT_if tst]
      show exL (thenOf (nthT 1 p_law_near)) _ = _
      rw [split1, exL_nx m0, exL_nx m1, exL_nx m2, exL_nx m3, exL_nx h, exL_nil]
    by_cases h2 : 1 < t.length
    · obtain ⟨f3, s8, k3, v3, l3⟩ := third_ok hn hn2 ht hb (fun r hr => by rw [hlen r hr]; exact hw) i j h2 v2 l2 (ds := d2) (s3 := .own false badL) (s4 := s4) (s5 := s5')
      refine ⟨f3, d2, fin _ _ _ ?_ ⟨_, rfl⟩ (go _ (all4 _ (by rw [e5, exT_if c4, if_pos (by simpa using h2)]; exact k3))), hd2, v3, by omega⟩
      rfl
    · refine ⟨f2, d2, fin _ _ _ ?_ ⟨_, rfl⟩ (go _ (all4 (St d2 t f2 (.own false badL) s4 s5' i j) (by rw [e5, exT_if c4, if_neg (by simpa using h2)]; exact exL_nil))), hd2, vs_mono (by omega) v2, by omega⟩
      rfl
end K25
namespace K25
open PySem SG Gn LT B
def badR : List D := [.tup [.int 0, .int 2], .tup [.int 2, .int 2], .bl true, .int 1, .non, .tup [.int 1, .int 0], .tup [.int 1, .int (-1)], .lst [.int 1, .int 1], .tup [.bl true, .int 1], .tup [.int 1], .tup [.int 1, .int 1, .int 1], .tup [.int (10 ^ 50), .int 3]]
theorem badR_fin {n : Nat} (h : 200 ≤ n) : ∀ d ∈ badR, FinD n d := fun d hd => by
  refine FinD.mono h ?_
  simp only [badR, List.mem_cons, List.not_mem_nil, or_false] at hd
  have big : Bd 200 (10 ^ 50) := by unfold Bd; decide +kernel
  rcases hd with rfl | rfl | rfl | rfl | rfl | rfl | rfl | rfl | rfl | rfl | rfl | rfl
  rotate_right
  · refine fin_tup.mpr fun d hd => ?_
    simp only [List.mem_cons, List.not_mem_nil, or_false] at hd
    rcases hd with rfl | rfl
    · unfold FinD
      exact big
    · unfold FinD Bd
      decide +kernel
  all_goals simp [FinD, FinsD, Bd]
def foundR (r : Row) : List D := [rwD r, .lst (r.map frD), .tup (cutD (r.map frD) none (some (-1))), .tup (r.map frD).reverse, .tup (r.map frD ++ [.tup [.int 0, .int 1]]), .non, .int 0, .tup [], .dic, .tup [.non], .str "row"]
theorem pw50 (st : List S) : evE (.bin .pow (.cst (.int 10)) (.cst (.int 50))) st = some (.ok (.v (.int (10 ^ 50))), st) := by kernel_rfl
def St2 (ds : List D) (r : Row) (f : List D) (s3 s4 : S) : List S := [.own true ds, .val (rwD r), .own false f, s3, s4]
theorem firstR (ds : List D) {r : Row} (hr : r.length ≤ 40) : exT (nthT 0 p_law_near_row) [.own true ds, .val (rwD r), .un, .un, .un] = some (.ok .nx, St2 ds r (foundR r) .un .un) := by
  simp [nthT, p_law_near_row, exT, evX, evE, evF, evL, evO, SG.bnd, SG.ok, SG.opt, slotOf, rd, frz, frzs, opD, setS, free, rwD, foundR, St2, show r.length ≤ 99999 by omega]
theorem foundR_ok {n : Nat} (hn : 3 ≤ n) {r : Row} (hr : r.length ≤ 40) (hb : RB n r) : Vs n (foundR r) := by
  have hL : ∀ d ∈ r.map frD, FinD n d := fun d hd => by
    obtain ⟨q, hq, rfl⟩ := List.mem_map.mp hd
    exact fin_fr (hb q hq)
  have c2 := cut_len (l := r.map frD) (lo := none) (hi := some (-1))
  rw [List.length_map] at c2
  have k0 : FinD n (.int 0) := FinD.mono hn (by simp [FinD, Bd])
  have k1 : FinD n .non := by unfold FinD; trivial
  unfold foundR
  refine vs_cons (vl_tup hL (by simp; omega)) (vs_cons (vl_no (fin_lst.mpr hL) fun _ z => by cases z) (vs_cons (vl_tup (fun d h => hL d (cut_mem h)) (by omega)) (vs_cons (vl_tup (fun d h => hL d (List.mem_reverse.mp h)) (by simp; omega)) (vs_cons (vl_tup (fun d h => ?_) (by simp; omega)) (vs_cons (vl_no k1 fun _ z => by cases z) (vs_cons (vl_no k0 fun _ z => by cases z) (vs_cons (vl_tup (fun d h => by cases h) (by simp)) (vs_cons (vl_no (by unfold FinD; trivial) fun _ z => by cases z) (vs_cons (vl_tup (fun d h => ?_) (by simp)) (vs_cons (vl_no (by unfold FinD; trivial) fun _ z => by cases z) (vs_nil n)))))))))))
  · rcases List.mem_append.mp h with h | h
    · exact hL d h
    · rw [List.mem_singleton.mp h]
      exact zero3 n hn
  · rw [List.mem_singleton.mp h]
    exact k1
theorem near_row_run {n : Nat} (hn : 200 ≤ n) {ds : List D} (hd : Dc ds) {r : Row} (hr : r.length ≤ 40) (hb : RB n r) : ∃ vs ds', f_law_near_row.run ds [rwD r] = some (.ok (.lst vs), ds') ∧ Dc ds' ∧ Vs n vs ∧ vs.length ≤ 100 := by
  rw [fr_law_near_row]
  have hL : ∀ d ∈ r.map frD, FinD n d := fun d hd => by
    obtain ⟨q, hq, rfl⟩ := List.mem_map.mp hd
    exact fin_fr (hb q hq)
  have split0 : p_law_near_row = .cons (nthT 0 p_law_near_row) (.cons (nthT 1 p_law_near_row) (.cons (.ret (.var 2)) .nil)) := by simp only [p_law_near_row, nthT]
  have c1 := (cm_nil_tup (l := r.map frD) (n := 1) (fun d hd => by obtain ⟨r, _, rfl⟩ := List.mem_map.mp hd; exact cd_fr r) (by decide)).2
  have tst : ∀ (ds f : List D) (s3 s4 : S), evT (.cmp .ne (.var 1) (.tup .nil)) (St2 ds r f s3 s4) = some (.ok (!(r.map frD).isEmpty), St2 ds r f s3 s4) := fun ds f s3 s4 => by
    simp only [St2, rwD, evT, evE, evL, SG.bnd, SG.ok, SG.opt, slotOf, rd, frzs, c1, List.getElem?_cons_succ, List.getElem?_cons_zero, List.length_nil, Nat.zero_le, if_true]
  have e1 : bodyOf (nthT 1 p_law_near_row) = .cons (.ife (.cmp .ne (.var 1) (.tup .nil)) (thenOf (nthT 0 (bodyOf (nthT 1 p_law_near_row)))) .nil) .nil := by simp only [p_law_near_row, nthT, thenOf, bodyOf]
  obtain ⟨st', h1, d', f', s3, s4, rfl, h3, h4, h5, h6, h7⟩ := for_inv (tg := .nm 3) (body := fun s => exL (bodyOf (nthT 1 p_law_near_row)) s) (I := fun k st => ∃ ds f s3 s4, st = St2 ds r f s3 s4 ∧ Dc ds ∧ Vs n f ∧ f.length ≤ 20 + k ∧ Fr s3 ∧ Fr s4) 20 badR 0 (St2 ds r (foundR r) .un .un) (by simp [badR])
    (fun x hx k st hk ⟨ds, f', s3, s4, e, h0, h1, h2, h3, h4⟩ => by
      subst e
      refine ⟨St2 ds r f' (.val x) s4, ?_, ?_⟩
      · have f3 : free (St2 ds r f' s3 s4) 3 = true := free_of rfl h3
        rw [set_nm f3]
        rfl
      · have t0 := tst ds f' (.val x) s4
        cases hc : (r.map frD).isEmpty with
        | true =>
          rw [hc] at t0
          refine ⟨St2 ds r f' (.val x) s4, ?_, ds, f', _, _, rfl, h0, h1, by omega, .inr (.inl ⟨_, rfl⟩), h4⟩
          rw [e1, exL_nx (s1 := St2 ds r f' (.val x) s4) (by rw [exT_if t0]; exact exL_nil)]
          exact exL_nil
        | false =>
          rw [hc] at t0
          have rp : 0 < r.length := by
            cases r with
            | nil => simp at hc
            | cons _ _ => simp
          obtain ⟨j, d1, r1, hd1, hj⟩ := roll_ev h0 (n := r.length) rp (by omega) (a := .b1 .len (.var 1)) (r := [.val (rwD r), .own false f', .val x, s4]) (by
            have := len_run (a := .var 1) (st := [.own true ds, .val (rwD r), .own false f', .val x, s4]) (xs := r.map frD) (var_run rfl)
            rw [List.length_map] at this
            exact this)
          refine ⟨St2 d1 r (f' ++ [.tup (cutD (r.map frD) none (some (j : Nat)) ++ [x] ++ cutD (r.map frD) (some ((j : Nat) + 1)) none)]) (.val x) (.val (.int (j : Nat))), ?_, d1, _, _, _, rfl, hd1, vs_app h1 (vs_cons (vl_ins hL (badR_fin hn x hx) (by simp; omega)) (vs_nil n)), by simp; omega, .inr (.inl ⟨_, rfl⟩), .inr (.inl ⟨_, rfl⟩)⟩
          rw [e1, exL_nx (s1 := St2 d1 r (f' ++ [.tup (cutD (r.map frD) none (some (j : Nat)) ++ [x] ++ cutD (r.map frD) (some ((j : Nat) + 1)) none)]) (.val x) (.val (.int (j : Nat)))) ?_]
          · exact exL_nil
          · rw [exT_if t0]
            show exL (thenOf (nthT 0 (bodyOf (nthT 1 p_law_near_row)))) _ = _
            simp only [bodyOf, nthT, thenOf, p_law_near_row]
            have a1 : exT (.asg 4 (.e (.call f_law_roll (.cons (.var 0) (.cons (.b1 .len (.var 1)) .nil))))) (St2 ds r f' (.val x) s4) = some (.ok .nx, St2 d1 r f' (.val x) (.val (.int (j : Nat)))) := by
              rw [exT, evX, show evE (.call f_law_roll (.cons (.var 0) (.cons (.b1 .len (.var 1)) .nil))) (St2 ds r f' (.val x) s4) = _ from r1]
              show SG.bnd (SG.opt (setS (St2 d1 r f' (.val x) s4) 4 _) _) _ = _
              have f4 : free (St2 d1 r f' (.val x) s4) 4 = true := free_of rfl h4
              unfold setS
              rw [if_pos f4]
              rfl
            rw [exL_nx a1]
            refine (exL_nx (app_run (m := false) ⟨f', rfl⟩ (ins_run (xs := r.map frD) (i := (j : Nat)) (var_run rfl) (var_run rfl) (var_run rfl) (by simp; omega)) rfl (by omega))).trans exL_nil)
    ⟨ds, foundR r, .un, .un, rfl, hd, foundR_ok (by omega) hr hb, by simp [foundR], .inl rfl, .inl rfl⟩
  refine ⟨f', d', ?_, h3, h4, by simp [badR] at h5; omega⟩
  refine runL (init := [.own true ds, .val (rwD r), .un, .un, .un]) rfl (s1 := (St2 d' r f' s3 s4).set 2 (.val (.lst f'))) ?_ rfl
  rw [split0, exL_nx (firstR ds hr), exL_nx (s1 := St2 d' r f' s3 s4) ?_]
  · exact ret_own rfl
  · have e2 : ∃ it, nthT 1 p_law_near_row = .forr (.nm 3) it (bodyOf (nthT 1 p_law_near_row)) ∧ evI it (St2 ds r (foundR r) .un .un) = some (.ok badR, St2 ds r (foundR r) .un .un) := by
      refine ⟨_, by simp only [nthT, thenOf, bodyOf, p_law_near_row]; rfl, ?_⟩
      refine seqA_lst (fr_run (disp_run (ds := badR) ?_ (by simp [badR])))
      have z : ∀ st : List S, evE (.neg (.cst (.int 1))) st = some (.ok (.v (.int (-1))), st) := fun st => by simp [evE, SG.bnd, SG.ok, rd]
      have t2 : ∀ (a b : E) (x y : D) (st : List S), evE a st = some (.ok (.v x), st) → evE b st = some (.ok (.v y), st) → evE (.tup (.cons a (.cons b .nil))) st = some (.ok (.v (.tup [x, y])), st) := fun a b x y st h1 h2 => tup_run (ds := [x, y]) (evL_c h1 (evL_c h2 evL_n)) (by simp)
      have l2 : evE (.fr (.disp (.cons (.cst (.int 1)) (.cons (.cst (.int 1)) .nil)))) (St2 ds r (foundR r) .un .un) = some (.ok (.v (.lst [.int 1, .int 1])), St2 ds r (foundR r) .un .un) := fr_run (disp_run (ds := [.int 1, .int 1]) (evL_c cst_run (evL_c cst_run evL_n)) (by simp))
      have t3 : evE (.tup (.cons (.cst (.int 1)) (.cons (.cst (.int 1)) (.cons (.cst (.int 1)) .nil)))) (St2 ds r (foundR r) .un .un) = some (.ok (.v (.tup [.int 1, .int 1, .int 1])), St2 ds r (foundR r) .un .un) := tup_run (ds := [.int 1, .int 1, .int 1]) (evL_c cst_run (evL_c cst_run (evL_c cst_run evL_n))) (by simp)
      exact evL_c (t2 _ _ _ _ _ cst_run cst_run) (evL_c (t2 _ _ _ _ _ cst_run cst_run) (evL_c cst_run (evL_c cst_run (evL_c cst_run (evL_c (t2 _ _ _ _ _ cst_run cst_run) (evL_c (t2 _ _ _ _ _ cst_run (z _)) (evL_c l2 (evL_c (t2 _ _ _ _ _ cst_run cst_run) (evL_c (one_run cst_run) (evL_c t3 (evL_c (t2 _ _ _ _ _ (pw50 _) cst_run) evL_n)))))))))))
    obtain ⟨it, e3, e4⟩ := e2
    rw [e3, exT_for e4 (by simp [badR])]
    exact h1
end K25
namespace K25
open PySem SG Gn LT B
theorem fitK {w : Nat} (hw : w ≤ 5) : Fit w (2 ^ 270) 1366 1640 := by
  have : w = 0 ∨ w = 1 ∨ w = 2 ∨ w = 3 ∨ w = 4 ∨ w = 5 := by omega
  rcases this with rfl | rfl | rfl | rfl | rfl | rfl <;> exact ⟨by decide +kernel, by decide +kernel, by decide, by decide, by decide⟩
theorem fitL {w : Nat} (hw : w ≤ 5) : Fit w 4 22 28 := by
  have : w = 0 ∨ w = 1 ∨ w = 2 ∨ w = 3 ∨ w = 4 ∨ w = 5 := by omega
  rcases this with rfl | rfl | rfl | rfl | rfl | rfl <;> exact ⟨by decide +kernel, by decide +kernel, by decide, by decide, by decide⟩
theorem body_ok {v : D} (hv : Vl 45 v) (ds : List D) (rows : D) {sm : List Row} (hsm : sm.length ≤ 5) {h w : Nat} (hh : h ≤ 4) (hw : w ≤ 5) {s7 s8 : S} (f7 : Fr s7) (f8 : Fr s8) : ∃ s7' s8', exL (bodyOf (nthT 0 (bodyOf (nthT 2 p_law_right)))) [.own true ds, .val rows, .val (ltD sm), .un, .val v, .val (.int h), .val (.int w), s7, s8] =
    some (.ok .nx, [.own true ds, .val rows, .val (ltD sm), .un, .val v, .val (.int h), .val (.int w), s7', s8']) ∧ Fr s7' ∧ Fr s8' := by
  obtain ⟨a, ea⟩ : ∃ a, a = isTabB h w v := ⟨_, rfl⟩
  obtain ⟨b, eb⟩ : ∃ b, b = isLotB w v := ⟨_, rfl⟩
  obtain ⟨c, ec⟩ : ∃ c, c = isRowB w v := ⟨_, rfl⟩
  have hd : ∀ l, v = .tup l → l.length ≤ 1000 := fun l e => Nat.le_trans (hv.2 l e) (by decide)
  have r1 : f_is_table.run [] [.int h, .int w, v] = some (.ok (.bl a), []) := by rw [ea]; exact istab_any [] v (by omega) (by omega) (by omega) (by omega)
  have r2 : f_is_lot.run [] [.int w, v] = some (.ok (.bl b), []) := by rw [eb]; exact islot_any [] v (by omega) hd
  have r3 : f_is_row.run [] [.int w, v] = some (.ok (.bl c), []) := by rw [ec]; exact isrow_any [] v (by omega) (by omega)
  have q1 : f_law_is_table.run [] [.int h, .int w, v] = some (.ok (.bl a), []) := by rw [ea]; exact listab_any [] h w ((FinD.mono (by decide) hv.1).tf) (by omega) (by omega)
  have q2 : f_law_is_lot.run [] [.int w, v] = some (.ok (.bl b), []) := by
    rw [eb]
    exact lislot_any [] (n := 45) (fitK hw) (Nat.pow_le_pow_right (by decide) (by omega)) (by decide) hd hv.1.tf
  have q3 : f_law_is_row.run [] [.int w, v] = some (.ok (.bl c), []) := by rw [ec]; exact lisrow_any [] w ((FinD.mono (by decide) hv.1).rf) (by omega)
  obtain ⟨e, ee⟩ : ∃ e, e = isRowB sm.length v := ⟨_, rfl⟩
  have r4 : f_is_row.run [] [.int sm.length, v] = some (.ok (.bl e), []) := by rw [ee]; exact isrow_any [] v (by omega) (by omega)
  have q4 : f_law_is_row.run [] [.int sm.length, v] = some (.ok (.bl e), []) := by rw [ee]; exact lisrow_any [] sm.length ((FinD.mono (by decide) hv.1).rf) (by omega)
  have three : ∀ {f1 f2 f3 : Fn} (st : List S), st[4]? = some (.val v) → st[5]? = some (.val (.int h)) → st[6]? = some (.val (.int w)) → (f1.fresh = false ∧ f1.lend = false ∧ f1.many = 3) → (f2.fresh = false ∧ f2.lend = false ∧ f2.many = 2) → (f3.fresh = false ∧ f3.lend = false ∧ f3.many = 2) →
      f1.run [] [.int h, .int w, v] = some (.ok (.bl a), []) → f2.run [] [.int w, v] = some (.ok (.bl b), []) → f3.run [] [.int w, v] = some (.ok (.bl c), []) →
      evF (.disp (.cons (.call f1 (.cons (.var 5) (.cons (.var 6) (.cons (.var 4) .nil)))) (.cons (.call f2 (.cons (.var 6) (.cons (.var 4) .nil))) (.cons (.call f3 (.cons (.var 6) (.cons (.var 4) .nil))) .nil)))) st = some (.ok [.bl a, .bl b, .bl c], st) := fun {f1 f2 f3} st h4 h5 h6 k1 k2 k3 u1 u2 u3 => by
    refine disp_run (ds := [.bl a, .bl b, .bl c]) (evL_c (call_run (ds := [.int h, .int w, v]) k1 (evL_c (var_run h5) (evL_c (var_run h6) (evL_c (var_run h4) evL_n))) u1) (evL_c (call_run (ds := [.int w, v]) k2 (evL_c (var_run h6) (evL_c (var_run h4) evL_n)) u2) (evL_c (call_run (ds := [.int w, v]) k3 (evL_c (var_run h6) (evL_c (var_run h4) evL_n)) u3) evL_n))) (by simp)
  refine ⟨.own false [.bl a, .bl b, .bl c], .own false [.bl a, .bl b, .bl c], ?_, .inr (.inr ⟨_, rfl⟩), .inr (.inr ⟨_, rfl⟩)⟩
  simp only [bodyOf, nthT, p_law_right]
  rw [exL_nx (asgF_run (three _ rfl rfl rfl fl_is_table fl_is_lot fl_is_row r1 r2 r3) (free_of rfl f7))]
  rw [exL_nx (asgF_run (three _ rfl rfl rfl fl_law_is_table fl_law_is_lot fl_law_is_row q1 q2 q3) (free_of rfl f8))]
  have p1 : ∀ st : List S, st[7]? = some (.own false [.bl a, .bl b, .bl c]) → st[8]? = some (.own false [.bl a, .bl b, .bl c]) → evT (.cmp .ne (.b1 .repr (.var 7)) (.b1 .repr (.var 8))) st = some (.ok false, st) := fun st h7 h8 =>
    ne_str_run (repr_run (var_own h7) (by simp only [rd, h7]) (sh_bl3 a b c)) (repr_run (var_own h8) (by simp only [rd, h8]) (sh_bl3 a b c))
  rw [exL_nx (by rw [exT_if (p1 _ rfl rfl)]; exact exL_nil)]
  have p2 : ∀ st : List S, st[2]? = some (.val (ltD sm)) → st[4]? = some (.val v) → evT (.cmp .ne (.call f_is_row (.cons (.b1 .len (.var 2)) (.cons (.var 4) .nil))) (.call f_law_is_row (.cons (.b1 .len (.var 2)) (.cons (.var 4) .nil)))) st = some (.ok false, st) := fun st h2 h4 => by
    have ln : evE (.b1 .len (.var 2)) st = some (.ok (.v (.int sm.length)), st) := by
      have := len_run (a := .var 2) (st := st) (xs := sm.map rwD) (var_run h2)
      rw [List.length_map] at this
      exact this
    exact (cmT_run rfl (call_run (ds := [.int sm.length, v]) fl_is_row (evL_c ln (evL_c (var_run h4) evL_n)) r4) (call_run (ds := [.int sm.length, v]) fl_law_is_row (evL_c ln (evL_c (var_run h4) evL_n)) q4) (cm_ne_bl e)).1
  rw [exL_nx (by rw [exT_if (p2 _ rfl rfl)]; exact exL_nil)]
  exact exL_nil
/-- all values near some rows are judged alike -/
theorem some_ok {ds : List D} (hd : Dc ds) (rows : D) {sm : List Row} (hsm : sm.length ≤ 5) {h w : Nat} (hh : h ≤ 4) (hw : w ≤ 5) (hlen : ∀ r ∈ sm, r.length = w) (hb : ∀ r ∈ sm, RB 22 r) {s4 s7 s8 : S} (f4 : Fr s4) (f7 : Fr s7) (f8 : Fr s8) : ∃ ds' s4' s7' s8', exL (bodyOf (nthT 2 p_law_right)) [.own true ds, .val rows, .val (ltD sm), .un, s4, .val (.int h), .val (.int w), s7, s8] =
    some (.ok .nx, [.own true ds', .val rows, .val (ltD sm), .un, s4', .val (.int h), .val (.int w), s7', s8']) ∧ Dc ds' ∧ Fr s4' ∧ Fr s7' ∧ Fr s8' := by
  obtain ⟨vs, d1, n1, hd1, hvs, hl⟩ := near_run (n := 22) (by decide) (by decide) hd (t := sm) (w := w) (by omega) (by omega) hlen hb
  obtain ⟨st', k1, t4, t7, t8, rfl, g4, g7, g8⟩ := for_inv (tg := .nm 4) (body := fun s => exL (bodyOf (nthT 0 (bodyOf (nthT 2 p_law_right)))) s) (I := fun _ st => ∃ s4 s7 s8, st = [.own true d1, .val rows, .val (ltD sm), .un, s4, .val (.int h), .val (.int w), s7, s8] ∧ Fr s4 ∧ Fr s7 ∧ Fr s8) 100 vs 0 [.own true d1, .val rows, .val (ltD sm), .un, s4, .val (.int h), .val (.int w), s7, s8] (by omega)
    (fun v hv k st _ ⟨u4, u7, u8, e, g4, g7, g8⟩ => by
      subst e
      have f4' : free [.own true d1, .val rows, .val (ltD sm), .un, u4, .val (.int h), .val (.int w), u7, u8] 4 = true := free_of rfl g4
      obtain ⟨s7', s8', b1, b2, b3⟩ := body_ok (hvs v hv) d1 rows hsm hh hw g7 g8
      exact ⟨_, set_nm f4', _, b1, _, _, _, rfl, .inr (.inl ⟨_, rfl⟩), b2, b3⟩) ⟨s4, s7, s8, rfl, f4, f7, f8⟩
  refine ⟨d1, t4, t7, t8, ?_, hd1, g4, g7, g8⟩
  have e2 : ∃ it, bodyOf (nthT 2 p_law_right) = .cons (.forr (.nm 4) it (bodyOf (nthT 0 (bodyOf (nthT 2 p_law_right))))) .nil ∧ evI it [.own true ds, .val rows, .val (ltD sm), .un, s4, .val (.int h), .val (.int w), s7, s8] = some (.ok vs, [.own true d1, .val rows, .val (ltD sm), .un, s4, .val (.int h), .val (.int w), s7, s8]) := by
    refine ⟨_, by simp only [nthT, bodyOf, p_law_right]; rfl, ?_⟩
    exact seqA_lst (lend_run (ds := [ltD sm]) fl_law_near (evL_c (var_run rfl) evL_n) n1)
  obtain ⟨it, e3, e4⟩ := e2
  rw [e3, exL_nx (by rw [exT_for e4 (by omega)]; exact k1)]
  exact exL_nil
theorem fr_un : Fr S.un := .inl rfl
theorem right_run {ds : List D} (hd : Dc ds) : ∃ zs, f_law_right.run ds [] = some (.ok (.bl true), zs) := by
  rw [fr_law_right]
  obtain ⟨h, d1, r1, hd1, hh⟩ := roll_ev hd (n := 5) (by decide) (by decide) (a := .cst (.int 5)) (r := [.un, .un, .un, .un, .un, .un, .un, .un]) cst_run
  obtain ⟨w, d2, r2, hd2, hw⟩ := roll_ev hd1 (n := 6) (by decide) (by decide) (a := .cst (.int 6)) (r := [.un, .un, .un, .un, .un, .un, .un, .un]) cst_run
  obtain ⟨t, d3, r3, hd3, hl, ht⟩ := drawn_run hd2 (h := h) (w := w) (by omega) (by omega)
  have rb3 : ∀ r ∈ t, RB 3 r := fun r hr q hq => ((ht r hr).2 q hq).1
  have nr : ∀ r ∈ t, r.length = w ∧ Nrm 4 r := fun r hr => ⟨(ht r hr).1, nrm_of (ht r hr).2⟩
  have lr := llot_run [] (fitL (show w ≤ 5 by omega)) (d0 := ltD t) rfl nr (by omega)
  obtain ⟨d, k⟩ := span_den' nr
  have lb := den_rb k (fitL (show w ≤ 5 by omega)).hN
  have lred := span_red (w := w) (rows := t) fun r hr => (ht r hr).1
  have ll := lot_len lred
  obtain ⟨d4, s4, s7, s8, k1, hd4, f4, f7, f8⟩ := some_ok hd3 (ltD t) (sm := t) (by omega) (show h ≤ 4 by omega) (show w ≤ 5 by omega) (fun r hr => (ht r hr).1) (fun r hr => (rb3 r hr).mono (by decide)) fr_un fr_un fr_un
  obtain ⟨d5, u4, u7, u8, k2, hd5, g4, g7, g8⟩ := some_ok hd4 (ltD t) (sm := spanR t) (by omega) (show h ≤ 4 by omega) (show w ≤ 5 by omega) lred.len lb f4 f7 f8
  obtain ⟨t2, d6, r6, hd6, hl2, ht2⟩ := drawn_run hd5 (h := 1) (w := w) (by omega) (by omega)
  obtain ⟨row, rfl⟩ : ∃ row, t2 = [row] := by
    match t2, hl2 with
    | [row], _ => exact ⟨row, rfl⟩
  have hrow := ht2 row (by simp)
  obtain ⟨vs, d7, r7, hd7, hvs, hvl0⟩ := near_row_run (n := 200) (by decide) hd6 (r := row) (by omega) (fun q hq => ((hrow.2 q hq).1).mono (by decide))
  have split0 : p_law_right = .cons (nthT 0 p_law_right) (.cons (nthT 1 p_law_right) (.cons (nthT 2 p_law_right) (.cons (nthT 3 p_law_right) (.cons (nthT 4 p_law_right) (.cons (nthT 5 p_law_right) .nil))))) := by simp only [p_law_right, nthT]
  have m0 : exT (nthT 0 p_law_right) [.own true ds, .un, .un, .un, .un, .un, .un, .un, .un] = some (.ok .nx, [.own true d2, .un, .un, .un, .un, .val (.int (h : Nat)), .val (.int (w : Nat)), .un, .un]) := by
    simp only [nthT, p_law_right]
    exact par_roll r1 r2 rfl rfl
  have m1 : exT (nthT 1 p_law_right) [.own true d2, .un, .un, .un, .un, .val (.int (h : Nat)), .val (.int (w : Nat)), .un, .un] = some (.ok .nx, [.own true d3, .val (ltD t), .un, .un, .un, .val (.int (h : Nat)), .val (.int (w : Nat)), .un, .un]) := by
    simp only [nthT, p_law_right]
    have e := lend_run (f := f_law_drawn) (r := [.un, .un, .un, .un, .val (.int (h : Nat)), .val (.int (w : Nat)), .un, .un]) (m := true) (es0 := d2) (es := .cons (.var 5) (.cons (.var 6) .nil)) (ds := [.int h, .int w]) fl_law_drawn (evL_c (var_run rfl) (evL_c (var_run rfl) evL_n)) r3
    simp [exT, evX, SG.bnd, SG.ok, SG.opt, frz, setS, free, e]
  have m2 : exT (nthT 2 p_law_right) [.own true d3, .val (ltD t), .un, .un, .un, .val (.int (h : Nat)), .val (.int (w : Nat)), .un, .un] = some (.ok .nx, [.own true d5, .val (ltD t), .val (ltD (spanR t)), .un, u4, .val (.int (h : Nat)), .val (.int (w : Nat)), u7, u8]) := by
    have e2 : ∃ it, nthT 2 p_law_right = .forr (.nm 2) it (bodyOf (nthT 2 p_law_right)) ∧ evI it [.own true d3, .val (ltD t), .un, .un, .un, .val (.int (h : Nat)), .val (.int (w : Nat)), .un, .un] = some (.ok [ltD t, ltD (spanR t)], [.own true d3, .val (ltD t), .un, .un, .un, .val (.int (h : Nat)), .val (.int (w : Nat)), .un, .un]) := by
      refine ⟨_, by simp only [nthT, bodyOf, p_law_right]; rfl, ?_⟩
      exact seqA_run (tup_run (ds := [ltD t, ltD (spanR t)]) (evL_c (var_run rfl) (evL_c (call_run (ds := [ltD t]) fl_law_lot (evL_c (var_run rfl) evL_n) lr) evL_n)) (by simp))
    obtain ⟨it, e3, e4⟩ := e2
    rw [e3, exT_for e4 (by simp)]
    exact (loop_cons rfl k1).trans ((loop_cons rfl k2).trans rfl)
  have m3 : exT (nthT 3 p_law_right) [.own true d5, .val (ltD t), .val (ltD (spanR t)), .un, u4, .val (.int (h : Nat)), .val (.int (w : Nat)), u7, u8] = some (.ok .nx, [.own true d6, .val (ltD t), .val (ltD (spanR t)), .val (rwD row), u4, .val (.int (h : Nat)), .val (.int (w : Nat)), u7, u8]) := by
    simp only [nthT, p_law_right]
    have e := lend_run (f := f_law_drawn) (r := [.val (ltD t), .val (ltD (spanR t)), .un, u4, .val (.int (h : Nat)), .val (.int (w : Nat)), u7, u8]) (m := true) (es0 := d5) (es := .cons (.cst (.int 1)) (.cons (.var 6) .nil)) (ds := [.int 1, .int w]) fl_law_drawn (evL_c cst_run (evL_c (var_run rfl) evL_n)) r6
    have a0 : atD (ltD [row]) (.int 0) = some (rwD row) := at_lt (t := [row]) (i := 0) (by simp)
    have e' : evE (.ix (.call f_law_drawn (.cons (.var 0) (.cons (.cst (.int 1)) (.cons (.var 6) .nil)))) (.cst (.int 0))) [.own true d5, .val (ltD t), .val (ltD (spanR t)), .un, u4, .val (.int (h : Nat)), .val (.int (w : Nat)), u7, u8] = some (.ok (.v (rwD row)), [.own true d6, .val (ltD t), .val (ltD (spanR t)), .un, u4, .val (.int (h : Nat)), .val (.int (w : Nat)), u7, u8]) := ix_run2 e cst_run a0
    simp [exT, evX, SG.bnd, SG.ok, SG.opt, frz, setS, free, e']
  obtain ⟨st', k4, v4, rfl, _⟩ := for_inv (tg := .nm 4) (body := fun s => exL (bodyOf (nthT 4 p_law_right)) s) (I := fun _ st => ∃ s4, st = [.own true d7, .val (ltD t), .val (ltD (spanR t)), .val (rwD row), s4, .val (.int (h : Nat)), .val (.int (w : Nat)), u7, u8] ∧ Fr s4) vs.length vs 0 [.own true d7, .val (ltD t), .val (ltD (spanR t)), .val (rwD row), u4, .val (.int (h : Nat)), .val (.int (w : Nat)), u7, u8] (by omega)
    (fun v hv k st _ ⟨s4, e, g4⟩ => by
      subst e
      have f4' : free [.own true d7, .val (ltD t), .val (ltD (spanR t)), .val (rwD row), s4, .val (.int (h : Nat)), .val (.int (w : Nat)), u7, u8] 4 = true := free_of rfl g4
      refine ⟨_, set_nm f4', [.own true d7, .val (ltD t), .val (ltD (spanR t)), .val (rwD row), .val v, .val (.int (h : Nat)), .val (.int (w : Nat)), u7, u8], ?_, _, rfl, .inr (.inl ⟨_, rfl⟩)⟩
      have vl := hvs v hv
      have b1 : f_is_row.run [] [.int w, v] = some (.ok (.bl (isRowB w v)), []) := isrow_any [] v (by omega) (by omega)
      have b2 : f_law_is_row.run [] [.int w, v] = some (.ok (.bl (isRowB w v)), []) := lisrow_any [] w ((FinD.mono (by decide) vl.1).rf) (by omega)
      simp only [bodyOf, nthT, p_law_right]
      have p : ∀ st : List S, st[4]? = some (.val v) → st[6]? = some (.val (.int (w : Nat))) → evT (.cmp .ne (.b1 .repr (.call f_is_row (.cons (.var 6) (.cons (.var 4) .nil)))) (.b1 .repr (.call f_law_is_row (.cons (.var 6) (.cons (.var 4) .nil))))) st = some (.ok false, st) := fun st h4 h6 =>
        ne_str_run (repr_run (call_run (ds := [.int w, v]) fl_is_row (evL_c (var_run h6) (evL_c (var_run h4) evL_n)) b1) rfl (sh_bl _)) (repr_run (call_run (ds := [.int w, v]) fl_law_is_row (evL_c (var_run h6) (evL_c (var_run h4) evL_n)) b2) rfl (sh_bl _))
      rw [exL_nx (by rw [exT_if (p _ rfl rfl)]; exact exL_nil)]
      exact exL_nil) ⟨u4, rfl, g4⟩
  have hvl : vs.length ≤ 100000 := by omega
  have m4 : exT (nthT 4 p_law_right) [.own true d6, .val (ltD t), .val (ltD (spanR t)), .val (rwD row), u4, .val (.int (h : Nat)), .val (.int (w : Nat)), u7, u8] = some (.ok .nx, [.own true d7, .val (ltD t), .val (ltD (spanR t)), .val (rwD row), v4, .val (.int (h : Nat)), .val (.int (w : Nat)), u7, u8]) := by
    have e2 : ∃ it, nthT 4 p_law_right = .forr (.nm 4) it (bodyOf (nthT 4 p_law_right)) ∧ evI it [.own true d6, .val (ltD t), .val (ltD (spanR t)), .val (rwD row), u4, .val (.int (h : Nat)), .val (.int (w : Nat)), u7, u8] = some (.ok vs, [.own true d7, .val (ltD t), .val (ltD (spanR t)), .val (rwD row), u4, .val (.int (h : Nat)), .val (.int (w : Nat)), u7, u8]) := by
      refine ⟨_, by simp only [nthT, bodyOf, p_law_right]; rfl, ?_⟩
      exact seqA_lst (lend_run (ds := [rwD row]) fl_law_near_row (evL_c (var_run rfl) evL_n) r7)
    obtain ⟨it, e3, e4⟩ := e2
    rw [e3, exT_for e4 hvl]
    exact k4
  refine ⟨d7, ?_⟩
  refine runL (init := [.own true ds, .un, .un, .un, .un, .un, .un, .un, .un]) rfl (s1 := [.own true d7, .val (ltD t), .val (ltD (spanR t)), .val (rwD row), v4, .val (.int (h : Nat)), .val (.int (w : Nat)), u7, u8]) ?_ rfl
  rw [split0, exL_nx m0, exL_nx m1, exL_nx m2, exL_nx m3, exL_nx m4]
  simp only [nthT, p_law_right]
  refine exL_rt ?_
  have vt : Vl 200 (ltD t) := ⟨fin_lt fun r hr => (rb3 r hr).mono (by decide), fun l e => by unfold ltD at e; cases e; simp; omega⟩
  have b1 : f_is_table.run [] [.int w, .int h, ltD t] = some (.ok (.bl (isTabB w h (ltD t))), []) := istab_any [] _ (by omega) (by omega) (by omega) (by omega)
  have b2 : f_law_is_table.run [] [.int w, .int h, ltD t] = some (.ok (.bl (isTabB w h (ltD t))), []) := listab_any [] w h ((FinD.mono (by decide) vt.1).tf) (by omega) (by omega)
  have e := (cmT_run (o := .eq) rfl (call_run (f := f_is_table) (st := [.own true d7, .val (ltD t), .val (ltD (spanR t)), .val (rwD row), v4, .val (.int (h : Nat)), .val (.int (w : Nat)), u7, u8]) (ds := [.int w, .int h, ltD t]) (es := .cons (.var 6) (.cons (.var 5) (.cons (.var 1) .nil))) fl_is_table (evL_c (var_run rfl) (evL_c (var_run rfl) (evL_c (var_run rfl) evL_n))) b1)
    (call_run (f := f_law_is_table) (ds := [.int w, .int h, ltD t]) (es := .cons (.var 6) (.cons (.var 5) (.cons (.var 1) .nil))) fl_law_is_table (evL_c (var_run rfl) (evL_c (var_run rfl) (evL_c (var_run rfl) evL_n))) b2) (cm_eq_bl _)).2
  rw [exT, e]
  rfl
end K25
namespace K25
open PySem SG Gn LT B
def told7 : List D := [.bl true, .bl true, .bl true, .bl false, .bl true, .bl false, .bl true]
theorem sh7 : shownOk (.lst told7) = true := by kernel_rfl
theorem t1_run (sc : D) (s1 : S) : exT (nthT 1 p_law) [.val sc, s1, .un] = some (.ok .nx, [.val sc, s1, .own false [.bl true, .bl true, .bl true, .bl false, .bl true]]) := by kernel_rfl
theorem t2_run (sc : D) (s1 : S) : exT (nthT 2 p_law) [.val sc, s1, .own false [.bl true, .bl true, .bl true, .bl false, .bl true]] = some (.ok .nx, [.val sc, s1, .own false told7]) := by kernel_rfl
theorem t3_run (sc : D) (s1 : S) : exT (nthT 3 p_law) [.val sc, s1, .own false told7] = some (.ok (.rt (.bl true)), [.val sc, s1, .own false told7]) := by
  simp only [nthT, p_law]
  have e := (cmT_run (o := .eq) (c := true) rfl (repr_run (a := .var 2) (st := [.val sc, s1, .own false told7]) (var_own rfl) rfl sh7) (repr_run (a := .fr (.disp (.cons (.cst (.bl true)) (.cons (.cst (.bl true)) (.cons (.cst (.bl true)) (.cons (.cst (.bl false)) (.cons (.cst (.bl true)) (.cons (.cst (.bl false)) (.cons (.cst (.bl true)) .nil)))))))))
    (fr_run (disp_run (ds := told7) (evL_c cst_run (evL_c cst_run (evL_c cst_run (evL_c cst_run (evL_c cst_run (evL_c cst_run (evL_c cst_run evL_n))))))) (by simp [told7]))) rfl sh7) (cm_eq_str _)).2
  rw [exT, e]
  rfl
theorem law_run (ns : List Int) (hl : ns.length ≤ 63) : ∃ zs, f_law.run [] [.lst (ns.map D.int)] = some (.ok (.bl true), zs) := by
  obtain ⟨m, hm1, hm⟩ := spots_rng 6 (by decide) (by decide) ns [.un, .un]
  obtain ⟨s1, h1, f1⟩ := spots_run (f := f_law_right) ⟨fl_law_right.2.1, fl_law_right.1, fl_law_right.2.2⟩ (fun ds hd => right_run hd) ns [.un] rfl (List.range m) .un (.inl rfl)
  refine ⟨[], ?_⟩
  rw [fr_law]
  refine run0 (init := [.val (.lst (ns.map D.int)), .un, .un]) rfl (s1 := [.val (.lst (ns.map D.int)), s1, .own false told7]) ?_ rfl
  have split0 : p_law = .cons (nthT 0 p_law) (.cons (nthT 1 p_law) (.cons (nthT 2 p_law) (.cons (nthT 3 p_law) .nil))) := by simp only [p_law, nthT]
  have m0 : exT (nthT 0 p_law) [.val (.lst (ns.map D.int)), .un, .un] = some (.ok .nx, [.val (.lst (ns.map D.int)), s1, .un]) := by
    simp only [nthT, p_law]
    rw [exT_for hm (by rw [rngD, List.length_map, List.length_range]; omega)]
    exact h1
  rw [split0, exL_nx m0, exL_nx (t1_run _ _), exL_nx (t2_run _ _), exL_rt (t3_run _ _)]
end K25
open PyProof.Rows PySem.W PySem
theorem PySem.Challenge.cw_stillgauge_k25_judges_of_rows_tables_and_holds : PySem.Challenge.rw_stillgauge_k25_judges_of_rows_tables_and.Holds := by
  w_on; o_law; k_head; (case hw => w_witness2)
  k_fill
  refine Att.attach_call (n := 63) ?most rfl fun w s₀ s₁ mg mb fa o pm cd doc a vs ns G Y ho hd hcd hmg hobj hints hlen hg => ?_
  case most => rfl
  have X1 := kIn_of Y
  have hrun := K25.law_run ns hlen
  refine' (have TT := K25.top_mk X1 G.T.g ?a_is_integer ?l_is_integer ?c_is_integer ?k_is_integer ?a_common_divisor ?l_common_divisor ?c_common_divisor ?k_common_divisor ?a_is_number ?l_is_number ?c_is_number ?k_is_number ?a_require_count ?l_require_count ?c_require_count ?k_require_count ?t_require_count ?a_is_plain_row ?l_is_plain_row ?c_is_plain_row ?k_is_plain_row ?a_is_plain_table ?l_is_plain_table ?c_is_plain_table ?k_is_plain_table ?a_first_index ?l_first_index ?c_first_index ?k_first_index ?a_is_plain_lot ?l_is_plain_lot ?c_is_plain_lot ?k_is_plain_lot ?a_require_width ?l_require_width ?c_require_width ?k_require_width ?a_is_row ?l_is_row ?c_is_row ?k_is_row ?a_is_table ?l_is_table ?c_is_table ?k_is_table ?a_is_lot ?l_is_lot ?c_is_lot ?k_is_lot ?a_law_dice ?l_law_dice ?c_law_dice ?k_law_dice ?a_law_roll ?l_law_roll ?c_law_roll ?k_law_roll ?a_law_pick ?l_law_pick ?c_law_pick ?k_law_pick ?a_law_fr ?l_law_fr ?c_law_fr ?k_law_fr ?a_law_plus ?l_law_plus ?c_law_plus ?k_law_plus ?a_law_times ?l_law_times ?c_law_times ?k_law_times ?a_law_minus ?l_law_minus ?c_law_minus ?k_law_minus ?a_law_less ?l_law_less ?c_law_less ?k_law_less ?a_law_lead ?l_law_lead ?c_law_lead ?k_law_lead ?a_law_rest ?l_law_rest ?c_law_rest ?k_law_rest ?a_law_with_row ?l_law_with_row ?c_law_with_row ?k_law_with_row ?a_law_lot ?l_law_lot ?c_law_lot ?k_law_lot ?a_law_is_number ?l_law_is_number ?c_law_is_number ?k_law_is_number ?a_law_is_row ?l_law_is_row ?c_law_is_row ?k_law_is_row ?a_law_is_table ?l_law_is_table ?c_law_is_table ?k_law_is_table ?a_law_is_lot ?l_law_is_lot ?c_law_is_lot ?k_law_is_lot ?a_law_drawn ?l_law_drawn ?c_law_drawn ?k_law_drawn ?a_law_near ?l_law_near ?c_law_near ?k_law_near ?a_law_near_row ?l_law_near_row ?c_law_near_row ?k_law_near_row ?a_law_right ?l_law_right ?c_law_right ?k_law_right ?a_law ?l_law ?c_law ?k_law ?a_NOUGHT ?l_NOUGHT ?a_ONE ?l_ONE (SG.gloInt (PySem.W.mg_of X1 G.T.g ?q_MAX_WIDTH)) ?z_len ?z_abs ?z_int ?z_repr ?z_tuple ?z_all ?z_any ?z_str ?z_isinstance ?z_bool ?z_list ?z_dict ?z_max ?z_min ?z_range ?z_zip ?z_enumerate ?z_sorted; ?main)
  (case a_is_integer => k_is)
  (case l_is_integer => k_is)
  (case c_is_integer => k_is)
  (case k_is_integer => k_is)
  (case a_common_divisor => k_is)
  (case l_common_divisor => k_is)
  (case c_common_divisor => k_is)
  (case k_common_divisor => k_is)
  (case a_is_number => k_is)
  (case l_is_number => k_is)
  (case c_is_number => k_is)
  (case k_is_number => k_is)
  (case a_require_count => k_is)
  (case l_require_count => k_is)
  (case c_require_count => k_is)
  (case k_require_count => k_is)
  (case t_require_count => k_is)
  (case a_is_plain_row => k_is)
  (case l_is_plain_row => k_is)
  (case c_is_plain_row => k_is)
  (case k_is_plain_row => k_is)
  (case a_is_plain_table => k_is)
  (case l_is_plain_table => k_is)
  (case c_is_plain_table => k_is)
  (case k_is_plain_table => k_is)
  (case a_first_index => k_is)
  (case l_first_index => k_is)
  (case c_first_index => k_is)
  (case k_first_index => k_is)
  (case a_is_plain_lot => k_is)
  (case l_is_plain_lot => k_is)
  (case c_is_plain_lot => k_is)
  (case k_is_plain_lot => k_is)
  (case a_require_width => k_is)
  (case l_require_width => k_is)
  (case c_require_width => k_is)
  (case k_require_width => k_is)
  (case a_is_row => k_is)
  (case l_is_row => k_is)
  (case c_is_row => k_is)
  (case k_is_row => k_is)
  (case a_is_table => k_is)
  (case l_is_table => k_is)
  (case c_is_table => k_is)
  (case k_is_table => k_is)
  (case a_is_lot => k_is)
  (case l_is_lot => k_is)
  (case c_is_lot => k_is)
  (case k_is_lot => k_is)
  (case a_law_dice => k_is)
  (case l_law_dice => k_is)
  (case c_law_dice => k_is)
  (case k_law_dice => k_is)
  (case a_law_roll => k_is)
  (case l_law_roll => k_is)
  (case c_law_roll => k_is)
  (case k_law_roll => k_is)
  (case a_law_pick => k_is)
  (case l_law_pick => k_is)
  (case c_law_pick => k_is)
  (case k_law_pick => k_is)
  (case a_law_fr => k_is)
  (case l_law_fr => k_is)
  (case c_law_fr => k_is)
  (case k_law_fr => k_is)
  (case a_law_plus => k_is)
  (case l_law_plus => k_is)
  (case c_law_plus => k_is)
  (case k_law_plus => k_is)
  (case a_law_times => k_is)
  (case l_law_times => k_is)
  (case c_law_times => k_is)
  (case k_law_times => k_is)
  (case a_law_minus => k_is)
  (case l_law_minus => k_is)
  (case c_law_minus => k_is)
  (case k_law_minus => k_is)
  (case a_law_less => k_is)
  (case l_law_less => k_is)
  (case c_law_less => k_is)
  (case k_law_less => k_is)
  (case a_law_lead => k_is)
  (case l_law_lead => k_is)
  (case c_law_lead => k_is)
  (case k_law_lead => k_is)
  (case a_law_rest => k_is)
  (case l_law_rest => k_is)
  (case c_law_rest => k_is)
  (case k_law_rest => k_is)
  (case a_law_with_row => k_is)
  (case l_law_with_row => k_is)
  (case c_law_with_row => k_is)
  (case k_law_with_row => k_is)
  (case a_law_lot => k_is)
  (case l_law_lot => k_is)
  (case c_law_lot => k_is)
  (case k_law_lot => k_is)
  (case a_law_is_number => k_is)
  (case l_law_is_number => k_is)
  (case c_law_is_number => k_is)
  (case k_law_is_number => k_is)
  (case a_law_is_row => k_is)
  (case l_law_is_row => k_is)
  (case c_law_is_row => k_is)
  (case k_law_is_row => k_is)
  (case a_law_is_table => k_is)
  (case l_law_is_table => k_is)
  (case c_law_is_table => k_is)
  (case k_law_is_table => k_is)
  (case a_law_is_lot => k_is)
  (case l_law_is_lot => k_is)
  (case c_law_is_lot => k_is)
  (case k_law_is_lot => k_is)
  (case a_law_drawn => k_is)
  (case l_law_drawn => k_is)
  (case c_law_drawn => k_is)
  (case k_law_drawn => k_is)
  (case a_law_near => k_is)
  (case l_law_near => k_is)
  (case c_law_near => k_is)
  (case k_law_near => k_is)
  (case a_law_near_row => k_is)
  (case l_law_near_row => k_is)
  (case c_law_near_row => k_is)
  (case k_law_near_row => k_is)
  (case a_law_right => k_is)
  (case l_law_right => k_is)
  (case c_law_right => k_is)
  (case k_law_right => k_is)
  (case a_law => k_is)
  (case l_law => k_is)
  (case c_law => k_is)
  (case k_law => k_is)
  (case a_NOUGHT => k_is)
  (case l_NOUGHT => k_is)
  (case a_ONE => k_is)
  (case l_ONE => k_is)
  (case q_MAX_WIDTH => k_is)
  (case z_len => k_is)
  (case z_abs => k_is)
  (case z_int => k_is)
  (case z_repr => k_is)
  (case z_tuple => k_is)
  (case z_all => k_is)
  (case z_any => k_is)
  (case z_str => k_is)
  (case z_isinstance => k_is)
  (case z_bool => k_is)
  (case z_list => k_is)
  (case z_dict => k_is)
  (case z_max => k_is)
  (case z_min => k_is)
  (case z_range => k_is)
  (case z_zip => k_is)
  (case z_enumerate => k_is)
  (case z_sorted => k_is)
  case main =>
    exact SG.top_call (f := K25.f_law) X1 G.T.g G.T.b G.T.builtins G.T.nolimit hg hobj hints (Nat.le_trans hlen (by decide)) ⟨rfl, by decide, by decide⟩ rfl hmg (fun base => K25.s_law TT) rfl rfl rfl hrun
