import PyProof.Rows.All
import Wide.All
import OpenK.AllK
import Wide.FinOn
import HandS.ForMost
import HandS.Exc
import HandS.Wide
import HandS.IsInst
import HandS.Style
import HandS.Zip
import HandS.Flow
import PyProof.ReprRoads
import HandS.TupMul
import HandS.WordsExc
import HandS.NoneIn
import HandS.Defaults
import HandS.Words
import HandS.Codes
import HandS.Ends
import PySem.Challenge.RW_stillgauge_k24_whole_tables_led_one_behi
import PyProof.ReprLen
set_option Elab.async false
set_option linter.all false
set_option maxRecDepth 100000
set_option maxHeartbeats 0
/-! Sg1: data, slots, how data stand in the abstract heap, steps. -/
namespace SG
open PySem L2

/-- data: what is never changed while it is known as data -/
inductive D where
  | non
  | bl (b : Bool)
  | int (i : Int)
  | str (x : Str)
  | tup (l : List D)
  | lst (l : List D)

/-- an error of the program's own: its class, the attribute that it keeps -/
structure Exn where
  cls : Str
  kept : Option (Str × D)

/-- what a slot holds: nothing, data, or a list that is this def's own (m: lent by the caller) -/
inductive S where
  | un
  | val (d : D)
  | own (m : Bool) (ds : List D)

mutual
inductive Rp (K : PySem.W.Frag) (G : Hp) : V → D → Prop
  | non : Rp K G .non .non
  | bl (b : Bool) : Rp K G (.bl b) (.bl b)
  | int (i : Int) : Rp K G (.int i) (.int i)
  | str (x : Str) : Rp K G (.str x) (.str x)
  | tup {a : Addr} {xs : List V} {ds : List D} : SqT K G a xs → Rps K G xs ds → Rp K G (.ref a) (.tup ds)
  | lst {a : Addr} {xs : List V} {ds : List D} : SqL K G a xs → Rps K G xs ds → Rp K G (.ref a) (.lst ds)
inductive Rps (K : PySem.W.Frag) (G : Hp) : List V → List D → Prop
  | nil : Rps K G [] []
  | cons {v : V} {vs : List V} {d : D} {ds : List D} : Rp K G v d → Rps K G vs ds → Rps K G (v :: vs) (d :: ds)
end

def Sub (G H : Hp) : Prop := ∀ b o, G b = some o → H b = some o
theorem Sub.refl (G : Hp) : Sub G G := fun _ _ h => h
theorem Sub.trans {A B C : Hp} (h : Sub A B) (k : Sub B C) : Sub A C := fun b o e => k b o (h b o e)
theorem Sub.rd {G H : Hp} (h : Sub G H) {a : Addr} {u : HO} (r : Rd G a u) : Rd H a u := by
  rcases r with r | ⟨o, r⟩
  · exact Or.inl (h _ _ r)
  · exact Or.inr ⟨o, h _ _ r⟩
theorem Sub.sqT {K : PySem.W.Frag} {G H : Hp} (h : Sub G H) {a : Addr} {xs : List V} (r : SqT K G a xs) : SqT K H a xs := by
  rcases r with r | r
  · exact Or.inl (h.rd r)
  · exact Or.inr r
theorem Sub.sqL {K : PySem.W.Frag} {G H : Hp} (h : Sub G H) {a : Addr} {xs : List V} (r : SqL K G a xs) : SqL K H a xs := by
  rcases r with r | r
  · exact Or.inl (h.rd r)
  · exact Or.inr r

mutual
theorem Rp.mono {K : PySem.W.Frag} {G H : Hp} (h : Sub G H) : ∀ {v : V} {d : D}, Rp K G v d → Rp K H v d
  | _, _, .non => .non
  | _, _, .bl b => .bl b
  | _, _, .int i => .int i
  | _, _, .str x => .str x
  | _, _, .tup s r => .tup (h.sqT s) (Rps.mono h r)
  | _, _, .lst s r => .lst (h.sqL s) (Rps.mono h r)
theorem Rps.mono {K : PySem.W.Frag} {G H : Hp} (h : Sub G H) : ∀ {vs : List V} {ds : List D}, Rps K G vs ds → Rps K H vs ds
  | _, _, .nil => .nil
  | _, _, .cons a b => .cons (Rp.mono h a) (Rps.mono h b)
end
section
variable {K : PySem.W.Frag} {G : Hp}
theorem Rps.length : ∀ {vs : List V} {ds : List D}, Rps K G vs ds → vs.length = ds.length
  | _, _, .nil => rfl
  | _, _, .cons _ b => congrArg Nat.succ (Rps.length b)
theorem Rps.get : ∀ {vs : List V} {ds : List D} {i : Nat} {d : D}, Rps K G vs ds → ds[i]? = some d → ∃ v, vs[i]? = some v ∧ Rp K G v d
  | _, _, _, _, .nil, h => by simp at h
  | _, _, 0, _, .cons a _, h => by
    simp at h; subst h
    exact ⟨_, rfl, a⟩
  | _, _, i + 1, _, .cons _ b, h => by
    obtain ⟨v, h1, h2⟩ := Rps.get (i := i) b (by simpa using h)
    exact ⟨v, by simpa using h1, h2⟩
theorem Rps.getV : ∀ {vs : List V} {ds : List D} {i : Nat} {v : V}, Rps K G vs ds → vs[i]? = some v → ∃ d, ds[i]? = some d ∧ Rp K G v d
  | _, _, _, _, .nil, h => by simp at h
  | _, _, 0, _, .cons a _, h => by
    simp at h; subst h
    exact ⟨_, rfl, a⟩
  | _, _, i + 1, _, .cons _ b, h => by
    obtain ⟨v, h1, h2⟩ := Rps.getV (i := i) b (by simpa using h)
    exact ⟨v, by simpa using h1, h2⟩
theorem Rps.append : ∀ {vs ws : List V} {ds es : List D}, Rps K G vs ds → Rps K G ws es → Rps K G (vs ++ ws) (ds ++ es)
  | _, _, _, _, .nil, s => s
  | _, _, _, _, .cons a b, s => .cons a (Rps.append b s)
theorem Rps.one {v : V} {d : D} (h : Rp K G v d) : Rps K G [v] [d] := .cons h .nil
theorem Rps.snoc {vs : List V} {ds : List D} {v : V} {d : D} (h : Rps K G vs ds) (k : Rp K G v d) : Rps K G (vs ++ [v]) (ds ++ [d]) := h.append (.one k)
theorem Rps.take : ∀ {vs : List V} {ds : List D} (n : Nat), Rps K G vs ds → Rps K G (vs.take n) (ds.take n)
  | _, _, 0, _ => by simpa using Rps.nil
  | _, _, _ + 1, .nil => .nil
  | _, _, n + 1, .cons a b => .cons a (Rps.take n b)
theorem Rps.drop : ∀ {vs : List V} {ds : List D} (n : Nat), Rps K G vs ds → Rps K G (vs.drop n) (ds.drop n)
  | _, _, 0, h => h
  | _, _, _ + 1, .nil => .nil
  | _, _, n + 1, .cons _ b => Rps.drop n b
theorem Rps.set {v : V} {d : D} (k : Rp K G v d) : ∀ {vs : List V} {ds : List D} (n : Nat), Rps K G vs ds → Rps K G (vs.set n v) (ds.set n d)
  | _, _, _, .nil => .nil
  | _, _, 0, .cons _ b => .cons k b
  | _, _, n + 1, .cons a b => .cons a (Rps.set k n b)
theorem Rps.rep {v : V} {d : D} (k : Rp K G v d) : ∀ n : Nat, Rps K G (List.replicate n v) (List.replicate n d)
  | 0 => .nil
  | n + 1 => .cons k (Rps.rep k n)
theorem Rps.reverse {vs : List V} {ds : List D} (h : Rps K G vs ds) : Rps K G vs.reverse ds.reverse := by
  induction vs generalizing ds with
  | nil => cases h; exact .nil
  | cons v vs ih =>
    cases h with
    | cons a b =>
      rw [List.reverse_cons, List.reverse_cons]
      exact (ih b).snoc a
theorem Rps.eraseIdx : ∀ {vs : List V} {ds : List D} (n : Nat), Rps K G vs ds → Rps K G (vs.eraseIdx n) (ds.eraseIdx n)
  | _, _, _, .nil => .nil
  | _, _, 0, .cons _ b => b
  | _, _, n + 1, .cons a b => .cons a (Rps.eraseIdx n b)
theorem Rps.repl {vs : List V} {ds : List D} (h : Rps K G vs ds) : ∀ n : Nat, Rps K G (List.replicate n vs).flatten (List.replicate n ds).flatten
  | 0 => .nil
  | n + 1 => by
    simp only [List.replicate_succ, List.flatten_cons]
    exact h.append (Rps.repl h n)
end

/-- the list that a def owns by the name in a slot stands at b -/
def Owned (σ : L2.St) (st : List S) (b : Addr) : Prop := ∃ (i : Nat) (m : Bool) (ds : List D), st[i]? = some (S.own m ds) ∧ σ[i]? = some (some (.ref b))

/-- slots as they stand: G what is frozen, H what is tracked -/
structure Rl (K : PySem.W.Frag) (G H : Hp) (σ : L2.St) (st : List S) : Prop where
  sub : Sub G H
  len : st.length = σ.length
  val : ∀ (i : Nat) (d : D), st[i]? = some (.val d) → ∃ v, σ[i]? = some (some v) ∧ Rp K G v d
  own : ∀ (i : Nat) (m : Bool) (ds : List D), st[i]? = some (.own m ds) → ∃ (a : Addr) (xs : List V), σ[i]? = some (some (.ref a)) ∧ G a = none ∧ H a = some (.lst xs) ∧ Rps K G xs ds
  sep : ∀ (i j : Nat) (m : Bool) (ds : List D) (n : Bool) (es : List D), i ≠ j → st[i]? = some (.own m ds) → st[j]? = some (.own n es) → σ[i]? ≠ σ[j]?

/-- from one state to a later one -/
structure Stp (G H : Hp) (σ : L2.St) (st : List S) (G' H' : Hp) (σ' : L2.St) (st' : List S) : Prop where
  kp : ∀ b o, H b = some o → ¬ Owned σ st b → H' b = some o
  gr : Sub G G'
  old : ∀ b, H b ≠ none → ¬ Owned σ st b → G' b = G b
  ow : ∀ b, Owned σ' st' b → Owned σ st b ∨ H b = none
  nv : ∀ b, H b ≠ none → H' b ≠ none
  bor : ∀ (i : Nat) (ds : List D), st[i]? = some (.own true ds) → σ'[i]? = σ[i]? ∧ ∃ es : List D, st'[i]? = some (.own true es)

theorem Stp.refl {G H : Hp} {σ : L2.St} {st : List S} : Stp G H σ st G H σ st :=
  ⟨fun _ _ h _ => h, Sub.refl G, fun _ _ _ => rfl, fun _ h => .inl h, fun _ h => h, fun _ ds h => ⟨rfl, ds, h⟩⟩
theorem Stp.trans {G H G1 H1 G2 H2 : Hp} {σ σ1 σ2 : L2.St} {st st1 st2 : List S} (a : Stp G H σ st G1 H1 σ1 st1) (b : Stp G1 H1 σ1 st1 G2 H2 σ2 st2) : Stp G H σ st G2 H2 σ2 st2 := by
  have no : ∀ b, H b ≠ none → ¬ Owned σ st b → ¬ Owned σ1 st1 b := fun c h n o => by
    rcases a.ow c o with z | z
    · exact n z
    · exact h z
  refine ⟨fun c o h n => ?_, a.gr.trans b.gr, fun c h n => ?_, fun c h => ?_, fun c h => b.nv c (a.nv c h), fun i ds h => ?_⟩
  · exact b.kp c o (a.kp c o h n) (no c (by rw [h]; exact fun z => nomatch z) n)
  · have h1 := a.nv c h
    rw [b.old c h1 (no c h n), a.old c h n]
  · rcases b.ow c h with z | z
    · exact a.ow c z
    · refine Classical.byContradiction fun q => ?_
      have q' := not_or.mp q
      exact a.nv c q'.2 z
  · obtain ⟨h1, es, h2⟩ := a.bor i ds h
    obtain ⟨h3, es2, h4⟩ := b.bor i es h2
    exact ⟨h3.trans h1, es2, h4⟩

section
variable {K : PySem.W.Frag} {G H G' H' : Hp} {σ σ' : L2.St} {st st' : List S}
theorem Rl.notOwned_of_G (r : Rl K G H σ st) {b : Addr} {o : HO} (h : G b = some o) : ¬ Owned σ st b := fun ⟨i, m, ds, h1, h2⟩ => by
  obtain ⟨a, xs, e1, e2, _⟩ := r.own i m ds h1
  rw [h2] at e1
  cases e1
  rw [h] at e2
  cases e2
theorem Rl.notOwned_of_fresh (r : Rl K G H σ st) {b : Addr} (h : H b = none) : ¬ Owned σ st b := fun ⟨i, m, ds, h1, h2⟩ => by
  obtain ⟨a, xs, e1, _, e3, _⟩ := r.own i m ds h1
  rw [h2] at e1
  cases e1
  rw [h] at e3
  cases e3
theorem Rl.G_none (r : Rl K G H σ st) {b : Addr} (h : H b = none) : G b = none := by
  cases e : G b with
  | none => rfl
  | some o => rw [r.sub b o e] at h; cases h
theorem sub_upd {b : Addr} {o : HO} (h : G b = none) : Sub G (upd G b o) := fun c u e => by
  rw [upd_ne (ne_of_none e h)]
  exact e
/-- a new frozen object -/
theorem Rl.newF (r : Rl K G H σ st) {p : Addr} (o : HO) (hp : H p = none) : Rl K (upd G p o) (upd H p o) σ st := by
  have gp := r.G_none hp
  refine ⟨fun b u e => ?_, r.len, fun i d h => ?_, fun i m ds h => ?_, r.sep⟩
  · by_cases hb : b = p
    · subst hb; rw [upd_same] at e ⊢; exact e
    · rw [upd_ne hb] at e ⊢; exact r.sub b u e
  · obtain ⟨v, h1, h2⟩ := r.val i d h
    exact ⟨v, h1, h2.mono (sub_upd gp)⟩
  · obtain ⟨a, xs, h1, h2, h3, h4⟩ := r.own i m ds h
    have ne : a ≠ p := ne_of_none h3 hp
    exact ⟨a, xs, h1, by rw [upd_ne ne]; exact h2, by rw [upd_ne ne]; exact h3, h4.mono (sub_upd gp)⟩
theorem Stp.newF (r : Rl K G H σ st) {p : Addr} (o : HO) (hp : H p = none) : Stp G H σ st (upd G p o) (upd H p o) σ st := by
  have gp := r.G_none hp
  refine ⟨fun b u h _ => ?_, sub_upd gp, fun b h _ => ?_, fun b h => .inl h, fun b h => ?_, fun i ds h => ⟨rfl, ds, h⟩⟩
  · rw [upd_ne (ne_of_none h hp)]; exact h
  · have ne : b ≠ p := fun z => by subst z; exact h hp
    rw [upd_ne ne]
  · have ne : b ≠ p := fun z => by subst z; exact h hp
    rw [upd_ne ne]; exact h
/-- a new object that is not frozen -/
theorem Rl.newO (r : Rl K G H σ st) {p : Addr} (o : HO) (hp : H p = none) : Rl K G (upd H p o) σ st := by
  refine ⟨fun b u e => ?_, r.len, r.val, fun i m ds h => ?_, r.sep⟩
  · rw [upd_ne (ne_of_none (r.sub b u e) hp)]; exact r.sub b u e
  · obtain ⟨a, xs, h1, h2, h3, h4⟩ := r.own i m ds h
    exact ⟨a, xs, h1, h2, by rw [upd_ne (ne_of_none h3 hp)]; exact h3, h4⟩
theorem Stp.newO (r : Rl K G H σ st) {p : Addr} (o : HO) (hp : H p = none) : Stp G H σ st G (upd H p o) σ st := by
  refine ⟨fun b u h _ => ?_, Sub.refl G, fun b h _ => rfl, fun b h => .inl h, fun b h => ?_, fun i ds h => ⟨rfl, ds, h⟩⟩
  · rw [upd_ne (ne_of_none h hp)]; exact h
  · have ne : b ≠ p := fun z => by subst z; exact h hp
    rw [upd_ne ne]; exact h
/-- an object that nobody owns and that is not frozen, changed -/
theorem Rl.poke (r : Rl K G H σ st) {p : Addr} (o : HO) (hg : G p = none) (hn : ¬ Owned σ st p) : Rl K G (upd H p o) σ st := by
  refine ⟨fun b u e => ?_, r.len, r.val, fun i m ds h => ?_, r.sep⟩
  · rw [upd_ne (ne_of_none e hg)]; exact r.sub b u e
  · obtain ⟨a, xs, h1, h2, h3, h4⟩ := r.own i m ds h
    have ne : a ≠ p := fun z => hn ⟨i, m, ds, h, by rw [h1, z]⟩
    exact ⟨a, xs, h1, h2, by rw [upd_ne ne]; exact h3, h4⟩
/-- such an object is frozen -/
theorem Rl.frz (r : Rl K G H σ st) {p : Addr} {o : HO} (hp : H p = some o) (hg : G p = none) (hn : ¬ Owned σ st p) : Rl K (upd G p o) H σ st := by
  refine ⟨fun b u e => ?_, r.len, fun i d h => ?_, fun i m ds h => ?_, r.sep⟩
  · by_cases hb : b = p
    · subst hb; rw [upd_same] at e; cases e; exact hp
    · rw [upd_ne hb] at e; exact r.sub b u e
  · obtain ⟨v, h1, h2⟩ := r.val i d h
    exact ⟨v, h1, h2.mono (sub_upd hg)⟩
  · obtain ⟨a, xs, h1, h2, h3, h4⟩ := r.own i m ds h
    have ne : a ≠ p := fun z => hn ⟨i, m, ds, h, by rw [h1, z]⟩
    exact ⟨a, xs, h1, by rw [upd_ne ne]; exact h2, h3, h4.mono (sub_upd hg)⟩
theorem set_get {α : Type} {l : List α} {i j : Nat} {x y : α} (h : (l.set i x)[j]? = some y) : (j = i ∧ i < l.length ∧ y = x) ∨ (j ≠ i ∧ l[j]? = some y) := by
  by_cases e : j = i
  · subst e
    have hl : j < l.length := by
      have := (List.getElem?_eq_some_iff.mp h).1
      simpa using this
    rw [List.getElem?_set_self hl] at h
    cases h
    exact .inl ⟨rfl, hl, rfl⟩
  · rw [List.getElem?_set_ne (Ne.symm e)] at h
    exact .inr ⟨e, h⟩
theorem lt_of_get {α : Type} {l : List α} {i : Nat} {x : α} (h : l[i]? = some x) : i < l.length := (List.getElem?_eq_some_iff.mp h).1
/-- a name is given data -/
theorem Rl.setV (r : Rl K G H σ st) {i : Nat} {v : V} {d : D} (hr : Rp K G v d) : Rl K G H (σ.set i (some v)) (st.set i (.val d)) := by
  refine ⟨r.sub, by rw [List.length_set, List.length_set]; exact r.len, fun j e h => ?_, fun j m ds h => ?_, fun j k m ds n es hjk h1 h2 => ?_⟩
  · rcases set_get h with ⟨rfl, hl, e⟩ | ⟨hj, h⟩
    · cases e
      exact ⟨v, List.getElem?_set_self (by rw [← r.len]; exact hl), hr⟩
    · obtain ⟨u, h1, h2⟩ := r.val j e h
      exact ⟨u, by rw [List.getElem?_set_ne (Ne.symm hj)]; exact h1, h2⟩
  · rcases set_get h with ⟨_, _, e⟩ | ⟨hj, h⟩
    · cases e
    · obtain ⟨a, xs, h1, h2⟩ := r.own j m ds h
      exact ⟨a, xs, by rw [List.getElem?_set_ne (Ne.symm hj)]; exact h1, h2⟩
  · rcases set_get h1 with ⟨_, _, e⟩ | ⟨hj, h1⟩
    · cases e
    · rcases set_get h2 with ⟨_, _, e⟩ | ⟨hk, h2⟩
      · cases e
      · rw [List.getElem?_set_ne (Ne.symm hj), List.getElem?_set_ne (Ne.symm hk)]
        exact r.sep j k m ds n es hjk h1 h2
/-- may a slot be given something: not a lent list -/
def free (st : List S) (i : Nat) : Bool := match st[i]? with
  | some (.own true _) => false
  | some _ => true
  | none => false
theorem free_lt (h : free st i = true) : i < st.length := by
  unfold free at h
  cases e : st[i]? with
  | none => rw [e] at h; cases h
  | some s => exact lt_of_get e
theorem free_ne {i j : Nat} {ds : List D} (h : free st i = true) (k : st[j]? = some (.own true ds)) : j ≠ i := fun z => by
  subst z
  unfold free at h
  rw [k] at h
  cases h
theorem Stp.setV {i : Nat} {v : V} {d : D} (hf : free st i = true) : Stp G H σ st G H (σ.set i (some v)) (st.set i (.val d)) := by
  refine ⟨fun b o h _ => h, Sub.refl G, fun _ _ _ => rfl, fun b ⟨j, m, ds, h1, h2⟩ => ?_, fun _ h => h, fun j ds h => ?_⟩
  · rcases set_get h1 with ⟨_, _, e⟩ | ⟨hj, h1⟩
    · cases e
    · rw [List.getElem?_set_ne (Ne.symm hj)] at h2
      exact .inl ⟨j, m, ds, h1, h2⟩
  · have hj := free_ne hf h
    exact ⟨List.getElem?_set_ne (Ne.symm hj), ds, by rw [List.getElem?_set_ne (Ne.symm hj)]; exact h⟩
/-- a name is given a list of its own -/
theorem Rl.setO (r : Rl K G H σ st) {i : Nat} {a : Addr} {xs : List V} {ds : List D} (hg : G a = none) (ha : H a = some (.lst xs)) (hr : Rps K G xs ds) (hn : ¬ Owned σ st a) :
    Rl K G H (σ.set i (some (.ref a))) (st.set i (.own false ds)) := by
  refine ⟨r.sub, by rw [List.length_set, List.length_set]; exact r.len, fun j e h => ?_, fun j m es h => ?_, fun j k m ds n es hjk h1 h2 => ?_⟩
  · rcases set_get h with ⟨_, _, e⟩ | ⟨hj, h⟩
    · cases e
    · obtain ⟨u, h1, h2⟩ := r.val j e h
      exact ⟨u, by rw [List.getElem?_set_ne (Ne.symm hj)]; exact h1, h2⟩
  · rcases set_get h with ⟨rfl, hl, e⟩ | ⟨hj, h⟩
    · cases e
      exact ⟨a, xs, List.getElem?_set_self (by rw [← r.len]; exact hl), hg, ha, hr⟩
    · obtain ⟨c, zs, h1, h2⟩ := r.own j m es h
      exact ⟨c, zs, by rw [List.getElem?_set_ne (Ne.symm hj)]; exact h1, h2⟩
  · have ow : ∀ (j : Nat) (m : Bool) (ds : List D), j ≠ i → st[j]? = some (.own m ds) → σ[j]? ≠ some (some (.ref a)) := fun j m ds hj h z => hn ⟨j, m, ds, h, z⟩
    rcases set_get h1 with ⟨rfl, hl, e⟩ | ⟨hj, h1⟩
    · rcases set_get h2 with ⟨e2, _, _⟩ | ⟨hk, h2⟩
      · exact absurd e2.symm hjk
      · rw [List.getElem?_set_self (by rw [← r.len]; exact hl), List.getElem?_set_ne (Ne.symm hk)]
        exact fun z => ow k n es hk h2 z.symm
    · rcases set_get h2 with ⟨e2, hl, _⟩ | ⟨hk, h2⟩
      · rw [e2, List.getElem?_set_self (by rw [← r.len]; exact hl), List.getElem?_set_ne (Ne.symm hj)]
        exact ow j m ds hj h1
      · rw [List.getElem?_set_ne (Ne.symm hj), List.getElem?_set_ne (Ne.symm hk)]
        exact r.sep j k m ds n es hjk h1 h2
/-- .. seen from an elder state in which the list was not there -/
theorem Stp.setO {G0 H0 : Hp} {σ0 : L2.St} {st0 : List S} {i : Nat} {a : Addr} {ds : List D} (p : Stp G0 H0 σ0 st0 G H σ st) (hf : free st i = true) (h0 : H0 a = none) :
    Stp G0 H0 σ0 st0 G H (σ.set i (some (.ref a))) (st.set i (.own false ds)) := by
  refine ⟨p.kp, p.gr, p.old, fun b ⟨j, m, es, h1, h2⟩ => ?_, p.nv, fun j es h => ?_⟩
  · rcases set_get h1 with ⟨rfl, hl, e⟩ | ⟨hj, h1⟩
    · have hb : b = a := by
        rcases set_get h2 with ⟨_, _, e2⟩ | ⟨z, _⟩
        · cases e2; rfl
        · exact absurd rfl z
      subst hb
      exact .inr h0
    · rw [List.getElem?_set_ne (Ne.symm hj)] at h2
      exact p.ow b ⟨j, m, es, h1, h2⟩
  · obtain ⟨h1, es', h2⟩ := p.bor j es h
    have hj := free_ne hf h2
    exact ⟨by rw [List.getElem?_set_ne (Ne.symm hj)]; exact h1, es', by rw [List.getElem?_set_ne (Ne.symm hj)]; exact h2⟩
/-- the own list of a name is changed -/
theorem Rl.wr (r : Rl K G H σ st) {i : Nat} {m : Bool} {ds es : List D} {a : Addr} {xs ys : List V} (hi : st[i]? = some (.own m ds)) (hs : σ[i]? = some (some (.ref a))) (hr : Rps K G ys es) :
    Rl K G (upd H a (.lst ys)) σ (st.set i (.own m es)) := by
  obtain ⟨a', xs', e1, hg, ha, _⟩ := r.own i m ds hi
  rw [hs] at e1
  cases e1
  refine ⟨fun b u e => ?_, by rw [List.length_set]; exact r.len, fun j d h => ?_, fun j n fs h => ?_, fun j k n fs q gs hjk h1 h2 => ?_⟩
  · rw [upd_ne (ne_of_none e hg)]; exact r.sub b u e
  · rcases set_get h with ⟨_, _, e⟩ | ⟨hj, h⟩
    · cases e
    · exact r.val j d h
  · rcases set_get h with ⟨rfl, hl, e⟩ | ⟨hj, h⟩
    · cases e
      exact ⟨a, ys, hs, hg, upd_same, hr⟩
    · obtain ⟨c, zs, h1, h2, h3, h4⟩ := r.own j n fs h
      have ne : c ≠ a := fun z => by
        subst z
        exact r.sep j i n fs m ds hj h hi (h1.trans hs.symm)
      exact ⟨c, zs, h1, h2, by rw [upd_ne ne]; exact h3, h4⟩
  · rcases set_get h1 with ⟨rfl, _, _⟩ | ⟨hj, h1⟩
    · rcases set_get h2 with ⟨e2, _, _⟩ | ⟨hk, h2⟩
      · exact absurd e2.symm hjk
      · exact r.sep j k m ds q gs hjk hi h2
    · rcases set_get h2 with ⟨e2, _, _⟩ | ⟨hk, h2⟩
      · rw [e2]
        exact r.sep j i n fs m ds hj h1 hi
      · exact r.sep j k n fs q gs hjk h1 h2
theorem Stp.wr (r : Rl K G H σ st) {i : Nat} {m : Bool} {ds es : List D} {a : Addr} {ys : List V} (hi : st[i]? = some (.own m ds)) (hs : σ[i]? = some (some (.ref a))) :
    Stp G H σ st G (upd H a (.lst ys)) σ (st.set i (.own m es)) := by
  have ho : Owned σ st a := ⟨i, m, ds, hi, hs⟩
  refine ⟨fun b o h n => ?_, Sub.refl G, fun _ _ _ => rfl, fun b ⟨j, n, fs, h1, h2⟩ => ?_, fun b h => ?_, fun j fs h => ?_⟩
  · rw [upd_ne (fun z : b = a => n (by rw [z]; exact ho))]; exact h
  · rcases set_get h1 with ⟨rfl, _, e⟩ | ⟨hj, h1⟩
    · exact .inl ⟨j, m, ds, hi, h2⟩
    · exact .inl ⟨j, n, fs, h1, h2⟩
  · by_cases hb : b = a
    · subst hb; rw [upd_same]; exact fun z => nomatch z
    · rw [upd_ne hb]; exact h
  · by_cases hj : j = i
    · subst hj
      rw [hi] at h
      cases h
      exact ⟨rfl, es, List.getElem?_set_self (lt_of_get hi)⟩
    · exact ⟨rfl, fs, by rw [List.getElem?_set_ne (Ne.symm hj)]; exact h⟩
/-- an own list becomes data -/
theorem Rl.thaw (r : Rl K G H σ st) {i : Nat} {ds : List D} {a : Addr} {xs : List V} (hi : st[i]? = some (.own false ds)) (hs : σ[i]? = some (some (.ref a))) (ha : H a = some (.lst xs)) :
    Rl K (upd G a (.lst xs)) H σ (st.set i (.val (.lst ds))) ∧ Rp K (upd G a (.lst xs)) (.ref a) (.lst ds) := by
  obtain ⟨a', xs', e1, hg, ha', hr⟩ := r.own i false ds hi
  rw [hs] at e1
  cases e1
  rw [ha] at ha'
  cases ha'
  have rp : Rp K (upd G a (.lst xs)) (.ref a) (.lst ds) := .lst (.inl (.inl upd_same)) (hr.mono (sub_upd hg))
  refine ⟨⟨fun b u e => ?_, by rw [List.length_set]; exact r.len, fun j d h => ?_, fun j n fs h => ?_, fun j k n fs q gs hjk h1 h2 => ?_⟩, rp⟩
  · by_cases hb : b = a
    · subst hb; rw [upd_same] at e; cases e; exact ha
    · rw [upd_ne hb] at e; exact r.sub b u e
  · rcases set_get h with ⟨rfl, _, e⟩ | ⟨hj, h⟩
    · cases e
      exact ⟨.ref a, hs, rp⟩
    · obtain ⟨v, h1, h2⟩ := r.val j d h
      exact ⟨v, h1, h2.mono (sub_upd hg)⟩
  · rcases set_get h with ⟨_, _, e⟩ | ⟨hj, h⟩
    · cases e
    · obtain ⟨c, zs, h1, h2, h3, h4⟩ := r.own j n fs h
      have ne : c ≠ a := fun z => by
        subst z
        exact r.sep j i n fs false ds hj h hi (h1.trans hs.symm)
      exact ⟨c, zs, h1, by rw [upd_ne ne]; exact h2, h3, h4.mono (sub_upd hg)⟩
  · rcases set_get h1 with ⟨_, _, e⟩ | ⟨hj, h1⟩
    · cases e
    · rcases set_get h2 with ⟨_, _, e⟩ | ⟨hk, h2⟩
      · cases e
      · exact r.sep j k n fs q gs hjk h1 h2
theorem Stp.thaw (r : Rl K G H σ st) {i : Nat} {ds : List D} {a : Addr} {xs : List V} (hi : st[i]? = some (.own false ds)) (hs : σ[i]? = some (some (.ref a))) :
    Stp G H σ st (upd G a (.lst xs)) H σ (st.set i (.val (.lst ds))) := by
  have ho : Owned σ st a := ⟨i, false, ds, hi, hs⟩
  obtain ⟨a', xs', e1, hg, _, _⟩ := r.own i false ds hi
  rw [hs] at e1
  cases e1
  refine ⟨fun b o h _ => h, sub_upd hg, fun b _ n => ?_, fun b ⟨j, n, fs, h1, h2⟩ => ?_, fun b h => h, fun j fs h => ?_⟩
  · rw [upd_ne (fun z : b = a => n (by rw [z]; exact ho))]
  · rcases set_get h1 with ⟨_, _, e⟩ | ⟨hj, h1⟩
    · cases e
    · exact .inl ⟨j, n, fs, h1, h2⟩
  · have hj : j ≠ i := fun z => by
      subst z
      rw [hi] at h
      cases h
    exact ⟨rfl, fs, by rw [List.getElem?_set_ne (Ne.symm hj)]; exact h⟩
end
end SG
/-! Sg2: the small language and what it computes. -/
namespace SG
open PySem L2

/-- what an expression hands on: data, or the own list of a slot -/
inductive W where
  | v (d : D)
  | o (i : Nat)

inductive Op | add | sub | mul | fdiv | mod | pow
inductive Cm | lt | le | gt | ge | eq | ne | isn | nisn | isin | notin
inductive B1 | len | abs | int | repr | tup | all | any | str

abbrev R (α : Type) := Option (Except Exn α × List S)
def bnd {α β : Type} (o : R α) (k : α → List S → R β) : R β := match o with
  | none => none
  | some (.error x, s) => some (.error x, s)
  | some (.ok a, s) => k a s
def ok {α : Type} (a : α) (s : List S) : R α := some (.ok a, s)

/-- a def as it is called: the content of the list that is lent (first argument), the other arguments; what comes back, and the lent list behind -/
structure Fn where
  name : Str
  lvl : Nat
  lend : Bool
  fresh : Bool
  many : Nat
  run : List D → List D → Option (Except Exn D × List D)

inductive Tg | nm (i : Nat) | two (i j : Nat) | thr (i j l : Nat)

mutual
inductive E where
  | var (i : Nat)
  | cst (d : D)
  | glb (x : Str) (d : D)
  | bin (o : Op) (a b : E)
  | neg (a : E)
  | cmp (o : Cm) (a b : E)
  | chain (o p : Cm) (a b c : E)
  | and (a b : E)
  | or (a b : E)
  | not (a : E)
  | ite (c a b : E)
  | tup (es : EL)
  | ix (a b : E)
  | slc (a : E) (lo hi : EO)
  | rev (a : E)
  | call (f : Fn) (es : EL)
  | b1 (b : B1) (a : E)
  | isi (a : E) (t : String)
  | max2 (a b : E)
  | min2 (a b : E)
  | fr (f : FE)
inductive FE where
  | disp (es : EL)
  | comp (t : Tg) (it : IT) (c : EO) (e : E)
  | listOf (a : E)
  | cat (i : Nat) (f : FE)
  | callF (f : Fn) (es : EL)
inductive IT where
  | rng1 (a : E)
  | rng2 (a b : E)
  | seqT (a : E)
  | seqL (a : E)
  | zipT (a b : E)
  | zipL (a b : E)
  | enmL (a : E)
  | enmT (a : E)
inductive EL where
  | nil
  | cons (e : E) (r : EL)
inductive EO where
  | no
  | yes (e : E)
end

/-! ### operations on data -/
def bitsOf (i : Int) : Nat := Builtin.Int.intBits i
def mulOk (i j : Int) : Bool := decide (bitsOf i ≤ 64 ∨ bitsOf j ≤ 64 ∨ bitsOf i + bitsOf j < 1000000)
def opD : Op → D → D → Option D
  | .add, .int i, .int j => some (.int (i + j))
  | .sub, .int i, .int j => some (.int (i - j))
  | .mul, .int i, .int j => if mulOk i j then some (.int (i * j)) else none
  | .fdiv, .int i, .int j => if 0 < j ∧ bitsOf j ≤ 9000 then some (.int (i / j)) else none
  | .mod, .int i, .int j => if 0 < j then some (.int (i % j)) else none
  | .pow, .int i, .int j => if 0 ≤ j ∧ (bitsOf i : Int) * j ≤ 2 ^ 27 then some (.int (i ^ j.toNat)) else none
  | .add, .tup xs, .tup ys => if xs ≠ [] ∧ xs.length + ys.length ≤ 100000 then some (.tup (xs ++ ys)) else none
  | .mul, .tup xs, .int k => if xs ≠ [] ∧ 0 ≤ k ∧ k ≤ 1000 ∧ xs.length ≤ 1000 then some (.tup (List.replicate k.toNat xs).flatten) else none
  | .add, .str x, .str y => if x.length + y.length ≤ 100000 then some (.str (x ++ y)) else none
  | _, _, _ => none
mutual
def D.toP : D → PyData
  | .non => .none
  | .bl b => .bool b
  | .int i => .int i
  | .str x => .str x
  | .tup l => .tuple (D.toPs l)
  | .lst l => .list (D.toPs l)
def D.toPs : List D → List PyData
  | [] => []
  | d :: r => D.toP d :: D.toPs r
end
def eqD (a b : D) : Bool := PyData.eqv a.toP b.toP
def shp (a : D) : Bool := SeqAt.shaped a.toP
def cmD : Cm → D → D → Option Bool
  | .lt, .int i, .int j => some (decide (i < j))
  | .le, .int i, .int j => some (decide (i ≤ j))
  | .gt, .int i, .int j => some (decide (j < i))
  | .ge, .int i, .int j => some (decide (j ≤ i))
  | .eq, .str x, .str y => some (decide (x = y))
  | .ne, .str x, .str y => some (!decide (x = y))
  | .eq, a, b => if shp a && shp b then some (eqD a b) else none
  | .ne, a, b => if shp a && shp b then some (!eqD a b) else none
  | _, _, _ => none
def isNon : D → Bool
  | .non => true
  | _ => false
def truD : D → Option Bool
  | .non => some false
  | .bl b => some b
  | .int i => some (i != 0)
  | .tup l => some (!l.isEmpty)
  | .lst l => some (!l.isEmpty)
  | _ => none
/-- an item -/
def atD : D → D → Option D
  | .tup l, .int i => atI l i
  | .lst l, .int i => atI l i
  | _, _ => none
def boolsOf : List D → Option (List Bool)
  | [] => some []
  | .bl b :: r => (boolsOf r).map (b :: ·)
  | _ => none
def shownOk (d : D) : Bool := d.toP.showable && decide (d.toP.shown.length ≤ 1000000) && decide (d.toP.depth ≤ 30)
def b1D : B1 → D → Option D
  | .len, .tup l => some (.int l.length)
  | .len, .lst l => some (.int l.length)
  | .len, .str x => if x.length ≤ 100000 then some (.int x.length) else none
  | .abs, .int i => some (.int (if i < 0 then -i else i))
  | .int, .int i => some (.int i)
  | .int, .bl b => some (.int (if b then 1 else 0))
  | .tup, .tup l => some (.tup l)
  | .tup, .lst l => some (.tup l)
  | .all, .lst l => (boolsOf l).map fun bs => .bl (bs.all id)
  | .any, .lst l => (boolsOf l).map fun bs => .bl (bs.any id)
  | .repr, d => if shownOk d then some (.str d.toP.shown) else none
  | _, _ => none
def tyOf : D → String
  | .non => "NoneType"
  | .bl _ => "bool"
  | .int _ => "int"
  | .str _ => "str"
  | .tup _ => "tuple"
  | .lst _ => "list"
def isiD (d : D) (t : String) : Option Bool := match t with
  | "int" => some (tyOf d == "int" || tyOf d == "bool")
  | "bool" => some (tyOf d == "bool")
  | "str" => some (tyOf d == "str")
  | "tuple" => some (tyOf d == "tuple")
  | "list" => some (tyOf d == "list")
  | "dict" => some false
  | _ => none

/-! ### slots -/
def rd (st : List S) : W → Option D
  | .v d => some d
  | .o i => match st[i]? with
    | some (.own _ ds) => some (.lst ds)
    | some (.val d) => some d
    | _ => none
/-- made data (an own list is given up) -/
def frz (st : List S) : W → Option (D × List S)
  | .v d => some (d, st)
  | .o i => match st[i]? with
    | some (.own false ds) => some (.lst ds, st.set i (.val (.lst ds)))
    | some (.val d) => some (d, st)
    | _ => none
def frzs (st : List S) : List W → Option (List D × List S)
  | [] => some ([], st)
  | w :: ws => match frz st w with
    | none => none
    | some (d, s1) => match frzs s1 ws with
      | none => none
      | some (ds, s2) => some (d :: ds, s2)
def frzR (o : R W) : R D := bnd o fun w s => match frz s w with
  | some (d, s') => some (.ok d, s')
  | none => none
def opt {α : Type} (o : Option α) (st : List S) : R α := match o with
  | none => none
  | some a => some (.ok a, st)
def slotOf (st : List S) (i : Nat) : R W := match st[i]? with
  | some (.val d) => ok (.v d) st
  | some (.own _ _) => ok (.o i) st
  | _ => none
def callD (f : Fn) (ws : List W) (st : List S) : R D := match f.lend with
  | false => match frzs st ws with
    | none => none
    | some (ds, s1) => if ds.length = f.many then match f.run [] ds with
        | none => none
        | some (r, _) => some (r, s1)
      else none
  | true => match ws with
    | .o i :: r => match frzs st r with
      | none => none
      | some (ds, s1) => if ds.length + 1 = f.many then match s1[i]? with
          | some (.own m es) => match f.run es ds with
            | none => none
            | some (r, es') => some (r, s1.set i (.own m es'))
          | _ => none
        else none
    | _ => none
def setTg (st : List S) : Tg → D → Option (List S)
  | .nm i, d => if free st i then some (st.set i (.val d)) else none
  | .two i j, .tup [a, b] => if free st i then
      let s1 := st.set i (.val a)
      if free s1 j then some (s1.set j (.val b)) else none
    else none
  | .thr i j l, .tup [a, b, c] => if free st i then
      let s1 := st.set i (.val a)
      if free s1 j then
        let s2 := s1.set j (.val b)
        if free s2 l then some (s2.set l (.val c)) else none
      else none
    else none
  | _, _ => none
def Tg.slots : Tg → List Nat
  | .nm i => [i]
  | .two i j => [i, j]
  | .thr i j l => [i, j, l]
/-- may be a comprehension's own name: it holds no list of its own -/
def plainAt (st : List S) (i : Nat) : Bool := match st[i]? with
  | some (.own _ _) => false
  | some _ => true
  | none => false
def wipeS (st : List S) : List Nat → List S
  | [] => st
  | i :: r => (wipeS st r).set i .un
def restore (st0 st : List S) : List Nat → List S
  | [] => st
  | i :: r => match st0[i]? with
    | some s => (restore st0 st r).set i s
    | none => restore st0 st r
def pairs : List D → List D → List D
  | x :: xs, y :: ys => .tup [x, y] :: pairs xs ys
  | _, _ => []
def numbered : Nat → List D → List D
  | _, [] => []
  | n, x :: xs => .tup [.int n, x] :: numbered (n + 1) xs
def rngD (lo : Int) (n : Nat) : List D := (List.range n).map fun (i : Nat) => D.int (lo + (i : Int))
def cutD (l : List D) (lo hi : Option Int) : List D := (l.drop (HT.sIx l.length 0 lo)).take (HT.sIx l.length l.length hi - HT.sIx l.length 0 lo)
/-- the turns of a comprehension: test and element are given -/
def turns (tg : Tg) (test : List S → R Bool) (elt : List S → R D) : List D → List S → R (List D)
  | [], st => ok [] st
  | x :: xs, st => match setTg (wipeS st tg.slots) tg x with
    | none => none
    | some s1 => match test s1 with
      | some (.ok true, s2) => match elt s2 with
        | some (.ok d, s3) => match turns tg test elt xs s3 with
          | some (.ok ds, s4) => some (.ok (d :: ds), s4)
          | _ => none
        | _ => none
      | some (.ok false, s2) => turns tg test elt xs s2
      | _ => none

mutual
def evE : E → List S → R W
  | .var i, st => slotOf st i
  | .cst d, st => ok (.v d) st
  | .glb _ d, st => ok (.v d) st
  | .bin o a b, st => bnd (evE a st) fun x s1 => bnd (evE b s1) fun y s2 => match rd s2 x, rd s2 y with
    | some d, some e => bnd (opt (opD o d e) s2) fun f s3 => ok (.v f) s3
    | _, _ => none
  | .neg a, st => bnd (evE a st) fun x s1 => match rd s1 x with
    | some (.int i) => ok (.v (.int (-i))) s1
    | _ => none
  | .cmp .isn a _, st => bnd (evE a st) fun x s1 => match rd s1 x with
    | some d => ok (.v (.bl (isNon d))) s1
    | none => none
  | .cmp .nisn a _, st => bnd (evE a st) fun x s1 => match rd s1 x with
    | some d => ok (.v (.bl (!isNon d))) s1
    | none => none
  | .cmp o a b, st => bnd (evE a st) fun x s1 => bnd (evE b s1) fun y s2 => match rd s2 x, rd s2 y with
    | some d, some e => bnd (opt (cmD o d e) s2) fun f s3 => ok (.v (.bl f)) s3
    | _, _ => none
  | .chain o p a b c, st => bnd (evE a st) fun x s1 => bnd (evE b s1) fun y s2 => match rd s2 x, rd s2 y with
    | some d, some e => match cmD o d e with
      | some true => bnd (evE c s2) fun z s3 => match rd s3 y, rd s3 z with
        | some e', some g => bnd (opt (cmD p e' g) s3) fun f s4 => ok (.v (.bl f)) s4
        | _, _ => none
      | some false => ok (.v (.bl false)) s2
      | none => none
    | _, _ => none
  | .and a b, st => bnd (evE a st) fun x s1 => match x with
    | .v (.bl true) => bnd (evE b s1) fun y s2 => ok y s2
    | .v (.bl false) => ok (.v (.bl false)) s1
    | _ => none
  | .or a b, st => bnd (evE a st) fun x s1 => match x with
    | .v (.bl false) => bnd (evE b s1) fun y s2 => ok y s2
    | .v (.bl true) => ok (.v (.bl true)) s1
    | _ => none
  | .not a, st => bnd (evE a st) fun x s1 => match x with
    | .v (.bl b) => ok (.v (.bl (!b))) s1
    | _ => none
  | .ite c a b, st => bnd (evT c st) fun k s1 => if k then evE a s1 else evE b s1
  | .tup es, st => bnd (evL es st) fun ws s1 => match frzs s1 ws with
    | some (ds, s2) => if ds.length ≤ 100000 then ok (.v (.tup ds)) s2 else none
    | none => none
  | .ix a b, st => bnd (evE a st) fun x s1 => bnd (evE b s1) fun y s2 => match rd s2 x, rd s2 y with
    | some d, some e => bnd (opt (atD d e) s2) fun f s3 => ok (.v f) s3
    | _, _ => none
  | .slc a lo hi, st => bnd (evE a st) fun x s1 => bnd (evO lo s1) fun l s2 => bnd (evO hi s2) fun h s3 => match rd s3 x with
    | some (.tup ds) => ok (.v (.tup (cutD ds l h))) s3
    | some (.lst ds) => ok (.v (.lst (cutD ds l h))) s3
    | _ => none
  | .rev a, st => bnd (evE a st) fun x s1 => match rd s1 x with
    | some (.lst ds) => ok (.v (.lst ds.reverse)) s1
    | _ => none
  | .call f es, st => bnd (evL es st) fun ws s1 => match f.fresh with
    | false => bnd (callD f ws s1) fun d s2 => ok (.v d) s2
    | true => none
  | .b1 b a, st => bnd (evE a st) fun x s1 => match rd s1 x with
    | some d => bnd (opt (b1D b d) s1) fun f s2 => ok (.v f) s2
    | none => none
  | .isi a t, st => bnd (evE a st) fun x s1 => match rd s1 x with
    | some d => bnd (opt (isiD d t) s1) fun f s2 => ok (.v (.bl f)) s2
    | none => none
  | .max2 a b, st => bnd (evE a st) fun x s1 => bnd (evE b s1) fun y s2 => match x, y with
    | .v (.int i), .v (.int j) => ok (.v (.int (if j > i then j else i))) s2
    | _, _ => none
  | .min2 a b, st => bnd (evE a st) fun x s1 => bnd (evE b s1) fun y s2 => match x, y with
    | .v (.int i), .v (.int j) => ok (.v (.int (if j < i then j else i))) s2
    | _, _ => none
  | .fr f, st => bnd (evF f st) fun ds s1 => ok (.v (.lst ds)) s1
def evT : E → List S → R Bool
  | .and a b, st => bnd (evT a st) fun k s1 => if k then evT b s1 else ok false s1
  | .or a b, st => bnd (evT a st) fun k s1 => if k then ok true s1 else evT b s1
  | .not a, st => bnd (evT a st) fun k s1 => ok (!k) s1
  | .var i, st => bnd (slotOf st i) fun x s1 => match (rd s1 x).bind truD with
    | some k => ok k s1
    | none => none
  | .cmp .isn a _, st => bnd (evE a st) fun x s1 => match rd s1 x with
    | some d => ok (isNon d) s1
    | none => none
  | .cmp .nisn a _, st => bnd (evE a st) fun x s1 => match rd s1 x with
    | some d => ok (!isNon d) s1
    | none => none
  | .cmp o a b, st => bnd (evE a st) fun x s1 => bnd (evE b s1) fun y s2 => match rd s2 x, rd s2 y with
    | some d, some e => bnd (opt (cmD o d e) s2) fun f s3 => ok f s3
    | _, _ => none
  | .chain o p a b c, st => bnd (evE a st) fun x s1 => bnd (evE b s1) fun y s2 => match rd s2 x, rd s2 y with
    | some d, some e => match cmD o d e with
      | some true => bnd (evE c s2) fun z s3 => match rd s3 y, rd s3 z with
        | some e', some g => bnd (opt (cmD p e' g) s3) fun f s4 => ok f s4
        | _, _ => none
      | some false => ok false s2
      | none => none
    | _, _ => none
  | .call f es, st => bnd (evL es st) fun ws s1 => match f.fresh with
    | false => bnd (callD f ws s1) fun d s2 => match truD d with
      | some k => ok k s2
      | none => none
    | true => none
  | .b1 b a, st => bnd (evE a st) fun x s1 => match rd s1 x with
    | some d => bnd (opt (b1D b d) s1) fun f s2 => match truD f with
      | some k => ok k s2
      | none => none
    | none => none
  | .isi a t, st => bnd (evE a st) fun x s1 => match rd s1 x with
    | some d => bnd (opt (isiD d t) s1) fun f s2 => ok f s2
    | none => none
  | _, _ => none
def evF : FE → List S → R (List D)
  | .disp es, st => bnd (evL es st) fun ws s1 => match frzs s1 ws with
    | some (ds, s2) => if ds.length ≤ 100000 then ok ds s2 else none
    | none => none
  | .comp tg it c e, st => bnd (evI it st) fun items s1 => if tg.slots.all (plainAt s1) && decide (items.length ≤ 100000) then
      match turns tg (fun s => evC c s) (fun s => frzR (evE e s)) items s1 with
      | some (.ok ds, s2) => ok ds (restore s1 s2 tg.slots)
      | _ => none
    else none
  | .listOf a, st => bnd (evE a st) fun x s1 => match rd s1 x with
    | some (.lst ds) => ok ds s1
    | some (.tup ds) => ok ds s1
    | _ => none
  | .cat i f, st => match st[i]? with
    | some (.own _ _) => bnd (evF f st) fun ds s1 => match s1[i]? with
      | some (.own _ es) => if es.length + ds.length ≤ 100000 then ok (es ++ ds) s1 else none
      | _ => none
    | _ => none
  | .callF f es, st => bnd (evL es st) fun ws s1 => match f.fresh with
    | true => bnd (callD f ws s1) fun d s2 => match d with
      | .lst ds => ok ds s2
      | _ => none
    | false => none
def evI : IT → List S → R (List D)
  | .rng1 a, st => bnd (evE a st) fun x s1 => match x with
    | .v (.int j) => if -100000 ≤ j ∧ j ≤ 100000 then ok (rngD 0 j.toNat) s1 else none
    | _ => none
  | .rng2 a b, st => bnd (evE a st) fun x s1 => bnd (evE b s1) fun y s2 => match x, y with
    | .v (.int i), .v (.int j) => if -100000 ≤ i ∧ i ≤ 100000 ∧ -100000 ≤ j ∧ j ≤ 100000 then ok (rngD i (j - i).toNat) s2 else none
    | _, _ => none
  | .seqT a, st => bnd (evE a st) fun x s1 => match x with
    | .v (.tup l) => ok l s1
    | _ => none
  | .seqL a, st => bnd (evE a st) fun x s1 => match frz s1 x with
    | some (.lst l, s2) => ok l s2
    | _ => none
  | .zipT a b, st => bnd (evE a st) fun x s1 => bnd (evE b s1) fun y s2 => match x, y with
    | .v (.tup l), .v (.tup m) => if l.length = m.length then ok (pairs l m) s2 else none
    | _, _ => none
  | .zipL a b, st => bnd (evE a st) fun x s1 => bnd (evE b s1) fun y s2 => match frzs s2 [x, y] with
    | some ([.lst l, .lst m], s3) => if l.length = m.length then ok (pairs l m) s3 else none
    | _ => none
  | .enmL a, st => bnd (evE a st) fun x s1 => match frz s1 x with
    | some (.lst l, s2) => ok (numbered 0 l) s2
    | _ => none
  | .enmT a, st => bnd (evE a st) fun x s1 => match x with
    | .v (.tup l) => ok (numbered 0 l) s1
    | _ => none
def evL : EL → List S → R (List W)
  | .nil, st => ok [] st
  | .cons e r, st => bnd (evE e st) fun x s1 => bnd (evL r s1) fun xs s2 => ok (x :: xs) s2
def evC : EO → List S → R Bool
  | .no, st => ok true st
  | .yes e, st => evT e st
def evO : EO → List S → R (Option Int)
  | .no, st => ok none st
  | .yes e, st => bnd (evE e st) fun x s1 => match x with
    | .v (.int i) => ok (some i) s1
    | _ => none
end

/-! ### statements -/
inductive EF where
  | e (x : E)
  | f (x : FE)
mutual
inductive T where
  | asg (i : Nat) (x : EF)
  | par2 (i j : Nat) (a b : EF)
  | par3 (i j l : Nat) (a b c : EF)
  | unp (t : Tg) (e : E)
  | unpN (l : Bool) (is : List Nat) (e : E)
  | setI (i : Nat) (k e : E)
  | app (i : Nat) (e : E)
  | drop (e : E)
  | ret (e : E)
  | retF (f : FE)
  | retN
  | ife (c : E) (a b : TL)
  | forr (t : Tg) (it : IT) (b : TL)
  | whl (c : E) (m : List S → Nat) (b : TL)
  | brk
  | cont
  | pas
  | nev
inductive TL where
  | nil
  | cons (t : T) (r : TL)
end
inductive Fl where
  | nx
  | bk
  | ct
  | rt (d : D)
/-- behind a turn's body -/
def turnS (o : R Fl) (kk : List S → R Fl) : R Fl := match o with
  | none => none
  | some (.error x, s2) => some (.error x, s2)
  | some (.ok .nx, s2) => kk s2
  | some (.ok .ct, s2) => kk s2
  | some (.ok .bk, s2) => ok .nx s2
  | some (.ok (.rt d), s2) => ok (.rt d) s2
/-- the turns of a for: the body is given -/
def loopT (tg : Tg) (body : List S → R Fl) : List D → List S → R Fl
  | [], st => ok .nx st
  | x :: xs, st => match setTg st tg x with
    | none => none
    | some s1 => turnS (body s1) fun s => loopT tg body xs s
def whileT (c : List S → R Bool) (body : List S → R Fl) : Nat → List S → R Fl
  | 0, _ => none
  | n + 1, st => match c st with
    | none => none
    | some (.error x, s1) => some (.error x, s1)
    | some (.ok false, s1) => ok .nx s1
    | some (.ok true, s1) => turnS (body s1) fun s => whileT c body n s
/-- what is to be stored: data, or a list of its own -/
def evX : EF → List S → R S
  | .e x, st => bnd (evE x st) fun w s1 => match frz s1 w with
    | some (d, s2) => ok (.val d) s2
    | none => none
  | .f x, st => bnd (evF x st) fun ds s1 => ok (.own false ds) s1
/-- names in a row -/
def setNs (st : List S) : List Nat → List D → Option (List S)
  | [], [] => some st
  | i :: is, d :: ds => if free st i then setNs (st.set i (.val d)) is ds else none
  | _, _ => none
def setS (st : List S) (i : Nat) (s : S) : Option (List S) := if free st i then some (st.set i s) else none
mutual
def exT : T → List S → R Fl
  | .asg i x, st => bnd (evX x st) fun s s1 => bnd (opt (setS s1 i s) s1) fun s2 _ => ok .nx s2
  | .par2 i j a b, st => bnd (evX a st) fun x s1 => bnd (evX b s1) fun y s2 => bnd (opt (setS s2 i x) s2) fun s3 _ => bnd (opt (setS s3 j y) s3) fun s4 _ => ok .nx s4
  | .par3 i j l a b c, st => bnd (evX a st) fun x s1 => bnd (evX b s1) fun y s2 => bnd (evX c s2) fun z s3 => bnd (opt (setS s3 i x) s3) fun s4 _ => bnd (opt (setS s4 j y) s4) fun s5 _ => bnd (opt (setS s5 l z) s5) fun s6 _ => ok .nx s6
  | .unp t e, st => bnd (evE e st) fun x s1 => match x with
    | .v d => bnd (opt (setTg s1 t d) s1) fun s2 _ => ok .nx s2
    | _ => none
  | .unpN l is e, st => bnd (evE e st) fun x s1 => match l, x with
    | false, .v (.tup ds) => bnd (opt (setNs s1 is ds) s1) fun s2 _ => ok .nx s2
    | true, .v (.lst ds) => bnd (opt (setNs s1 is ds) s1) fun s2 _ => ok .nx s2
    | _, _ => none
  | .setI i k e, st => bnd (evX (.e e) st) fun x s2 => match x, s2[i]? with
    | .val d, some (.own _ _) => bnd (evE k s2) fun y s3 => match y, s3[i]? with
      | .v (.int n), some (.own m ds) => match ixN ds.length n with
        | some j => ok .nx (s3.set i (.own m (ds.set j d)))
        | none => none
      | _, _ => none
    | _, _ => none
  | .app i e, st => match st[i]? with
    | some (.own _ _) => bnd (evX (.e e) st) fun x s2 => match x, s2[i]? with
      | .val d, some (.own m ds) => if ds.length ≤ 100000 then ok .nx (s2.set i (.own m (ds ++ [d]))) else none
      | _, _ => none
    | _ => none
  | .drop e, st => bnd (evE e st) fun _ s1 => ok .nx s1
  | .ret e, st => bnd (evE e st) fun x s1 => match frz s1 x with
    | some (d, s2) => ok (.rt d) s2
    | none => none
  | .retF f, st => bnd (evF f st) fun ds s1 => ok (.rt (.lst ds)) s1
  | .retN, st => ok (.rt .non) st
  | .ife c a b, st => bnd (evT c st) fun k s1 => if k then exL a s1 else exL b s1
  | .forr t it b, st => bnd (evI it st) fun items s1 => if items.length ≤ 100000 then loopT t (fun s => exL b s) items s1 else none
  | .whl c m b, st => whileT (fun s => evT c s) (fun s => exL b s) (m st) st
  | .brk, st => ok .bk st
  | .cont, st => ok .ct st
  | .pas, st => ok .nx st
  | .nev, _ => none
def exL : TL → List S → R Fl
  | .nil, st => ok .nx st
  | .cons t r, st => match exT t st with
    | none => none
    | some (.error x, s1) => some (.error x, s1)
    | some (.ok .nx, s1) => exL r s1
    | some (.ok f, s1) => some (.ok f, s1)
end
def argS (lend : Bool) (es ds : List D) : List S := if lend then .own true es :: ds.map .val else ds.map .val
/-- a def's body run -/
def runDef (n : Nat) (lend fr : Bool) (body : TL) (es ds : List D) : Option (Except Exn D × List D) :=
  match exL body (argS lend es ds ++ List.replicate (n - (argS lend es ds).length) .un) with
  | none => none
  | some (r, st) =>
    let back : List D := match (st[0]? : Option S) with | some (S.own true zs) => zs | _ => []
    match r with
    | .error x => some (.error x, back)
    | .ok (.rt d) => some (.ok d, back)
    | .ok .nx => if fr then none else some (.ok .non, back)
    | .ok _ => none
def mInt (i : Nat) (st : List S) : Nat := match (st[i]? : Option S) with
  | some (.val (.int n)) => n.natAbs + 1
  | _ => 0
end SG
/-! Sg3: readings of the small language; operations. -/
namespace SG
open PySem L2 PyProof.Rows

def ErrOk (K : PySem.W.Frag) (mg : Str → Option Value) (G H : Hp) (cls : Value) (dx : Option Addr) (x : Exn) : Prop :=
  ∃ C : Addr, mg x.cls = some (.ref C) ∧ cls = .ref C ∧ match x.kept with
    | none => True
    | some (f, d) => ∃ (a : Addr) (v : V), dx = some a ∧ H a = some (.xd [(f, v)]) ∧ Rp K G v d

/-- what is asked behind a run -/
def Wp {α : Type} (K : PySem.W.Frag) (mg : Str → Option Value) (Wx : WX) (o : R α) (G H : Hp) (σ : L2.St) (st : List S) (k : α → List S → Hp → Hp → Prop) : Prop :=
  match o with
  | none => False
  | some (.error x, s1) => ∀ cls dx G' H', Stp G H σ st G' H' σ s1 → Rl K G' H' σ s1 → ErrOk K mg G' H' cls dx x → Wx cls dx σ H'
  | some (.ok a, s1) => ∀ G' H', Stp G H σ st G' H' σ s1 → Rl K G' H' σ s1 → k a s1 G' H'

def Vw (K : PySem.W.Frag) (G : Hp) (σ : L2.St) (v : V) : W → Prop
  | .v d => Rp K G v d
  | .o i => σ[i]? = some (some v)
def Vws (K : PySem.W.Frag) (G : Hp) (σ : L2.St) : List V → List W → Prop
  | [], [] => True
  | v :: vs, w :: ws => Vw K G σ v w ∧ Vws K G σ vs ws
  | _, _ => False
/-- read as data for now -/
def RpW (K : PySem.W.Frag) (G H : Hp) (v : V) (d : D) : Prop := Rp K G v d ∨ ∃ (a : Addr) (xs : List V) (ds : List D), v = .ref a ∧ d = .lst ds ∧ H a = some (.lst xs) ∧ Rps K G xs ds

def tW (K : PySem.W.Frag) (mg : Str → Option Value) (Wx : WX) (f : List S → R W) : TE := fun σ H Q =>
  ∃ G st, Rl K G H σ st ∧ Wp K mg Wx (f st) G H σ st fun w _ G' H' => ∀ v, Vw K G' σ v w → Q v H'
def tWs (K : PySem.W.Frag) (mg : Str → Option Value) (Wx : WX) (f : List S → R (List W)) : TA := fun σ H Q =>
  ∃ G st, Rl K G H σ st ∧ Wp K mg Wx (f st) G H σ st fun w _ G' H' => ∀ v, Vws K G' σ v w → Q v H'
def tWt (K : PySem.W.Frag) (mg : Str → Option Value) (Wx : WX) (f : List S → R Bool) : TT := fun σ H Q =>
  ∃ G st, Rl K G H σ st ∧ Wp K mg Wx (f st) G H σ st fun b _ _ H' => Q b H'
/-- a new list that nobody owns -/
def NewL (K : PySem.W.Frag) (G H G' H' : Hp) (σ : L2.St) (st' : List S) (v : V) (ds : List D) : Prop := ∃ (a : Addr) (xs : List V), v = .ref a ∧ H a = none ∧ G' a = none ∧ H' a = some (.lst xs) ∧ Rps K G' xs ds ∧ ¬ Owned σ st' a
def tWf (K : PySem.W.Frag) (mg : Str → Option Value) (Wx : WX) (f : List S → R (List D)) : TE := fun σ H Q =>
  ∃ G st, Rl K G H σ st ∧ Wp K mg Wx (f st) G H σ st fun ds s1 G' H' => ∀ v, NewL K G H G' H' σ s1 v ds → Q v H'

section
variable {K : PySem.W.Frag} {mg : Str → Option Value} {Wx : WX} {G H G' H' : Hp} {σ : L2.St} {st st' : List S}
theorem PE.to {X : Cx} {e : Expr} {t t' : TE} (h : PE X e t) (k : ∀ σ H Q, t' σ H Q → t σ H Q) : PE X e t' := ⟨fun pins s σ H Q I q => h.run pins s σ H Q I (k σ H Q q)⟩
theorem PT.to {X : Cx} {e : Expr} {t t' : TT} (h : PT X e t) (k : ∀ σ H Q, t' σ H Q → t σ H Q) : PT X e t' := ⟨fun pins s σ H Q I q => h.run pins s σ H Q I (k σ H Q q)⟩
theorem PA.to {X : Cx} {e : List Expr} {t t' : TA} (h : PA X e t) (k : ∀ σ H Q, t' σ H Q → t σ H Q) : PA X e t' := ⟨fun pos pins s σ H Q I q => h.run pos pins s σ H Q I (k σ H Q q)⟩
theorem PS.to {X : Cx} {e : Stmt} {t t' : TS} (h : PS X e t) (k : ∀ D σ H, t' D σ H → t D σ H) : PS X e t' := ⟨fun pins s σ H D I q => h.run pins s σ H D I (k D σ H q)⟩
theorem PSs.to {X : Cx} {e : List Stmt} {t t' : TS} (h : PSs X e t) (k : ∀ D σ H, t' D σ H → t D σ H) : PSs X e t' := ⟨fun pins s σ H D I q => h.run pins s σ H D I (k D σ H q)⟩

theorem Wp.bnd {α β : Type} {o : R α} {f : α → List S → R β} {k : β → List S → Hp → Hp → Prop} (h : Wp K mg Wx (SG.bnd o f) G H σ st k) :
    Wp K mg Wx o G H σ st fun a s1 G1 H1 => Wp K mg Wx (f a s1) G1 H1 σ s1 k := by
  match o, h with
  | some (.error x, s1), h => exact h
  | some (.ok a, s1), h =>
    intro G1 H1 p r
    have h : Wp K mg Wx (f a s1) G H σ st k := h
    show Wp K mg Wx (f a s1) G1 H1 σ s1 k
    match e : f a s1 with
    | none => rw [e] at h; exact h
    | some (.error x, s2) =>
      rw [e] at h
      exact fun cls dx G' H' q => h cls dx G' H' (p.trans q)
    | some (.ok b, s2) =>
      rw [e] at h
      exact fun G' H' q => h G' H' (p.trans q)
theorem Wp.imp {α : Type} {o : R α} {k k' : α → List S → Hp → Hp → Prop} (h : Wp K mg Wx o G H σ st k) (f : ∀ a s1 G' H', o = some (.ok a, s1) → Stp G H σ st G' H' σ s1 → Rl K G' H' σ s1 → k a s1 G' H' → k' a s1 G' H') : Wp K mg Wx o G H σ st k' := by
  match o, h with
  | some (.error x, s1), h => exact h
  | some (.ok a, s1), h => exact fun G' H' p r => f a s1 G' H' rfl p r (h G' H' p r)
theorem Wp.ok {α : Type} {a : α} {k : α → List S → Hp → Hp → Prop} (h : Wp K mg Wx (SG.ok a st) G H σ st k) (r : Rl K G H σ st) : k a st G H := h G H .refl r
theorem Wp.now {α : Type} {a : α} {k : α → List S → Hp → Hp → Prop} {st1 : List S} (h : Wp K mg Wx (SG.ok a st1) G H σ st k) : ∀ G' H', Stp G H σ st G' H' σ st1 → Rl K G' H' σ st1 → k a st1 G' H' := h

theorem Vw.mono (h : Sub G G') {v : V} : ∀ {w : W}, Vw K G σ v w → Vw K G' σ v w
  | .v _, k => Rp.mono h k
  | .o _, k => k
theorem Vws.mono (h : Sub G G') : ∀ {vs : List V} {ws : List W}, Vws K G σ vs ws → Vws K G' σ vs ws
  | [], [], _ => trivial
  | _ :: _, _ :: _, ⟨a, b⟩ => ⟨Vw.mono h a, Vws.mono h b⟩
  | [], _ :: _, k => k.elim
  | _ :: _, [], k => k.elim
theorem rd_ok (r : Rl K G H σ st) {v : V} {d : D} : ∀ {w : W}, Vw K G σ v w → rd st w = some d → RpW K G H v d
  | .v e, k, h => by
    have h' : e = d := Option.some.inj h
    subst h'
    exact .inl k
  | .o i, k, h => by
    have k : σ[i]? = some (some v) := k
    simp only [rd] at h
    split at h
    · rename_i m ds e
      cases h
      obtain ⟨a, xs, h1, h2, h3, h4⟩ := r.own i m ds e
      rw [k] at h1
      cases h1
      exact .inr ⟨a, xs, ds, rfl, rfl, h3, h4⟩
    · rename_i d' e
      cases h
      obtain ⟨u, h1, h2⟩ := r.val i _ e
      rw [k] at h1
      cases h1
      exact .inl h2
    · cases h
/-- data made of what was handed on -/
theorem frz_ok (r : Rl K G H σ st) {v : V} {d : D} {st1 : List S} : ∀ {w : W}, Vw K G σ v w → frz st w = some (d, st1) →
    ∃ G1, Stp G H σ st G1 H σ st1 ∧ Rl K G1 H σ st1 ∧ Rp K G1 v d
  | .v e, k, h => by
    have h' : (e, st) = (d, st1) := Option.some.inj h
    cases h'
    exact ⟨G, .refl, r, k⟩
  | .o i, k, h => by
    have k : σ[i]? = some (some v) := k
    simp only [frz] at h
    split at h
    · rename_i ds e
      cases h
      obtain ⟨a, xs, h1, h2, h3, h4⟩ := r.own i false ds e
      have k' := k
      rw [h1] at k'
      cases k'
      obtain ⟨r1, r2⟩ := r.thaw e h1 h3
      exact ⟨_, Stp.thaw r e h1, r1, r2⟩
    · rename_i d' e
      cases h
      obtain ⟨u, h1, h2⟩ := r.val i _ e
      rw [k] at h1
      cases h1
      exact ⟨G, .refl, r, h2⟩
    · cases h
theorem frzs_ok : ∀ {ws : List W} {vs : List V} {ds : List D} {G : Hp} {st st1 : List S}, Rl K G H σ st → Vws K G σ vs ws → frzs st ws = some (ds, st1) →
    ∃ G1, Stp G H σ st G1 H σ st1 ∧ Rl K G1 H σ st1 ∧ Rps K G1 vs ds
  | [], [], ds, G, st, st1, r, _, h => by
    have h' : (([] : List D), st) = (ds, st1) := Option.some.inj h
    cases h'
    exact ⟨G, .refl, r, .nil⟩
  | w :: ws, v :: vs, ds, G, st, st1, r, k, h => by
    unfold frzs at h
    split at h
    · cases h
    · rename_i d s1 e1
      split at h
      · cases h
      · rename_i es s2 e2
        cases h
        obtain ⟨G1, p1, r1, q1⟩ := frz_ok r k.1 e1
        obtain ⟨G2, p2, r2, q2⟩ := frzs_ok r1 (k.2.mono p1.gr) e2
        exact ⟨G2, p1.trans p2, r2, .cons (q1.mono p2.gr) q2⟩
  | [], _ :: _, _, _, _, _, _, k, _ => k.elim
  | _ :: _, [], _, _, _, _, _, k, _ => k.elim

/-- a result: as it stands, or a new object -/
def Res (K : PySem.W.Frag) (G H : Hp) (f : D) (Q : VK) : Prop := (∀ v, Rp K G v f → Q v H) ∧ ∀ p o, H p = none → Rp K (upd G p o) (.ref p) f → Q (.ref p) (upd H p o)
theorem Res.of (r : Rl K G H σ st) {f : D} {Q : VK} (h : ∀ G' H', Stp G H σ st G' H' σ st → Rl K G' H' σ st → ∀ v, Rp K G' v f → Q v H') : Res K G H f Q :=
  ⟨fun v k => h G H .refl r v k, fun p o hp k => h _ _ (Stp.newF r o hp) (r.newF o hp) _ k⟩

mutual
theorem dp_rp (h : Sub G H) : ∀ {v : V} {d : D}, Rp K G v d → Dp K H v d.toP
  | _, _, .non => by unfold D.toP; exact .non
  | _, _, .bl b => by unfold D.toP; exact .bl b
  | _, _, .int i => by unfold D.toP; exact .int i
  | _, _, .str x => by unfold D.toP; exact .str x
  | _, _, .tup s r => by unfold D.toP; exact .tup (h.sqT s) (dp_rps h r)
  | _, _, .lst s r => by unfold D.toP; exact .lst (h.sqL s) (dp_rps h r)
theorem dp_rps (h : Sub G H) : ∀ {vs : List V} {ds : List D}, Rps K G vs ds → DpAll K H vs (D.toPs ds)
  | _, _, .nil => by unfold D.toPs; exact .nil
  | _, _, .cons a b => by unfold D.toPs; exact .cons (dp_rp h a) (dp_rps h b)
end
theorem dp_of (h : Sub G H) {v : V} {d : D} (k : RpW K G H v d) : Dp K H v d.toP := by
  rcases k with k | ⟨a, xs, ds, rfl, rfl, h1, h2⟩
  · exact dp_rp h k
  · unfold D.toP
    exact .lst (.inl (.inl h1)) (dp_rps h h2)
theorem RpW.int {v : V} {i : Int} (h : RpW K G H v (.int i)) : v = .int i := by
  rcases h with h | ⟨_, _, _, _, e, _⟩
  · cases h; rfl
  · cases e
theorem RpW.bl {v : V} {b : Bool} (h : RpW K G H v (.bl b)) : v = .bl b := by
  rcases h with h | ⟨_, _, _, _, e, _⟩
  · cases h; rfl
  · cases e
theorem RpW.str {v : V} {b : Str} (h : RpW K G H v (.str b)) : v = .str b := by
  rcases h with h | ⟨_, _, _, _, e, _⟩
  · cases h; rfl
  · cases e
theorem RpW.tup {v : V} {ds : List D} (hs : Sub G H) (h : RpW K G H v (.tup ds)) : ∃ a xs, v = .ref a ∧ SqT K H a xs ∧ Rps K G xs ds := by
  rcases h with h | ⟨_, _, _, _, e, _⟩
  · cases h with
    | tup s r => exact ⟨_, _, rfl, hs.sqT s, r⟩
  · cases e
theorem RpW.lst {v : V} {ds : List D} (hs : Sub G H) (h : RpW K G H v (.lst ds)) : ∃ a xs, v = .ref a ∧ SqL K H a xs ∧ Rps K G xs ds := by
  rcases h with h | ⟨a, xs, es, rfl, e, h1, h2⟩
  · cases h with
    | lst s r => exact ⟨_, _, rfl, hs.sqL s, r⟩
  · cases e
    exact ⟨a, xs, rfl, .inl (.inl h1), h2⟩
end

/-! ### operators -/
def Op.ast : Op → Operator
  | .add => .Add
  | .sub => .Sub
  | .mul => .Mult
  | .fdiv => .FloorDiv
  | .mod => .Mod
  | .pow => .Pow
def Cm.ast : Cm → CmpOp
  | .lt => .Lt
  | .le => .LtE
  | .gt => .Gt
  | .ge => .GtE
  | .eq => .Eq
  | .ne => .NotEq
  | .isn => .Is
  | .nisn => .IsNot
  | .isin => .In
  | .notin => .NotIn
theorem mulOk_ok {i j : Int} (h : mulOk i j = true) : IntMulOk i j := by
  unfold mulOk bitsOf at h
  rcases of_decide_eq_true h with h | h | h
  · exact .of_left h
  · exact .of_right h
  · have e : bitsLine = 134217728 := by decide
    unfold IntMulOk
    intro z
    rw [Bool.and_eq_true] at z
    have z2 := z.2
    unfold Builtin.Int.intTooBig at z2
    have z3 := of_decide_eq_true z2
    rw [e] at z3
    omega
theorem fdivOk_ok {j : Int} (h : bitsOf j ≤ 9000) : j.natAbs.log2 < 9000 := by
  unfold bitsOf Builtin.Int.intBits at h
  split at h
  · rename_i z
    have : j = 0 := by simpa using z
    subst this
    decide
  · omega
theorem small_line {n : Nat} (h : n ≤ 100000) : n ≤ sizeLine := by rw [sizeLine_eq]; omega
/-! ### a tuple none or one time -/
theorem mul_one_tup (l : Addr) (items : Array Value) (n : Nat) (dd : Option Addr) (sl : Array (Option Value)) (u : Tok) :
    Meets (Builtin.«tuple.__mul__» ⟨[.ref l, .int 1 u], []⟩) (fun _ R s => s.heap.get? l = some { cls := .type "tuple", dict := dd, data := .seq items n, slots := sl } ∧ R (.ok (.ret (Value.ref l))) s) :=
  .of_wp fun prog w A R s h => by
    obtain ⟨hp, g, d, tk, os⟩ := s
    obtain ⟨hl, h⟩ := h
    have f1 := AutoSeq1.idx_int
    have c1 : (items.isEmpty || (1 : Int) == 1) = true := by rw [Bool.or_eq_true]; exact .inr rfl
    wp_walk using wpAny_loadPart' hl
    exact ⟨_, rfl, h⟩
theorem mul_none_tup (l : Addr) (items : Array Value) (n : Nat) (dd : Option Addr) (sl : Array (Option Value)) (u : Tok) (hi : items.isEmpty = false) :
    Meets (Builtin.«tuple.__mul__» ⟨[.ref l, .int 0 u], []⟩) (fun _ R s => s.heap.get? l = some { cls := .type "tuple", dict := dd, data := .seq items n, slots := sl } ∧
      R (.ok (.ret (Value.ref s.heap.objs.size))) { s with heap := s.heap.push { cls := Value.type "tuple", data := Data.seq #[] }, toks := s.toks }) :=
  .of_wp fun prog w A R s h => by
    obtain ⟨hp, g, d, tk, os⟩ := s
    obtain ⟨hl, h⟩ := h
    have f1 := AutoSeq1.idx_int
    have c1 : (items.isEmpty || (0 : Int) == 1) = false := by rw [hi]; rfl
    wp_walk using wpAny_loadPart' hl
    exact ⟨_, rfl, h⟩
def rRep (K : PySem.W.Frag) : R2 := fun x y H Q => ∃ l k xs, x = .ref l ∧ y = .int k ∧ SqT K H l xs ∧ xs ≠ [] ∧ xs.length ≤ 1000 ∧ 0 ≤ k ∧ k ≤ 1000 ∧ (k = 1 → Q (.ref l) H) ∧ (k ≠ 1 → ∀ p, H p = none → Q (.ref p) (upd H p (.tup (List.replicate k.toNat xs).flatten)))
theorem op_rep {X : Cx} : OpR X (binaryOp .Mult) (rRep X.K) := by
  intro pins s σ H x y v u Q I rx ry h
  obtain ⟨l, k, xs, rfl, rfl, hT, hne, hz, k0, k1, q1, q2⟩ := h
  by_cases h2 : 2 ≤ k
  · exact op_repT pins s σ H _ _ v u Q I rx ry ⟨l, k, xs, rfl, rfl, hT, hne, h2, k1, hz, q2 (by omega)⟩
  · cases rx
    obtain ⟨t, rfl⟩ := ry
    obtain ⟨its, r, ⟨⟨cls, dd, data, sl⟩, ho, hc, n, hd⟩, hs⟩ := I.tuple hT
    simp only at hc hd
    subst hc hd
    have none' : its.toArray.isEmpty = false := by
      cases its with
      | nil => exact absurd (List.eq_nil_of_length_eq_zero r.length) hne
      | cons _ _ => rfl
    by_cases e : k = 1
    · subst e
      exact wpAny_binaryOp_repeat_ref (T := "tuple") (U := "int") (by decide) ⟨_, ho, rfl⟩ (fun s' => typeIs_int s' 1 t) noFill_tuple_mul F.fills_int_mul F.slot_int_rmul repeat_tuple F.slot_int_index.lookup
        (call_meets F.slot_int_rmul (typeIs_int s 1 t) F.entry_int_rmul (F.args_int_rmul_2 _ _) (int_rmul_tuple 1 t l its.toArray n dd sl)
          ⟨ho, rfl, ⟨_, ho, rfl⟩, call_meets F.slot_tuple_mul ⟨_, ho, rfl⟩ F.entry_tuple_mul (F.args_tuple_mul_2 _ _) (mul_one_tup l its.toArray n dd sl t) ⟨ho, .ref l, H, I, rfl, q1 rfl⟩⟩)
    · have e0 : k = 0 := by omega
      subst e0
      refine wpAny_binaryOp_repeat_ref (T := "tuple") (U := "int") (by decide) ⟨_, ho, rfl⟩ (fun s' => typeIs_int s' 0 t) noFill_tuple_mul F.fills_int_mul F.slot_int_rmul repeat_tuple F.slot_int_index.lookup
        (call_meets F.slot_int_rmul (typeIs_int s 0 t) F.entry_int_rmul (F.args_int_rmul_2 _ _) (int_rmul_tuple 0 t l its.toArray n dd sl)
          ⟨ho, rfl, ⟨_, ho, rfl⟩, call_meets F.slot_tuple_mul ⟨_, ho, rfl⟩ F.entry_tuple_mul (F.args_tuple_mul_2 _ _) (mul_none_tup l its.toArray n dd sl t none') ⟨ho, ?_⟩⟩)
      refine ⟨.ref s.heap.objs.size, _, I.laid (t' := s.toks) (o := .tup []) (fun b ob q => Heap.get?_push_of_some _ q) (Nat.le_refl _) ?_, rfl, q2 (by omega) _ (I.hok.fresh (Nat.le_refl _))⟩
      exact ⟨Nat.zero_le _, [], .nil, IsTup.new _ _⟩
def rBin (K : PySem.W.Frag) (o : Op) : R2 := fun x y H Q => ∃ G d e f, Sub G H ∧ RpW K G H x d ∧ RpW K G H y e ∧ opD o d e = some f ∧ Res K G H f Q
section
variable {X : Cx}
theorem op_bin (o : Op) : OpR X (binaryOp o.ast) (rBin X.K o) := by
  intro pins s σ H x y v u Q I rx ry h
  obtain ⟨G, d, e, f, hs, h1, h2, h3, q⟩ := h
  unfold opD at h3
  split at h3
  · cases h3
    obtain rfl := h1.int
    obtain rfl := h2.int
    exact op_add pins s σ H _ _ v u Q I rx ry ⟨_, _, rfl, rfl, q.1 _ (.int _)⟩
  · cases h3
    obtain rfl := h1.int
    obtain rfl := h2.int
    exact op_sub pins s σ H _ _ v u Q I rx ry ⟨_, _, rfl, rfl, q.1 _ (.int _)⟩
  · split at h3
    · rename_i c
      cases h3
      obtain rfl := h1.int
      obtain rfl := h2.int
      obtain ⟨t, rfl⟩ := rx
      obtain ⟨t', rfl⟩ := ry
      exact mul_int ⟨.int _, H, I.tok _, ⟨_, rfl⟩, q.1 _ (.int _)⟩ (mulOk_ok c)
    · cases h3
  · split at h3
    · rename_i c
      cases h3
      obtain rfl := h1.int
      obtain rfl := h2.int
      exact op_fdivW pins s σ H _ _ v u Q I rx ry ⟨_, _, rfl, rfl, ⟨c.1, fdivOk_ok c.2⟩, q.1 _ (.int _)⟩
    · cases h3
  · split at h3
    · rename_i c
      cases h3
      obtain rfl := h1.int
      obtain rfl := h2.int
      exact op_mod pins s σ H _ _ v u Q I rx ry ⟨_, _, rfl, rfl, c, q.1 _ (.int _)⟩
    · cases h3
  · split at h3
    · rename_i c
      cases h3
      obtain rfl := h1.int
      obtain rfl := h2.int
      obtain ⟨t, rfl⟩ := rx
      obtain ⟨t', rfl⟩ := ry
      exact PyProof.Rows.pow_int c.1 c.2 ⟨.int _, H, I.tok _, ⟨_, rfl⟩, q.1 _ (.int _)⟩
    · cases h3
  · split at h3
    · rename_i xs ys c
      cases h3
      obtain ⟨a, vs, rfl, s1, r1⟩ := h1.tup hs
      obtain ⟨b, ws, rfl, s2, r2⟩ := h2.tup hs
      have l1 := r1.length
      have l2 := r2.length
      refine op_catT pins s σ H _ _ v u Q I rx ry ⟨a, b, vs, ws, rfl, rfl, s1, s2, fun z => c.1 ?_, by rw [l1, l2]; exact small_line c.2, fun z => ?_, fun z p hp => ?_⟩
      · rw [z] at l1
        exact List.length_eq_zero_iff.mp l1.symm
      · rw [z] at l2
        have : ys = [] := List.length_eq_zero_iff.mp l2.symm
        subst this
        have h1' : Rp X.K G (.ref a) (.tup xs) := by
          rcases h1 with h | ⟨_, _, _, _, e, _⟩
          · exact h
          · cases e
        exact q.1 _ (by rw [List.append_nil]; exact h1')
      · refine q.2 p (.tup (vs ++ ws)) hp (.tup (.inl (.inl upd_same)) ?_)
        have gp : G p = none := by
          cases e : G p with
          | none => rfl
          | some o => rw [hs p o e] at hp; cases hp
        exact (r1.append r2).mono (sub_upd gp)
    · cases h3
  · split at h3
    · rename_i xs k c
      cases h3
      obtain rfl := h2.int
      have h1' : Rp X.K G x (.tup xs) := by
        rcases h1 with h | ⟨_, _, _, _, e, _⟩
        · exact h
        · cases e
      obtain ⟨a, vs, rfl, s1, r1⟩ := h1.tup hs
      have l1 := r1.length
      refine op_rep pins s σ H _ _ v u Q I rx ry ⟨a, k, vs, rfl, rfl, s1, fun z => c.1 ?_, by rw [l1]; exact c.2.2.2, c.2.1, c.2.2.1, fun e => ?_, fun _ p hp => ?_⟩
      · rw [z] at l1
        exact List.length_eq_zero_iff.mp l1.symm
      · subst e
        exact q.1 _ (by simpa using h1')
      · refine q.2 p _ hp (.tup (.inl (.inl upd_same)) ((r1.repl k.toNat).mono (sub_upd ?_)))
        cases e : G p with
        | none => rfl
        | some o => rw [hs p o e] at hp; cases hp
    · cases h3
  · split at h3
    · rename_i c
      cases h3
      obtain rfl := h1.str
      obtain rfl := h2.str
      exact op_add_str pins s σ H _ _ v u Q I rx ry ⟨_, _, rfl, rfl, small_line c, q.1 _ (.str _)⟩
    · cases h3
  · cases h3
def rCmp (K : PySem.W.Frag) (o : Cm) : R2 := fun x y H Q => ∃ G d e b, Sub G H ∧ RpW K G H x d ∧ RpW K G H y e ∧ cmD o d e = some b ∧ Q (.bl b) H
theorem dec_strD {i j : Str} : decide (V.str i = V.str j) = decide (i = j) := by
  by_cases e : i = j
  · subst e; simp
  · rw [decide_eq_false e, decide_eq_false fun z => e (V.str.inj z)]
theorem op_cmp (hu : X.A.units + 64 < cLine) (o : Cm) : OpR X (compareOp o.ast) (rCmp X.K o) := by
  intro pins s σ H x y v u Q I rx ry h
  obtain ⟨G, d, e, f, hs, h1, h2, h3, q⟩ := h
  unfold cmD at h3
  split at h3
  · cases h3
    obtain rfl := h1.int
    obtain rfl := h2.int
    exact op_lt pins s σ H _ _ v u Q I rx ry ⟨_, _, rfl, rfl, q⟩
  · cases h3
    obtain rfl := h1.int
    obtain rfl := h2.int
    exact op_le pins s σ H _ _ v u Q I rx ry ⟨_, _, rfl, rfl, q⟩
  · cases h3
    obtain rfl := h1.int
    obtain rfl := h2.int
    exact op_gt pins s σ H _ _ v u Q I rx ry ⟨_, _, rfl, rfl, q⟩
  · cases h3
    obtain rfl := h1.int
    obtain rfl := h2.int
    exact op_ge pins s σ H _ _ v u Q I rx ry ⟨_, _, rfl, rfl, q⟩
  · cases h3
    obtain rfl := h1.str
    obtain rfl := h2.str
    exact op_eq pins s σ H _ _ v u Q I rx ry ⟨rfl, by rw [show decide (V.str _ = V.str _) = _ from dec_strD]; exact q⟩
  · cases h3
    obtain rfl := h1.str
    obtain rfl := h2.str
    exact op_ne pins s σ H _ _ v u Q I rx ry ⟨rfl, by rw [show decide (V.str _ = V.str _) = _ from dec_strD]; exact q⟩
  · split at h3
    · rename_i c
      cases h3
      rw [Bool.and_eq_true] at c
      exact op_eqD hu pins s σ H _ _ v u Q I rx ry ⟨_, _, dp_of hs h1, dp_of hs h2, c.1, c.2, q⟩
    · cases h3
  · split at h3
    · rename_i c
      cases h3
      rw [Bool.and_eq_true] at c
      exact op_neD hu pins s σ H _ _ v u Q I rx ry ⟨_, _, dp_of hs h1, dp_of hs h2, c.1, c.2, q⟩
    · cases h3
  · cases h3
/-- an item -/
def rAt (K : PySem.W.Frag) : R2 := fun x y H Q => ∃ G d e f, Sub G H ∧ RpW K G H x d ∧ RpW K G H y e ∧ atD d e = some f ∧ ∀ v, Rp K G v f → Q v H
theorem atI_rps {K : PySem.W.Frag} {G : Hp} {vs : List V} {ds : List D} {i : Int} {f : D} (r : Rps K G vs ds) (h : atI ds i = some f) : ∃ v, atI vs i = some v ∧ Rp K G v f := by
  unfold atI at h ⊢
  rw [r.length]
  cases e : ixN ds.length i with
  | none => rw [e] at h; cases h
  | some j =>
    rw [e] at h
    have h' : ds[j]? = some f := h
    obtain ⟨v, h1, h2⟩ := r.get h'
    exact ⟨v, h1, h2⟩
theorem ix_at : IxR X (rAt X.K) := by
  intro ev es pins s σ H x y v u Q I rx ry h hsub
  obtain ⟨G, d, e, f, hs, h1, h2, h3, q⟩ := h
  unfold atD at h3
  split at h3
  · obtain rfl := h2.int
    obtain ⟨a, vs, rfl, s1, r1⟩ := h1.tup hs
    obtain ⟨v', a1, a2⟩ := atI_rps r1 h3
    exact ix_tup ev es pins s σ H _ _ v u Q I rx ry ⟨a, vs, _, v', rfl, rfl, s1, a1, q v' a2⟩ hsub
  · obtain rfl := h2.int
    obtain ⟨a, vs, rfl, s1, r1⟩ := h1.lst hs
    obtain ⟨v', a1, a2⟩ := atI_rps r1 h3
    exact ix_list ev es pins s σ H _ _ v u Q I rx ry ⟨a, vs, _, v', rfl, rfl, s1, a1, q v' a2⟩ hsub
  · cases h3
/-! ### truth -/
theorem tru_D {K : PySem.W.Frag} {G H : Hp} (hs : Sub G H) {v : V} {d : D} {k : Bool} (h : RpW K G H v d) (e : truD d = some k) : TruV K v H k := by
  unfold truD at e
  split at e
  · cases e
    rcases h with h | ⟨_, _, _, _, e, _⟩
    · cases h; exact rfl
    · cases e
  · cases e
    obtain rfl := h.bl
    exact rfl
  · cases e
    obtain rfl := h.int
    exact rfl
  · cases e
    obtain ⟨a, xs, rfl, s1, r1⟩ := h.tup hs
    refine .inr (.inl ⟨xs, s1, ?_⟩)
    cases r1 <;> rfl
  · cases e
    obtain ⟨a, xs, rfl, s1, r1⟩ := h.lst hs
    refine .inl ⟨xs, s1, ?_⟩
    cases r1 <;> rfl
  · cases e
end
end SG
/-! Sg4: built-ins, the contract of a def. -/
namespace SG
open PySem L2 PyProof.Rows

def B1.word : B1 → Str
  | .len => "len"
  | .abs => "abs"
  | .int => "int"
  | .repr => "repr"
  | .tup => "tuple"
  | .all => "all"
  | .any => "any"
  | .str => "str"
def B1.isTy : B1 → Bool
  | .int | .tup | .str => true
  | _ => false
def B1.id : B1 → String
  | .len => "len"
  | .abs => "abs"
  | .int => "int"
  | .repr => "repr"
  | .tup => "tuple"
  | .all => "all"
  | .any => "any"
  | .str => "str"
def B1.v (b : B1) : Value := if b.isTy then .type b.id else .builtin b.id
theorem b1_boot (b : B1) : bootBuiltins b.word = some b.v := by cases b <;> decide +kernel

mutual
theorem toP_nodict : ∀ d : D, d.toP.hasDict = false
  | .non => by unfold D.toP; rfl
  | .bl _ => by unfold D.toP; rfl
  | .int _ => by unfold D.toP; rfl
  | .str _ => by unfold D.toP; rfl
  | .tup l => by unfold D.toP PyData.hasDict; exact toPs_nodict l
  | .lst l => by unfold D.toP PyData.hasDict; exact toPs_nodict l
theorem toPs_nodict : ∀ l : List D, PyData.hasDictAll (D.toPs l) = false
  | [] => by unfold D.toPs; rfl
  | d :: r => by unfold D.toPs PyData.hasDictAll; rw [toP_nodict d, toPs_nodict r]; rfl
end
theorem bools_rps {K : PySem.W.Frag} {G : Hp} : ∀ {ds : List D} {xs : List V} {bs : List Bool}, Rps K G xs ds → boolsOf ds = some bs → xs = bs.map V.bl
  | [], _, bs, h, e => by
    cases h
    cases e
    rfl
  | d :: ds, _, bs, h, e => by
    cases h with
    | cons a b =>
      cases d with
      | bl k =>
        unfold boolsOf at e
        cases e1 : boolsOf ds with
        | none => rw [e1] at e; cases e
        | some cs =>
          rw [e1] at e
          cases e
          cases a
          rw [bools_rps b e1]
          rfl
      | _ => cases e
def rB1 (K : PySem.W.Frag) (b : B1) : List V → Hp → VK → Prop := fun xs H Q => ∃ x G d f, xs = [x] ∧ Sub G H ∧ RpW K G H x d ∧ b1D b d = some f ∧ Res K G H f Q
section
variable {X : Cx}
theorem call_b1 (hc : X.calm = true) (hg : X.A.guards = some []) (hu : X.A.units + 64 < cLine) (b : B1) : CallR X b.v (rB1 X.K b) := by
  intro pins s σ H xs us Q I r h
  obtain ⟨x, G, d, f, rfl, hs, h1, h2, q⟩ := h
  have tupRp : ∀ {l : List D}, RpW X.K G H x (.tup l) → Rp X.K G x (.tup l) := fun h => by
    rcases h with h | ⟨_, _, _, _, e, _⟩
    · exact h
    · cases e
  cases b with
  | len =>
    cases d with
    | tup l =>
      cases h2
      obtain ⟨a, vs, rfl, s1, r1⟩ := h1.tup hs
      exact call_len pins s σ H _ us Q I r ⟨_, _, rfl, .inr ⟨vs, s1, rfl⟩, q.1 _ (by rw [r1.length]; exact .int _)⟩
    | lst l =>
      cases h2
      obtain ⟨a, vs, rfl, s1, r1⟩ := h1.lst hs
      exact call_len pins s σ H _ us Q I r ⟨_, _, rfl, .inl ⟨vs, s1, rfl⟩, q.1 _ (by rw [r1.length]; exact .int _)⟩
    | str y =>
      simp only [b1D] at h2
      split at h2
      · rename_i c
        cases h2
        obtain rfl := h1.str
        exact call_len pins s σ H _ us Q I r ⟨_, _, rfl, ⟨small_line c, rfl⟩, q.1 _ (.int _)⟩
      · cases h2
    | _ => cases h2
  | abs =>
    cases d with
    | int i =>
      cases h2
      obtain rfl := h1.int
      exact call_abs pins s σ H _ us Q I r ⟨_, rfl, q.1 _ (.int _)⟩
    | _ => cases h2
  | int =>
    cases d with
    | int i =>
      cases h2
      obtain rfl := h1.int
      exact call_int1 pins s σ H _ us Q I r (.inl ⟨_, rfl, q.1 _ (.int _)⟩)
    | bl k =>
      cases h2
      obtain rfl := h1.bl
      exact call_int1 pins s σ H _ us Q I r (.inr ⟨_, rfl, q.1 _ (.int _)⟩)
    | _ => cases h2
  | tup =>
    cases d with
    | tup l =>
      cases h2
      have hr := tupRp h1
      obtain ⟨a, vs, rfl, s1, r1⟩ := h1.tup hs
      exact call_tuple_of pins s σ H _ us Q I r ⟨a, vs, rfl, .inr ⟨s1, q.1 _ hr⟩⟩
    | lst l =>
      cases h2
      obtain ⟨a, vs, rfl, s1, r1⟩ := h1.lst hs
      refine call_tuple_of pins s σ H _ us Q I r ⟨a, vs, rfl, .inl ⟨s1, fun p hp => q.2 p _ hp (.tup (.inl (.inl upd_same)) (r1.mono (sub_upd ?_)))⟩⟩
      cases e : G p with
      | none => rfl
      | some o => rw [hs p o e] at hp; cases hp
    | _ => cases h2
  | all =>
    cases d with
    | lst l =>
      simp only [b1D] at h2
      cases e : boolsOf l with
      | none => rw [e] at h2; cases h2
      | some bs =>
        rw [e] at h2
        cases h2
        obtain ⟨a, vs, rfl, s1, r1⟩ := h1.lst hs
        exact cr_all hc pins s σ H _ us Q I r ⟨a, bs, rfl, by rw [← bools_rps r1 e]; exact s1, q.1 _ (.bl _)⟩
    | _ => cases h2
  | any =>
    cases d with
    | lst l =>
      simp only [b1D] at h2
      cases e : boolsOf l with
      | none => rw [e] at h2; cases h2
      | some bs =>
        rw [e] at h2
        cases h2
        obtain ⟨a, vs, rfl, s1, r1⟩ := h1.lst hs
        exact cr_any hc pins s σ H _ us Q I r ⟨a, bs, rfl, by rw [← bools_rps r1 e]; exact s1, q.1 _ (.bl _)⟩
    | _ => cases h2
  | str => cases d <;> cases h2
  | repr =>
    simp only [b1D] at h2
    split at h2
    · rename_i c
      cases h2
      unfold shownOk at c
      simp only [Bool.and_eq_true, decide_eq_true_eq] at c
      obtain ⟨⟨c1, c2⟩, c3⟩ := c
      obtain ⟨u, rfl, rx⟩ := vals1 r
      have hz : d.toP.shown.length ≤ sizeLine := by rw [sizeLine_eq]; omega
      obtain ⟨as, rr⟩ := Dp.reads I d.toP x u (dp_of hs h1) rx
      have fin : ∀ h' t tk, (∀ b o, s.heap.get? b = some o → h'.get? b = some o) → EP X pins σ Q (.str d.toP.shown t) { s with heap := h', toks := tk } := fun h' t tk k => ⟨.str d.toP.shown, H, I.kept k, ⟨_, rfl⟩, q.1 _ (.str _)⟩
      cases d with
      | non =>
        rcases h1 with h | ⟨_, _, _, _, e, _⟩
        · cases h
          cases rx
          exact PySem.P.repr_of_none (fin s.heap _ _ fun _ _ e => e)
        · cases e
      | bl k =>
        obtain rfl := h1.bl
        cases rx
        exact PySem.P.repr_of_bool (fin s.heap _ _ fun _ _ e => e)
      | int i =>
        obtain rfl := h1.int
        obtain ⟨t, rfl⟩ := rx
        exact PySem.P.repr_of_int (of_decide_eq_true c1) (fin s.heap _ _ fun _ _ e => e)
      | str y =>
        obtain rfl := h1.str
        obtain ⟨t, rfl⟩ := rx
        exact PySem.P.repr_of_str (fin s.heap _ _ fun _ _ e => e) hz
      | tup l =>
        obtain ⟨a, vs, rfl, s1, r1⟩ := h1.tup hs
        cases rx
        exact repr_of_reads' rr c1 (PyData.noDict_hsm (toP_nodict _)) hg (by omega) (fun _ _ e => e) fin hz
      | lst l =>
        obtain ⟨a, vs, rfl, s1, r1⟩ := h1.lst hs
        cases rx
        exact repr_of_reads' rr c1 (PyData.noDict_hsm (toP_nodict _)) hg (by omega) (fun _ _ e => e) fin hz
    · cases h2
/-! ### isinstance -/
theorem ty_D {K : PySem.W.Frag} {G H : Hp} (hs : Sub G H) {v : V} {d : D} (h : RpW K G H v d) : TyX K H v (.type (tyOf d)) := by
  cases d with
  | non =>
    rcases h with h | ⟨_, _, _, _, e, _⟩
    · cases h; exact .base .non
    · cases e
  | bl k => obtain rfl := h.bl; exact .base (.bl _)
  | int k => obtain rfl := h.int; exact .base (.int _)
  | str k => obtain rfl := h.str; exact .base (.str _)
  | tup l =>
    obtain ⟨a, vs, rfl, s1, r1⟩ := h.tup hs
    rcases s1 with (s1 | ⟨o, s1⟩) | ⟨o, its, n, e, c, _⟩
    · exact .base (.tup s1)
    · exact .fTuple s1
    · exact .kTuple e c
  | lst l =>
    obtain ⟨a, vs, rfl, s1, r1⟩ := h.lst hs
    rcases s1 with (s1 | ⟨o, s1⟩) | ⟨o, its, n, e, c, _⟩
    · exact .base (.lst s1)
    · exact .base (.frz s1)
    · exact .kList e c
theorem isi_D {K : PySem.W.Frag} {d : D} {t : String} {b : Bool} (h : isiD d t = some b) : PySem.W.kitOne K (.type (tyOf d)) (.type t) = some b := by
  have ty : tyOf d = "NoneType" ∨ tyOf d = "bool" ∨ tyOf d = "int" ∨ tyOf d = "str" ∨ tyOf d = "tuple" ∨ tyOf d = "list" := by
    cases d <;> simp [tyOf]
  unfold isiD at h
  split at h
  all_goals first
    | (cases h; done)
    | (rcases ty with e | e | e | e | e | e <;> (try rw [e] at h) <;> rw [e] <;> cases h <;> exact kit_ty (by decide +kernel))
def isTyName (t : String) : Bool := ["int", "bool", "str", "tuple", "list", "dict"].contains t
theorem ty_boot {t : String} (h : isTyName t = true) : bootBuiltins (Str.ofString t) = some (.type t) := by
  unfold isTyName at h
  simp only [List.contains_cons, List.contains_nil, Bool.or_false, Bool.or_eq_true, beq_iff_eq] at h
  rcases h with rfl | rfl | rfl | rfl | rfl | rfl <;> decide +kernel

/-! ### the contract of a def -/
structure FnG (P : Program) (w : World) (K : PySem.W.Frag) (mg : Str → Option Value) (base : Heap) (k : Nat) (f : Addr) (fd : FuncData) (ps : List Str) (sp : Sp) : Prop where
  len : ∀ vs H Q E, sp vs H Q E → vs.length = ps.length
  go : ∀ (A : Around) (outer : List Env) (s : Shared) (H : Hp) (args : Args) (us : List Value) (vs : List V) (Q : VK) (E : XK), Room k A → A.guards = some [] → Env0 P w K mg base A outer s H → BindsTo s fd args (ps.zip us) →
    Vals vs us → sp vs H Q E → codeAny (model P w) A (.call (.ref f) args) (CR (L2.CX P w) outer P w H s Q E) s
/-- what comes back -/
def RetOk (K : PySem.W.Frag) (G H G' H' : Hp) (fresh : Bool) (v : V) (d : D) : Prop :=
  match fresh with
  | false => Rp K G' v d
  | true => ∃ (a : Addr) (xs : List V) (es : List D), d = .lst es ∧ v = .ref a ∧ H a = none ∧ G' a = none ∧ H' a = some (.lst xs) ∧ Rps K G' xs es
/-- the promise of a def, all its parameters given -/
def spFn (K : PySem.W.Frag) (mg : Str → Option Value) (f : Fn) : Sp := fun vs H Q E =>
  ∃ G es ds, Rl K G H (vs.map some) (argS f.lend es ds) ∧ (argS f.lend es ds).length = f.many ∧
    match f.run es ds with
    | none => False
    | some (.ok d, es') => ∀ v G' H', Stp G H (vs.map some) (argS f.lend es ds) G' H' (vs.map some) (argS f.lend es' ds) → Rl K G' H' (vs.map some) (argS f.lend es' ds) → RetOk K G H G' H' f.fresh v d → Q v H'
    | some (.error x, es') => ∀ cls dx G' H', Stp G H (vs.map some) (argS f.lend es ds) G' H' (vs.map some) (argS f.lend es' ds) → Rl K G' H' (vs.map some) (argS f.lend es' ds) → ErrOk K mg G' H' cls dx x → E cls dx H'
/-- a def as it stands behind the top; dfl: the defaults that fill up -/
structure FnSnd (P : Program) (w : World) (K : PySem.W.Frag) (mg : Str → Option Value) (base : Heap) (f : Fn) : Prop where
  ex : ∃ (g : Fn) (fa : Addr) (fd : FuncData) (ps : List Str) (ds : List Value) (dvs : List V) (dfl : List D), mg f.name = some (.ref fa) ∧ PySem.W.keepIn K (.ref fa) = true ∧ FnG P w K mg base f.lvl fa fd ps (spFn K mg g) ∧ Binds K fd ps ds ∧ Vals dvs ds ∧
    Rps K (fun _ => none) dvs dfl ∧ (∀ es as, f.run es as = g.run es (as ++ dfl)) ∧ f.lend = g.lend ∧ f.fresh = g.fresh ∧ f.many + dfl.length = g.many
/-- the callee runs -/
theorem run_fnG {X : Cx} {k : Nat} {f : Addr} {fd : FuncData} {ps : List Str} {sp : Sp} {dvs : List V} {ds : List Value} {E : XK} {pins : List (Addr × Obj)} {σ : L2.St} {H : Hp} {s : Shared} {Q : VK} {us : List Value} {vs : List V}
    (F : FnG X.prog X.w X.K X.mg X.base k f fd ps sp) (hr : Room k X.A) (hg : X.A.guards = some []) (hb : Binds X.K fd ps ds) (hd : Vals dvs ds) (hx : Passes (L2.CX X.prog X.w) X E)
    (I : Inv X pins σ H s) (r : Vals vs us) (h : sp (vs ++ dvs) H Q E) : wpAny (model X.prog X.w) X.A (call (.ref f) us) (EP X pins σ Q) X.xe s := by
  have rr := r.append hd
  have ll : (us ++ ds).length = ps.length := by
    rw [← rr.length]
    exact F.len _ _ _ _ h
  have run := F.go X.A X.stack s H ⟨us, []⟩ (us ++ ds) (vs ++ dvs) Q E hr hg I.env0 (hb s us I.kIn ll) rr h
  refine wpAny_call (codeAny_mono run fun res s' hq => ?_)
  match res, hq with
  | .error e, hq => exact hx pins σ H s e s' I hq
  | .ok (.ret u), hq => exact I.after hq
  | .ok .next, hq => exact hq.elim
  | .ok .brk, hq => exact hq.elim
  | .ok .cont, hq => exact hq.elim
theorem pe_callG {X : Cx} {k : Nat} {f : Addr} {fd : FuncData} {ps : List Str} {sp : Sp} {dvs : List V} {ds : List Value} {E : L2.St → XK} {x : Str} {p pos : Pos} {e : Expr} {es : List Expr} {t : TA}
    (F : FnG X.prog X.w X.K X.mg X.base k f fd ps sp) (hr : Room k X.A) (hgd : X.A.guards = some []) (hg : Gl X x) (hm : X.mg x = some (.ref f)) (hk : PySem.W.keepIn X.K (.ref f) = true) (hb : Binds X.K fd ps ds) (hd : Vals dvs ds)
    (hx : ∀ (pins : List (Addr × Obj)) (σ : L2.St) (H : Hp) (s : Shared) (e : Value) (s' : Shared), Inv X pins σ H s → L2.CX X.prog X.w X.stack H s (E σ) e s' → X.xe e s') (ha : PA X (e :: es) t) (hdb : (x == ("__debug__" : Str)) = false)
    (he : starEach (e :: es) X.env = (false, eval e X.env) :: starEach es X.env) (hpl : (backTo pos (starEach es X.env)).any (·.1) = false) :
    PE X (.Call (.Name x p) (e :: es) [] pos) (fun σ H Q => t σ H fun vs H1 => sp (vs ++ dvs) H1 Q (E σ)) := by
  refine ⟨fun pins s σ H Q I h => ?_⟩
  refine wpAny_Call_Name_kw (ld_glob I hg hm ?_ hdb)
  have inner := ha.run pos pins s σ H _ I h
  refine PySem.W.callWith_K (h₀ := X.base) I.ok.mod.kin hk (thn inner fun us s1 hu => ?_) he hpl
  obtain ⟨vs, H1, I1, r, q⟩ := hu
  refine ⟨I1.kIn, ?_⟩
  have rr := r.append hd
  have ll : (us ++ ds).length = ps.length := by
    rw [← rr.length]
    exact F.len _ _ _ _ q
  have run := F.go X.A X.stack s1 H1 ⟨us, []⟩ (us ++ ds) (vs ++ dvs) Q (E σ) hr hgd I1.env0 (hb s1 us I1.kIn ll) rr q
  refine wpAny_call (codeAny_mono run fun res s' hq => ?_)
  match res, hq with
  | .error e, hq => exact hx pins σ H1 s1 e s' I1 hq
  | .ok (.ret u), hq => exact I1.after hq
  | .ok .next, hq => exact hq.elim
  | .ok .brk, hq => exact hq.elim
  | .ok .cont, hq => exact hq.elim
end
end SG
/-! Sg5: is a tree what a small program says; expressions are sound. -/
namespace SG
open PySem L2 PyProof.Rows

def visB (sc : Scope) (x : Str) : Bool := match sc.names.lookup x with
  | some .local | some .cell | some .free => true
  | _ => false
def locB (sc : Scope) (x : Str) : Bool := match sc.names.lookup x with
  | some .local | some .cell => true
  | _ => false
def glB (sc : Scope) (x : Str) : Bool := match sc.names.lookup x with
  | some .globalImplicit => true
  | _ => false
def dbg (x : Str) : Bool := !(x == ("__debug__" : Str)) && !(x == ("__classdict__" : Str))
def plainCm : Cm → Bool
  | .isn | .nisn | .isin | .notin => false
  | _ => true
def eqOp (a b : Operator) : Bool := decide (a = b)
def eqCm (a b : CmpOp) : Bool := decide (a = b)
def isSet : Expr → Bool
  | .Set .. => true
  | _ => false
/-- a target: names in their slots; at: the kinds that it may have -/
def okTg (N : List Str) (sc : Scope) : Tg → Expr → Bool
  | .nm i, .Name x _ => decide (N[i]? = some x) && locB sc x
  | .two i j, .Tuple [.Name x _, .Name y _] _ _ => decide (N[i]? = some x) && locB sc x && decide (N[j]? = some y) && locB sc y
  | .thr i j l, .Tuple [.Name x _, .Name y _, .Name z _] _ _ => decide (N[i]? = some x) && locB sc x && decide (N[j]? = some y) && locB sc y && decide (N[l]? = some z) && locB sc z
  | _, _ => false
def isTup : Expr → Bool
  | .Tuple .. => true
  | _ => false
def ownOf (N : List Str) (t : Tg) : List (Str × Nat) := t.slots.map fun i => ((N[i]?).getD "", i)
mutual
def okE (N : List Str) (k : Nat) : E → Scope → Expr → Bool
  | .var i => fun sc e => match e with
    | .Name x _ => decide (N[i]? = some x) && visB sc x && dbg x
    | _ => false
  | .cst d => fun sc e => match e with
    | .Constant c _ _ => match c, d with
      | .int n, .int m => decide (n = m)
      | .bool n, .bl m => decide (n = m)
      | .none, .non => true
      | .str x, .str y => decide (x = y)
      | _, _ => false
    | _ => false
  | .glb y _ => fun sc e => match e with
    | .Name x _ => decide (x = y) && glB sc x && dbg x
    | _ => false
  | .bin o a b => fun sc e => match e with
    | .BinOp l op r _ => eqOp op o.ast && okE N k a sc l && okE N k b sc r
    | _ => false
  | .neg a => fun sc e => match e with
    | .UnaryOp .USub x _ => okE N k a sc x
    | _ => false
  | .cmp o a b => fun sc e => match e with
    | .Compare l [op] [r] _ => match o with
      | .isn => match op, r with
        | .Is, .Constant .none _ _ => okE N k a sc l
        | _, _ => false
      | .nisn => match op, r with
        | .IsNot, .Constant .none _ _ => okE N k a sc l
        | _, _ => false
      | o => plainCm o && eqCm op o.ast && okE N k a sc l && okE N k b sc r
    | _ => false
  | .chain o p a b c => fun sc e => match e with
    | .Compare l [op, oq] [m, r] _ => plainCm o && plainCm p && eqCm op o.ast && eqCm oq p.ast && okE N k a sc l && okE N k b sc m && okE N k c sc r
    | _ => false
  | .and a b => fun sc e => match e with
    | .BoolOp .And (x :: y :: r) p => match r with
      | [] => okE N k a sc x && okE N k b sc y
      | z :: s => okE N k a sc x && okE N k b sc (.BoolOp .And (y :: z :: s) p)
    | _ => false
  | .or a b => fun sc e => match e with
    | .BoolOp .Or (x :: y :: r) p => match r with
      | [] => okE N k a sc x && okE N k b sc y
      | z :: s => okE N k a sc x && okE N k b sc (.BoolOp .Or (y :: z :: s) p)
    | _ => false
  | .not a => fun sc e => match e with
    | .UnaryOp .Not x _ => okE N k a sc x
    | _ => false
  | .ite c a b => fun sc e => match e with
    | .IfExp t x y _ => okE N k c sc t && okE N k a sc x && okE N k b sc y
    | _ => false
  | .tup es => fun sc e => match e with
    | .Tuple xs _ _ => okL N k es sc xs
    | _ => false
  | .ix a b => fun sc e => match e with
    | .Subscript x y _ => okE N k a sc x && okE N k b sc y
    | _ => false
  | .slc _ _ _ => fun _ _ => false
  | .rev a => fun sc e => match e with
    | .Subscript x (.Slice none none (some (.UnaryOp .USub (.Constant (.int 1) _ _) _)) _) _ => okE N k a sc x
    | _ => false
  | .call f es => fun sc e => match e with
    | .Call (.Name x _) (y :: ys) [] _ => decide (x = f.name) && glB sc x && dbg x && decide (f.lvl ≤ k) && okL N k es sc (y :: ys)
    | _ => false
  | .b1 b a => fun sc e => match e with
    | .Call (.Name x _) [y] [] _ => decide (x = b.word) && glB sc x && okE N k a sc y
    | _ => false
  | .isi a t => fun sc e => match e with
    | .Call (.Name x _) [y, .Name z _] [] _ => decide (x = "isinstance") && glB sc x && isTyName t && decide (z = Str.ofString t) && glB sc z && okE N k a sc y
    | _ => false
  | .max2 a b => fun sc e => match e with
    | .Call (.Name x _) [y, z] [] _ => decide (x = "max") && glB sc x && okE N k a sc y && okE N k b sc z
    | _ => false
  | .min2 a b => fun sc e => match e with
    | .Call (.Name x _) [y, z] [] _ => decide (x = "min") && glB sc x && okE N k a sc y && okE N k b sc z
    | _ => false
  | .fr f => fun sc e => okF N k f sc e
def okF (N : List Str) (k : Nat) : FE → Scope → Expr → Bool
  | .disp es => fun sc e => match e with
    | .List xs _ => okL N k es sc xs
    | _ => false
  | .comp t it c el => fun sc e => match e with
    | .ListComp elt [⟨tg, iter, ifs, a⟩] scope _ => decide (a = 0) && blkC N sc scope (ownOf N t) && okTg N scope t tg && okI N k it sc tg iter && okE N k el (relS scope sc) elt &&
        (match ifs with
          | [] => okO N k c (relS scope sc) none
          | [x] => okO N k c (relS scope sc) (some x)
          | _ => false)
    | _ => false
  | .listOf a => fun sc e => match e with
    | .Call (.Name x _) [y] [] _ => decide (x = "list") && glB sc x && okE N k a sc y
    | _ => false
  | .cat i f => fun sc e => match e with
    | .BinOp (.Name x _) .Add r _ => decide (N[i]? = some x) && visB sc x && dbg x && okF N k f sc r
    | _ => false
  | .callF f es => fun sc e => match e with
    | .Call (.Name x _) (y :: ys) [] _ => decide (x = f.name) && glB sc x && dbg x && decide (f.lvl ≤ k) && okL N k es sc (y :: ys)
    | _ => false
def okI (N : List Str) (k : Nat) : IT → Scope → Expr → Expr → Bool
  | .rng1 a => fun sc _ e => match e with
    | .Call (.Name x _) [y] [] _ => decide (x = "range") && glB sc x && okE N k a sc y
    | _ => false
  | .rng2 a b => fun sc _ e => match e with
    | .Call (.Name x _) [y, z] [] _ => decide (x = "range") && glB sc x && okE N k a sc y && okE N k b sc z
    | _ => false
  | .seqT a => fun sc _ e => okE N k a sc e
  | .seqL a => fun sc _ e => okE N k a sc e
  | .zipT a b => fun sc t e => isTup t && match e with
    | .Call (.Name x _) [y, z] [] _ => decide (x = "zip") && glB sc x && okE N k a sc y && okE N k b sc z
    | _ => false
  | .zipL a b => fun sc t e => isTup t && match e with
    | .Call (.Name x _) [y, z] [] _ => decide (x = "zip") && glB sc x && okE N k a sc y && okE N k b sc z
    | _ => false
  | .enmL a => fun sc t e => isTup t && match e with
    | .Call (.Name x _) [y] [] _ => decide (x = "enumerate") && glB sc x && okE N k a sc y
    | _ => false
  | .enmT _ => fun _ _ _ => false
def okL (N : List Str) (k : Nat) : EL → Scope → List Expr → Bool
  | .nil => fun _ es => match es with
    | [] => true
    | _ => false
  | .cons a r => fun sc es => match es with
    | e :: es => okE N k a sc e && okL N k r sc es
    | _ => false
def okO (N : List Str) (k : Nat) : EO → Scope → Option Expr → Bool
  | .no => fun _ e => match e with
    | none => true
    | _ => false
  | .yes a => fun sc e => match e with
    | some x => okE N k a sc x
    | _ => false
end
/-- what is asked of the defs and constants that a program names -/
structure Ask where
  f : Fn → Prop
  g : Str → D → Prop
mutual
def prE (P : Ask) : E → Prop
  | .var _ => True
  | .cst _ => True
  | .glb x d => P.g x d
  | .bin _ a b => prE P a ∧ prE P b
  | .neg a => prE P a
  | .cmp _ a b => prE P a ∧ prE P b
  | .chain _ _ a b c => prE P a ∧ prE P b ∧ prE P c
  | .and a b => prE P a ∧ prE P b
  | .or a b => prE P a ∧ prE P b
  | .not a => prE P a
  | .ite c a b => prE P c ∧ prE P a ∧ prE P b
  | .tup es => prL P es
  | .ix a b => prE P a ∧ prE P b
  | .slc a l h => prE P a ∧ prO P l ∧ prO P h
  | .rev a => prE P a
  | .call f es => P.f f ∧ prL P es
  | .b1 _ a => prE P a
  | .isi a _ => prE P a
  | .max2 a b => prE P a ∧ prE P b
  | .min2 a b => prE P a ∧ prE P b
  | .fr f => prF P f
def prF (P : Ask) : FE → Prop
  | .disp es => prL P es
  | .comp _ it c e => prI P it ∧ prO P c ∧ prE P e
  | .listOf a => prE P a
  | .cat _ f => prF P f
  | .callF f es => P.f f ∧ prL P es
def prI (P : Ask) : IT → Prop
  | .rng1 a => prE P a
  | .rng2 a b => prE P a ∧ prE P b
  | .seqT a => prE P a
  | .seqL a => prE P a
  | .zipT a b => prE P a ∧ prE P b
  | .zipL a b => prE P a ∧ prE P b
  | .enmL a => prE P a
  | .enmT a => prE P a
def prL (P : Ask) : EL → Prop
  | .nil => True
  | .cons e r => prE P e ∧ prL P r
def prO (P : Ask) : EO → Prop
  | .no => True
  | .yes e => prE P e
end
/-- a constant of the module -/
def Glo (K : PySem.W.Frag) (mg : Str → Option Value) (x : Str) (d : D) : Prop := ∃ (v : V) (u : Value), mg x = some u ∧ RelV v u ∧ Rp K (fun _ => none) v d
def askX (X : Cx) : Ask := ⟨FnSnd X.prog X.w X.K X.mg X.base, Glo X.K X.mg⟩
def bltWords : List Str := ["len", "abs", "int", "repr", "tuple", "all", "any", "str", "isinstance", "bool", "list", "dict", "max", "min", "range", "zip", "enumerate"]
/-- where one stands -/
structure Amb (X : Cx) (k : Nat) : Prop where
  room : Room k X.A
  gd : X.A.guards = some []
  calm : X.calm = true
  nd : X.N.Nodup
  blt : ∀ x ∈ bltWords, X.mg x = none
theorem Amb.hu {X : Cx} {k : Nat} (a : Amb X k) : X.A.units + 64 < cLine := by have := a.room.un; omega

section
variable {X : Cx} {k : Nat} {sc : Scope}
theorem vis_of {x : Str} (h : visB sc x = true) : Vis sc x := by
  unfold visB at h
  split at h
  · exact .inl (by assumption)
  · exact .inr (.inl (by assumption))
  · exact .inr (.inr (by assumption))
  · cases h
theorem loc_of {x : Str} (h : locB sc x = true) : Loc sc x := by
  unfold locB at h
  split at h
  · exact .inl (by assumption)
  · exact .inr (by assumption)
  · cases h
theorem gl_of {x : Str} (h : glB X.env.scope x = true) : Gl X x := by
  unfold glB at h
  split at h
  · rename_i e; exact e
  · cases h
theorem dbg_of {x : Str} (h : dbg x = true) : (x == ("__debug__" : Str)) = false ∧ (x == ("__classdict__" : Str)) = false := by
  unfold dbg at h
  rw [Bool.and_eq_true] at h
  exact ⟨by simpa using h.1, by simpa using h.2⟩
def nostar : Expr → Bool
  | .Starred .. => false
  | _ => true
theorem star_cons {e : Expr} (h : nostar e = true) (es : List Expr) (env : Env) : starEach (e :: es) env = (false, eval e env) :: starEach es env := by
  cases e <;> first
    | rfl
    | cases h
theorem star_plain : ∀ (es : List Expr) (env : Env) (pos : Pos), es.all nostar = true → (backTo pos (starEach es env)).any (·.1) = false
  | [], _, _, _ => rfl
  | e :: es, env, pos, h => by
    rw [List.all_cons, Bool.and_eq_true] at h
    rw [star_cons h.1]
    show (false || (backTo pos (starEach es env)).any (·.1)) = false
    rw [star_plain es env pos h.2]
    rfl
def isSlice : Expr → Bool
  | .Slice .. => true
  | _ => false
theorem plainIx {e : Expr} (h : isSlice e = false) : PlainIx e := by
  intro o i
  cases e <;> first
    | rfl
    | cases h
theorem noSet {e : Expr} (h : isSet e = false) (env : Env) (x : Value) : foldedSetIterable e env x = pure x := by
  cases e <;> first
    | rfl
    | cases h
/-- what a tree that passes is not -/
structure Shape (e : Expr) : Prop where
  st : nostar e = true
  sl : isSlice e = false
  se : isSet e = false
theorem okF_shape {N : List Str} : ∀ (f : FE) (e : Expr), okF N k f sc e = true → Shape e := by
  intro f e h
  cases f <;> cases e <;> first
    | (refine ⟨rfl, rfl, rfl⟩; done)
    | (exact absurd (show false = true from h) Bool.false_ne_true)
theorem okE_shape {N : List Str} : ∀ (i : E) (e : Expr), okE N k i sc e = true → Shape e := by
  intro i e h
  cases i <;> first
    | exact okF_shape _ e h
    | (cases e <;> first
      | (refine ⟨rfl, rfl, rfl⟩; done)
      | (exact absurd (show false = true from h) Bool.false_ne_true))
theorem okL_star {N : List Str} : ∀ (i : EL) (es : List Expr), okL N k i sc es = true → es.all nostar = true
  | .nil, [], _ => rfl
  | .nil, _ :: _, h => absurd (show false = true from h) Bool.false_ne_true
  | .cons _ _, [], h => absurd (show false = true from h) Bool.false_ne_true
  | .cons a r, e :: es, h => by
    have h : (okE N k a sc e && okL N k r sc es) = true := h
    rw [Bool.and_eq_true] at h
    rw [List.all_cons, (okE_shape a e h.1).st, okL_star r es h.2]
    rfl
end
end SG
/-! Sg6: targets, iterators, comprehensions. -/
namespace SG
open PySem L2 PyProof.Rows RZ

section
variable {K : PySem.W.Frag} {mg : Str → Option Value} {Wx : WX} {G H G' H' : Hp} {σ : L2.St} {st st' : List S}

/-! ### slots wiped and given back -/
theorem wipeS_len (st : List S) : ∀ vs : List Nat, (wipeS st vs).length = st.length
  | [] => rfl
  | v :: vs => by unfold wipeS; rw [List.length_set, wipeS_len st vs]
theorem wipeS_get (st : List S) (j : Nat) : ∀ vs : List Nat, (wipeS st vs)[j]? = if j ∈ vs then (st[j]?).map (fun _ => S.un) else st[j]?
  | [] => by simp [wipeS]
  | v :: vs => by
    unfold wipeS
    have ih := wipeS_get st j vs
    by_cases h : j = v
    · subst h
      rw [if_pos List.mem_cons_self]
      by_cases hl : j < st.length
      · rw [List.getElem?_set_self (by rw [wipeS_len]; exact hl), List.getElem?_eq_getElem hl]
        rfl
      · rw [List.getElem?_eq_none (by rw [List.length_set, wipeS_len]; omega), List.getElem?_eq_none (by omega)]
        rfl
    · rw [List.getElem?_set_ne (Ne.symm h), ih]
      by_cases h2 : j ∈ vs
      · rw [if_pos h2, if_pos (List.mem_cons_of_mem _ h2)]
      · rw [if_neg h2, if_neg (fun z => (List.mem_cons.mp z).elim h h2)]
theorem wipe_get (σ : L2.St) (j : Nat) : ∀ vs : List Nat, (wipe σ vs)[j]? = if j ∈ vs then (σ[j]?).map (fun _ => none) else σ[j]?
  | [] => by simp [wipe]
  | v :: vs => by
    unfold wipe
    have ih := wipe_get σ j vs
    by_cases h : j = v
    · subst h
      rw [if_pos List.mem_cons_self]
      by_cases hl : j < σ.length
      · rw [List.getElem?_set_self (by rw [wipe_length]; exact hl), List.getElem?_eq_getElem hl]
        rfl
      · rw [List.getElem?_eq_none (by rw [List.length_set, wipe_length]; omega), List.getElem?_eq_none (by omega)]
        rfl
    · rw [List.getElem?_set_ne (Ne.symm h), ih]
      by_cases h2 : j ∈ vs
      · rw [if_pos h2, if_pos (List.mem_cons_of_mem _ h2)]
      · rw [if_neg h2, if_neg (fun z => (List.mem_cons.mp z).elim h h2)]
theorem restore_len (s0 st : List S) : ∀ vs : List Nat, (restore s0 st vs).length = st.length
  | [] => rfl
  | v :: vs => by
    unfold restore
    split
    · rw [List.length_set, restore_len s0 st vs]
    · exact restore_len s0 st vs
theorem restore_get (s0 st : List S) (hl : s0.length = st.length) (j : Nat) : ∀ vs : List Nat, (restore s0 st vs)[j]? = if j ∈ vs then s0[j]? else st[j]?
  | [] => by simp [restore]
  | v :: vs => by
    unfold restore
    have ih := restore_get s0 st hl j vs
    by_cases h : j = v
    · subst h
      rw [if_pos List.mem_cons_self]
      split
      · rename_i s e
        rw [List.getElem?_set_self (by rw [restore_len, ← hl]; exact lt_of_get e), e]
      · rename_i e
        rw [e]
        rw [List.getElem?_eq_none_iff] at e ⊢
        rw [restore_len]
        omega
    · have e2 : (if j ∈ v :: vs then s0[j]? else st[j]?) = if j ∈ vs then s0[j]? else st[j]? := by
        by_cases h2 : j ∈ vs
        · rw [if_pos h2, if_pos (List.mem_cons_of_mem _ h2)]
        · rw [if_neg h2, if_neg (fun z => (List.mem_cons.mp z).elim h h2)]
      rw [e2]
      split
      · rw [List.getElem?_set_ne (Ne.symm h), ih]
      · exact ih
theorem plain_no {vs : List Nat} (h : vs.all (plainAt st) = true) {i : Nat} (hi : i ∈ vs) {m : Bool} {ds : List D} : st[i]? ≠ some (.own m ds) := fun z => by
  have h1 := List.all_eq_true.mp h i hi
  unfold plainAt at h1
  rw [z] at h1
  cases h1
theorem own_wipe {vs : List Nat} {b : Addr} : Owned (wipe σ vs) (wipeS st vs) b → Owned σ st b := fun ⟨i, m, ds, h1, h2⟩ => by
  rw [wipeS_get] at h1
  rw [wipe_get] at h2
  by_cases hi : i ∈ vs
  · rw [if_pos hi] at h1
    cases e : st[i]? with
    | none => rw [e] at h1; cases h1
    | some s => rw [e] at h1; cases h1
  · rw [if_neg hi] at h1 h2
    exact ⟨i, m, ds, h1, h2⟩
theorem own_unwipe {vs : List Nat} (hp : vs.all (plainAt st) = true) {b : Addr} : Owned σ st b → Owned (wipe σ vs) (wipeS st vs) b := fun ⟨i, m, ds, h1, h2⟩ => by
  have hi : i ∉ vs := fun z => plain_no hp z h1
  exact ⟨i, m, ds, by rw [wipeS_get, if_neg hi]; exact h1, by rw [wipe_get, if_neg hi]; exact h2⟩
theorem Rl.wipe {vs : List Nat} (r : Rl K G H σ st) : Rl K G H (L2.wipe σ vs) (wipeS st vs) := by
  have un : ∀ {i : Nat} {s : S}, (wipeS st vs)[i]? = some s → s ≠ .un → i ∉ vs ∧ st[i]? = some s := fun {i s} h n => by
    rw [wipeS_get] at h
    by_cases hi : i ∈ vs
    · rw [if_pos hi] at h
      cases e : st[i]? with
      | none => rw [e] at h; cases h
      | some s' => rw [e] at h; cases h; exact absurd rfl n
    · rw [if_neg hi] at h
      exact ⟨hi, h⟩
  refine ⟨r.sub, by rw [wipeS_len, wipe_length]; exact r.len, fun i d h => ?_, fun i m ds h => ?_, fun i j m ds n es hij h1 h2 => ?_⟩
  · obtain ⟨hi, h⟩ := un h (fun z => nomatch z)
    obtain ⟨v, h1, h2⟩ := r.val i d h
    exact ⟨v, by rw [wipe_get, if_neg hi]; exact h1, h2⟩
  · obtain ⟨hi, h⟩ := un h (fun z => nomatch z)
    obtain ⟨a, xs, h1, h2⟩ := r.own i m ds h
    exact ⟨a, xs, by rw [wipe_get, if_neg hi]; exact h1, h2⟩
  · obtain ⟨hi, h1⟩ := un h1 (fun z => nomatch z)
    obtain ⟨hj, h2⟩ := un h2 (fun z => nomatch z)
    rw [wipe_get, wipe_get, if_neg hi, if_neg hj]
    exact r.sep i j m ds n es hij h1 h2
theorem Rl.back {vs : List Nat} {s0 : List S} {G0 H0 : Hp} (r0 : Rl K G0 H0 σ s0) (hp : vs.all (plainAt s0) = true) (hs : Sub G0 G) (r : Rl K G H (L2.wipe σ vs) (wipeS st vs)) : Rl K G H σ (restore s0 st vs) := by
  have hl : s0.length = st.length := by
    have := r.len
    rw [wipeS_len, wipe_length] at this
    rw [r0.len, this]
  refine ⟨r.sub, by rw [restore_len, ← hl]; exact r0.len, fun i d h => ?_, fun i m ds h => ?_, fun i j m ds n es hij h1 h2 => ?_⟩
  · rw [restore_get s0 st hl] at h
    by_cases hi : i ∈ vs
    · rw [if_pos hi] at h
      obtain ⟨v, h1, h2⟩ := r0.val i d h
      exact ⟨v, h1, h2.mono hs⟩
    · rw [if_neg hi] at h
      obtain ⟨v, h1, h2⟩ := r.val i d (by rw [wipeS_get, if_neg hi]; exact h)
      rw [wipe_get, if_neg hi] at h1
      exact ⟨v, h1, h2⟩
  · rw [restore_get s0 st hl] at h
    by_cases hi : i ∈ vs
    · rw [if_pos hi] at h
      exact absurd h (plain_no hp hi)
    · rw [if_neg hi] at h
      obtain ⟨a, xs, h1, h2⟩ := r.own i m ds (by rw [wipeS_get, if_neg hi]; exact h)
      rw [wipe_get, if_neg hi] at h1
      exact ⟨a, xs, h1, h2⟩
  · rw [restore_get s0 st hl] at h1 h2
    by_cases hi : i ∈ vs
    · rw [if_pos hi] at h1
      exact absurd h1 (plain_no hp hi)
    · by_cases hj : j ∈ vs
      · rw [if_pos hj] at h2
        exact absurd h2 (plain_no hp hj)
      · rw [if_neg hi] at h1
        rw [if_neg hj] at h2
        have q := r.sep i j m ds n es hij (by rw [wipeS_get, if_neg hi]; exact h1) (by rw [wipeS_get, if_neg hj]; exact h2)
        rw [wipe_get, wipe_get, if_neg hi, if_neg hj] at q
        exact q
theorem own_back {vs : List Nat} {s0 : List S} (hl : s0.length = st.length) (hp : vs.all (plainAt s0) = true) {b : Addr} : Owned σ (restore s0 st vs) b → Owned (wipe σ vs) (wipeS st vs) b := fun ⟨i, m, ds, h1, h2⟩ => by
  rw [restore_get s0 st hl] at h1
  by_cases hi : i ∈ vs
  · rw [if_pos hi] at h1
    exact absurd h1 (plain_no hp hi)
  · rw [if_neg hi] at h1
    exact ⟨i, m, ds, by rw [wipeS_get, if_neg hi]; exact h1, by rw [wipe_get, if_neg hi]; exact h2⟩
theorem Stp.back {vs : List Nat} {s0 : List S} {G0 H0 : Hp} (hl : s0.length = st.length) (hp : vs.all (plainAt s0) = true) (p : Stp G0 H0 (wipe σ vs) (wipeS s0 vs) G H (wipe σ vs) (wipeS st vs)) :
    Stp G0 H0 σ s0 G H σ (restore s0 st vs) := by
  refine ⟨fun b o h n => p.kp b o h fun z => n (own_wipe z), p.gr, fun b h n => p.old b h fun z => n (own_wipe z), fun b h => ?_, p.nv, fun i ds h => ?_⟩
  · rcases p.ow b (own_back hl hp h) with z | z
    · exact .inl (own_wipe z)
    · exact .inr z
  · have hi : i ∉ vs := fun z => plain_no hp z h
    obtain ⟨_, es, h2⟩ := p.bor i ds (by rw [wipeS_get, if_neg hi]; exact h)
    rw [wipeS_get, if_neg hi] at h2
    exact ⟨rfl, es, by rw [restore_get s0 st hl, if_neg hi]; exact h2⟩

/-! ### targets -/
def gT (K : PySem.W.Frag) : Tg → TG
  | .nm i => gName i
  | .two i j => gTup K 2 (gCons (gName i) (gCons (gName j) gNil))
  | .thr i j l => gTup K 3 (gCons (gName i) (gCons (gName j) (gCons (gName l) gNil)))
theorem set_wipe {vs : List Nat} {i : Nat} (hi : i ∈ vs) {τ : L2.St} (x : Option V) (h : L2.wipe τ vs = L2.wipe σ vs) : L2.wipe (τ.set i x) vs = L2.wipe σ vs := by
  rw [← h]
  refine List.ext_getElem? fun j => ?_
  rw [wipe_get, wipe_get]
  by_cases hj : j ∈ vs
  · rw [if_pos hj, if_pos hj]
    by_cases e : j = i
    · subst e
      by_cases hl : j < τ.length
      · rw [List.getElem?_set_self hl, List.getElem?_eq_getElem hl]
        rfl
      · rw [List.getElem?_eq_none (by rw [List.length_set]; omega), List.getElem?_eq_none (by omega)]
    · rw [List.getElem?_set_ne (Ne.symm e)]
  · rw [if_neg hj, if_neg hj, List.getElem?_set_ne (fun z : i = j => hj (by rw [← z]; exact hi))]
theorem wipe_wipe {vs : List Nat} : L2.wipe (L2.wipe σ vs) vs = L2.wipe σ vs := by
  refine List.ext_getElem? fun j => ?_
  rw [wipe_get]
  by_cases hj : j ∈ vs
  · rw [if_pos hj, wipe_get, if_pos hj]
    cases σ[j]? <;> rfl
  · rw [if_neg hj]
theorem wipeS_wipeS {vs : List Nat} : wipeS (wipeS st vs) vs = wipeS st vs := by
  refine List.ext_getElem? fun j => ?_
  rw [wipeS_get]
  by_cases hj : j ∈ vs
  · rw [if_pos hj, wipeS_get, if_pos hj]
    cases st[j]? <;> rfl
  · rw [if_neg hj]
/-- a target is given data -/
theorem tg_ok {t : Tg} {d : D} {st1 : List S} {x : V} (r : Rl K G H σ st) (hx : Rp K G x d) (h : setTg st t d = some st1) {Q : L2.St → Hp → Prop}
    (q : ∀ σ', L2.wipe σ' t.slots = L2.wipe σ t.slots → Stp G H σ st G H σ' st1 → Rl K G H σ' st1 → Q σ' H) : gT K t x σ H Q := by
  cases t with
  | nm i =>
    simp only [setTg] at h
    split at h
    · rename_i c
      cases h
      exact q _ (set_wipe (by simp [Tg.slots]) _ rfl) (Stp.setV c) (r.setV hx)
    · cases h
  | two i j =>
    unfold setTg at h
    split at h
    · rename_i e; cases e
    · rename_i i' j' a b e1
      cases e1
      split at h
      · rename_i c1
        dsimp only at h
        split at h
        · rename_i c2
          cases h
          cases hx with
          | tup s1 rs =>
            rename_i p xs
            cases rs with
            | cons ra rs =>
              cases rs with
              | cons rb rs =>
                cases rs
                refine ⟨p, _, rfl, r.sub.sqT s1, rfl, _, _, rfl, _, _, rfl, rfl, ?_⟩
                refine q _ ?_ ((Stp.setV c1).trans (Stp.setV c2)) ((r.setV ra).setV rb)
                exact set_wipe (by simp [Tg.slots]) _ (set_wipe (by simp [Tg.slots]) _ rfl)
        · cases h
      · cases h
    · rename_i e; cases e
    · cases h
  | thr i j l =>
    unfold setTg at h
    split at h
    · rename_i e; cases e
    · rename_i e; cases e
    · rename_i i' j' l' a b c e1
      cases e1
      split at h
      · rename_i c1
        dsimp only at h
        split at h
        · rename_i c2
          split at h
          · rename_i c3
            cases h
            cases hx with
            | tup s1 rs =>
              rename_i p xs
              cases rs with
              | cons ra rs =>
                cases rs with
                | cons rb rs =>
                  cases rs with
                  | cons rc rs =>
                    cases rs
                    refine ⟨p, _, rfl, r.sub.sqT s1, rfl, _, _, rfl, _, _, rfl, _, _, rfl, rfl, ?_⟩
                    refine q _ ?_ (((Stp.setV c1).trans (Stp.setV c2)).trans (Stp.setV c3)) (((r.setV ra).setV rb).setV rc)
                    exact set_wipe (by simp [Tg.slots]) _ (set_wipe (by simp [Tg.slots]) _ (set_wipe (by simp [Tg.slots]) _ rfl))
          · cases h
        · cases h
      · cases h
    · cases h

/-! ### what is walked -/
structure Yld (K : PySem.W.Frag) (G0 : Hp) (J : It) (items : List D) : Prop where
  go : ∀ (i : Nat) (d : D) (G H : Hp), items[i]? = some d → Sub G0 G → Sub G H → J.go i H
  yl : ∀ (i : Nat) (d : D) (G H : Hp) (x : V) (H' : Hp), items[i]? = some d → Sub G0 G → Sub G H → J.yld i H x H' → (H' = H ∧ Rp K G x d) ∨ ∃ p o, H p = none ∧ H' = upd H p o ∧ x = .ref p ∧ Rp K (upd G p o) x d
  st : ∀ (G H : Hp), Sub G0 G → Sub G H → J.stop items.length H
def tWi (K : PySem.W.Frag) (mg : Str → Option Value) (Wx : WX) (f : List S → R (List D)) : TI := fun σ H R =>
  ∃ G st, Rl K G H σ st ∧ Wp K mg Wx (f st) G H σ st fun items _ G' H' => ∀ J, Yld K G' J items → R J H'
theorem PI.to {X : Cx} {tg e : Expr} {t t' : TI} (h : PI X tg e t) (k : ∀ σ H Q, t' σ H Q → t σ H Q) : PI X tg e t' := ⟨fun pins s σ H Q I q => h.run pins s σ H Q I (k σ H Q q)⟩
theorem yld_list {a : Addr} {xs : List V} {ds : List D} (s : SqL K G a xs) (r : Rps K G xs ds) : Yld K G (Itl K a) ds where
  go := fun i d G' H' h s1 s2 => by
    obtain ⟨v, h1, _⟩ := r.get h
    exact ⟨xs, v, (s1.trans s2).sqL s, h1⟩
  yl := fun i d G' H' x H2 h s1 s2 y => by
    obtain ⟨e, y⟩ := y
    obtain ⟨v, h1, h2⟩ := r.get h
    have := y xs ((s1.trans s2).sqL s)
    rw [h1] at this
    cases this
    exact .inl ⟨e, h2.mono s1⟩
  st := fun G' H' s1 s2 => ⟨xs, (s1.trans s2).sqL s, Nat.le_of_eq r.length⟩
theorem yld_tup {a : Addr} {xs : List V} {ds : List D} (s : SqT K G a xs) (r : Rps K G xs ds) : Yld K G (Itt K a) ds where
  go := fun i d G' H' h s1 s2 => by
    obtain ⟨v, h1, _⟩ := r.get h
    exact ⟨xs, v, (s1.trans s2).sqT s, h1⟩
  yl := fun i d G' H' x H2 h s1 s2 y => by
    obtain ⟨e, y⟩ := y
    obtain ⟨v, h1, h2⟩ := r.get h
    have := y xs ((s1.trans s2).sqT s)
    rw [h1] at this
    cases this
    exact .inl ⟨e, h2.mono s1⟩
  st := fun G' H' s1 s2 => ⟨xs, (s1.trans s2).sqT s, Nat.le_of_eq r.length⟩
theorem rngD_get {lo : Int} {n i : Nat} {d : D} (h : (rngD lo n)[i]? = some d) : i < n ∧ d = .int (lo + (i : Int)) := by
  unfold rngD at h
  rw [List.getElem?_map] at h
  cases e : (List.range n)[i]? with
  | none => rw [e] at h; cases h
  | some j =>
    rw [e] at h
    cases h
    obtain ⟨hl, e2⟩ := List.getElem?_eq_some_iff.mp e
    rw [List.getElem_range] at e2
    subst e2
    rw [List.length_range] at hl
    exact ⟨hl, rfl⟩
theorem rngD_len (lo : Int) (n : Nat) : (rngD lo n).length = n := by unfold rngD; rw [List.length_map, List.length_range]
theorem yld_rng (lo : Int) (n : Nat) : Yld K G (Itr lo n) (rngD lo n) where
  go := fun i d _ _ h _ _ => (rngD_get h).1
  yl := fun i d _ _ x H2 h _ _ y => by
    obtain ⟨e, y⟩ := y
    subst y
    rw [(rngD_get h).2]
    exact .inl ⟨e, .int _⟩
  st := fun _ _ _ _ => by rw [rngD_len]; exact Nat.le_refl _
theorem pairs_get : ∀ {l m : List D} {i : Nat} {d : D}, (pairs l m)[i]? = some d → ∃ a b, l[i]? = some a ∧ m[i]? = some b ∧ d = .tup [a, b]
  | x :: l, y :: m, 0, d, h => ⟨x, y, rfl, rfl, (Option.some.inj h).symm⟩
  | x :: l, y :: m, i + 1, d, h => pairs_get (l := l) (m := m) (i := i) h
  | [], _, _, _, h => by simp [pairs] at h
  | _ :: _, [], _, _, h => by simp [pairs] at h
theorem pairs_len : ∀ {l m : List D}, l.length = m.length → (pairs l m).length = l.length
  | [], _, _ => by simp [pairs]
  | x :: l, [], h => by simp at h
  | x :: l, y :: m, h => by
    simp only [pairs, List.length_cons] at h ⊢
    rw [pairs_len (by omega)]
theorem yld_zipL {a b : Addr} {xs ys : List V} {ds es : List D} (s : SqL K G a xs) (t : SqL K G b ys) (r : Rps K G xs ds) (q : Rps K G ys es) (hl : ds.length = es.length) : Yld K G (Itz K a b) (pairs ds es) where
  go := fun i d G' H' h s1 s2 => by
    obtain ⟨u, v, e1, e2, _⟩ := pairs_get h
    obtain ⟨x, h1, _⟩ := r.get e1
    obtain ⟨y, h2, _⟩ := q.get e2
    exact ⟨xs, ys, x, y, (s1.trans s2).sqL s, (s1.trans s2).sqL t, h1, h2⟩
  yl := fun i d G' H' x H2 h s1 s2 y => by
    obtain ⟨u, v, e1, e2, rfl⟩ := pairs_get h
    obtain ⟨x1, h1, k1⟩ := r.get e1
    obtain ⟨y1, h2, k2⟩ := q.get e2
    obtain ⟨T, x2, y2, ex, hn, eh, f1, f2⟩ := y
    have a1 := f1 xs ((s1.trans s2).sqL s)
    have a2 := f2 ys ((s1.trans s2).sqL t)
    rw [h1] at a1
    rw [h2] at a2
    cases a1
    cases a2
    have gn : G' T = none := by
      cases e : G' T with
      | none => rfl
      | some o => rw [s2 T o e] at hn; cases hn
    subst ex
    exact .inr ⟨T, _, hn, eh, rfl, .tup (.inl (.inl upd_same)) (.cons (k1.mono (s1.trans (sub_upd gn))) (.cons (k2.mono (s1.trans (sub_upd gn))) .nil))⟩
  st := fun G' H' s1 s2 => ⟨xs, ys, (s1.trans s2).sqL s, (s1.trans s2).sqL t, .inl (by rw [pairs_len hl, r.length]; exact Nat.le_refl _)⟩
theorem yld_zipT {a b : Addr} {xs ys : List V} {ds es : List D} (s : SqT K G a xs) (t : SqT K G b ys) (r : Rps K G xs ds) (q : Rps K G ys es) (hl : ds.length = es.length) : Yld K G (ItzT K a b) (pairs ds es) where
  go := fun i d G' H' h s1 s2 => by
    obtain ⟨u, v, e1, e2, _⟩ := pairs_get h
    obtain ⟨x, h1, _⟩ := r.get e1
    obtain ⟨y, h2, _⟩ := q.get e2
    exact ⟨xs, ys, x, y, (s1.trans s2).sqT s, (s1.trans s2).sqT t, h1, h2⟩
  yl := fun i d G' H' x H2 h s1 s2 y => by
    obtain ⟨u, v, e1, e2, rfl⟩ := pairs_get h
    obtain ⟨x1, h1, k1⟩ := r.get e1
    obtain ⟨y1, h2, k2⟩ := q.get e2
    obtain ⟨T, x2, y2, ex, hn, eh, f1, f2⟩ := y
    have a1 := f1 xs ((s1.trans s2).sqT s)
    have a2 := f2 ys ((s1.trans s2).sqT t)
    rw [h1] at a1
    rw [h2] at a2
    cases a1
    cases a2
    have gn : G' T = none := by
      cases e : G' T with
      | none => rfl
      | some o => rw [s2 T o e] at hn; cases hn
    subst ex
    exact .inr ⟨T, _, hn, eh, rfl, .tup (.inl (.inl upd_same)) (.cons (k1.mono (s1.trans (sub_upd gn))) (.cons (k2.mono (s1.trans (sub_upd gn))) .nil))⟩
  st := fun G' H' s1 s2 => ⟨xs, ys, (s1.trans s2).sqT s, (s1.trans s2).sqT t, .inl (by rw [pairs_len hl, r.length]; exact Nat.le_refl _)⟩
theorem numbered_get : ∀ {l : List D} {n i : Nat} {d : D}, (numbered n l)[i]? = some d → ∃ a, l[i]? = some a ∧ d = .tup [.int ((n + i : Nat) : Int), a]
  | x :: l, n, 0, d, h => ⟨x, rfl, (Option.some.inj h).symm⟩
  | x :: l, n, i + 1, d, h => by
    obtain ⟨a, h1, h2⟩ := numbered_get (l := l) (n := n + 1) (i := i) h
    exact ⟨a, h1, by rw [h2, Nat.add_right_comm n 1 i]; rfl⟩
  | [], _, _, _, h => by simp [numbered] at h
theorem numbered_len : ∀ (l : List D) (n : Nat), (numbered n l).length = l.length
  | [], _ => rfl
  | x :: l, n => by simp only [numbered, List.length_cons]; rw [numbered_len l (n + 1)]
theorem yld_enmL {a : Addr} {xs : List V} {ds : List D} (s : SqL K G a xs) (r : Rps K G xs ds) : Yld K G (Ite K a) (numbered 0 ds) where
  go := fun i d G' H' h s1 s2 => by
    obtain ⟨u, e1, _⟩ := numbered_get h
    obtain ⟨x, h1, _⟩ := r.get e1
    exact ⟨xs, x, (s1.trans s2).sqL s, h1⟩
  yl := fun i d G' H' x H2 h s1 s2 y => by
    obtain ⟨u, e1, rfl⟩ := numbered_get h
    obtain ⟨x1, h1, k1⟩ := r.get e1
    obtain ⟨T, x2, ex, hn, eh, f1⟩ := y
    have a1 := f1 xs ((s1.trans s2).sqL s)
    rw [h1] at a1
    cases a1
    have gn : G' T = none := by
      cases e : G' T with
      | none => rfl
      | some o => rw [s2 T o e] at hn; cases hn
    subst ex
    refine .inr ⟨T, _, hn, eh, rfl, .tup (.inl (.inl upd_same)) (.cons ?_ (.cons (k1.mono (s1.trans (sub_upd gn))) .nil))⟩
    rw [Nat.zero_add]
    exact .int _
  st := fun G' H' s1 s2 => ⟨xs, (s1.trans s2).sqL s, by rw [numbered_len, r.length]; exact Nat.le_refl _⟩
end
end SG
/-! Sg7: comprehensions. -/
namespace SG
open PySem L2 PyProof.Rows

section
variable {K : PySem.W.Frag} {mg : Str → Option Value} {Wx : WX} {G H G' H' : Hp} {σ σ' : L2.St} {st st' : List S}
theorem Stp.wipeR {vs : List Nat} (p : Stp G H (wipe σ vs) (wipeS st vs) G' H' σ' st') (hw : wipe σ' vs = wipe σ vs) : Stp G H (wipe σ vs) (wipeS st vs) G' H' (wipe σ vs) (wipeS st' vs) := by
  refine ⟨p.kp, p.gr, p.old, fun b h => p.ow b (own_wipe (by rw [hw]; exact h)), p.nv, fun i ds h => ⟨rfl, ?_⟩⟩
  have hi : i ∉ vs := fun z => by
    rw [wipeS_get, if_pos z] at h
    cases e : st[i]? with
    | none => rw [e] at h; cases h
    | some s => rw [e] at h; cases h
  obtain ⟨_, es, h2⟩ := p.bor i ds h
  exact ⟨es, by rw [wipeS_get, if_neg hi]; exact h2⟩
theorem Stp.poke (p : Stp G H σ st G' H' σ' st') {a : Addr} {o : HO} (ha : H a = none) : Stp G H σ st G' (upd H' a o) σ' st' := by
  have ne : ∀ b, H b ≠ none → b ≠ a := fun b h z => by subst z; exact h ha
  refine ⟨fun b u h n => ?_, p.gr, p.old, p.ow, fun b h => ?_, p.bor⟩
  · rw [upd_ne (ne b (by rw [h]; exact fun z => nomatch z))]
    exact p.kp b u h n
  · rw [upd_ne (ne b h)]
    exact p.nv b h
/-- what stands aside through a step: a list in the making -/
structure Aside (G H : Hp) (σ : L2.St) (st : List S) (a : Addr) (o : HO) : Prop where
  h : H a = some o
  g : G a = none
  n : ¬ Owned σ st a
theorem Aside.step {a : Addr} {o : HO} (x : Aside G H σ st a o) (p : Stp G H σ st G' H' σ' st') : Aside G' H' σ' st' a o := by
  have hn : H a ≠ none := by rw [x.h]; exact fun z => nomatch z
  refine ⟨p.kp a o x.h x.n, ?_, fun z => ?_⟩
  · rw [p.old a hn x.n]; exact x.g
  · rcases p.ow a z with q | q
    · exact x.n q
    · exact hn q
abbrev W0 : WX := fun _ _ _ _ => False
def tIfs (K : PySem.W.Frag) (mg : Str → Option Value) : EO → TT
  | .no => tYes
  | .yes e => tWt K mg W0 (evT e)
abbrev tstOf (c : EO) : List S → R Bool := fun s => evC c s
abbrev eltOf (e : E) : List S → R D := fun s => frzR (evE e s)
theorem evF_comp (t : Tg) (it : IT) (c : EO) (e : E) (st : List S) : evF (.comp t it c e) st = bnd (evI it st) fun items s1 => if t.slots.all (plainAt s1) && decide (items.length ≤ 100000) then
      match turns t (tstOf c) (eltOf e) items s1 with
      | some (.ok ds, s2) => ok ds (restore s1 s2 t.slots)
      | _ => none
    else none := by rw [evF] <;> rfl
/-- where a comprehension stands ahead of a turn -/
def Mid (K : PySem.W.Frag) (t : Tg) (c : EO) (e : E) (items ds : List D) (s2 : List S) (G1 H1 : Hp) (σ : L2.St) (s1 : List S) (Dn : Addr) (i : Nat) (H' : Hp) : Prop :=
  ∃ (G' : Hp) (st' : List S) (done rest : List D) (acc : List V), Rl K G' H' (wipe σ t.slots) (wipeS st' t.slots) ∧ Stp G1 H1 (wipe σ t.slots) (wipeS s1 t.slots) G' H' (wipe σ t.slots) (wipeS st' t.slots) ∧
    Aside G' H' (wipe σ t.slots) (wipeS st' t.slots) Dn (.lst acc) ∧ Rps K G' acc done ∧ done.length ≤ i ∧ turns t (tstOf c) (eltOf e) (items.drop i) st' = some (.ok rest, s2) ∧ ds = done ++ rest
theorem mid_next {t : Tg} {c : EO} {e : E} {items ds : List D} {s2 s1 : List S} {G1 H1 : Hp} {Dn : Addr} {i : Nat} {d : D} (hn : H1 Dn = none) (hd : items[i]? = some d) (hi : items.length ≤ 100000) {J : It} (y : Yld K G1 J items)
    (m : Mid K t c e items ds s2 G1 H1 σ s1 Dn i H') {x : V} {H2 : Hp} (yy : J.yld i H' x H2) :
    gT K t x (wipe σ t.slots) H2 fun σ2 H3 => wipe σ2 t.slots = wipe σ t.slots ∧ tIfs K mg c σ2 H3 fun b H4 =>
      if b = true then tW K mg W0 (evE e) σ2 H4 fun v H5 => ∃ acc, H5 Dn = some (.lst acc) ∧ acc.length < sizeLine ∧ Mid K t c e items ds s2 G1 H1 σ s1 Dn (i + 1) (upd H5 Dn (.lst (acc ++ [v]))) else Mid K t c e items ds s2 G1 H1 σ s1 Dn (i + 1) H4 := by
  obtain ⟨G', st', done, rest, acc, r, p, a, rp, hl, ht, hds⟩ := m
  have hdrop : items.drop i = d :: items.drop (i + 1) := by
    obtain ⟨h1, h2⟩ := List.getElem?_eq_some_iff.mp hd
    rw [List.drop_eq_getElem_cons h1, h2]
  rw [hdrop] at ht
  have hil : i < items.length := lt_of_get hd
  -- the item has come
  obtain ⟨G2, p2, r2, hx⟩ : ∃ G2, Stp G' H' (wipe σ t.slots) (wipeS st' t.slots) G2 H2 (wipe σ t.slots) (wipeS st' t.slots) ∧ Rl K G2 H2 (wipe σ t.slots) (wipeS st' t.slots) ∧ Rp K G2 x d := by
    rcases y.yl i d G' H' x H2 hd p.gr r.sub yy with ⟨e1, e2⟩ | ⟨q, o, e1, e2, e3, e4⟩
    · subst e1
      exact ⟨G', .refl, r, e2⟩
    · subst e2
      exact ⟨_, Stp.newF r o e1, r.newF o e1, e4⟩
  unfold turns at ht
  split at ht
  · cases ht
  · rename_i s1' hset
    refine tg_ok r2 hx hset fun σ2 hw p3 r3 => ?_
    rw [wipe_wipe] at hw
    refine ⟨hw, ?_⟩
    have p23 := p2.trans p3
    have a3 := a.step p23
    -- behind the turn, whatever it gave
    have fin : ∀ {G5 H5 : Hp} {s5 : List S} {d5 : List D} {v5 : List V} {rest5 : List D}, Stp G2 H2 σ2 s1' G5 H5 σ2 s5 → Rl K G5 H5 σ2 s5 → Rps K G5 v5 d5 → d5.length ≤ 1 → turns t (tstOf c) (eltOf e) (items.drop (i + 1)) s5 = some (.ok rest5, s2) → rest = d5 ++ rest5 →
        Mid K t c e items ds s2 G1 H1 σ s1 Dn (i + 1) (upd H5 Dn (.lst (acc ++ v5))) := fun {G5 H5 s5 d5 v5 rest5} p5 r5 rv hz ht5 he => by
      have a5 := a3.step p5
      have pw := (p23.trans p5).wipeR hw
      have rw5 : Rl K G5 H5 (wipe σ t.slots) (wipeS s5 t.slots) := by
        have := r5.wipe (vs := t.slots)
        rw [hw] at this
        exact this
      have aw := a.step pw
      refine ⟨G5, s5, done ++ d5, rest5, acc ++ v5, rw5.poke _ aw.g aw.n, (p.trans pw).poke hn, ⟨upd_same, aw.g, aw.n⟩, (rp.mono pw.gr).append rv, ?_, ht5, ?_⟩
      · rw [List.length_append]; omega
      · rw [hds, he, List.append_assoc]
    have keep : ∀ {G5 H5 : Hp} {s5 : List S}, Stp G2 H2 σ2 s1' G5 H5 σ2 s5 → upd H5 Dn (.lst (acc ++ [])) = H5 := fun {G5 H5 s5} p5 => by
      have a5 := a3.step p5
      funext b
      by_cases hb : b = Dn
      · subst hb; rw [upd_same, List.append_nil, a5.h]
      · rw [upd_ne hb]
    -- the test
    have tst : ∀ {Q : Bool → Hp → Prop}, (∀ b s3 G4 H4, tstOf c s1' = some (.ok b, s3) → Stp G2 H2 σ2 s1' G4 H4 σ2 s3 → Rl K G4 H4 σ2 s3 → Q b H4) → tIfs K mg c σ2 H2 Q := fun {Q} q => by
      cases c with
      | no => exact q true s1' G2 H2 rfl .refl r3
      | yes ee =>
        refine ⟨G2, s1', r3, ?_⟩
        have ht' := ht
        match e1 : evT ee s1' with
        | none => rw [show tstOf (.yes ee) s1' = none from e1] at ht'; cases ht'
        | some (.error z, s3) => rw [show tstOf (.yes ee) s1' = some (.error z, s3) from e1] at ht'; cases ht'
        | some (.ok b, s3) => exact fun G4 H4 p4 r4 => q b s3 G4 H4 e1 p4 r4
    refine tst fun b s3 G4 H4 etst p4 r4 => ?_
    rw [etst] at ht
    cases b with
    | false =>
      have ht : turns t (tstOf c) (eltOf e) (items.drop (i + 1)) s3 = some (.ok rest, s2) := ht
      have := fin (v5 := []) (d5 := []) p4 r4 .nil (Nat.zero_le _) ht rfl
      rw [keep p4] at this
      exact this
    | true =>
      show tW K mg W0 (evE e) σ2 H4 _
      dsimp only at ht
      split at ht
      · rename_i d5 s5 eelt
        split at ht
        · rename_i rest5 s6 eturn
          cases ht
          refine ⟨G4, s3, r4, ?_⟩
          unfold eltOf frzR at eelt
          match e1 : evE e s3, eelt with
          | some (.ok w, s4), eelt =>
            intro G5 H5 p5 r5 v hv
            simp only [bnd] at eelt
            split at eelt
            · rename_i dd ss efrz
              cases eelt
              obtain ⟨G6, p6, r6, hv6⟩ := frz_ok r5 hv efrz
              have a6 := a3.step (p4.trans (p5.trans p6))
              refine ⟨acc, a6.h, ?_, fin ((p4.trans p5).trans p6) r6 (.one hv6) (by simp) eturn rfl⟩
              have := rp.length
              rw [sizeLine_eq]
              omega
            · cases eelt
          | some (.error z, s4), eelt => cases eelt
          | none, eelt => cases eelt
        · cases ht
      · cases ht
theorem comp_le {t : Tg} {it : IT} {c : EO} {e : E} : ∀ σ H Q, tWf K mg Wx (evF (.comp t it c e)) σ H Q → tLc (tWi K mg Wx (evI it)) (gT K t) (tIfs K mg c) (tW K mg W0 (evE e)) t.slots σ H Q := fun σ H Q hq => by
  obtain ⟨G, st, r, h⟩ := hq
  rw [evF_comp] at h
  refine ⟨G, st, r, h.bnd.imp fun items s1 G1 H1 e1 p1 r1 h1 => ?_⟩
  intro J y Dn hDn
  split at h1
  · rename_i cond
    rw [Bool.and_eq_true] at cond
    have hp := cond.1
    have hlen := of_decide_eq_true cond.2
    split at h1
    · rename_i ds s2 eturn
      refine ⟨fun i m H' => m = items.length - i ∧ i ≤ items.length ∧ Mid K t c e items ds s2 G1 H1 σ s1 Dn i H', ⟨_, rfl, Nat.zero_le _, ?_⟩, ?_⟩
      · have rw1 := r1.wipe (vs := t.slots)
        refine ⟨G1, s1, [], ds, [], rw1.newO _ hDn, Stp.newO rw1 _ hDn, ⟨upd_same, r1.G_none hDn, fun z => r1.notOwned_of_fresh hDn (own_wipe z)⟩, .nil, Nat.zero_le _, eturn, rfl⟩
      · rintro i m H' ⟨rfl, hi, md⟩
        by_cases hlt : i < items.length
        · obtain ⟨d, hd⟩ : ∃ d, items[i]? = some d := ⟨items[i], List.getElem?_eq_getElem hlt⟩
          refine .inr ⟨?_, Mid K t c e items ds s2 G1 H1 σ s1 Dn (i + 1), fun H2 m2 => ⟨items.length - (i + 1), by omega, rfl, hlt, m2⟩, fun x H2 yy => mid_next hDn hd hlen y md yy⟩
          obtain ⟨G', st', _, _, _, r', p', _⟩ := md
          exact y.go i d G' H' hd p'.gr r'.sub
        · have hie : i = items.length := by omega
          subst hie
          obtain ⟨G', st', done, rest, acc, r', p', a', rp, hl, ht', hds⟩ := md
          rw [List.drop_length] at ht'
          have ht' : some (Except.ok ([] : List D), st') = some (Except.ok rest, s2) := ht'
          cases ht'
          rw [List.append_nil] at hds
          subst hds
          refine .inl ⟨y.st G' H' p'.gr r'.sub, ?_⟩
          have hl2 : s1.length = s2.length := by
            have := r'.len
            rw [wipeS_len, wipe_length] at this
            rw [r1.len, this]
          have pb := Stp.back hl2 hp p'
          have rb := Rl.back r1 hp p'.gr r'
          refine h1 G' H' pb rb (.ref Dn) ⟨Dn, acc, rfl, ?_, a'.g, a'.h, rp, fun z => a'.n (own_back hl2 hp z)⟩
          refine Classical.byContradiction fun z => ?_
          exact p1.nv Dn z hDn
    · exact h1.elim
  · exact h1.elim
theorem comp_ok {X : Cx} {k : Nat} {t : Tg} {it : IT} {c : EO} {e : E} {elt tg iter : Expr} {ifs : List Expr} {scope : Scope} {own : List (Str × Nat)} {pos : Pos} (am : Amb X k) (hi : PI X tg iter (tWi X.K X.mg Wx (evI it))) (okb : BlkOk X.N X.env.scope scope own)
    (hown : own.map (·.2) = t.slots)
    (hg : ∀ (s : Shared) (H : Hp) (C : Addr) (cl : List (Str × Addr)) (fp : List Addr), PG (X.blk s H scope (compEnvC scope cl C X.env) fp) tg (gT X.K t))
    (ht : ∀ (s : Shared) (H : Hp) (C : Addr) (cl : List (Str × Addr)) (fp : List Addr), PTs (X.blk s H scope (compEnvC scope cl C X.env) fp) ifs (tIfs X.K X.mg c))
    (he : ∀ (s : Shared) (H : Hp) (C : Addr) (cl : List (Str × Addr)) (fp : List Addr), PE (X.blk s H scope (compEnvC scope cl C X.env) fp) elt (tW X.K X.mg W0 (evE e))) (hs : ∀ x, foldedSetIterable iter X.env x = pure x) :
    PE X (.ListComp elt [⟨tg, iter, ifs, 0⟩] scope pos) (tWf X.K X.mg Wx (evF (.comp t it c e))) := by
  have base := pe_lc (pos := pos) am.calm am.nd hi okb hg ht he hs
  rw [hown] at base
  exact PE.to base comp_le
end
end SG
/-! Sg8: calls. -/
namespace SG
open PySem L2 PyProof.Rows

section
variable {K : PySem.W.Frag} {mg : Str → Option Value} {Wx : WX} {G H G' H' : Hp} {σ : L2.St} {st : List S}
theorem argS_no (ds : List D) : argS false [] ds = ds.map .val := rfl
theorem argS_ye (es ds : List D) : argS true es ds = .own true es :: ds.map .val := rfl
theorem vals_get {ds : List D} {i : Nat} {s : S} (h : (ds.map S.val)[i]? = some s) : ∃ d, ds[i]? = some d ∧ s = .val d := by
  rw [List.getElem?_map] at h
  cases e : ds[i]? with
  | none => rw [e] at h; cases h
  | some d => rw [e] at h; exact ⟨d, rfl, (Option.some.inj h).symm⟩
theorem vals_getS {s0 : S} {ds : List D} {i : Nat} {s : S} (h : (s0 :: ds.map S.val)[i + 1]? = some s) : ∃ d, ds[i]? = some d ∧ s = .val d := by
  rw [List.getElem?_cons_succ] at h
  exact vals_get h
/-- arguments without a lent list -/
theorem Rl.args (hs : Sub G H) {vs : List V} {ds : List D} (r : Rps K G vs ds) : Rl K G H (vs.map some) (ds.map .val) := by
  refine ⟨hs, by rw [List.length_map, List.length_map, r.length], fun i d h => ?_, fun i m es h => ?_, fun i j m es n fs hij h1 h2 => ?_⟩
  · obtain ⟨d', h1, e⟩ := vals_get h
    cases e
    obtain ⟨v, h2, h3⟩ := r.get h1
    exact ⟨v, by rw [List.getElem?_map, h2]; rfl, h3⟩
  · obtain ⟨d', _, e⟩ := vals_get h
    cases e
  · obtain ⟨d', _, e⟩ := vals_get h1
    cases e
theorem not_owned_vals {vs : L2.St} {ds : List D} {b : Addr} : ¬ Owned vs (ds.map .val) b := fun ⟨i, m, es, h1, _⟩ => by
  obtain ⟨d', _, e⟩ := vals_get h1
  cases e
/-- .. with a lent list -/
theorem Rl.argsL {a : Addr} {xs : List V} {es : List D} (hs : Sub G H) (hg : G a = none) (ha : H a = some (.lst xs)) (hx : Rps K G xs es) {vs : List V} {ds : List D} (r : Rps K G vs ds) :
    Rl K G H ((.ref a :: vs).map some) (.own true es :: ds.map .val) := by
  refine ⟨hs, by rw [List.length_map, List.length_cons, List.length_cons, List.length_map, r.length], fun i d h => ?_, fun i m fs h => ?_, fun i j m fs n gs hij h1 h2 => ?_⟩
  · cases i with
    | zero => cases h
    | succ i =>
      obtain ⟨d', h1, e⟩ := vals_getS h
      cases e
      obtain ⟨v, h2, h3⟩ := r.get h1
      refine ⟨v, ?_, h3⟩
      rw [List.map_cons, List.getElem?_cons_succ, List.getElem?_map, h2]
      rfl
  · cases i with
    | zero =>
      cases h
      exact ⟨a, xs, rfl, hg, ha, hx⟩
    | succ i =>
      obtain ⟨d', _, e⟩ := vals_getS h
      cases e
  · cases i with
    | zero =>
      cases j with
      | zero => exact absurd rfl hij
      | succ j =>
        obtain ⟨d', _, e⟩ := vals_getS h2
        cases e
    | succ i =>
      obtain ⟨d', _, e⟩ := vals_getS h1
      cases e
theorem owned_lent {a b : Addr} {vs : List V} {es ds : List D} (h : Owned ((V.ref a :: vs).map some) (.own true es :: ds.map .val) b) : b = a := by
  obtain ⟨i, m, fs, h1, h2⟩ := h
  cases i with
  | zero =>
    have h2 : some (some (V.ref a)) = some (some (V.ref b)) := h2
    cases h2
    rfl
  | succ i =>
    obtain ⟨d', _, e⟩ := vals_getS h1
    cases e
/-- behind a call that lent nothing -/
theorem Rl.over (r : Rl K G H σ st) (hs : Sub G' H') (kp : ∀ b o, H b = some o → H' b = some o) (gr : Sub G G') (old : ∀ b, H b ≠ none → G' b = G b) : Rl K G' H' σ st ∧ Stp G H σ st G' H' σ st := by
  refine ⟨⟨hs, r.len, fun i d h => ?_, fun i m ds h => ?_, r.sep⟩, ⟨fun b o h _ => kp b o h, gr, fun b h _ => old b h, fun b h => .inl h, fun b h => ?_, fun i ds h => ⟨rfl, ds, h⟩⟩⟩
  · obtain ⟨v, h1, h2⟩ := r.val i d h
    exact ⟨v, h1, h2.mono gr⟩
  · obtain ⟨a, xs, h1, h2, h3, h4⟩ := r.own i m ds h
    exact ⟨a, xs, h1, by rw [old a (by rw [h3]; exact fun z => nomatch z)]; exact h2, kp a _ h3, h4.mono gr⟩
  · cases e : H b with
    | none => exact absurd e h
    | some o => rw [kp b o e]; exact fun z => nomatch z
/-- behind a call that was lent the list of slot i -/
theorem Rl.lent (r : Rl K G H σ st) {i : Nat} {m : Bool} {es es' : List D} {a : Addr} {xs : List V} (hi : st[i]? = some (.own m es)) (ha : σ[i]? = some (some (.ref a))) (hs : Sub G' H') (kp : ∀ b o, b ≠ a → H b = some o → H' b = some o) (gr : Sub G G')
    (old : ∀ b, b ≠ a → H b ≠ none → G' b = G b) (hg : G' a = none) (hx : H' a = some (.lst xs)) (rx : Rps K G' xs es') : Rl K G' H' σ (st.set i (.own m es')) ∧ Stp G H σ st G' H' σ (st.set i (.own m es')) := by
  have ho : Owned σ st a := ⟨i, m, es, hi, ha⟩
  have ne : ∀ (j : Nat) (n : Bool) (ds : List D) (c : Addr), j ≠ i → st[j]? = some (.own n ds) → σ[j]? = some (some (.ref c)) → c ≠ a := fun j n ds c hj h1 h2 z => by
    subst z
    exact r.sep j i n ds m es hj h1 hi (h2.trans ha.symm)
  refine ⟨⟨hs, by rw [List.length_set]; exact r.len, fun j d h => ?_, fun j n ds h => ?_, fun j l n ds q fs hjl h1 h2 => ?_⟩, ⟨fun b o h n => kp b o (fun z => n (by rw [z]; exact ho)) h, gr, fun b h n => old b (fun z => n (by rw [z]; exact ho)) h, fun b ⟨j, n, ds, h1, h2⟩ => ?_, fun b h => ?_, fun j ds h => ?_⟩⟩
  · rcases set_get h with ⟨_, _, e⟩ | ⟨hj, h⟩
    · cases e
    · obtain ⟨v, h1, h2⟩ := r.val j d h
      exact ⟨v, h1, h2.mono gr⟩
  · rcases set_get h with ⟨rfl, _, e⟩ | ⟨hj, h⟩
    · cases e
      exact ⟨a, xs, ha, hg, hx, rx⟩
    · obtain ⟨c, zs, h1, h2, h3, h4⟩ := r.own j n ds h
      have nc := ne j n ds c hj h h1
      exact ⟨c, zs, h1, by rw [old c nc (by rw [h3]; exact fun z => nomatch z)]; exact h2, kp c _ nc h3, h4.mono gr⟩
  · have back : ∀ {j : Nat} {n : Bool} {ds : List D}, (st.set i (.own m es'))[j]? = some (.own n ds) → ∃ n' ds', st[j]? = some (.own n' ds') := fun {j n ds} h => by
      rcases set_get h with ⟨rfl, _, _⟩ | ⟨_, h⟩
      · exact ⟨m, es, hi⟩
      · exact ⟨n, ds, h⟩
    obtain ⟨_, _, k1⟩ := back h1
    obtain ⟨_, _, k2⟩ := back h2
    exact r.sep j l _ _ _ _ hjl k1 k2
  · rcases set_get h1 with ⟨rfl, _, _⟩ | ⟨_, h1⟩
    · exact .inl ⟨_, m, es, hi, h2⟩
    · exact .inl ⟨j, n, ds, h1, h2⟩
  · by_cases hb : b = a
    · subst hb; rw [hx]; exact fun z => nomatch z
    · cases e : H b with
      | none => exact absurd e h
      | some o => rw [kp b o hb e]; exact fun z => nomatch z
  · by_cases hj : j = i
    · subst hj
      rw [hi] at h
      cases h
      exact ⟨rfl, es', List.getElem?_set_self (lt_of_get hi)⟩
    · exact ⟨rfl, ds, by rw [List.getElem?_set_ne (Ne.symm hj)]; exact h⟩

/-- a call by the promise: what is asked of it -/
theorem call_sp {g : Fn} {f : Fn} {dvs : List V} {dfl : List D} {E : XK} {Q : VK} {ws : List W} {vs : List V} (hdf : Rps K (fun _ => none) dvs dfl) (hrun : ∀ es as, f.run es as = g.run es (as ++ dfl)) (hl : f.lend = g.lend) (hm : f.many + dfl.length = g.many)
    (r : Rl K G H σ st) (hv : Vws K G σ vs ws) (k : D → List S → Hp → Hp → Prop) (kx : ∀ x s1 cls dx G' H', callD f ws st = some (.error x, s1) → Stp G H σ st G' H' σ s1 → Rl K G' H' σ s1 → ErrOk K mg G' H' cls dx x → E cls dx H')
    (h : ∃ o, callD f ws st = some o)
    (hq : ∀ d s1 v G' H', callD f ws st = some (.ok d, s1) → Stp G H σ st G' H' σ s1 → Rl K G' H' σ s1 → RetOk K G H G' H' g.fresh v d → (∀ a, H a = none → ¬ Owned σ s1 a) → Q v H') : spFn K mg g (vs ++ dvs) H Q E := by
  obtain ⟨o, ho⟩ := h
  have hd : ∀ G, Rps K G dvs dfl := fun G => hdf.mono (fun b o z => by cases z)
  have ho' := ho
  unfold callD at ho
  split at ho
  · rename_i e0
    split at ho
    · cases ho
    · rename_i ds s1 efr
      split at ho
      · rename_i hlen
        split at ho
        · cases ho
        · rename_i res es' erun
          cases ho
          obtain ⟨G2, p2, r2, rp⟩ := frzs_ok r hv efr
          refine ⟨G2, [], ds ++ dfl, ?_, ?_, ?_⟩
          · rw [← hl, e0, argS_no]
            exact Rl.args r2.sub (rp.append (hd G2))
          · rw [← hl, e0, argS_no, List.length_map, List.length_append]
            omega
          · rw [← hrun, erun]
            have step : ∀ {G' H' : Hp} {zs : List D}, Stp G2 H ((vs ++ dvs).map some) (argS g.lend [] (ds ++ dfl)) G' H' ((vs ++ dvs).map some) (argS g.lend zs (ds ++ dfl)) → Rl K G' H' ((vs ++ dvs).map some) (argS g.lend zs (ds ++ dfl)) →
                Rl K G' H' σ s1 ∧ Stp G H σ st G' H' σ s1 := fun {G' H' zs} p' r' => by
              rw [← hl, e0, argS_no] at p'
              obtain ⟨a1, a2⟩ := r2.over r'.sub (fun b o h => p'.kp b o h not_owned_vals) p'.gr (fun b h => p'.old b h not_owned_vals)
              exact ⟨a1, p2.trans a2⟩
            match res with
            | .ok d =>
              intro v G' H' p' r' ret
              obtain ⟨a1, a2⟩ := step p' r'
              refine hq d s1 v G' H' ho' a2 a1 ?_ fun a ha => r2.notOwned_of_fresh ha
              unfold RetOk at ret ⊢
              split
              · rename_i e; rw [e] at ret; exact ret
              · rename_i e; rw [e] at ret; exact ret
            | .error x =>
              intro cls dx G' H' p' r' ee
              obtain ⟨a1, a2⟩ := step p' r'
              exact kx x s1 cls dx G' H' ho' a2 a1 ee
      · cases ho
  · rename_i e0
    split at ho
    · rename_i i rr
      cases vs with
      | nil => exact hv.elim
      | cons v0 vr =>
        have hv0 : σ[i]? = some (some v0) := hv.1
        split at ho
        · cases ho
        · rename_i ds s1 efr
          split at ho
          · rename_i hlen
            split at ho
            · rename_i m es eown
              split at ho
              · cases ho
              · rename_i res es' erun
                cases ho
                obtain ⟨G2, p2, r2, rp⟩ := frzs_ok r hv.2 efr
                obtain ⟨a, xs, ea, ga, ha, rx⟩ := r2.own i m es eown
                rw [hv0] at ea
                cases ea
                refine ⟨G2, es, ds ++ dfl, ?_, ?_, ?_⟩
                · rw [← hl, e0, argS_ye]
                  exact Rl.argsL r2.sub ga ha rx (rp.append (hd G2))
                · rw [← hl, e0, argS_ye, List.length_cons, List.length_map, List.length_append]
                  omega
                · rw [← hrun, erun]
                  have step : ∀ {G' H' : Hp}, Stp G2 H ((V.ref a :: vr ++ dvs).map some) (argS g.lend es (ds ++ dfl)) G' H' ((V.ref a :: vr ++ dvs).map some) (argS g.lend es' (ds ++ dfl)) → Rl K G' H' ((V.ref a :: vr ++ dvs).map some) (argS g.lend es' (ds ++ dfl)) →
                      Rl K G' H' σ (s1.set i (.own m es')) ∧ Stp G H σ st G' H' σ (s1.set i (.own m es')) := fun {G' H'} p' r' => by
                    rw [← hl, e0, argS_ye] at p'
                    rw [← hl, e0, argS_ye] at r'
                    obtain ⟨a', xs', b1, b2, b3, b4⟩ := r'.own 0 true es' rfl
                    have b1 : some (some (V.ref a)) = some (some (V.ref a')) := b1
                    cases b1
                    obtain ⟨a1, a2⟩ := r2.lent eown hv0 r'.sub (fun b o hb h => p'.kp b o h fun z => hb (owned_lent z)) p'.gr (fun b hb h => p'.old b h fun z => hb (owned_lent z)) b2 b3 b4
                    exact ⟨a1, p2.trans a2⟩
                  match res with
                  | .ok d =>
                    intro v G' H' p' r' ret
                    obtain ⟨a1, a2⟩ := step p' r'
                    refine hq d _ v G' H' ho' a2 a1 ?_ fun b hb ow => ?_
                    · unfold RetOk at ret ⊢
                      split
                      · rename_i e; rw [e] at ret; exact ret
                      · rename_i e; rw [e] at ret; exact ret
                    · obtain ⟨j, n, fs, h1, h2⟩ := ow
                      refine r2.notOwned_of_fresh hb ?_
                      rcases set_get h1 with ⟨rfl, _, _⟩ | ⟨_, h1⟩
                      · exact ⟨_, m, es, eown, h2⟩
                      · exact ⟨j, n, fs, h1, h2⟩
                  | .error x =>
                    intro cls dx G' H' p' r' ee
                    obtain ⟨a1, a2⟩ := step p' r'
                    exact kx x _ cls dx G' H' ho' a2 a1 ee
            · cases ho
          · cases ho
    · cases ho
end
end SG
/-! Sg9: expressions are sound. -/
namespace SG
open PySem L2 PyProof.Rows RZ

section
variable {K : PySem.W.Frag} {mg : Str → Option Value} {Wx : WX} {G H G' H' : Hp} {σ : L2.St} {st : List S}
theorem tW_1 {f : List S → R W} {kf : W → List S → R W} {r1 : V → Hp → VK → Prop}
    (leaf : ∀ {G H : Hp} {σ : L2.St} {st : List S} {x : W} {v : V} {Q : VK}, Rl K G H σ st → Vw K G σ v x → Wp K mg Wx (kf x st) G H σ st (fun w _ G' H' => ∀ v, Vw K G' σ v w → Q v H') → r1 v H Q) :
    ∀ σ H Q, tW K mg Wx (fun st => bnd (f st) kf) σ H Q → tW K mg Wx f σ H fun v H1 => r1 v H1 Q := fun σ H Q ⟨G, st, r, h⟩ =>
  ⟨G, st, r, h.bnd.imp fun _ _ _ _ _ _ r1 h1 _ hv => leaf r1 hv h1⟩
theorem tW_2 {f g : List S → R W} {kf : W → W → List S → R W} {r2 : R2}
    (leaf : ∀ {G H : Hp} {σ : L2.St} {st : List S} {x y : W} {v u : V} {Q : VK}, Rl K G H σ st → Vw K G σ v x → Vw K G σ u y → Wp K mg Wx (kf x y st) G H σ st (fun w _ G' H' => ∀ v, Vw K G' σ v w → Q v H') → r2 v u H Q) :
    ∀ σ H Q, tW K mg Wx (fun st => bnd (f st) fun x s1 => bnd (g s1) fun y s2 => kf x y s2) σ H Q → tOp r2 (tW K mg Wx f) (tW K mg Wx g) σ H Q := fun σ H Q ⟨G, st, r, h⟩ =>
  ⟨G, st, r, h.bnd.imp fun _ s1 G1 _ _ _ r1 h1 _ hv => ⟨G1, s1, r1, h1.bnd.imp fun _ _ _ _ _ p2 r2 h2 _ hu => leaf r2 (hv.mono p2.gr) hu h2⟩⟩
theorem tT_2 {f g : List S → R W} {kf : W → W → List S → R Bool} {r2 : R2}
    (leaf : ∀ {G H : Hp} {σ : L2.St} {st : List S} {x y : W} {v u : V} {Q : Bool → Hp → Prop}, Rl K G H σ st → Vw K G σ v x → Vw K G σ u y → Wp K mg Wx (kf x y st) G H σ st (fun b _ _ H' => Q b H') → r2 v u H fun z H' => ∃ b, z = .bl b ∧ Q b H') :
    ∀ σ H Q, tWt K mg Wx (fun st => bnd (f st) fun x s1 => bnd (g s1) fun y s2 => kf x y s2) σ H Q → tTest (tOp r2 (tW K mg Wx f) (tW K mg Wx g)) σ H Q := fun σ H Q ⟨G, st, r, h⟩ =>
  ⟨G, st, r, h.bnd.imp fun _ s1 G1 _ _ _ r1 h1 _ hv => ⟨G1, s1, r1, h1.bnd.imp fun _ _ _ _ _ p2 r2 h2 _ hu => leaf r2 (hv.mono p2.gr) hu h2⟩⟩
theorem tT_1 {f : List S → R W} {kf : W → List S → R Bool} {r1 : V → Hp → (Bool → Hp → Prop) → Prop}
    (leaf : ∀ {G H : Hp} {σ : L2.St} {st : List S} {x : W} {v : V} {Q : Bool → Hp → Prop}, Rl K G H σ st → Vw K G σ v x → Wp K mg Wx (kf x st) G H σ st (fun b _ _ H' => Q b H') → r1 v H Q) :
    ∀ σ H Q, tWt K mg Wx (fun st => bnd (f st) kf) σ H Q → tW K mg Wx f σ H fun v H1 => r1 v H1 Q := fun σ H Q ⟨G, st, r, h⟩ =>
  ⟨G, st, r, h.bnd.imp fun _ _ _ _ _ _ r1 h1 _ hv => leaf r1 hv h1⟩
theorem Wp.opt {α β : Type} {o : Option α} {f : α → List S → R β} {k : β → List S → Hp → Hp → Prop} (h : Wp K mg Wx (SG.bnd (SG.opt o st) f) G H σ st k) : ∃ a, o = some a ∧ Wp K mg Wx (f a st) G H σ st k := by
  cases o with
  | none => exact h.elim
  | some a => exact ⟨a, rfl, h⟩

/-- lists of slots without a lent or owned one do not matter: a loaded name -/
theorem slot_ok (r : Rl K G H σ st) {i : Nat} {Q : VK} (h : Wp K mg Wx (slotOf st i) G H σ st (fun w _ G' H' => ∀ v, Vw K G' σ v w → Q v H')) : ∃ v, σ[i]? = some (some v) ∧ Q v H := by
  unfold slotOf at h
  split at h
  · rename_i d e
    obtain ⟨v, h1, h2⟩ := r.val i d e
    exact ⟨v, h1, h.ok r v h2⟩
  · rename_i m ds e
    obtain ⟨a, xs, h1, _⟩ := r.own i m ds e
    exact ⟨.ref a, h1, h.ok r _ h1⟩
  · exact h.elim
theorem cst_ok {X : Cx} {c : Const} {j : Nat} {pos : Pos} {d : D} (h : (match c, d with
      | .int n, .int m => decide (n = m)
      | .bool n, .bl m => decide (n = m)
      | .none, .non => true
      | .str x, .str y => decide (x = y)
      | _, _ => false) = true) : ∃ v, (∀ K G, Rp K G v d) ∧ PE X (.Constant c j pos) (tC v) := by
  split at h
  · cases of_decide_eq_true h
    exact ⟨_, fun _ _ => .int _, pe_int⟩
  · cases of_decide_eq_true h
    exact ⟨_, fun _ _ => .bl _, pe_bl⟩
  · exact ⟨_, fun _ _ => .non, pe_non⟩
  · cases of_decide_eq_true h
    exact ⟨_, fun _ _ => .str _, pe_str⟩
  · cases h
/-- a target's rule -/
theorem pg_ok {X : Cx} {scT : Scope} {t : Tg} {tg : Expr} (hc : X.calm = true) (nd : X.N.Nodup) (hf : ∀ x, locB scT x = true → Loc X.env.scope x ∧ (X.fn x = true ∨ X.env.scope.names.lookup x = some .local)) (h : okTg X.N scT t tg = true) : PG X tg (gT X.K t) := by
  unfold okTg at h
  split at h
  · rw [Bool.and_eq_true] at h
    obtain ⟨h1, h2⟩ := hf _ h.2
    exact pg_name nd (of_decide_eq_true h.1) h1 h2
  · simp only [Bool.and_eq_true, decide_eq_true_eq] at h
    obtain ⟨⟨⟨a1, a2⟩, b1⟩, b2⟩ := h
    obtain ⟨h1, h2⟩ := hf _ a2
    obtain ⟨h3, h4⟩ := hf _ b2
    exact pg_tup hc (pgs_cons (pg_name nd a1 h1 h2) (pgs_cons (pg_name nd b1 h3 h4) pgs_nil))
  · simp only [Bool.and_eq_true, decide_eq_true_eq] at h
    obtain ⟨⟨⟨⟨⟨a1, a2⟩, b1⟩, b2⟩, c1⟩, c2⟩ := h
    obtain ⟨h1, h2⟩ := hf _ a2
    obtain ⟨h3, h4⟩ := hf _ b2
    obtain ⟨h5, h6⟩ := hf _ c2
    exact pg_tup hc (pgs_cons (pg_name nd a1 h1 h2) (pgs_cons (pg_name nd b1 h3 h4) (pgs_cons (pg_name nd c1 h5 h6) pgs_nil)))
  · cases h
theorem cmp_leaf {o : Cm} {x y : W} {v u : V} {b : Bool} (r : Rl K G H σ st) (hx : Vw K G σ v x) (hy : Vw K G σ u y) {d e : D} (e1 : rd st x = some d) (e2 : rd st y = some e) (e3 : cmD o d e = some b) {Q : VK} (q : Q (.bl b) H) : rCmp K o v u H Q :=
  ⟨G, d, e, b, r.sub, rd_ok r hx e1, rd_ok r hy e2, e3, q⟩
end
theorem plain_in {o : Cm} (h : plainCm o = true) : o.ast ≠ .In ∧ o.ast ≠ .NotIn := by
  cases o <;> first
    | exact ⟨by decide, by decide⟩
    | cases h
theorem chain_marks {o p : Cm} (h : plainCm p = true) (b c : Expr) : lastMarks [o.ast, p.ast] [b, c] = false := nomark c (plain_in h).1 (plain_in h).2
theorem evE_cmp {o : Cm} (h : plainCm o = true) (a b : E) : evE (.cmp o a b) = fun st => bnd (evE a st) fun x s1 => bnd (evE b s1) fun y s2 => match rd s2 x, rd s2 y with
    | some d, some e => bnd (opt (cmD o d e) s2) fun f s3 => ok (.v (.bl f)) s3
    | _, _ => none := by
  funext st
  cases o <;> first
    | (cases h; done)
    | rw [evE]
  all_goals first
    | rfl
    | (intro z; cases z)
theorem evT_cmp {o : Cm} (h : plainCm o = true) (a b : E) : evT (.cmp o a b) = fun st => bnd (evE a st) fun x s1 => bnd (evE b s1) fun y s2 => match rd s2 x, rd s2 y with
    | some d, some e => bnd (opt (cmD o d e) s2) fun f s3 => ok f s3
    | _, _ => none := by
  funext st
  cases o <;> first
    | (cases h; done)
    | rw [evT]
  all_goals first
    | rfl
    | (intro z; cases z)
theorem blk_tg {X : Cx} {s : Shared} {H : Hp} {scope : Scope} {C : Addr} {cl : List (Str × Addr)} {fp : List Addr} (x : Str) (h : locB scope x = true) :
    Loc (X.blk s H scope (compEnvC scope cl C X.env) fp).env.scope x ∧ ((X.blk s H scope (compEnvC scope cl C X.env) fp).fn x = true ∨ (X.blk s H scope (compEnvC scope cl C X.env) fp).env.scope.names.lookup x = some .local) := by
  have keep : ∀ {k : NameKind}, k ≠ .free → scope.names.lookup x = some k → (relS scope X.env.scope).names.lookup x = some k := fun hk e => lookup_relS_keep hk e
  rcases loc_of h with e | e
  · have q := keep (by decide) e
    exact ⟨.inl q, .inr q⟩
  · have q := keep (by decide) e
    refine ⟨.inr q, .inl ?_⟩
    show (scope.names.lookup x == some .cell) = true
    rw [e]
    rfl
theorem amb_blk {X : Cx} {k : Nat} (a : Amb X k) (s : Shared) (H : Hp) (scope : Scope) (cenv : Env) (fp : List Addr) : Amb (X.blk s H scope cenv fp) k := ⟨a.room, a.gd, a.calm, a.nd, a.blt⟩
theorem own_slots {N : List Str} {t : Tg} : (ownOf N t).map (·.2) = t.slots := by
  unfold ownOf
  rw [List.map_map]
  exact List.map_id _
end SG
/-! Sg10: expressions are sound, all of them. -/
namespace SG
open PySem L2 PyProof.Rows RZ

theorem blt_in {x : Str} (h : bltWords.contains x = true) : x ∈ bltWords := by simpa using h
/-- what the call of a def asks -/
theorem call_read {X : Cx} {k : Nat} {Wx : WX} {f : Fn} {es : EL} {y : Expr} {ys : List Expr} {x : Str} {p pos : Pos} (am : Amb X k) (tk : Takes X Wx) (hx : x = f.name) (hgl : glB X.env.scope x = true) (hdb : dbg x = true) (hk : f.lvl ≤ k)
    (hst : (y :: ys).all nostar = true) (ha : PA X (y :: ys) (tWs X.K X.mg Wx (evL es))) (snd : FnSnd X.prog X.w X.K X.mg X.base f) :
    ∃ (g : Fn) (dvs : List V) (dfl : List D), f.fresh = g.fresh ∧ f.lend = g.lend ∧ f.many + dfl.length = g.many ∧ (∀ es as, f.run es as = g.run es (as ++ dfl)) ∧ Rps X.K (fun _ => none) dvs dfl ∧
      PE X (.Call (.Name x p) (y :: ys) [] pos) (fun σ H Q => tWs X.K X.mg Wx (evL es) σ H fun vs H1 => spFn X.K X.mg g (vs ++ dvs) H1 Q fun cls dx H' => Wx cls dx σ H') := by
  obtain ⟨g, fa, fd, ps, ds, dvs, dfl, h1, h2, h3, h4, h5, h6, h7, h8, h9, h10⟩ := snd.ex
  subst hx
  rw [List.all_cons, Bool.and_eq_true] at hst
  refine ⟨g, dvs, dfl, h9, h8, h10, h7, h6, ?_⟩
  exact pe_callG (E := fun σ cls dx H' => Wx cls dx σ H') h3 (am.room.mono hk) am.gd (gl_of hgl) h1 h2 h4 h5 (fun pins σ H s e s' I c => tk _ _ (XE.of_call I (fun cls d H' z => z) c)) ha (dbg_of hdb).1 (star_cons hst.1 ys _) (star_plain ys _ _ hst.2)
theorem Wp.callD {K : PySem.W.Frag} {mg : Str → Option Value} {Wx : WX} {G H : Hp} {σ : L2.St} {st : List S} {α : Type} {o : Option (Except Exn D × List S)} {kf : D → List S → R α} {k : α → List S → Hp → Hp → Prop} (h : Wp K mg Wx (SG.bnd o kf) G H σ st k) : ∃ r, o = some r := by
  cases o with
  | none => exact h.elim
  | some r => exact ⟨r, rfl⟩
section
variable {K : PySem.W.Frag} {mg : Str → Option Value} {Wx : WX} {G H : Hp} {σ : L2.St} {st : List S}
theorem call_leaf {g f : Fn} {dvs : List V} {dfl : List D} {ws : List W} {vs : List V} {Q : VK} (hfr : f.fresh = g.fresh) (hl : f.lend = g.lend) (hm : f.many + dfl.length = g.many) (hrun : ∀ es as, f.run es as = g.run es (as ++ dfl)) (hd : Rps K (fun _ => none) dvs dfl)
    (r : Rl K G H σ st) (hv : Vws K G σ vs ws) {α : Type} {kf : D → List S → R α} {kk : α → List S → Hp → Hp → Prop} (h : Wp K mg Wx (bnd (callD f ws st) kf) G H σ st kk)
    (hq : ∀ d s1 v G' H', Stp G H σ st G' H' σ s1 → Rl K G' H' σ s1 → RetOk K G H G' H' f.fresh v d → (∀ a, H a = none → ¬ Owned σ s1 a) → Wp K mg Wx (kf d s1) G' H' σ s1 kk → Q v H') :
    spFn K mg g (vs ++ dvs) H Q fun cls dx H' => Wx cls dx σ H' := by
  refine call_sp (f := f) (g := g) hd hrun hl hm r hv (fun _ _ _ _ => True) (fun x s1 cls dx G' H' e p r' ee => ?_) (Wp.callD h) fun d s1 v G' H' e p r' ret ow => ?_
  · rw [e] at h
    exact h cls dx G' H' p r' ee
  · have hb := h.bnd
    rw [e] at hb
    rw [← hfr] at ret
    exact hq d s1 v G' H' p r' ret ow (hb G' H' p r')
end

section
variable {K : PySem.W.Frag} {mg : Str → Option Value} {Wx : WX} {G H G' H' G0 H0 : Hp} {σ : L2.St} {st st0 : List S}
theorem Vw.toB {v : V} {b : Bool} (h : Vw K G σ v (.v (.bl b))) : v = .bl b := by
  have h : Rp K G v (.bl b) := h
  cases h; rfl
theorem Vw.toI {v : V} {b : Int} (h : Vw K G σ v (.v (.int b))) : v = .int b := by
  have h : Rp K G v (.int b) := h
  cases h; rfl
theorem isNon_ok {v : V} {d : D} (h : RpW K G H v d) : decide (v = .non) = isNon d := by
  rcases h with h | ⟨_, _, _, rfl, rfl, _⟩
  · cases h <;> rfl
  · rfl
theorem truB {d : D} {k : Bool} {v : V} (r : Rl K G H σ st) (h : Rp K G v d) (e : truD d = some k) : TruV K v H k := tru_D r.sub (.inl h) e
/-- a list just laid -/
theorem newL_of (p : Stp G0 H0 σ st0 G H σ st) (r : Rl K G H σ st) {a : Addr} {xs : List V} {ds : List D} (hp : H a = none) (rx : Rps K G xs ds) :
    Rl K G (upd H a (.lst xs)) σ st ∧ Stp G H σ st G (upd H a (.lst xs)) σ st ∧ NewL K G0 H0 G (upd H a (.lst xs)) σ st (.ref a) ds := by
  refine ⟨r.newO _ hp, Stp.newO r _ hp, a, xs, rfl, ?_, r.G_none hp, upd_same, rx, r.notOwned_of_fresh hp⟩
  exact Classical.byContradiction fun z => p.nv a z hp
/-- given up at once -/
theorem newL_frz {v : V} {ds : List D} (p : Stp G0 H0 σ st0 G H σ st) (r : Rl K G H σ st) (h : NewL K G0 H0 G H σ st v ds) : ∃ G', Stp G0 H0 σ st0 G' H σ st ∧ Rl K G' H σ st ∧ Rp K G' v (.lst ds) := by
  obtain ⟨a, xs, rfl, h1, h2, h3, h4, h5⟩ := h
  refine ⟨_, ?_, r.frz h3 h2 h5, ?_⟩
  · refine ⟨p.kp, p.gr.trans (sub_upd h2), fun b hb n => ?_, p.ow, p.nv, p.bor⟩
    rw [upd_ne (show b ≠ a from fun z => by subst z; exact hb h1)]
    exact p.old b hb n
  · exact .lst (.inl (.inl upd_same)) (h4.mono (sub_upd h2))
end
section
variable {X : Cx} {k : Nat}
theorem pt_of {e : Expr} {t : TE} (ha : PE X e t) (he : ∀ whole, isTrue e X.env whole = (do let v ← whole; standAt e.pos; holding [v] (truthy v))) : PT X e (fun σ H Q => t σ H fun x H' => ∃ k, TruV X.K x H' k ∧ Q k H') := pt_truth ha he
theorem pe_b1 (am : Amb X k) (b : B1) {x : Str} {y : Expr} {p pos : Pos} {t : TE} (hx : x = b.word) (hg : glB X.env.scope x = true) (ha : PE X y t) (hs : nostar y = true) :
    PE X (.Call (.Name x p) [y] [] pos) (fun σ H Q => t σ H fun v H1 => rB1 X.K b [v] H1 Q) := by
  subst hx
  have hm : X.mg b.word = none := am.blt _ (by cases b <;> exact blt_in (by decide))
  have pa : PA X [y] (tCons t tNil) := pa_cons ha pa_nil (star_cons hs [] _)
  have cr := call_b1 (X := X) am.calm am.gd am.hu b
  have hb := b1_boot b
  cases b <;> first
    | exact pe_callTy cr (gl_of hg) hm hb pa (by decide) (by decide) (star_cons hs [] _) rfl
    | exact pe_callB cr (gl_of hg) hm hb pa (by decide) (by decide) (star_cons hs [] _) rfl
theorem pe_isi (am : Amb X k) {x z : Str} {y : Expr} {p pz pos : Pos} {t : TE} {ty : String} (hx : x = "isinstance") (hg : glB X.env.scope x = true) (hty : isTyName ty = true) (hz : z = Str.ofString ty) (hgz : glB X.env.scope z = true) (ha : PE X y t) (hs : nostar y = true) :
    PE X (.Call (.Name x p) [y, .Name z pz] [] pos) (fun σ H Q => t σ H fun v H1 => rIsi X.K [v, .ty ty] H1 Q) := by
  subst hx hz
  have hm : X.mg "isinstance" = none := am.blt _ (blt_in (by decide))
  have hmz : X.mg (Str.ofString ty) = none := am.blt _ (by
    have hty' := hty
    unfold isTyName at hty'
    simp only [List.contains_cons, List.contains_nil, Bool.or_false, Bool.or_eq_true, beq_iff_eq] at hty'
    rcases hty' with rfl | rfl | rfl | rfl | rfl | rfl <;> exact blt_in (by decide +kernel))
  have hn : Str.ofString ty ≠ "__name__" ∧ (Str.ofString ty == ("__debug__" : Str)) = false := by
    have hty' := hty
    unfold isTyName at hty'
    simp only [List.contains_cons, List.contains_nil, Bool.or_false, Bool.or_eq_true, beq_iff_eq] at hty'
    rcases hty' with rfl | rfl | rfl | rfl | rfl | rfl <;> exact ⟨by decide +kernel, by decide +kernel⟩
  have pc : PE X (.Name (Str.ofString ty) pz) (tC (.ty ty)) := pe_bltn (gl_of hgz) hmz (ty_boot hty) rfl hn.1 hn.2
  have pa : PA X [y, .Name (Str.ofString ty) pz] (tCons t (tCons (tC (.ty ty)) tNil)) := pa_cons ha (pa_cons pc pa_nil (star_cons rfl [] _)) (star_cons hs _ _)
  exact pe_callB call_isi (gl_of hg) hm (by decide +kernel) pa (by decide) (by decide) (star_cons hs _ _) rfl
theorem isi_leaf {K : PySem.W.Frag} {G H : Hp} {v : V} {d : D} {ty : String} {b : Bool} {Q : VK} (hs : Sub G H) (h : RpW K G H v d) (e : isiD d ty = some b) (q : Q (.bl b) H) : rIsi K [v, .ty ty] H Q :=
  ⟨v, .ty ty, _, _, b, rfl, .ty ty, ty_D hs h, isi_D e, q⟩
theorem pe_two (am : Amb X k) {r : List V → Hp → VK → Prop} {id : String} {w x : Str} {y z : Expr} {p pos : Pos} {t u : TE} (hx : x = w) (hw : w ∈ bltWords) (hn : w ≠ "__name__" ∧ (w == ("__debug__" : Str)) = false) (hb : bootBuiltins w = some (.builtin id)) (cr : CallR X (.builtin id) r)
    (hg : glB X.env.scope x = true) (ha : PE X y t) (hs : nostar y = true) (hc : PE X z u) (hsz : nostar z = true) :
    PE X (.Call (.Name x p) [y, z] [] pos) (fun σ H Q => t σ H fun v H1 => u σ H1 fun v' H2 => r [v, v'] H2 Q) := by
  subst hx
  have pa : PA X [y, z] (tCons t (tCons u tNil)) := pa_cons ha (pa_cons hc pa_nil (star_cons hsz [] _)) (star_cons hs _ _)
  exact pe_callB cr (gl_of hg) (am.blt _ hw) hb pa hn.1 hn.2 (star_cons hs _ _) (star_plain [z] _ _ (by rw [List.all_cons, hsz]; rfl))
end
end SG
/-! Sg11: expressions are sound, all of them. -/
namespace SG
open PySem L2 PyProof.Rows RZ

def isBo : Expr → Bool
  | .BoolOp .. => true
  | _ => false
theorem okI_set {N : List Str} {k : Nat} {sc : Scope} : ∀ (i : IT) (t e : Expr), okI N k i sc t e = true → isSet e = false := by
  intro i t e h
  cases i <;> first
    | exact (okE_shape _ e h).se
    | (cases e <;> first
      | rfl
      | (unfold okI at h; exact absurd h Bool.false_ne_true)
      | (unfold okI at h; rw [Bool.and_eq_true] at h; exact absurd h.2 Bool.false_ne_true))
section
variable {K : PySem.W.Frag} {mg : Str → Option Value} {Wx : WX} {G H : Hp} {σ : L2.St} {st : List S}
theorem Wp.frL {o : R (List D)} {Q : VK} (h : Wp K mg Wx (SG.bnd o fun ds s1 => SG.ok (.v (.lst ds)) s1) G H σ st fun w _ G' H' => ∀ v, Vw K G' σ v w → Q v H') : Wp K mg Wx o G H σ st fun ds s1 G' H' => ∀ v, NewL K G H G' H' σ s1 v ds → Q v H' := by
  match o, h with
  | some (.error x, s1), h => exact h
  | some (.ok ds, s1), h =>
    intro G' H' p r v hv
    obtain ⟨G2, q, r2, hx⟩ := newL_frz p r hv
    exact h G2 H' q r2 v hx
theorem tru_leaf {x : W} {v : V} {k : Bool} (r : Rl K G H σ st) (hv : Vw K G σ v x) (e : (rd st x).bind truD = some k) : TruV K v H k := by
  obtain ⟨d, e1, e2⟩ := Option.bind_eq_some_iff.mp e
  exact tru_D r.sub (rd_ok r hv e1) e2
theorem pt_none {X : Cx} {e : Expr} {f : List S → R Bool} (h : ∀ st, f st = none) : PT X e (tWt X.K X.mg Wx f) ∧ (isBo e = true → PW X e (tWt X.K X.mg Wx f)) := by
  have z : ∀ {σ H Q}, tWt X.K X.mg Wx f σ H Q → False := fun ⟨G, st, r, hw⟩ => by rw [h] at hw; exact hw.elim
  exact ⟨⟨fun _ _ _ _ _ _ q => (z q).elim⟩, fun _ => ⟨fun _ _ _ _ _ _ _ q => (z q).elim⟩⟩
end
mutual
theorem sE : ∀ (i : E) {X : Cx} {k : Nat} {Wx : WX} (e : Expr), Amb X k → Takes X Wx → okE X.N k i X.env.scope e = true → prE (askX X) i → PE X e (tW X.K X.mg Wx (evE i))
  | .var i, X, k, Wx, e, am, tk, h, pr => by
    unfold okE at h
    split at h
    · simp only [Bool.and_eq_true, decide_eq_true_eq] at h
      obtain ⟨⟨h1, h2⟩, h3⟩ := h
      obtain ⟨d1, d2⟩ := dbg_of h3
      exact PE.to (pe_var h1 (vis_of h2) d1 d2) fun σ H Q ⟨G, st, r, hw⟩ => slot_ok r hw
    · cases h
  | .cst d, X, k, Wx, e, am, tk, h, pr => by
    unfold okE at h
    split at h
    · obtain ⟨v, h1, h2⟩ := cst_ok h
      exact PE.to h2 fun σ H Q ⟨G, st, r, hw⟩ => hw.ok r v (h1 _ _)
    · cases h
  | .glb y d, X, k, Wx, e, am, tk, h, pr => by
    unfold okE at h
    split at h
    · simp only [Bool.and_eq_true, decide_eq_true_eq] at h
      obtain ⟨⟨h1, h2⟩, h3⟩ := h
      subst h1
      obtain ⟨v, u, g1, g2, g3⟩ := pr
      exact PE.to (pe_glob (gl_of h2) g1 g2 (dbg_of h3).1) fun σ H Q ⟨G, st, r, hw⟩ => hw.ok r v (g3.mono fun _ _ z => by cases z)
    · cases h
  | .bin o a b, X, k, Wx, e, am, tk, h, pr => by
    unfold okE at h
    split at h
    · simp only [Bool.and_eq_true] at h
      obtain ⟨⟨h1, h2⟩, h3⟩ := h
      cases (of_decide_eq_true (show decide _ = true from h1))
      refine PE.to (pe_op (op_bin o) (sE a _ am tk h2 pr.1) (sE b _ am tk h3 pr.2)) ?_
      rw [show evE (.bin o a b) = _ from funext fun st => evE.eq_4 st o a b]
      refine tW_2 fun r hx hy hw => ?_
      split at hw
      · rename_i d e e1 e2
        obtain ⟨f, e3, hw⟩ := hw.opt
        exact ⟨_, d, e, f, r.sub, rd_ok r hx e1, rd_ok r hy e2, e3, Res.of r fun G' H' p r' v hv => hw G' H' p r' v hv⟩
      · exact hw.elim
    · cases h
  | .neg a, X, k, Wx, e, am, tk, h, pr => by
    unfold okE at h
    split at h
    · refine PE.to (pe_un un_neg (sE a _ am tk h pr)) ?_
      rw [show evE (.neg a) = _ from funext fun st => evE.eq_5 st a]
      refine tW_1 fun r hx hw => ?_
      split at hw
      · rename_i i e1
        exact ⟨i, (rd_ok r hx e1).int, hw.ok r _ (.int _)⟩
      · exact hw.elim
    · cases h
  | .cmp o a b, X, k, Wx, e, am, tk, h, pr => by
    unfold okE at h
    split at h
    · split at h
      · split at h
        · refine PE.to (pe_cmp (pc_isN (sE a _ am tk h pr.1))) ?_
          rw [show evE (.cmp .isn a b) = _ from funext fun st => evE.eq_6 st a b]
          refine tW_1 (r1 := fun x H1 Q => Q (.bl (decide (x = .non))) H1) fun r hx hw => ?_
          split at hw
          · rename_i d e1
            rw [isNon_ok (rd_ok r hx e1)]
            exact hw.ok r _ (.bl _)
          · exact hw.elim
        · cases h
      · split at h
        · refine PE.to (pe_cmp (pc_notN (sE a _ am tk h pr.1))) ?_
          rw [show evE (.cmp .nisn a b) = _ from funext fun st => evE.eq_7 st a b]
          refine tW_1 (r1 := fun x H1 Q => Q (.bl (!decide (x = .non))) H1) fun r hx hw => ?_
          split at hw
          · rename_i d e1
            rw [isNon_ok (rd_ok r hx e1)]
            exact hw.ok r _ (.bl _)
          · exact hw.elim
        · cases h
      · simp only [Bool.and_eq_true] at h
        obtain ⟨⟨⟨h1, h2⟩, h3⟩, h4⟩ := h
        cases (of_decide_eq_true (show decide _ = true from h2))
        refine PE.to (pe_cmpR (op_cmp am.hu _) (sE a _ am tk h3 pr.1) (sE b _ am tk h4 pr.2) (nomark _ (plain_in h1).1 (plain_in h1).2)) ?_
        rw [evE_cmp h1]
        refine tW_2 fun r hx hy hw => ?_
        split at hw
        · rename_i d e e1 e2
          obtain ⟨f, e3, hw⟩ := hw.opt
          exact cmp_leaf r hx hy e1 e2 e3 (hw.ok r _ (.bl _))
        · exact hw.elim
    · cases h
  | .chain o p a b c, X, k, Wx, e, am, tk, h, pr => by
    unfold okE at h
    split at h
    · simp only [Bool.and_eq_true] at h
      obtain ⟨⟨⟨⟨⟨⟨h1, h2⟩, h3⟩, h4⟩, h5⟩, h6⟩, h7⟩ := h
      cases (of_decide_eq_true (show decide _ = true from h3))
      cases (of_decide_eq_true (show decide _ = true from h4))
      refine PE.to (pe_chain (op_cmp am.hu _) (op_cmp am.hu _) (sE a _ am tk h5 pr.1) (sE b _ am tk h6 pr.2.1) (sE c _ am tk h7 pr.2.2) (chain_marks h2 _ _)) fun σ H Q ⟨G, st, r, hw⟩ => ?_
      rw [evE] at hw
      refine ⟨G, st, r, hw.bnd.imp fun x s1 G1 H1 _ p1 r1 h1 v hv => ⟨G1, s1, r1, h1.bnd.imp fun y s2 G2 H2 _ p2 r2 h2 u hu => ?_⟩⟩
      split at h2
      · rename_i d e e1 e2
        split at h2
        · rename_i e3
          refine cmp_leaf r2 (hv.mono p2.gr) hu e1 e2 e3 ⟨true, rfl, ?_⟩
          show tW X.K X.mg Wx (evE c) σ H2 _
          refine ⟨G2, s2, r2, h2.bnd.imp fun z s3 G3 H3 _ p3 r3 h3 w hw3 => ?_⟩
          split at h3
          · rename_i e' g e4 e5
            obtain ⟨f, e6, h3⟩ := h3.opt
            exact cmp_leaf r3 (hu.mono p3.gr) hw3 e4 e5 e6 (h3.ok r3 _ (.bl _))
          · exact h3.elim
        · rename_i e3
          exact cmp_leaf r2 (hv.mono p2.gr) hu e1 e2 e3 ⟨false, rfl, h2.ok r2 _ (.bl _)⟩
        · exact h2.elim
      · exact h2.elim
    · cases h
  | .and a b, X, k, Wx, e, am, tk, h, pr => by
    unfold okE at h
    split at h
    · rename_i x y rr p
      have key : ∀ {tl : Expr}, PE X tl (tW X.K X.mg Wx (evE b)) → ∀ σ H Q, tW X.K X.mg Wx (evE (.and a b)) σ H Q → tAndV (tW X.K X.mg Wx (evE a)) (tW X.K X.mg Wx (evE b)) σ H Q := fun {tl} _ σ H Q ⟨G, st, r, hw⟩ => by
        rw [evE] at hw
        refine ⟨G, st, r, hw.bnd.imp fun x s1 G1 H1 _ p1 r1 h1 v hv => ?_⟩
        split at h1
        · exact ⟨true, hv.toB, ⟨G1, s1, r1, h1.bnd.imp fun y s2 G2 H2 _ p2 r2 h2 => h2.ok r2⟩⟩
        · exact ⟨false, hv.toB, h1.ok r1 _ (.bl _)⟩
        · exact h1.elim
      cases rr with
      | nil =>
        rw [Bool.and_eq_true] at h
        have pb := sE b y am tk h.2 pr.2
        exact PE.to (pe_and (sE a x am tk h.1 pr.1) (pe_one pb)) (key pb)
      | cons z s =>
        rw [Bool.and_eq_true] at h
        have pb := sE b _ am tk h.2 pr.2
        exact PE.to (pe_and (sE a x am tk h.1 pr.1) pb) (key pb)
    · cases h
  | .or a b, X, k, Wx, e, am, tk, h, pr => by
    unfold okE at h
    split at h
    · rename_i x y rr p
      have key : ∀ {tl : Expr}, PE X tl (tW X.K X.mg Wx (evE b)) → ∀ σ H Q, tW X.K X.mg Wx (evE (.or a b)) σ H Q → tOrV (tW X.K X.mg Wx (evE a)) (tW X.K X.mg Wx (evE b)) σ H Q := fun {tl} _ σ H Q ⟨G, st, r, hw⟩ => by
        rw [evE] at hw
        refine ⟨G, st, r, hw.bnd.imp fun x s1 G1 H1 _ p1 r1 h1 v hv => ?_⟩
        split at h1
        · exact ⟨false, hv.toB, ⟨G1, s1, r1, h1.bnd.imp fun y s2 G2 H2 _ p2 r2 h2 => h2.ok r2⟩⟩
        · exact ⟨true, hv.toB, h1.ok r1 _ (.bl _)⟩
        · exact h1.elim
      cases rr with
      | nil =>
        rw [Bool.and_eq_true] at h
        have pb := sE b y am tk h.2 pr.2
        exact PE.to (pe_or (sE a x am tk h.1 pr.1) (pe_one pb)) (key pb)
      | cons z s =>
        rw [Bool.and_eq_true] at h
        have pb := sE b _ am tk h.2 pr.2
        exact PE.to (pe_or (sE a x am tk h.1 pr.1) pb) (key pb)
    · cases h
  | .not a, X, k, Wx, e, am, tk, h, pr => by
    unfold okE at h
    split at h
    · refine PE.to (pe_not (sE a _ am tk h pr)) fun σ H Q ⟨G, st, r, hw⟩ => ?_
      rw [evE] at hw
      refine ⟨G, st, r, hw.bnd.imp fun x s1 G1 H1 _ p1 r1 h1 v hv => ?_⟩
      split at h1
      · exact ⟨_, hv.toB, h1.ok r1 _ (.bl _)⟩
      · exact h1.elim
    · cases h
  | .ite c a b, X, k, Wx, e, am, tk, h, pr => by
    unfold okE at h
    split at h
    · simp only [Bool.and_eq_true] at h
      obtain ⟨⟨h1, h2⟩, h3⟩ := h
      refine PE.to (pe_ifExp (sT c _ am tk h1 pr.1).1 (sE a _ am tk h2 pr.2.1) (sE b _ am tk h3 pr.2.2)) fun σ H Q ⟨G, st, r, hw⟩ => ?_
      rw [evE] at hw
      refine ⟨G, st, r, hw.bnd.imp fun q s1 G1 H1 _ p1 r1 h1 => ?_⟩
      cases q with
      | true => exact ⟨G1, s1, r1, h1⟩
      | false => exact ⟨G1, s1, r1, h1⟩
    · cases h
  | .tup es, X, k, Wx, e, am, tk, h, pr => by
    unfold okE at h
    split at h
    · refine PE.to (pe_tup (sL es _ am tk h pr)) fun σ H Q ⟨G, st, r, hw⟩ => ?_
      rw [evE] at hw
      refine ⟨G, st, r, hw.bnd.imp fun ws s1 G1 H1 _ p1 r1 h1 vs hv => ?_⟩
      split at h1
      · rename_i ds s2 e1
        split at h1
        · rename_i hl
          obtain ⟨G2, p2, r2, rv⟩ := frzs_ok r1 hv e1
          refine ⟨by rw [rv.length]; exact small_line hl, fun p hp => ?_⟩
          exact h1 _ _ (p2.trans (Stp.newF r2 _ hp)) (r2.newF _ hp) _ (.tup (.inl (.inl upd_same)) (rv.mono (sub_upd (r2.G_none hp))))
        · exact h1.elim
      · exact h1.elim
    · cases h
  | .ix a b, X, k, Wx, e, am, tk, h, pr => by
    unfold okE at h
    split at h
    · rw [Bool.and_eq_true] at h
      refine PE.to (pe_ix ix_at (sE a _ am tk h.1 pr.1) (sE b _ am tk h.2 pr.2) (plainIx (okE_shape _ _ h.2).sl)) ?_
      rw [show evE (.ix a b) = _ from funext fun st => evE.eq_15 st a b]
      refine tW_2 fun r hx hy hw => ?_
      split at hw
      · rename_i d e e1 e2
        obtain ⟨f, e3, hw⟩ := hw.opt
        exact ⟨_, d, e, f, r.sub, rd_ok r hx e1, rd_ok r hy e2, e3, fun v hv => hw.ok r v hv⟩
      · exact hw.elim
    · cases h
  | .slc a lo hi, X, k, Wx, e, am, tk, h, pr => by
    unfold okE at h
    cases h
  | .rev a, X, k, Wx, e, am, tk, h, pr => by
    unfold okE at h
    split at h
    · refine PE.to (pe_revL (sE a _ am tk h pr)) fun σ H Q ⟨G, st, r, hw⟩ => ?_
      rw [evE] at hw
      refine ⟨G, st, r, hw.bnd.imp fun x s1 G1 H1 _ p1 r1 h1 v hv => ?_⟩
      split at h1
      · rename_i ds e1
        obtain ⟨b, xs, rfl, s1, rr⟩ := (rd_ok r1 hv e1).lst r1.sub
        refine ⟨b, xs, rfl, s1, fun p hp => ?_⟩
        exact h1 _ _ (Stp.newF r1 _ hp) (r1.newF _ hp) _ (.lst (.inl (.inl upd_same)) (rr.reverse.mono (sub_upd (r1.G_none hp))))
      · exact h1.elim
    · cases h
  | .call f es, X, k, Wx, e, am, tk, h, pr => by
    unfold okE at h
    split at h
    · simp only [Bool.and_eq_true, decide_eq_true_eq] at h
      obtain ⟨⟨⟨⟨h1, h2⟩, h3⟩, h4⟩, h5⟩ := h
      obtain ⟨g, dvs, dfl, fr, ld, mn, rn, hd, pe⟩ := call_read am tk h1 h2 h3 h4 (okL_star es _ h5) (sL es _ am tk h5 pr.2) pr.1
      refine PE.to pe fun σ H Q ⟨G, st, r, hw⟩ => ?_
      rw [evE] at hw
      refine ⟨G, st, r, hw.bnd.imp fun ws s1 G1 H1 _ p1 r1 h1 vs hv => ?_⟩
      split at h1
      · rename_i efr
        refine call_leaf fr ld mn rn hd r1 hv h1 fun d s2 v G' H' p' r' ret _ h2 => ?_
        rw [efr] at ret
        exact h2.ok r' v ret
      · exact h1.elim
    · cases h
  | .b1 b a, X, k, Wx, e, am, tk, h, pr => by
    unfold okE at h
    split at h
    · simp only [Bool.and_eq_true, decide_eq_true_eq] at h
      obtain ⟨⟨h1, h2⟩, h3⟩ := h
      refine PE.to (pe_b1 am b h1 h2 (sE a _ am tk h3 pr) (okE_shape _ _ h3).st) ?_
      rw [show evE (.b1 b a) = _ from funext fun st => evE.eq_19 st b a]
      refine tW_1 (r1 := fun v H1 Q => rB1 X.K b [v] H1 Q) fun r hx hw => ?_
      split at hw
      · rename_i d e1
        obtain ⟨f, e3, hw⟩ := hw.opt
        exact ⟨_, _, d, f, rfl, r.sub, rd_ok r hx e1, e3, Res.of r fun G' H' p r' v hv => hw G' H' p r' v hv⟩
      · exact hw.elim
    · cases h
  | .isi a t, X, k, Wx, e, am, tk, h, pr => by
    unfold okE at h
    split at h
    · simp only [Bool.and_eq_true, decide_eq_true_eq] at h
      obtain ⟨⟨⟨⟨⟨h1, h2⟩, h3⟩, h4⟩, h5⟩, h6⟩ := h
      refine PE.to (pe_isi am h1 h2 h3 h4 h5 (sE a _ am tk h6 pr) (okE_shape _ _ h6).st) ?_
      rw [show evE (.isi a t) = _ from funext fun st => evE.eq_20 st a t]
      refine tW_1 (r1 := fun v H1 Q => rIsi X.K [v, .ty t] H1 Q) fun r hx hw => ?_
      split at hw
      · rename_i d e1
        obtain ⟨f, e3, hw⟩ := hw.opt
        exact isi_leaf r.sub (rd_ok r hx e1) e3 (hw.ok r _ (.bl _))
      · exact hw.elim
    · cases h
  | .max2 a b, X, k, Wx, e, am, tk, h, pr => by
    unfold okE at h
    split at h
    · simp only [Bool.and_eq_true, decide_eq_true_eq] at h
      obtain ⟨⟨⟨h1, h2⟩, h3⟩, h4⟩ := h
      refine PE.to (pe_two am h1 (blt_in (by decide)) ⟨by decide, by decide⟩ (by decide +kernel) (call_max2 am.calm) h2 (sE a _ am tk h3 pr.1) (okE_shape _ _ h3).st (sE b _ am tk h4 pr.2) (okE_shape _ _ h4).st) ?_
      rw [show evE (.max2 a b) = _ from funext fun st => evE.eq_21 st a b]
      refine tW_2 (r2 := fun v u H1 Q => ∃ i j, [v, u] = [.int i, .int j] ∧ Q (.int (if j > i then j else i)) H1) fun r hx hy hw => ?_
      split at hw
      · exact ⟨_, _, by rw [hx.toI, hy.toI], hw.ok r _ (.int _)⟩
      · exact hw.elim
    · cases h
  | .min2 a b, X, k, Wx, e, am, tk, h, pr => by
    unfold okE at h
    split at h
    · simp only [Bool.and_eq_true, decide_eq_true_eq] at h
      obtain ⟨⟨⟨h1, h2⟩, h3⟩, h4⟩ := h
      refine PE.to (pe_two am h1 (blt_in (by decide)) ⟨by decide, by decide⟩ (by decide +kernel) (call_min2 am.calm) h2 (sE a _ am tk h3 pr.1) (okE_shape _ _ h3).st (sE b _ am tk h4 pr.2) (okE_shape _ _ h4).st) ?_
      rw [show evE (.min2 a b) = _ from funext fun st => evE.eq_22 st a b]
      refine tW_2 (r2 := fun v u H1 Q => ∃ i j, [v, u] = [.int i, .int j] ∧ Q (.int (if j < i then j else i)) H1) fun r hx hy hw => ?_
      split at hw
      · exact ⟨_, _, by rw [hx.toI, hy.toI], hw.ok r _ (.int _)⟩
      · exact hw.elim
    · cases h
  | .fr f, X, k, Wx, e, am, tk, h, pr => by
    unfold okE at h
    refine PE.to (sF f _ am tk h pr) fun σ H Q ⟨G, st, r, hw⟩ => ?_
    rw [evE] at hw
    exact ⟨G, st, r, Wp.frL hw⟩
theorem sT : ∀ (i : E) {X : Cx} {k : Nat} {Wx : WX} (e : Expr), Amb X k → Takes X Wx → okE X.N k i X.env.scope e = true → prE (askX X) i → PT X e (tWt X.K X.mg Wx (evT i)) ∧ (isBo e = true → PW X e (tWt X.K X.mg Wx (evT i)))
  | .and a b, X, k, Wx, e, am, tk, h, pr => by
    unfold okE at h
    split at h
    · rename_i x y rr p
      have key : ∀ σ H Q, tWt X.K X.mg Wx (evT (.and a b)) σ H Q → tAnd (tWt X.K X.mg Wx (evT a)) (tWt X.K X.mg Wx (evT b)) σ H Q := fun σ H Q ⟨G, st, r, hw⟩ => by
        rw [evT] at hw
        refine ⟨G, st, r, hw.bnd.imp fun q s1 G1 H1 _ p1 r1 h1 => ?_⟩
        cases q with
        | true => exact ⟨G1, s1, r1, h1⟩
        | false => exact (show Wp _ _ _ (ok false s1) G1 H1 σ s1 _ from h1).ok r1
      have fin : PW X (.BoolOp .And (x :: y :: rr) p) (tAnd (tWt X.K X.mg Wx (evT a)) (tWt X.K X.mg Wx (evT b))) := by
        cases rr with
        | nil =>
          rw [Bool.and_eq_true] at h
          exact pw_and (sT a x am tk h.1 pr.1).1 (pw_and1 (sT b y am tk h.2 pr.2).1)
        | cons z s =>
          rw [Bool.and_eq_true] at h
          exact pw_and (sT a x am tk h.1 pr.1).1 ((sT b _ am tk h.2 pr.2).2 rfl)
      have fin2 : PW X (.BoolOp .And (x :: y :: rr) p) (tWt X.K X.mg Wx (evT (.and a b))) := ⟨fun wh pins s σ H Q I q => fin.run wh pins s σ H Q I (key σ H Q q)⟩
      exact ⟨fin2.pt, fun _ => fin2⟩
    · cases h
  | .or a b, X, k, Wx, e, am, tk, h, pr => by
    unfold okE at h
    split at h
    · rename_i x y rr p
      have key : ∀ σ H Q, tWt X.K X.mg Wx (evT (.or a b)) σ H Q → tOr (tWt X.K X.mg Wx (evT a)) (tWt X.K X.mg Wx (evT b)) σ H Q := fun σ H Q ⟨G, st, r, hw⟩ => by
        rw [evT] at hw
        refine ⟨G, st, r, hw.bnd.imp fun q s1 G1 H1 _ p1 r1 h1 => ?_⟩
        cases q with
        | false => exact ⟨G1, s1, r1, h1⟩
        | true => exact (show Wp _ _ _ (ok true s1) G1 H1 σ s1 _ from h1).ok r1
      have fin : PW X (.BoolOp .Or (x :: y :: rr) p) (tOr (tWt X.K X.mg Wx (evT a)) (tWt X.K X.mg Wx (evT b))) := by
        cases rr with
        | nil =>
          rw [Bool.and_eq_true] at h
          exact pw_or (sT a x am tk h.1 pr.1).1 (pw_or1 (sT b y am tk h.2 pr.2).1)
        | cons z s =>
          rw [Bool.and_eq_true] at h
          exact pw_or (sT a x am tk h.1 pr.1).1 ((sT b _ am tk h.2 pr.2).2 rfl)
      have fin2 : PW X (.BoolOp .Or (x :: y :: rr) p) (tWt X.K X.mg Wx (evT (.or a b))) := ⟨fun wh pins s σ H Q I q => fin.run wh pins s σ H Q I (key σ H Q q)⟩
      exact ⟨fin2.pt, fun _ => fin2⟩
    · cases h
  | .not a, X, k, Wx, e, am, tk, h, pr => by
    unfold okE at h
    split at h
    · refine ⟨PT.to (pt_not (sT a _ am tk h pr).1) fun σ H Q ⟨G, st, r, hw⟩ => ?_, fun z => by cases z⟩
      rw [evT] at hw
      exact ⟨G, st, r, hw.bnd.imp fun q s1 G1 H1 _ p1 r1 h1 => h1.ok r1⟩
    · cases h
  | .var i, X, k, Wx, e, am, tk, h, pr => by
    unfold okE at h
    split at h
    · simp only [Bool.and_eq_true, decide_eq_true_eq] at h
      obtain ⟨⟨h1, h2⟩, h3⟩ := h
      obtain ⟨d1, d2⟩ := dbg_of h3
      refine ⟨PT.to (pt_of (PE.to (t' := tW X.K X.mg Wx fun st => slotOf st i) (pe_var h1 (vis_of h2) d1 d2) fun σ H Q ⟨G, st, r, hw⟩ => slot_ok r hw) fun _ => rfl) ?_, fun z => by cases z⟩
      intro σ H Q ⟨G, st, r, hw⟩
      rw [evT] at hw
      refine ⟨G, st, r, hw.bnd.imp fun x s1 G1 H1 _ p1 r1 h1 v hv => ?_⟩
      split at h1
      · rename_i q e1
        exact ⟨q, tru_leaf r1 hv e1, h1.ok r1⟩
      · exact h1.elim
    · cases h
  | .cmp o a b, X, k, Wx, e, am, tk, h, pr => by
    unfold okE at h
    split at h
    · split at h
      · split at h
        · refine ⟨PT.to (pt_cmp (pc_isN (sE a _ am tk h pr.1))) ?_, fun z => by cases z⟩
          rw [show evT (.cmp .isn a b) = _ from funext fun st => evT.eq_5 st a b]
          refine tT_1 (r1 := fun x H1 Q => ∃ c, V.bl (decide (x = .non)) = .bl c ∧ Q c H1) fun r hx hw => ?_
          split at hw
          · rename_i d e1
            rw [isNon_ok (rd_ok r hx e1)]
            exact ⟨_, rfl, hw.ok r⟩
          · exact hw.elim
        · cases h
      · split at h
        · refine ⟨PT.to (pt_cmp (pc_notN (sE a _ am tk h pr.1))) ?_, fun z => by cases z⟩
          rw [show evT (.cmp .nisn a b) = _ from funext fun st => evT.eq_6 st a b]
          refine tT_1 (r1 := fun x H1 Q => ∃ c, V.bl (!decide (x = .non)) = .bl c ∧ Q c H1) fun r hx hw => ?_
          split at hw
          · rename_i d e1
            rw [isNon_ok (rd_ok r hx e1)]
            exact ⟨_, rfl, hw.ok r⟩
          · exact hw.elim
        · cases h
      · simp only [Bool.and_eq_true] at h
        obtain ⟨⟨⟨h1, h2⟩, h3⟩, h4⟩ := h
        cases (of_decide_eq_true (show decide _ = true from h2))
        refine ⟨PT.to (pt_cmpR (op_cmp am.hu _) (sE a _ am tk h3 pr.1) (sE b _ am tk h4 pr.2) (nomark _ (plain_in h1).1 (plain_in h1).2)) ?_, fun z => by cases z⟩
        rw [evT_cmp h1]
        refine tT_2 fun r hx hy hw => ?_
        split at hw
        · rename_i d e e1 e2
          obtain ⟨f, e3, hw⟩ := hw.opt
          exact cmp_leaf r hx hy e1 e2 e3 ⟨f, rfl, hw.ok r⟩
        · exact hw.elim
    · cases h
  | .chain o p a b c, X, k, Wx, e, am, tk, h, pr => by
    unfold okE at h
    split at h
    · simp only [Bool.and_eq_true] at h
      obtain ⟨⟨⟨⟨⟨⟨h1, h2⟩, h3⟩, h4⟩, h5⟩, h6⟩, h7⟩ := h
      cases (of_decide_eq_true (show decide _ = true from h3))
      cases (of_decide_eq_true (show decide _ = true from h4))
      refine ⟨PT.to (pt_chain (op_cmp am.hu _) (op_cmp am.hu _) (sE a _ am tk h5 pr.1) (sE b _ am tk h6 pr.2.1) (sE c _ am tk h7 pr.2.2) (chain_marks h2 _ _)) fun σ H Q ⟨G, st, r, hw⟩ => ?_, fun z => by cases z⟩
      rw [evT] at hw
      refine ⟨G, st, r, hw.bnd.imp fun x s1 G1 H1 _ p1 r1 h1 v hv => ⟨G1, s1, r1, h1.bnd.imp fun y s2 G2 H2 _ p2 r2 h2 u hu => ?_⟩⟩
      split at h2
      · rename_i d e e1 e2
        split at h2
        · rename_i e3
          refine cmp_leaf r2 (hv.mono p2.gr) hu e1 e2 e3 ⟨true, rfl, ?_⟩
          show tW X.K X.mg Wx (evE c) σ H2 _
          refine ⟨G2, s2, r2, h2.bnd.imp fun z s3 G3 H3 _ p3 r3 h3 w hw3 => ?_⟩
          split at h3
          · rename_i e' g e4 e5
            obtain ⟨f, e6, h3⟩ := h3.opt
            exact cmp_leaf r3 (hu.mono p3.gr) hw3 e4 e5 e6 ⟨f, rfl, h3.ok r3⟩
          · exact h3.elim
        · rename_i e3
          exact cmp_leaf r2 (hv.mono p2.gr) hu e1 e2 e3 ⟨false, rfl, false, rfl, h2.ok r2⟩
        · exact h2.elim
      · exact h2.elim
    · cases h
  | .call f es, X, k, Wx, e, am, tk, h, pr => by
    unfold okE at h
    split at h
    · simp only [Bool.and_eq_true, decide_eq_true_eq] at h
      obtain ⟨⟨⟨⟨h1, h2⟩, h3⟩, h4⟩, h5⟩ := h
      obtain ⟨g, dvs, dfl, fr, ld, mn, rn, hd, pe⟩ := call_read am tk h1 h2 h3 h4 (okL_star es _ h5) (sL es _ am tk h5 pr.2) pr.1
      refine ⟨PT.to (pt_of pe fun _ => rfl) fun σ H Q ⟨G, st, r, hw⟩ => ?_, fun z => by cases z⟩
      rw [evT] at hw
      refine ⟨G, st, r, hw.bnd.imp fun ws s1 G1 H1 _ p1 r1 h1 vs hv => ?_⟩
      split at h1
      · rename_i efr
        refine call_leaf fr ld mn rn hd r1 hv h1 fun d s2 v G' H' p' r' ret _ h2 => ?_
        rw [efr] at ret
        split at h2
        · rename_i q e1
          exact ⟨q, truB r' ret e1, h2.ok r'⟩
        · exact h2.elim
      · exact h1.elim
    · cases h
  | .b1 b a, X, k, Wx, e, am, tk, h, pr => by
    unfold okE at h
    split at h
    · simp only [Bool.and_eq_true, decide_eq_true_eq] at h
      obtain ⟨⟨h1, h2⟩, h3⟩ := h
      refine ⟨PT.to (pt_of (pe_b1 am b h1 h2 (sE a _ am tk h3 pr) (okE_shape _ _ h3).st) fun _ => rfl) ?_, fun z => by cases z⟩
      rw [show evT (.b1 b a) = _ from funext fun st => evT.eq_10 st b a]
      refine tT_1 (r1 := fun v H1 Q => rB1 X.K b [v] H1 fun x H' => ∃ k, TruV X.K x H' k ∧ Q k H') fun r hx hw => ?_
      split at hw
      · rename_i d e1
        obtain ⟨f, e3, hw⟩ := hw.opt
        split at hw
        · rename_i q e4
          exact ⟨_, _, d, f, rfl, r.sub, rd_ok r hx e1, e3, Res.of r fun G' H' p r' v hv => ⟨q, truB r' hv e4, hw G' H' p r'⟩⟩
        · exact hw.elim
      · exact hw.elim
    · cases h
  | .isi a t, X, k, Wx, e, am, tk, h, pr => by
    unfold okE at h
    split at h
    · simp only [Bool.and_eq_true, decide_eq_true_eq] at h
      obtain ⟨⟨⟨⟨⟨h1, h2⟩, h3⟩, h4⟩, h5⟩, h6⟩ := h
      refine ⟨PT.to (pt_of (pe_isi am h1 h2 h3 h4 h5 (sE a _ am tk h6 pr) (okE_shape _ _ h6).st) fun _ => rfl) ?_, fun z => by cases z⟩
      rw [show evT (.isi a t) = _ from funext fun st => evT.eq_11 st a t]
      refine tT_1 (r1 := fun v H1 Q => rIsi X.K [v, .ty t] H1 fun x H' => ∃ k, TruV X.K x H' k ∧ Q k H') fun r hx hw => ?_
      split at hw
      · rename_i d e1
        obtain ⟨f, e3, hw⟩ := hw.opt
        exact isi_leaf r.sub (rd_ok r hx e1) e3 ⟨f, rfl, hw.ok r⟩
      · exact hw.elim
    · cases h
  | .cst _, _, _, _, _, _, _, _, _ => pt_none fun _ => by rw [evT] <;> (intros; contradiction)
  | .glb _ _, _, _, _, _, _, _, _, _ => pt_none fun _ => by rw [evT] <;> (intros; contradiction)
  | .bin _ _ _, _, _, _, _, _, _, _, _ => pt_none fun _ => by rw [evT] <;> (intros; contradiction)
  | .neg _, _, _, _, _, _, _, _, _ => pt_none fun _ => by rw [evT] <;> (intros; contradiction)
  | .ite _ _ _, _, _, _, _, _, _, _, _ => pt_none fun _ => by rw [evT] <;> (intros; contradiction)
  | .tup _, _, _, _, _, _, _, _, _ => pt_none fun _ => by rw [evT] <;> (intros; contradiction)
  | .ix _ _, _, _, _, _, _, _, _, _ => pt_none fun _ => by rw [evT] <;> (intros; contradiction)
  | .slc _ _ _, _, _, _, _, _, _, _, _ => pt_none fun _ => by rw [evT] <;> (intros; contradiction)
  | .rev _, _, _, _, _, _, _, _, _ => pt_none fun _ => by rw [evT] <;> (intros; contradiction)
  | .max2 _ _, _, _, _, _, _, _, _, _ => pt_none fun _ => by rw [evT] <;> (intros; contradiction)
  | .min2 _ _, _, _, _, _, _, _, _, _ => pt_none fun _ => by rw [evT] <;> (intros; contradiction)
  | .fr _, _, _, _, _, _, _, _, _ => pt_none fun _ => by rw [evT] <;> (intros; contradiction)
theorem sF : ∀ (i : FE) {X : Cx} {k : Nat} {Wx : WX} (e : Expr), Amb X k → Takes X Wx → okF X.N k i X.env.scope e = true → prF (askX X) i → PE X e (tWf X.K X.mg Wx (evF i))
  | .disp es, X, k, Wx, e, am, tk, h, pr => by
    unfold okF at h
    split at h
    · refine PE.to (pe_lst (sL es _ am tk h pr)) fun σ H Q ⟨G, st, r, hw⟩ => ?_
      rw [evF] at hw
      refine ⟨G, st, r, hw.bnd.imp fun ws s1 G1 H1 _ p1 r1 h1 vs hv => ?_⟩
      split at h1
      · rename_i ds s2 e1
        split at h1
        · rename_i hl
          obtain ⟨G2, p2, r2, rv⟩ := frzs_ok r1 hv e1
          refine ⟨by rw [rv.length]; exact small_line hl, fun p hp => ?_⟩
          obtain ⟨ra, rb, rc⟩ := newL_of (p1.trans p2) r2 hp rv
          exact h1 _ _ (p2.trans rb) ra _ rc
        · exact h1.elim
      · exact h1.elim
    · cases h
  | .comp t it c el, X, k, Wx, e, am, tk, h, pr => by
    unfold okF at h
    split at h
    · rename_i elt tg iter ifs a scope pos
      simp only [Bool.and_eq_true, decide_eq_true_eq] at h
      obtain ⟨⟨⟨⟨⟨h1, h2⟩, h3⟩, h4⟩, h5⟩, h6⟩ := h
      subst h1
      refine comp_ok am (sI it tg iter am tk h4 pr.1) (blkOk_by h2) own_slots (fun s H C cl fp => pg_ok am.calm am.nd (fun x hx => blk_tg x hx) h3) (fun s H C cl fp => ?_) (fun s H C cl fp => ?_) (noSet (okI_set it _ _ h4) _)
      · have h6' : okO X.N k c (relS scope X.env.scope) ifs.head? = true ∧ ifs.length ≤ 1 := by
          split at h6
          · exact ⟨h6, by decide⟩
          · exact ⟨h6, Nat.le_refl _⟩
          · cases h6
        have base := sC c (X := X.blk s H scope (compEnvC scope cl C X.env) fp) ifs.head? (amb_blk am s H scope _ fp) h6'.1 pr.2.1
        match ifs, h6' with
        | [], _ => exact base
        | [x], _ => exact base
        | _ :: _ :: _, ⟨_, z⟩ => exact absurd z (by simp)
      · exact sE el (X := X.blk s H scope (compEnvC scope cl C X.env) fp) elt (amb_blk am s H scope _ fp) takes0 h5 pr.2.2
    · cases h
  | .listOf a, X, k, Wx, e, am, tk, h, pr => by
    unfold okF at h
    split at h
    · simp only [Bool.and_eq_true, decide_eq_true_eq] at h
      obtain ⟨⟨h1, h2⟩, h3⟩ := h
      subst h1
      have hs := (okE_shape _ _ h3).st
      refine PE.to (pe_callTy call_list_of (gl_of h2) (am.blt _ (blt_in (by decide))) (by decide +kernel) (pa_cons (sE a _ am tk h3 pr) pa_nil (star_cons hs [] _)) (by decide) (by decide) (star_cons hs [] _) rfl) fun σ H Q ⟨G, st, r, hw⟩ => ?_
      rw [evF] at hw
      refine ⟨G, st, r, hw.bnd.imp fun x s1 G1 H1 _ p1 r1 h1 v hv => ?_⟩
      split at h1
      · rename_i ds e1
        obtain ⟨b, xs, rfl, s1, rr⟩ := (rd_ok r1 hv e1).lst r1.sub
        refine ⟨b, xs, rfl, .inl s1, fun p hp => ?_⟩
        obtain ⟨ra, rb, rc⟩ := newL_of p1 r1 hp rr
        exact h1 _ _ rb ra _ rc
      · rename_i ds e1
        obtain ⟨b, xs, rfl, s1, rr⟩ := (rd_ok r1 hv e1).tup r1.sub
        refine ⟨b, xs, rfl, .inr s1, fun p hp => ?_⟩
        obtain ⟨ra, rb, rc⟩ := newL_of p1 r1 hp rr
        exact h1 _ _ rb ra _ rc
      · exact h1.elim
    · cases h
  | .cat i f, X, k, Wx, e, am, tk, h, pr => by
    unfold okF at h
    split at h
    · simp only [Bool.and_eq_true, decide_eq_true_eq] at h
      obtain ⟨⟨⟨h1, h2⟩, h3⟩, h4⟩ := h
      obtain ⟨d1, d2⟩ := dbg_of h3
      refine PE.to (pe_op op_cat (pe_var h1 (vis_of h2) d1 d2) (sF f _ am tk h4 pr)) fun σ H Q ⟨G, st, r, hw⟩ => ?_
      rw [evF] at hw
      split at hw
      · rename_i m es0 e0
        obtain ⟨b, ys, b1, _, b3, _⟩ := r.own i m es0 e0
        refine ⟨_, b1, G, st, r, hw.bnd.imp fun ds s1 G1 H1 _ p1 r1 h1 v hv => ?_⟩
        split at h1
        · rename_i m' es e1
          split at h1
          · rename_i hl
            obtain ⟨b', zs, c1, c2, c3, c4⟩ := r1.own i m' es e1
            rw [b1] at c1
            cases c1
            obtain ⟨a, xs, rfl, q1, q2, q3, q4, q5⟩ := hv
            refine ⟨b, a, zs, xs, rfl, rfl, c3, q3, by rw [c4.length, q4.length]; exact small_line hl, fun p hp => ?_⟩
            obtain ⟨ra, rb, rc⟩ := newL_of p1 r1 hp (c4.append q4)
            exact h1 _ _ rb ra _ rc
          · exact h1.elim
        · exact h1.elim
      · exact hw.elim
    · cases h
  | .callF f es, X, k, Wx, e, am, tk, h, pr => by
    unfold okF at h
    split at h
    · simp only [Bool.and_eq_true, decide_eq_true_eq] at h
      obtain ⟨⟨⟨⟨h1, h2⟩, h3⟩, h4⟩, h5⟩ := h
      obtain ⟨g, dvs, dfl, fr, ld, mn, rn, hd, pe⟩ := call_read am tk h1 h2 h3 h4 (okL_star es _ h5) (sL es _ am tk h5 pr.2) pr.1
      refine PE.to pe fun σ H Q ⟨G, st, r, hw⟩ => ?_
      rw [evF] at hw
      refine ⟨G, st, r, hw.bnd.imp fun ws s1 G1 H1 _ p1 r1 h1 vs hv => ?_⟩
      split at h1
      · rename_i efr
        refine call_leaf fr ld mn rn hd r1 hv h1 fun d s2 v G' H' p' r' ret ow h2 => ?_
        rw [efr] at ret
        obtain ⟨a, xs, es, rfl, rfl, q1, q2, q3, q4⟩ := ret
        exact h2.ok r' _ ⟨a, xs, rfl, Classical.byContradiction fun z => p1.nv a z q1, q2, q3, q4, ow a q1⟩
      · exact h1.elim
    · cases h
theorem sI : ∀ (i : IT) {X : Cx} {k : Nat} {Wx : WX} (tg e : Expr), Amb X k → Takes X Wx → okI X.N k i X.env.scope tg e = true → prI (askX X) i → PI X tg e (tWi X.K X.mg Wx (evI i))
  | .rng1 a, X, k, Wx, tg, e, am, tk, h, pr => by
    unfold okI at h
    split at h
    · simp only [Bool.and_eq_true, decide_eq_true_eq] at h
      obtain ⟨⟨h1, h2⟩, h3⟩ := h
      subst h1
      have hs := (okE_shape _ _ h3).st
      refine PI.to (pi_range1 (gl_of h2) (am.blt _ (blt_in (by decide))) (pa_cons (sE a _ am tk h3 pr) pa_nil (star_cons hs [] _)) (star_cons hs [] _)) fun σ H Q ⟨G, st, r, hw⟩ => ?_
      rw [evI] at hw
      refine ⟨G, st, r, hw.bnd.imp fun x s1 G1 H1 _ p1 r1 h1 v hv => ?_⟩
      split at h1
      · rename_i j
        split at h1
        · rename_i c
          exact ⟨_, by rw [hv.toI], by omega, by omega, h1.ok r1 _ (yld_rng 0 _)⟩
        · exact h1.elim
      · exact h1.elim
    · cases h
  | .rng2 a b, X, k, Wx, tg, e, am, tk, h, pr => by
    unfold okI at h
    split at h
    · simp only [Bool.and_eq_true, decide_eq_true_eq] at h
      obtain ⟨⟨⟨h1, h2⟩, h3⟩, h4⟩ := h
      subst h1
      have hs := (okE_shape _ _ h3).st
      have hs2 := (okE_shape _ _ h4).st
      refine PI.to (pi_range2 (gl_of h2) (am.blt _ (blt_in (by decide))) (pa_cons (sE a _ am tk h3 pr.1) (pa_cons (sE b _ am tk h4 pr.2) pa_nil (star_cons hs2 [] _)) (star_cons hs _ _)) (by rw [star_cons hs, star_cons hs2]; rfl) (star_cons hs2 [] _)) fun σ H Q ⟨G, st, r, hw⟩ => ?_
      rw [evI] at hw
      refine ⟨G, st, r, hw.bnd.imp fun x s1 G1 H1 _ p1 r1 h1 v hv => ⟨G1, s1, r1, h1.bnd.imp fun y s2 G2 H2 _ p2 r2 h2 u hu => ?_⟩⟩
      split at h2
      · rename_i i j
        split at h2
        · rename_i c
          exact ⟨_, _, by rw [hv.toI, hu.toI], ⟨by omega, by omega, by omega, by omega⟩, h2.ok r2 _ (yld_rng _ _)⟩
        · exact h2.elim
      · exact h2.elim
    · cases h
  | .seqT a, X, k, Wx, tg, e, am, tk, h, pr => by
    unfold okI at h
    refine PI.to (pi_tup (sE a _ am tk h pr)) fun σ H Q ⟨G, st, r, hw⟩ => ?_
    rw [evI] at hw
    refine ⟨G, st, r, hw.bnd.imp fun x s1 G1 H1 _ p1 r1 h1 v hv => ?_⟩
    split at h1
    · have hv : Rp X.K G1 v _ := hv
      cases hv with
      | tup s rr => exact ⟨_, rfl, ⟨_, r1.sub.sqT s⟩, h1.ok r1 _ (yld_tup s rr)⟩
    · exact h1.elim
  | .seqL a, X, k, Wx, tg, e, am, tk, h, pr => by
    unfold okI at h
    refine PI.to (pi_list (sE a _ am tk h pr)) fun σ H Q ⟨G, st, r, hw⟩ => ?_
    rw [evI] at hw
    refine ⟨G, st, r, hw.bnd.imp fun x s1 G1 H1 _ p1 r1 h1 v hv => ?_⟩
    split at h1
    · rename_i l s2 e1
      obtain ⟨G2, p2, r2, hx⟩ := frz_ok r1 hv e1
      cases hx with
      | lst s rr => exact ⟨_, rfl, ⟨_, r2.sub.sqL s⟩, h1 _ _ p2 r2 _ (yld_list s rr)⟩
    · exact h1.elim
  | .zipT a b, X, k, Wx, tg, e, am, tk, h, pr => by
    unfold okI at h
    rw [Bool.and_eq_true] at h
    obtain ⟨ht, h⟩ := h
    split at h
    · simp only [Bool.and_eq_true, decide_eq_true_eq] at h
      obtain ⟨⟨⟨h1, h2⟩, h3⟩, h4⟩ := h
      subst h1
      have hs := (okE_shape _ _ h3).st
      have hs2 := (okE_shape _ _ h4).st
      cases tg <;> first
        | (cases ht; done)
        | skip
      refine PI.to (pi_zipA (gl_of h2) (am.blt _ (blt_in (by decide))) (pa_cons (sE a _ am tk h3 pr.1) (pa_cons (sE b _ am tk h4 pr.2) pa_nil (star_cons hs2 [] _)) (star_cons hs _ _)) (star_cons hs _ _) (star_plain _ _ _ (by rw [List.all_cons, hs2]; rfl))) fun σ H Q ⟨G, st, r, hw⟩ => ?_
      rw [evI] at hw
      refine ⟨G, st, r, hw.bnd.imp fun x s1 G1 H1 _ p1 r1 h1 v hv => ⟨G1, s1, r1, h1.bnd.imp fun y s2 G2 H2 _ p2 r2 h2 u hu => ?_⟩⟩
      split at h2
      · split at h2
        · rename_i c
          have hv : Rp X.K G2 v _ := hv.mono p2.gr
          have hu : Rp X.K G2 u _ := hu
          cases hv with
          | tup s rr => cases hu with
            | tup s' rr' => exact ⟨_, _, _, _, rfl, .inr ⟨r2.sub.sqT s, r2.sub.sqT s', h2.ok r2 _ (yld_zipT s s' rr rr' c)⟩⟩
        · exact h2.elim
      · exact h2.elim
    · cases h
  | .zipL a b, X, k, Wx, tg, e, am, tk, h, pr => by
    unfold okI at h
    rw [Bool.and_eq_true] at h
    obtain ⟨ht, h⟩ := h
    split at h
    · simp only [Bool.and_eq_true, decide_eq_true_eq] at h
      obtain ⟨⟨⟨h1, h2⟩, h3⟩, h4⟩ := h
      subst h1
      have hs := (okE_shape _ _ h3).st
      have hs2 := (okE_shape _ _ h4).st
      cases tg <;> first
        | (cases ht; done)
        | skip
      refine PI.to (pi_zipA (gl_of h2) (am.blt _ (blt_in (by decide))) (pa_cons (sE a _ am tk h3 pr.1) (pa_cons (sE b _ am tk h4 pr.2) pa_nil (star_cons hs2 [] _)) (star_cons hs _ _)) (star_cons hs _ _) (star_plain _ _ _ (by rw [List.all_cons, hs2]; rfl))) fun σ H Q ⟨G, st, r, hw⟩ => ?_
      rw [evI] at hw
      refine ⟨G, st, r, hw.bnd.imp fun x s1 G1 H1 _ p1 r1 h1 v hv => ⟨G1, s1, r1, h1.bnd.imp fun y s2 G2 H2 _ p2 r2 h2 u hu => ?_⟩⟩
      split at h2
      · rename_i l m s3 e1
        split at h2
        · rename_i c
          obtain ⟨G3, p3, r3, rr⟩ := frzs_ok (ws := [x, y]) (vs := [v, u]) r2 ⟨hv.mono p2.gr, hu, trivial⟩ e1
          cases rr with
          | cons ra rr => cases rr with
            | cons rb rr => cases ra with
              | lst s ra => cases rb with
                | lst s' rb => exact ⟨_, _, _, _, rfl, .inl ⟨r3.sub.sqL s, r3.sub.sqL s', h2 _ _ p3 r3 _ (yld_zipL s s' ra rb c)⟩⟩
        · exact h2.elim
      · exact h2.elim
    · cases h
  | .enmL a, X, k, Wx, tg, e, am, tk, h, pr => by
    unfold okI at h
    rw [Bool.and_eq_true] at h
    obtain ⟨ht, h⟩ := h
    split at h
    · simp only [Bool.and_eq_true, decide_eq_true_eq] at h
      obtain ⟨⟨h1, h2⟩, h3⟩ := h
      subst h1
      have hs := (okE_shape _ _ h3).st
      cases tg <;> first
        | (cases ht; done)
        | skip
      refine PI.to (pi_enum (gl_of h2) (am.blt _ (blt_in (by decide))) (pa_cons (sE a _ am tk h3 pr) pa_nil (star_cons hs [] _)) (star_cons hs [] _)) fun σ H Q ⟨G, st, r, hw⟩ => ?_
      rw [evI] at hw
      refine ⟨G, st, r, hw.bnd.imp fun x s1 G1 H1 _ p1 r1 h1 v hv => ?_⟩
      split at h1
      · rename_i l s2 e1
        obtain ⟨G2, p2, r2, hx⟩ := frz_ok r1 hv e1
        cases hx with
        | lst s rr => exact ⟨_, _, rfl, r2.sub.sqL s, h1 _ _ p2 r2 _ (yld_enmL s rr)⟩
      · exact h1.elim
    · cases h
  | .enmT a, X, k, Wx, tg, e, am, tk, h, pr => by
    unfold okI at h
    cases h
theorem sL : ∀ (i : EL) {X : Cx} {k : Nat} {Wx : WX} (es : List Expr), Amb X k → Takes X Wx → okL X.N k i X.env.scope es = true → prL (askX X) i → PA X es (tWs X.K X.mg Wx (evL i))
  | .nil, X, k, Wx, es, am, tk, h, pr => by
    unfold okL at h
    split at h
    · exact PA.to pa_nil fun σ H Q ⟨G, st, r, hw⟩ => hw.ok r [] trivial
    · cases h
  | .cons a rr, X, k, Wx, es, am, tk, h, pr => by
    unfold okL at h
    split at h
    · rw [Bool.and_eq_true] at h
      refine PA.to (pa_cons (sE a _ am tk h.1 pr.1) (sL rr _ am tk h.2 pr.2) (star_cons (okE_shape _ _ h.1).st _ _)) fun σ H Q ⟨G, st, r, hw⟩ => ?_
      rw [evL] at hw
      exact ⟨G, st, r, hw.bnd.imp fun x s1 G1 H1 _ p1 r1 h1 v hv => ⟨G1, s1, r1, h1.bnd.imp fun xs s2 G2 H2 _ p2 r2 h2 vs hvs => h2.ok r2 (v :: vs) ⟨hv.mono p2.gr, hvs⟩⟩⟩
    · cases h
theorem sC : ∀ (i : EO) {X : Cx} {k : Nat} (x : Option Expr), Amb X k → okO X.N k i X.env.scope x = true → prO (askX X) i → PTs X x.toList (tIfs X.K X.mg i)
  | .no, X, k, x, am, h, pr => by
    unfold okO at h
    split at h
    · exact pts_nil
    · cases h
  | .yes e, X, k, x, am, h, pr => by
    unfold okO at h
    split at h
    · exact pts_one (sT e _ am takes0 h pr).1
    · cases h
end
end SG
/-! Sg12: what is stored; readings of statements. -/
namespace SG
open PySem L2 PyProof.Rows RZ

section
variable {K : PySem.W.Frag} {mg : Str → Option Value} {Wx : WX} {fr : Bool} {G H G' H' G0 H0 G1 H1 : Hp} {σ σ' σ0 σ1 : L2.St} {st st' st0 s1 : List S}
theorem NewL.step {v : V} {ds : List D} (x : NewL K G0 H0 G H σ st v ds) (p : Stp G H σ st G' H' σ' st') : NewL K G0 H0 G' H' σ' st' v ds := by
  obtain ⟨a, xs, e, h1, h2, h3, h4, h5⟩ := x
  have y := (show Aside G H σ st a (.lst xs) from ⟨h3, h2, h5⟩).step p
  exact ⟨a, xs, e, h1, y.g, y.h, h4.mono p.gr, y.n⟩
theorem NewL.base {v : V} {ds : List D} (x : NewL K G1 H1 G H σ st v ds) (hb : ∀ a, H1 a = none → H0 a = none) : NewL K G0 H0 G H σ st v ds := by
  obtain ⟨a, xs, e, h1, h2, h3, h4, h5⟩ := x
  exact ⟨a, xs, e, hb a h1, h2, h3, h4, h5⟩
theorem Stp.none (p : Stp G0 H0 σ0 st0 G H σ st) : ∀ a, H a = none → H0 a = none := fun a h => Classical.byContradiction fun z => p.nv a z h
/-- a value that is to be stored -/
def SNow (K : PySem.W.Frag) (G0 H0 G H : Hp) (σ : L2.St) (st : List S) (v : V) : S → Prop
  | .val d => Rp K G v d
  | .own false ds => NewL K G0 H0 G H σ st v ds
  | _ => False
theorem SNow.step {v : V} : ∀ {s : S}, SNow K G0 H0 G H σ st v s → Stp G H σ st G' H' σ' st' → SNow K G0 H0 G' H' σ' st' v s
  | .val _, x, p => Rp.mono p.gr x
  | .own false _, x, p => NewL.step (G0 := G0) x p
  | .own true _, x, _ => x.elim
  | .un, x, _ => x.elim
theorem SNow.set {v : V} {i : Nat} : ∀ {s : S}, SNow K G1 H1 G H σ st v s → Stp G0 H0 σ0 st0 G H σ st → Rl K G H σ st → (∀ a, H1 a = none → H0 a = none) → free st i = true →
    Rl K G H (σ.set i (some v)) (st.set i s) ∧ Stp G0 H0 σ0 st0 G H (σ.set i (some v)) (st.set i s)
  | .val _, x, p, r, _, hf => ⟨r.setV x, p.trans (Stp.setV hf)⟩
  | .own false _, x, p, r, hb, hf => by
    obtain ⟨a, xs, rfl, h1, h2, h3, h4, h5⟩ := x
    exact ⟨r.setO h2 h3 h4 h5, p.setO hf (hb a h1)⟩
  | .own true _, x, _, _, _, _ => x.elim
  | .un, x, _, _, _, _ => x.elim
/-- a second one behind the first -/
theorem SNow.keep {v u : V} {i : Nat} {s : S} (x : SNow K G0 H0 G H σ st v s) (hx : ∀ a xs, v = .ref a → H a = some (.lst xs) → ¬ Owned σ st a → (∃ ds, s = .own false ds) → H1 a ≠ Option.none) : ∀ {t : S}, SNow K G1 H1 G H σ st u t → SNow K G1 H1 G H (σ.set i (some v)) (st.set i s) u t
  | .val _, y => y
  | .own false _, y => by
    obtain ⟨a, xs, rfl, h1, h2, h3, h4, h5⟩ := y
    refine ⟨a, xs, rfl, h1, h2, h3, h4, fun ⟨j, m, es, e1, e2⟩ => ?_⟩
    rcases set_get e1 with ⟨rfl, hl, e⟩ | ⟨hj, e1⟩
    · subst e
      cases m with
      | true => exact x.elim
      | false =>
        obtain ⟨b, ys, rfl, k1, k2, k3, k4, k5⟩ := x
        rcases set_get e2 with ⟨_, _, e⟩ | ⟨hj, _⟩
        · cases e
          exact hx _ ys rfl k3 k5 ⟨_, rfl⟩ h1
        · exact hj rfl
    · rcases set_get e2 with ⟨z, _, _⟩ | ⟨_, e2⟩
      · exact hj z
      · exact h5 ⟨j, m, es, e1, e2⟩
  | .own true _, y => y.elim
  | .un, y => y.elim
def tX (K : PySem.W.Frag) (mg : Str → Option Value) (Wx : WX) (f : List S → R S) : TE := fun σ H Q =>
  ∃ G st, Rl K G H σ st ∧ Wp K mg Wx (f st) G H σ st fun s s1 G' H' => ∀ v, SNow K G H G' H' σ s1 v s → Q v H'
/-- what a def hands back -/
def RetV (K : PySem.W.Frag) (fr : Bool) (G0 H0 G H : Hp) (σ : L2.St) (st : List S) (v : V) (d : D) : Prop := match fr with
  | false => Rp K G v d
  | true => ∃ ds, d = .lst ds ∧ NewL K G0 H0 G H σ st v ds
theorem RetV.base {v : V} {d : D} (x : RetV K fr G1 H1 G H σ st v d) (hb : ∀ a, H1 a = Option.none → H0 a = Option.none) : RetV K fr G0 H0 G H σ st v d := by
  cases fr with
  | false => exact x
  | true =>
    obtain ⟨ds, e, n⟩ := x
    exact ⟨ds, e, n.base hb⟩
def WpS (K : PySem.W.Frag) (mg : Str → Option Value) (Wx : WX) (fr : Bool) (o : R Fl) (G H : Hp) (σ : L2.St) (st : List S) (en : Ends) : Prop := match o with
  | none => False
  | some (.error x, s1) => ∀ cls dx G' H' σ', Stp G H σ st G' H' σ' s1 → Rl K G' H' σ' s1 → ErrOk K mg G' H' cls dx x → Wx cls dx σ' H'
  | some (.ok f, s1) => ∀ G' H' σ', Stp G H σ st G' H' σ' s1 → Rl K G' H' σ' s1 → match f with
    | .nx => en.nx σ' H'
    | .bk => en.bk σ' H'
    | .ct => en.ct σ' H'
    | .rt d => ∀ v, RetV K fr G H G' H' σ' s1 v d → en.rt v H'
def tS (K : PySem.W.Frag) (mg : Str → Option Value) (Wx : WX) (fr : Bool) (f : List S → R Fl) : TS := fun en σ H => ∃ G st, Rl K G H σ st ∧ WpS K mg Wx fr (f st) G H σ st en
theorem WpS.at {α : Type} {o : R α} {f : α → List S → R Fl} {en : Ends} (h : WpS K mg Wx fr (SG.bnd o f) G H σ st en) (p : Stp G H σ st G1 H1 σ s1) : Wp K mg Wx o G1 H1 σ s1 fun a s2 _ _ => WpS K mg Wx fr (f a s2) G H σ st en := by
  match o, h with
  | some (.error x, s2), h => exact fun cls dx G' H' q => h cls dx G' H' σ (p.trans q)
  | some (.ok a, s2), h => exact fun _ _ _ _ => h
theorem WpS.opt {α : Type} {o : Option α} {s2 : List S} {f : α → List S → R Fl} {en : Ends} (h : WpS K mg Wx fr (SG.bnd (SG.opt o s2) f) G H σ st en) : ∃ a, o = some a ∧ WpS K mg Wx fr (f a s2) G H σ st en := by
  cases o with
  | none => exact h.elim
  | some a => exact ⟨a, rfl, h⟩
theorem WpS.shift {o : R Fl} {en : Ends} (h : WpS K mg Wx fr o G H σ st en) (p : Stp G H σ st G1 H1 σ1 s1) : WpS K mg Wx fr o G1 H1 σ1 s1 en := by
  match o, h with
  | some (.error x, s2), h => exact fun cls dx G' H' σ' q => h cls dx G' H' σ' (p.trans q)
  | some (.ok .nx, s2), h => exact fun G' H' σ' q => h G' H' σ' (p.trans q)
  | some (.ok .bk, s2), h => exact fun G' H' σ' q => h G' H' σ' (p.trans q)
  | some (.ok .ct, s2), h => exact fun G' H' σ' q => h G' H' σ' (p.trans q)
  | some (.ok (.rt d), s2), h => exact fun G' H' σ' q r v hv => h G' H' σ' (p.trans q) r v (hv.base p.none)
theorem set_ok {s2 s3 : List S} {i : Nat} {s : S} (h : setS s2 i s = some s3) : free s2 i = true ∧ s3 = s2.set i s := by
  unfold setS at h
  split at h
  · rename_i c
    cases h
    exact ⟨c, rfl⟩
  · cases h
/-- behind a turn of a loop -/
theorem turn_ok {o : R Fl} {kk : List S → R Fl} {en : Ends} (h : WpS K mg Wx fr (turnS o kk) G H σ st en) (p : Stp G H σ st G1 H1 σ1 s1) {N : L2.St → Hp → Prop}
    (hN : ∀ G5 H5 σ5 s5, Rl K G5 H5 σ5 s5 → Stp G1 H1 σ1 s1 G5 H5 σ5 s5 → WpS K mg Wx fr (kk s5) G H σ st en → N σ5 H5) : WpS K mg Wx fr o G1 H1 σ1 s1 { nx := N, rt := en.rt, bk := en.nx, ct := N } := by
  match o, h with
  | some (.error x, s2), h => exact fun cls dx G' H' σ' q => h cls dx G' H' σ' (p.trans q)
  | some (.ok .nx, s2), h => exact fun G' H' σ' q r => hN G' H' σ' s2 r q h
  | some (.ok .bk, s2), h => exact fun G' H' σ' q => h G' H' σ' (p.trans q)
  | some (.ok .ct, s2), h => exact fun G' H' σ' q r => hN G' H' σ' s2 r q h
  | some (.ok (.rt d), s2), h => exact fun G' H' σ' q r v hv => h G' H' σ' (p.trans q) r v (hv.base p.none)
theorem for_ok {t : Tg} {body : List S → R Fl} {f : List S → R (List D)} : ∀ en σ H, tS K mg Wx fr (fun st => bnd (f st) fun items s1 => if items.length ≤ 100000 then loopT t body items s1 else none) en σ H →
    tFor (tWi K mg Wx f) (gT K t) (tS K mg Wx fr body) en σ H := fun en σ H ⟨G, st, r, hw⟩ => by
  refine ⟨G, st, r, (hw.at .refl).imp fun items s1 G1 H1 _ p1 r1 h1 J y => ?_⟩
  split at h1
  · refine ⟨fun i m σ' H' => m = items.length - i ∧ i ≤ items.length ∧ ∃ G' st', Rl K G' H' σ' st' ∧ Stp G H σ st G' H' σ' st' ∧ Sub G1 G' ∧ WpS K mg Wx fr (loopT t body (items.drop i) st') G H σ st en,
      ⟨_, rfl, Nat.zero_le _, G1, s1, r1, p1, Sub.refl _, h1⟩, ?_⟩
    rintro i m σ' H' ⟨rfl, hi, G', st', r', p', sb, h'⟩
    by_cases hlt : i < items.length
    · obtain ⟨d, hd⟩ : ∃ d, items[i]? = some d := ⟨items[i], List.getElem?_eq_getElem hlt⟩
      have hdrop : items.drop i = d :: items.drop (i + 1) := by
        obtain ⟨h1, h2⟩ := List.getElem?_eq_some_iff.mp hd
        rw [List.drop_eq_getElem_cons h1, h2]
      rw [hdrop] at h'
      refine .inr ⟨y.go i d G' H' hd sb r'.sub, fun σ5 H5 => ∃ G5 s5, Rl K G5 H5 σ5 s5 ∧ Stp G H σ st G5 H5 σ5 s5 ∧ Sub G1 G5 ∧ WpS K mg Wx fr (loopT t body (items.drop (i + 1)) s5) G H σ st en,
        fun σ5 H5 z => ⟨items.length - (i + 1), by omega, rfl, hlt, z⟩, fun x H2 yy => ?_⟩
      obtain ⟨G2, p2, r2, hx⟩ : ∃ G2, Stp G' H' σ' st' G2 H2 σ' st' ∧ Rl K G2 H2 σ' st' ∧ Rp K G2 x d := by
        rcases y.yl i d G' H' x H2 hd sb r'.sub yy with ⟨e1, e2⟩ | ⟨q, o, e1, e2, e3, e4⟩
        · subst e1
          exact ⟨G', .refl, r', e2⟩
        · subst e2
          exact ⟨_, Stp.newF r' o e1, r'.newF o e1, e4⟩
      unfold loopT at h'
      split at h'
      · exact h'.elim
      · rename_i s2 hset
        refine tg_ok r2 hx hset fun σ2 _ p3 r3 => ?_
        have pp := p'.trans (p2.trans p3)
        exact ⟨G2, s2, r3, turn_ok h' pp fun G5 H5 σ5 s5 r5 p5 h5 => ⟨G5, s5, r5, pp.trans p5, (sb.trans (p2.trans p3).gr).trans p5.gr, h5⟩⟩
    · have hie : i = items.length := by omega
      subst hie
      rw [List.drop_length] at h'
      exact .inl ⟨y.st G' H' sb r'.sub, h' G' H' σ' p' r'⟩
  · exact h1.elim
theorem while_ok {c : List S → R Bool} {body : List S → R Fl} {m : List S → Nat} : ∀ en σ H, tS K mg Wx fr (fun st => whileT c body (m st) st) en σ H → tWhile (tWt K mg Wx c) (tS K mg Wx fr body) en σ H := fun en σ H ⟨G, st, r, hw⟩ => by
  refine ⟨fun n σ' H' => ∃ G' st', Rl K G' H' σ' st' ∧ Stp G H σ st G' H' σ' st' ∧ WpS K mg Wx fr (whileT c body n st') G H σ st en, ⟨m st, G, st, r, .refl, hw⟩, ?_⟩
  rintro n σ' H' ⟨G', st', r', p', h'⟩
  cases n with
  | zero => exact h'.elim
  | succ n =>
    unfold whileT at h'
    refine ⟨G', st', r', ?_⟩
    match e : c st', h' with
    | some (.error x, s1), h' => exact fun cls dx G5 H5 q => h' cls dx G5 H5 σ' (p'.trans q)
    | some (.ok false, s1), h' => exact fun G5 H5 q r5 => h' G5 H5 σ' (p'.trans q) r5
    | some (.ok true, s1), h' =>
      exact fun G5 H5 q r5 => ⟨fun σ6 H6 => ∃ G6 s6, Rl K G6 H6 σ6 s6 ∧ Stp G H σ st G6 H6 σ6 s6 ∧ WpS K mg Wx fr (whileT c body n s6) G H σ st en, fun σ6 H6 z => ⟨n, Nat.lt_succ_self _, z⟩,
        G5, s1, r5, turn_ok h' (p'.trans q) fun G6 H6 σ6 s6 r6 p6 h6 => ⟨G6, s6, r6, (p'.trans q).trans p6, h6⟩⟩
end
end SG
/-! Sg13: statements are sound. -/
namespace SG
open PySem L2 PyProof.Rows RZ

structure AmbS (X : Cx) (k : Nat) : Prop extends Amb X k where
  fn : ∀ x, X.fn x = true
  hp : PassesOwn (model X.prog X.w) X.A X.env X.xe
def noComp : Expr → Bool
  | .ListComp .. | .SetComp .. | .DictComp .. => false
  | _ => true
def isFC : EF → Bool
  | .f (.comp ..) => true
  | _ => false
def okX (N : List Str) (k : Nat) : EF → Scope → Expr → Bool
  | .e x => okE N k x
  | .f x => okF N k x
def prX (P : Ask) : EF → Prop
  | .e x => prE P x
  | .f x => prF P x
def locL (sc : Scope) (x : Str) : Bool := match sc.names.lookup x with
  | some .local => true
  | _ => false
def isFun (sc : Scope) : Bool := match sc.kind with
  | .function => true
  | _ => false
def parB (vs : List Expr) : Bool := !(vs.all (foldedForSure 8)) && !(vs.all (constantsAlone 8))
/-- names in a row, as a target -/
def okNs (N : List Str) (sc : Scope) : List Nat → List Expr → Bool
  | [], [] => true
  | i :: is, .Name x _ :: es => decide (N[i]? = some x) && locB sc x && okNs N sc is es
  | _, _ => false
def gNs : List Nat → TGs
  | [] => gNil
  | i :: is => gCons (gName i) (gNs is)
theorem pgs_ns {X : Cx} {scT : Scope} (nd : X.N.Nodup) (hf : ∀ x, locB scT x = true → Loc X.env.scope x ∧ (X.fn x = true ∨ X.env.scope.names.lookup x = some .local)) : ∀ (is : List Nat) (es : List Expr), okNs X.N scT is es = true →
    PGs X es (gNs is) ∧ (assignEach es X.env).length = is.length ∧ (assignEach es X.env).findIdx? (·.1) = none
  | [], [], _ => ⟨pgs_nil, rfl, rfl⟩
  | [], _ :: _, h => absurd (show false = true from h) Bool.false_ne_true
  | _ :: _, [], h => absurd (show false = true from h) Bool.false_ne_true
  | i :: is, e :: es, h => by
    cases e with
    | Name x px =>
      have h : (decide (X.N[i]? = some x) && locB scT x && okNs X.N scT is es) = true := h
      simp only [Bool.and_eq_true, decide_eq_true_eq] at h
      obtain ⟨⟨h1, h2⟩, h3⟩ := h
      obtain ⟨a, b⟩ := hf x h2
      obtain ⟨p, q, r⟩ := pgs_ns nd hf is es h3
      refine ⟨pgs_cons (pg_name nd h1 a b) p, congrArg Nat.succ q, ?_⟩
      show ((false, _) :: assignEach es X.env).findIdx? (·.1) = none
      rw [List.findIdx?_cons, r]
      rfl
    | _ => exact absurd (show false = true from h) Bool.false_ne_true
theorem ns_ok {K : PySem.W.Frag} {G H : Hp} {Q : L2.St → Hp → Prop} : ∀ {is : List Nat} {ds : List D} {xs : List V} {σ : L2.St} {st s2 : List S}, Rl K G H σ st → Rps K G xs ds → setNs st is ds = some s2 → (∀ σ', Stp G H σ st G H σ' s2 → Rl K G H σ' s2 → Q σ' H) → gNs is xs σ H Q
  | [], [], _, σ, st, s2, r, rx, h, q => by
    cases rx
    have h : some st = some s2 := h
    cases h
    exact ⟨rfl, q σ .refl r⟩
  | i :: is, d :: ds, _, σ, st, s2, r, rx, h, q => by
    cases rx with
    | cons a b =>
      unfold setNs at h
      split at h
      · rename_i c
        exact ⟨_, _, rfl, ns_ok (r.setV a) b h fun σ' p r' => q σ' ((Stp.setV c).trans p) r'⟩
      · cases h
  | [], _ :: _, _, _, _, _, _, _, h, _ => by cases h
  | _ :: _, [], _, _, _, _, _, _, h, _ => by cases h
theorem setNs_len : ∀ {is : List Nat} {ds : List D} {st s2 : List S}, setNs st is ds = some s2 → ds.length = is.length
  | [], [], _, _, _ => rfl
  | i :: is, d :: ds, st, s2, h => by
    unfold setNs at h
    split at h
    · exact congrArg Nat.succ (setNs_len h)
    · cases h
  | [], _ :: _, _, _, h => by cases h
  | _ :: _, [], _, _, h => by cases h
theorem sw_tup (v : Expr) (es : List Expr) (k : Nat) (p : Pos) (l : Nat) (env : Env) : swapsWith v (some (.Tuple es k p)) l env = pure false := by cases v <;> rfl
mutual
def okT (N : List Str) (k : Nat) (fr : Bool) : T → Scope → Stmt → Bool
  | .asg i x => fun sc s => match s with
    | .Assign [.Name y _] e _ => decide (N[i]? = some y) && locB sc y && okX N k x sc e && (noComp e || isFC x)
    | _ => false
  | .par2 i j a b => fun sc s => match s with
    | .Assign [.Tuple [.Name x px, .Name y py] _ _] (.Tuple [e, f] _ _) _ => decide (N[i]? = some x) && decide (N[j]? = some y) && decide (i ≠ j) && locL sc x && locL sc y && isFun sc && decide (x ≠ y) && (px.line == py.line) && parB [e, f] && okX N k a sc e && okX N k b sc f
    | _ => false
  | .par3 i j l a b c => fun sc s => match s with
    | .Assign [.Tuple [.Name x px, .Name y py, .Name z pz] _ _] (.Tuple [e, f, g] _ _) _ => decide (N[i]? = some x) && decide (N[j]? = some y) && decide (N[l]? = some z) && decide (i ≠ j) && decide (i ≠ l) && decide (j ≠ l) && locL sc x && locL sc y && locL sc z && isFun sc &&
        decide (x ≠ y) && decide (x ≠ z) && decide (y ≠ z) && (px.line == py.line) && (px.line == pz.line) && parB [e, f, g] && okX N k a sc e && okX N k b sc f && okX N k c sc g
    | _ => false
  | .unp t e => fun sc s => match s with
    | .Assign [tg] v _ => isTup tg && okTg N sc t tg && !isTup v && noComp v && okE N k e sc v
    | _ => false
  | .unpN _ is e => fun sc s => match s with
    | .Assign [.Tuple es _ _] v _ => okNs N sc is es && !isTup v && okE N k e sc v
    | _ => false
  | .setI i n e => fun sc s => match s with
    | .Assign [.Subscript (.Name x _) ix _] v _ => decide (N[i]? = some x) && visB sc x && dbg x && noComp v && okE N k n sc ix && okE N k e sc v
    | _ => false
  | .app i e => fun sc s => match s with
    | .Expr (.Call (.Attribute (.Name x _) at' apos) [v] [] cpos) _ => decide (N[i]? = some x) && visB sc x && dbg x && decide (at' = "append") && (apos.endLine == cpos.line) && okE N k e sc v
    | _ => false
  | .drop e => fun sc s => match s with
    | .Expr v _ => noComp v && okE N k e sc v
    | _ => false
  | .ret e => fun sc s => match s with
    | .Return (some v) _ => !fr && okE N k e sc v
    | _ => false
  | .retF f => fun sc s => match s with
    | .Return (some v) _ => fr && okF N k f sc v
    | _ => false
  | .retN => fun sc s => match s with
    | .Return none _ => !fr
    | _ => false
  | .ife c a b => fun sc s => match s with
    | .If t x y _ => okE N k c sc t && okS N k fr a sc x && okS N k fr b sc y
    | _ => false
  | .forr t it b => fun sc s => match s with
    | .For tg iter body [] _ => okTg N sc t tg && okI N k it sc tg iter && okS N k fr b sc body
    | _ => false
  | .whl c _ b => fun sc s => match s with
    | .While t body [] _ => okE N k c sc t && okS N k fr b sc body
    | _ => false
  | .brk => fun _ s => match s with
    | .Break _ => true
    | _ => false
  | .cont => fun _ s => match s with
    | .Continue _ => true
    | _ => false
  | .pas => fun _ s => match s with
    | .Pass _ => true
    | .Expr (.Constant (.str _) _ _) _ => true
    | _ => false
  | .nev => fun _ _ => true
def okS (N : List Str) (k : Nat) (fr : Bool) : TL → Scope → List Stmt → Bool
  | .nil => fun _ ss => match ss with
    | [] => true
    | _ => false
  | .cons t r => fun sc ss => match ss with
    | s :: ss => okT N k fr t sc s && okS N k fr r sc ss
    | _ => false
end
mutual
def prT (P : Ask) : T → Prop
  | .asg _ x => prX P x
  | .par2 _ _ a b => prX P a ∧ prX P b
  | .par3 _ _ _ a b c => prX P a ∧ prX P b ∧ prX P c
  | .unp _ e => prE P e
  | .unpN _ _ e => prE P e
  | .setI _ k e => prE P k ∧ prE P e
  | .app _ e => prE P e
  | .drop e => prE P e
  | .ret e => prE P e
  | .retF f => prF P f
  | .retN => True
  | .ife c a b => prE P c ∧ prS P a ∧ prS P b
  | .forr _ it b => prI P it ∧ prS P b
  | .whl c _ b => prE P c ∧ prS P b
  | .brk => True
  | .cont => True
  | .pas => True
  | .nev => True
def prS (P : Ask) : TL → Prop
  | .nil => True
  | .cons t r => prT P t ∧ prS P r
end
section
variable {X : Cx} {k : Nat} {Wx : WX} {fr : Bool}
theorem sX (x : EF) (e : Expr) (am : Amb X k) (tk : Takes X Wx) (h : okX X.N k x X.env.scope e = true) (pr : prX (askX X) x) : PE X e (tX X.K X.mg Wx (evX x)) := by
  cases x with
  | e x =>
    refine PE.to (sE x e am tk h pr) fun σ H Q ⟨G, st, r, hw⟩ => ?_
    unfold evX at hw
    refine ⟨G, st, r, hw.bnd.imp fun w s1 G1 H1 _ p1 r1 h1 v hv => ?_⟩
    split at h1
    · rename_i d s2 e1
      obtain ⟨G2, p2, r2, hx⟩ := frz_ok r1 hv e1
      exact h1 _ _ p2 r2 v hx
    · exact h1.elim
  | f x =>
    refine PE.to (sF x e am tk h pr) fun σ H Q ⟨G, st, r, hw⟩ => ?_
    unfold evX at hw
    exact ⟨G, st, r, hw.bnd.imp fun ds s1 G1 H1 _ p1 r1 h1 v hv => h1.ok r1 v hv⟩
theorem sw_no {v : Expr} (h : noComp v = true) (t : Option Expr) (l : Nat) (env : Env) : swapsWith v t l env = pure false := by
  cases v <;> first
    | (cases h; done)
    | rfl
theorem okX_star {N : List Str} {sc : Scope} (x : EF) {e : Expr} (h : okX N k x sc e = true) : nostar e = true := by
  cases x with
  | e x => exact (okE_shape x e h).st
  | f x => exact (okF_shape x e h).st
theorem loc_ll {sc : Scope} {x : Str} (h : locL sc x = true) : sc.names.lookup x = some .local := by
  unfold locL at h
  split at h
  · assumption
  · cases h
theorem isFun_of {sc : Scope} (h : isFun sc = true) : sc.kind = .function := by
  unfold isFun at h
  split at h
  · assumption
  · cases h
theorem nostar_any {es : List Expr} (h : es.all nostar = true) : (es.any fun | .Starred .. => true | _ => false) = false := by
  induction es with
  | nil => rfl
  | cons e es ih =>
    rw [List.all_cons, Bool.and_eq_true] at h
    rw [List.any_cons, ih h.2]
    cases e <;> first
      | rfl
      | (cases h.1; done)
theorem par2_st {x y : Str} {px py pt pt2 : Pos} {kt k2 : Nat} {e f : Expr} {env : Env} (hk : env.scope.kind = .function) (hx : env.scope.names.lookup x = some .local) (hy : env.scope.names.lookup y = some .local) (hn : x ≠ y) (hl : (px.line == py.line) = true)
    (hs : [e, f].all nostar = true) (hp : parB [e, f] = true) : swappedStores [.Tuple [.Name x px, .Name y py] kt pt] (.Tuple [e, f] k2 pt2) env = pure (some [x, y]) := by
  have kx : env.kindOf x = some .local := hx
  have ky : env.kindOf y = some .local := hy
  have hb : env.blockKind = .function := by unfold Env.blockKind; rw [hk]; rfl
  have hl' : (py.line == px.line) = true := by rw [beq_iff_eq] at hl ⊢; exact hl.symm
  have hst := nostar_any hs
  unfold parB at hp
  rw [Bool.and_eq_true, Bool.not_eq_true', Bool.not_eq_true'] at hp
  have hd : [x, y].eraseDups = [x, y] := by
    have : (y == x) = false := by rw [beq_eq_false_iff_ne]; exact fun z => hn z.symm
    simp [List.eraseDups_cons, List.filter, this]
  have hd' : [x, y].eraseDups.length = 2 := by rw [hd]; rfl
  have c2 : ([e, f].any fun | .Starred .. => true | _ => false) ≠ true := by rw [hst]; exact Bool.false_ne_true
  unfold swappedStores
  simp only [hb, kx, ky, hl', hp.1, hp.2, List.filterMap, Expr.pos, List.head?, Option.map, Option.getD, hd', List.length, beq_self_eq_true, Bool.and_self, ↓reduceIte]
  refine (if_neg (by decide)).trans ?_
  refine (if_neg c2).trans ?_
  refine (if_neg (by decide)).trans ?_
  rfl
theorem par3_st {x y z : Str} {px py pz pt pt2 : Pos} {kt k2 : Nat} {e f g : Expr} {env : Env} (hk : env.scope.kind = .function) (hx : env.scope.names.lookup x = some .local) (hy : env.scope.names.lookup y = some .local) (hz : env.scope.names.lookup z = some .local)
    (hn : x ≠ y) (hn2 : x ≠ z) (hn3 : y ≠ z) (hl : (px.line == py.line) = true) (hl2 : (px.line == pz.line) = true)
    (hs : [e, f, g].all nostar = true) (hp : parB [e, f, g] = true) : swappedStores [.Tuple [.Name x px, .Name y py, .Name z pz] kt pt] (.Tuple [e, f, g] k2 pt2) env = pure (some [x, y, z]) := by
  have kx : env.kindOf x = some .local := hx
  have ky : env.kindOf y = some .local := hy
  have kz : env.kindOf z = some .local := hz
  have hb : env.blockKind = .function := by unfold Env.blockKind; rw [hk]; rfl
  have hl' : (py.line == px.line) = true := by rw [beq_iff_eq] at hl ⊢; exact hl.symm
  have hl2' : (pz.line == px.line) = true := by rw [beq_iff_eq] at hl2 ⊢; exact hl2.symm
  have hst := nostar_any hs
  unfold parB at hp
  rw [Bool.and_eq_true, Bool.not_eq_true', Bool.not_eq_true'] at hp
  have hd : [x, y, z].eraseDups = [x, y, z] := by
    have e1 : (y == x) = false := by rw [beq_eq_false_iff_ne]; exact fun z => hn z.symm
    have e2 : (z == x) = false := by rw [beq_eq_false_iff_ne]; exact fun z => hn2 z.symm
    have e3 : (z == y) = false := by rw [beq_eq_false_iff_ne]; exact fun z => hn3 z.symm
    simp [List.eraseDups_cons, List.filter, e1, e2, e3]
  have hd' : [x, y, z].eraseDups.length = 3 := by rw [hd]; rfl
  have c2 : ([e, f, g].any fun | .Starred .. => true | _ => false) ≠ true := by rw [hst]; exact Bool.false_ne_true
  unfold swappedStores
  simp only [hb, kx, ky, kz, hl', hl2', hp.1, hp.2, List.filterMap, Expr.pos, List.head?, Option.map, Option.getD, hd', List.length, beq_self_eq_true, Bool.and_self, ↓reduceIte]
  refine (if_neg (by decide)).trans ?_
  refine (if_neg c2).trans ?_
  refine (if_neg (by decide)).trans ?_
  rfl
end
mutual
theorem sS {fr : Bool} : ∀ (t : T) {X : Cx} {k : Nat} {Wx : WX} (s : Stmt), AmbS X k → Takes X Wx → okT X.N k fr t X.env.scope s = true → prT (askX X) t → PS X s (tS X.K X.mg Wx fr (exT t))
  | .asg i x, X, k, Wx, s, am, tk, h, pr => by
    unfold okT at h
    split at h
    · rename_i y py e pos
      simp only [Bool.and_eq_true, decide_eq_true_eq] at h
      obtain ⟨⟨⟨h1, h2⟩, h3⟩, h4⟩ := h
      have key : ∀ en σ H, tS X.K X.mg Wx fr (exT (.asg i x)) en σ H → tAsg (tX X.K X.mg Wx (evX x)) (gName i) en σ H := fun en σ H ⟨G, st, r, hw⟩ => by
        rw [exT] at hw
        refine ⟨G, st, r, (hw.at .refl).imp fun s s1 G1 H1 _ p1 r1 h1 v hv => ?_⟩
        obtain ⟨s2, e2, h1⟩ := h1.opt
        obtain ⟨hf, rfl⟩ := set_ok e2
        obtain ⟨ra, rb⟩ := hv.set p1 r1 (fun _ z => z) hf
        exact h1 _ _ _ rb ra
      by_cases hc : noComp e = true
      · exact PS.to (ps_set am.nd h1 (loc_of h2) (sX x e am.toAmb tk h3 pr) (sw_no hc _ _ _) (.inl (am.fn y))) key
      · have hfc : isFC x = true := by
          rw [Bool.or_eq_true] at h4
          exact h4.resolve_left hc
        cases x with
        | e x => cases hfc
        | f x =>
          cases x with
          | comp t it c el =>
            have h3o := h3
            have h3 : okF X.N k (.comp t it c el) X.env.scope e = true := h3
            unfold okF at h3
            split at h3
            · rename_i elt tg iter ifs a scope pos2 h3o'
              simp only [Bool.and_eq_true, decide_eq_true_eq] at h3
              obtain ⟨⟨⟨⟨⟨g1, g2⟩, g3⟩, g4⟩, g5⟩, g6⟩ := h3
              subst g1
              have pr : prI (askX X) it ∧ prO (askX X) c ∧ prE (askX X) el := pr
              have sw : swapsWith (.ListComp elt [⟨tg, iter, ifs, 0⟩] scope pos2) (some (.Name y py)) pos.line X.env = pure (X.env.blockKind == .function && X.env.kindOf y == some .local && py.line == pos2.line && !(scope.names.any fun (n, k) => n == y && (k == .local || k == .cell))) := rfl
              cases hb : (X.env.blockKind == .function && X.env.kindOf y == some .local && py.line == pos2.line && !(scope.names.any fun (n, k) => n == y && (k == .local || k == .cell))) with
              | false =>
                rw [hb] at sw
                exact PS.to (ps_set am.nd h1 (loc_of h2) (sX (.f (.comp t it c el)) _ am.toAmb tk h3o' pr) sw (.inl (am.fn y))) key
              | true =>
                rw [hb] at sw
                simp only [Bool.and_eq_true] at hb
                have hyl : X.env.scope.names.lookup y = some .local := by
                  have := hb.1.1.2
                  have e : X.env.kindOf y = some .local := by simpa using this
                  exact e
                refine PS.to (ps_setLc (g := gT X.K t) (tt := tIfs X.K X.mg c) (te := tW X.K X.mg W0 (evE el)) am.calm am.nd h1 hyl sw (sI it tg iter am.toAmb tk g4 pr.1) (blkOk_by g2) (fun s H C cl fp => pg_ok am.calm am.nd (fun x hx => blk_tg x hx) g3) (fun s H C cl fp => ?_) (fun s H C cl fp => ?_) (noSet (okI_set it _ _ g4) _)) ?_
                · have g6' : okO X.N k c (relS scope X.env.scope) ifs.head? = true ∧ ifs.length ≤ 1 := by
                    split at g6
                    · exact ⟨g6, by decide⟩
                    · exact ⟨g6, Nat.le_refl _⟩
                    · cases g6
                  have base := sC c (X := X.blk s H scope (compEnvC scope cl C X.env) fp) ifs.head? (amb_blk am.toAmb s H scope _ fp) g6'.1 pr.2.1
                  match ifs, g6' with
                  | [], _ => exact base
                  | [x], _ => exact base
                  | _ :: _ :: _, ⟨_, z⟩ => exact absurd z (by simp)
                · exact sE el (X := X.blk s H scope (compEnvC scope cl C X.env) fp) elt (amb_blk am.toAmb s H scope _ fp) takes0 g5 pr.2.2
                · intro en σ H ⟨G, st, r, hw⟩
                  rw [own_slots]
                  refine comp_le σ H _ ?_
                  rw [exT, show evX (.f (.comp t it c el)) st = bnd (evF (.comp t it c el) st) fun ds s1 => ok (.own false ds) s1 from rfl] at hw
                  refine ⟨G, st, r, ?_⟩
                  match e0 : evF (.comp t it c el) st, hw with
                  | none, hw => exact hw.elim
                  | some (.error z, s1), hw =>
                    exact fun cls dx G' H' q => hw cls dx G' H' σ q
                  | some (.ok ds, s1), hw =>
                    intro G1 H1 p1 r1 v hv
                    obtain ⟨s2, e2, h1⟩ := WpS.opt hw
                    obtain ⟨hf, rfl⟩ := set_ok e2
                    obtain ⟨ra, rb⟩ := SNow.set (G1 := G) (s := .own false ds) hv p1 r1 (fun _ z => z) hf
                    exact h1 _ _ _ rb ra
            · cases h3
          | disp _ => cases hfc
          | listOf _ => cases hfc
          | cat _ _ => cases hfc
          | callF _ _ => cases hfc
    · cases h
  | .par2 i j a b, X, k, Wx, s, am, tk, h, pr => by
    unfold okT at h
    split at h
    · simp only [Bool.and_eq_true, decide_eq_true_eq] at h
      obtain ⟨⟨⟨⟨⟨⟨⟨⟨⟨⟨h1, h2⟩, h3⟩, h4⟩, h5⟩, h6⟩, h7⟩, h8⟩, h9⟩, h10⟩, h11⟩ := h
      have sa := okX_star a h10
      have sb := okX_star b h11
      refine PS.to (ps_par am.calm am.nd h1 h2 h3 (loc_ll h4) (loc_ll h5) (pa_cons (sX a _ am.toAmb tk h10 pr.1) (pa_cons (sX b _ am.toAmb tk h11 pr.2) pa_nil (star_cons sb [] _)) (star_cons sa _ _))
        (par2_st (isFun_of h6) (loc_ll h4) (loc_ll h5) h7 h8 (by rw [List.all_cons, sa, List.all_cons, sb]; rfl) h9) rfl) fun en σ H ⟨G, st, r, hw⟩ => ?_
      rw [exT] at hw
      refine ⟨G, st, r, (hw.at .refl).imp fun x s1 G1 H1 _ p1 r1 h1 v hv => ⟨G1, s1, r1, (h1.at p1).imp fun y s2 G2 H2 _ p2 r2 h2 u hu => ⟨v, u, rfl, ?_⟩⟩⟩
      obtain ⟨s3, e3, h2⟩ := h2.opt
      obtain ⟨f3, rfl⟩ := set_ok e3
      obtain ⟨s4, e4, h2⟩ := h2.opt
      obtain ⟨f4, rfl⟩ := set_ok e4
      have hv2 := hv.step p2
      obtain ⟨ra, rb⟩ := hv2.set (p1.trans p2) r2 (fun _ z => z) f3
      have hu2 : SNow X.K G1 H1 G2 H2 (σ.set i (some v)) (s2.set i x) u y := hv2.keep (fun c xs e _ _ hd z => by
        obtain ⟨ds, rfl⟩ := hd
        obtain ⟨c', ys, e', q1, q2, q3, _⟩ := hv
        rw [e] at e'
        cases e'
        rw [q3] at z
        cases z) hu
      obtain ⟨rc, rd⟩ := hu2.set rb ra p1.none f4
      exact h2 _ _ _ rd rc
    · cases h
  | .par3 i j l a b c, X, k, Wx, s, am, tk, h, pr => by
    unfold okT at h
    split at h
    · simp only [Bool.and_eq_true, decide_eq_true_eq] at h
      obtain ⟨⟨⟨⟨⟨⟨⟨⟨⟨⟨⟨⟨⟨⟨⟨⟨⟨⟨h1, h2⟩, h3⟩, h4⟩, h5⟩, h6⟩, h7⟩, h8⟩, h9⟩, h10⟩, h11⟩, h12⟩, h13⟩, h14⟩, h15⟩, h16⟩, h17⟩, h18⟩, h19⟩ := h
      have sa := okX_star a h17
      have sb := okX_star b h18
      have sc := okX_star c h19
      refine PS.to (ps_par3 am.calm am.nd h1 h2 h3 h4 h5 h6 (loc_ll h7) (loc_ll h8) (loc_ll h9) (pa_cons (sX a _ am.toAmb tk h17 pr.1) (pa_cons (sX b _ am.toAmb tk h18 pr.2.1) (pa_cons (sX c _ am.toAmb tk h19 pr.2.2) pa_nil (star_cons sc [] _)) (star_cons sb _ _)) (star_cons sa _ _))
        (par3_st (isFun_of h10) (loc_ll h7) (loc_ll h8) (loc_ll h9) h11 h12 h13 h14 h15 (by rw [List.all_cons, sa, List.all_cons, sb, List.all_cons, sc]; rfl) h16) rfl) fun en σ H ⟨G, st, r, hw⟩ => ?_
      rw [exT] at hw
      refine ⟨G, st, r, (hw.at .refl).imp fun x s1 G1 H1 _ p1 r1 h1 v hv => ⟨G1, s1, r1, (h1.at p1).imp fun y s2 G2 H2 _ p2 r2 h2 u hu => ⟨G2, s2, r2, (h2.at (p1.trans p2)).imp fun z s3 G3 H3 _ p3 r3 h3 w hw3 => ⟨v, u, w, rfl, ?_⟩⟩⟩⟩
      obtain ⟨s4, e4, h3⟩ := h3.opt
      obtain ⟨f4, rfl⟩ := set_ok e4
      obtain ⟨s5, e5, h3⟩ := h3.opt
      obtain ⟨f5, rfl⟩ := set_ok e5
      obtain ⟨s6, e6, h3⟩ := h3.opt
      obtain ⟨f6, rfl⟩ := set_ok e6
      have hv3 := hv.step (p2.trans p3)
      have hu3 := hu.step p3
      have some1 : ∀ (c : Addr) (xs : List V), v = .ref c → (∃ ds, x = S.own false ds) → H1 c ≠ none := fun c xs e hd z => by
        obtain ⟨ds, rfl⟩ := hd
        obtain ⟨c', ys, e', q1, q2, q3, _⟩ := hv
        rw [e] at e'
        cases e'
        rw [q3] at z
        cases z
      have some2 : ∀ (c : Addr) (xs : List V), u = .ref c → (∃ ds, y = S.own false ds) → H2 c ≠ none := fun c xs e hd z => by
        obtain ⟨ds, rfl⟩ := hd
        obtain ⟨c', ys, e', q1, q2, q3, _⟩ := hu
        rw [e] at e'
        cases e'
        rw [q3] at z
        cases z
      obtain ⟨ra, rb⟩ := hv3.set ((p1.trans p2).trans p3) r3 (fun _ z => z) f4
      have hu4 : SNow X.K G1 H1 G3 H3 (σ.set i (some v)) (s3.set i x) u y := hv3.keep (fun c xs e _ _ hd => some1 c xs e hd) hu3
      have hw4 : SNow X.K G2 H2 G3 H3 (σ.set i (some v)) (s3.set i x) w z := hv3.keep (fun c xs e _ _ hd z => some1 c xs e hd (p2.none c z)) hw3
      obtain ⟨rc, rd⟩ := hu4.set rb ra p1.none f5
      have hw5 : SNow X.K G2 H2 G3 H3 ((σ.set i (some v)).set j (some u)) ((s3.set i x).set j y) w z := hu4.keep (fun c xs e _ _ hd => some2 c xs e hd) hw4
      obtain ⟨re, rf⟩ := hw5.set rd rc (fun c z => p1.none c (p2.none c z)) f6
      exact h3 _ _ _ rf re
    · cases h
  | .unp t e, X, k, Wx, s, am, tk, h, pr => by
    unfold okT at h
    split at h
    · rename_i tg v pos
      simp only [Bool.and_eq_true] at h
      obtain ⟨⟨⟨⟨h1, h2⟩, h3⟩, h4⟩, h5⟩ := h
      have hsw : swappedStores [tg] v X.env = pure none := by
        cases tg <;> first
          | (cases h1; done)
          | skip
        cases v <;> first
          | (cases h3; done)
          | rfl
      have ha : (assignEach [tg] X.env).map (·.2) = [assign tg X.env] := by
        cases tg <;> first
          | (cases h1; done)
          | rfl
      refine PS.to (ps_asg (sE e v am.toAmb tk h5 pr) (pg_ok am.calm am.nd (fun x hx => ⟨loc_of hx, .inl (am.fn x)⟩) h2) (sw_no h4 _ _ _) hsw ha) fun en σ H ⟨G, st, r, hw⟩ => ?_
      rw [exT] at hw
      refine ⟨G, st, r, (hw.at .refl).imp fun x s1 G1 H1 _ p1 r1 h1 u hu => ?_⟩
      split at h1
      · obtain ⟨s2, e2, h1⟩ := h1.opt
        exact tg_ok r1 hu e2 fun σ2 _ p3 r3 => h1 _ _ _ (p1.trans p3) r3
      · exact h1.elim
    · cases h
  | .unpN l is e, X, k, Wx, s, am, tk, h, pr => by
    unfold okT at h
    split at h
    · rename_i es kt pt v pos
      simp only [Bool.and_eq_true] at h
      obtain ⟨⟨h1, h2⟩, h3⟩ := h
      obtain ⟨pg, hn, hst⟩ := pgs_ns am.nd (fun x hx => ⟨loc_of hx, .inl (am.fn x)⟩) is es h1
      have hsw : swappedStores [.Tuple es kt pt] v X.env = pure none := by
        cases v <;> first
          | (cases h2; done)
          | rfl
      cases l with
      | true =>
        refine PS.to (ps_asg (sE e v am.toAmb tk h3 pr) (pg_unl am.calm pg hn hst) (sw_tup v es kt pt pos.line X.env) hsw rfl) fun en σ H ⟨G, st, r, hw⟩ => ?_
        rw [exT] at hw
        refine ⟨G, st, r, (hw.at .refl).imp fun x s1 G1 H1 _ p1 r1 h1 u hu => ?_⟩
        split at h1
        · contradiction
        · obtain ⟨s2, e2, h1⟩ := h1.opt
          have hu : Rp X.K G1 u _ := hu
          cases hu with
          | lst sq rx => exact ⟨_, _, rfl, r1.sub.sqL sq, by rw [rx.length]; exact setNs_len e2, ns_ok r1 rx e2 fun σ2 p3 r3 => h1 _ _ _ (p1.trans p3) r3⟩
        · exact h1.elim
      | false =>
        refine PS.to (ps_asg (sE e v am.toAmb tk h3 pr) (pg_tup am.calm pg hn hst) (sw_tup v es kt pt pos.line X.env) hsw rfl) fun en σ H ⟨G, st, r, hw⟩ => ?_
        rw [exT] at hw
        refine ⟨G, st, r, (hw.at .refl).imp fun x s1 G1 H1 _ p1 r1 h1 u hu => ?_⟩
        split at h1
        · obtain ⟨s2, e2, h1⟩ := h1.opt
          have hu : Rp X.K G1 u _ := hu
          cases hu with
          | tup sq rx => exact ⟨_, _, rfl, r1.sub.sqT sq, by rw [rx.length]; exact setNs_len e2, ns_ok r1 rx e2 fun σ2 p3 r3 => h1 _ _ _ (p1.trans p3) r3⟩
        · contradiction
        · exact h1.elim
    · cases h
  | .setI i n e, X, k, Wx, s, am, tk, h, pr => by
    unfold okT at h
    split at h
    · rename_i x px ix spos v pos
      simp only [Bool.and_eq_true, decide_eq_true_eq] at h
      obtain ⟨⟨⟨⟨⟨h1, h2⟩, h3⟩, h4⟩, h5⟩, h6⟩ := h
      obtain ⟨d1, d2⟩ := dbg_of h3
      have hix := (okE_shape _ _ h5).sl
      refine PS.to (ps_asg (sX (.e e) v am.toAmb tk h6 pr.2) (pg_sub (pe_var h1 (vis_of h2) d1 d2) (sE n ix am.toAmb tk h5 pr.1) set_list (by
        intro v
        cases ix <;> first
          | (cases hix; done)
          | rfl)) (show swapsWithSole [Expr.Subscript (.Name x px) ix spos] v pos.line X.env = pure false from sw_no h4 (some (.Subscript (.Name x px) ix spos)) pos.line X.env) rfl rfl) fun en σ H ⟨G, st, r, hw⟩ => ?_
      rw [exT] at hw
      refine ⟨G, st, r, (hw.at .refl).imp fun x s1 G1 H1 _ p1 r1 h1 u hu => ?_⟩
      split at h1
      · rename_i d m0 es0 e0 _
        have hu : Rp X.K G1 u d := hu
        obtain ⟨a, ys, b1, _⟩ := r1.own i m0 es0 e0
        refine ⟨_, b1, G1, s1, r1, (h1.at p1).imp fun y s2 G2 H2 _ p2 r2 h2 w hw2 => ?_⟩
        split at h2
        · rename_i nn m ds e1 _
          split at h2
          · rename_i j e2
            obtain ⟨a', xs, c1, c2, c3, c4⟩ := r2.own i m ds e1
            rw [b1] at c1
            cases c1
            have rs : Rps X.K G2 (xs.set j u) (ds.set j d) := c4.set (hu.mono p2.gr) j
            refine ⟨a, xs, nn, j, rfl, hw2.toI, c3, by rw [c4.length]; exact e2, ?_⟩
            exact h2 _ _ _ ((p1.trans p2).trans (Stp.wr r2 e1 b1)) (Rl.wr (xs := xs) r2 e1 b1 rs)
          · exact h2.elim
        · exact h2.elim
      · exact h1.elim
    · cases h
  | .app i e, X, k, Wx, s, am, tk, h, pr => by
    unfold okT at h
    split at h
    · rename_i x px at' apos v cpos pos
      simp only [Bool.and_eq_true, decide_eq_true_eq] at h
      obtain ⟨⟨⟨⟨⟨h1, h2⟩, h3⟩, h4⟩, h5⟩, h6⟩ := h
      obtain ⟨d1, d2⟩ := dbg_of h3
      subst h4
      have hs := (okE_shape _ _ h6).st
      refine PS.to (ps_expr (pe_bm PySem.F.plainAttrs_list PySem.F.slot_list_append PySem.F.type_list_append mt_append (pe_var h1 (vis_of h2) d1 d2) (pa_cons (sX (.e e) v am.toAmb tk h6 pr) pa_nil (star_cons hs [] _)) rfl
        (by rw [star_cons hs]; rfl) h5 (star_cons hs [] _) rfl) rfl) fun en σ H ⟨G, st, r, hw⟩ => ?_
      rw [exT] at hw
      split at hw
      · rename_i m0 es0 e0
        obtain ⟨a, ys, b1, b2, b3, b4⟩ := r.own i m0 es0 e0
        refine ⟨_, b1, .inl ⟨rfl, ys, .inl (.inl b3)⟩, G, st, r, (hw.at .refl).imp fun x s1 G1 H1 _ p1 r1 h1 u hu => ?_⟩
        split at h1
        · rename_i d m ds e1 _
          split at h1
          · rename_i hl
            have hu : Rp X.K G1 u d := hu
            obtain ⟨a', xs, c1, c2, c3, c4⟩ := r1.own i m ds e1
            rw [b1] at c1
            cases c1
            refine ⟨a, xs, u, rfl, rfl, c3, by rw [c4.length, sizeLine_eq]; omega, ?_⟩
            exact h1 _ _ _ (p1.trans (Stp.wr r1 e1 b1)) (Rl.wr (xs := xs) r1 e1 b1 (c4.snoc hu))
          · exact h1.elim
        · exact h1.elim
      · exact hw.elim
    · cases h
  | .drop e, X, k, Wx, s, am, tk, h, pr => by
    unfold okT at h
    split at h
    · rw [Bool.and_eq_true] at h
      refine PS.to (ps_expr (sE e _ am.toAmb tk h.2 pr) (sw_no h.1 _ _ _)) fun en σ H ⟨G, st, r, hw⟩ => ?_
      rw [exT] at hw
      exact ⟨G, st, r, (hw.at .refl).imp fun x s1 G1 H1 _ p1 r1 h1 u hu => h1 _ _ _ p1 r1⟩
    · cases h
  | .ret e, X, k, Wx, s, am, tk, h, pr => by
    unfold okT at h
    split at h
    · rw [Bool.and_eq_true] at h
      cases fr with
      | true => cases h.1
      | false =>
        refine PS.to (ps_ret (sE e _ am.toAmb tk h.2 pr)) fun en σ H ⟨G, st, r, hw⟩ => ?_
        rw [exT] at hw
        refine ⟨G, st, r, (hw.at .refl).imp fun x s1 G1 H1 _ p1 r1 h1 u hu => ?_⟩
        split at h1
        · rename_i d s2 e1
          obtain ⟨G2, p2, r2, hx⟩ := frz_ok r1 hu e1
          exact h1 _ _ _ (p1.trans p2) r2 u hx
        · exact h1.elim
    · cases h
  | .retF f, X, k, Wx, s, am, tk, h, pr => by
    unfold okT at h
    split at h
    · rw [Bool.and_eq_true] at h
      cases fr with
      | false => cases h.1
      | true =>
        refine PS.to (ps_ret (sF f _ am.toAmb tk h.2 pr)) fun en σ H ⟨G, st, r, hw⟩ => ?_
        rw [exT] at hw
        exact ⟨G, st, r, (hw.at .refl).imp fun ds s1 G1 H1 _ p1 r1 h1 u hu => h1 _ _ _ p1 r1 u ⟨ds, rfl, hu⟩⟩
    · cases h
  | .retN, X, k, Wx, s, am, tk, h, pr => by
    unfold okT at h
    split at h
    · cases fr with
      | true => cases h
      | false =>
        refine PS.to ps_retN fun en σ H ⟨G, st, r, hw⟩ => ?_
        rw [exT] at hw
        exact hw _ _ _ .refl r _ .non
    · cases h
  | .ife c a b, X, k, Wx, s, am, tk, h, pr => by
    unfold okT at h
    split at h
    · simp only [Bool.and_eq_true] at h
      obtain ⟨⟨h1, h2⟩, h3⟩ := h
      refine PS.to (ps_if (sT c _ am.toAmb tk h1 pr.1).1 (sSs a _ am tk h2 pr.2.1) (sSs b _ am tk h3 pr.2.2)) fun en σ H ⟨G, st, r, hw⟩ => ?_
      rw [exT] at hw
      refine ⟨G, st, r, (hw.at .refl).imp fun q s1 G1 H1 _ p1 r1 h1 => ?_⟩
      cases q with
      | true => exact ⟨G1, s1, r1, h1.shift p1⟩
      | false => exact ⟨G1, s1, r1, h1.shift p1⟩
    · cases h
  | .forr t it b, X, k, Wx, s, am, tk, h, pr => by
    unfold okT at h
    split at h
    · simp only [Bool.and_eq_true] at h
      obtain ⟨⟨h1, h2⟩, h3⟩ := h
      refine PS.to (ps_for am.hp am.calm (sI it _ _ am.toAmb tk h2 pr.1) (pg_ok am.calm am.nd (fun x hx => ⟨loc_of hx, .inl (am.fn x)⟩) h1) (sSs b _ am tk h3 pr.2) (noSet (okI_set it _ _ h2) _)) fun en σ H q => ?_
      refine for_ok en σ H ?_
      rw [show exT (.forr t it b) = _ from funext fun st => exT.eq_13 st t it b] at q
      exact q
    · cases h
  | .whl c m b, X, k, Wx, s, am, tk, h, pr => by
    unfold okT at h
    split at h
    · rw [Bool.and_eq_true] at h
      refine PS.to (ps_while am.hp (sT c _ am.toAmb tk h.1 pr.1).1 (sSs b _ am tk h.2 pr.2)) fun en σ H q => ?_
      refine while_ok (m := m) en σ H ?_
      rw [show exT (.whl c m b) = _ from funext fun st => exT.eq_14 st c m b] at q
      exact q
    · cases h
  | .brk, X, k, Wx, s, am, tk, h, pr => by
    unfold okT at h
    split at h
    · refine PS.to ps_break fun en σ H ⟨G, st, r, hw⟩ => ?_
      rw [exT] at hw
      exact hw _ _ _ .refl r
    · cases h
  | .cont, X, k, Wx, s, am, tk, h, pr => by
    unfold okT at h
    split at h
    · refine PS.to ps_continue fun en σ H ⟨G, st, r, hw⟩ => ?_
      rw [exT] at hw
      exact hw _ _ _ .refl r
    · cases h
  | .pas, X, k, Wx, s, am, tk, h, pr => by
    unfold okT at h
    have key : ∀ en σ H, tS X.K X.mg Wx fr (exT .pas) en σ H → tNext en σ H := fun en σ H ⟨G, st, r, hw⟩ => by
      rw [exT] at hw
      exact hw _ _ _ .refl r
    split at h
    · exact PS.to ps_pass key
    · exact PS.to ps_doc key
    · cases h
  | .nev, X, k, Wx, s, am, tk, h, pr => PS.to ps_never fun en σ H ⟨G, st, r, hw⟩ => by
    rw [exT] at hw
    exact hw
theorem sSs {fr : Bool} : ∀ (t : TL) {X : Cx} {k : Nat} {Wx : WX} (ss : List Stmt), AmbS X k → Takes X Wx → okS X.N k fr t X.env.scope ss = true → prS (askX X) t → PSs X ss (tS X.K X.mg Wx fr (exL t))
  | .nil, X, k, Wx, ss, am, tk, h, pr => by
    unfold okS at h
    split at h
    · refine PSs.to pss_nil fun en σ H ⟨G, st, r, hw⟩ => ?_
      rw [exL] at hw
      exact hw _ _ _ .refl r
    · cases h
  | .cons t r, X, k, Wx, ss, am, tk, h, pr => by
    unfold okS at h
    split at h
    · rw [Bool.and_eq_true] at h
      refine PSs.to (pss_cons (sS t _ am tk h.1 pr.1) (sSs r _ am tk h.2 pr.2)) fun en σ H ⟨G, st, rr, hw⟩ => ?_
      refine ⟨G, st, rr, ?_⟩
      rw [exL] at hw
      match e0 : exT t st, hw with
      | none, hw => exact hw.elim
      | some (.error z, s1), hw => exact hw
      | some (.ok .nx, s1), hw =>
        exact fun G1 H1 σ1 p1 r1 => ⟨G1, s1, r1, hw.shift p1⟩
      | some (.ok .bk, s1), hw => exact hw
      | some (.ok .ct, s1), hw => exact hw
      | some (.ok (.rt d), s1), hw => exact hw
    · cases h
end
end SG
/-! Sg14: a def of the text keeps its promise. -/
namespace SG
open PySem L2 PyProof.Rows RZ

section
variable {K : PySem.W.Frag} {mg : Str → Option Value} {Wx : WX} {fr : Bool} {G H G' H' : Hp} {σ σ' : L2.St} {st st' s1 : List S}
theorem pad_get {α : Type} {l : List α} {n i : Nat} {u x : α} (h : (l ++ List.replicate n u)[i]? = some x) : l[i]? = some x ∨ x = u := by
  by_cases hi : i < l.length
  · rw [List.getElem?_append_left hi] at h
    exact .inl h
  · rw [List.getElem?_append_right (by omega)] at h
    exact .inr (List.mem_replicate.mp (List.mem_of_getElem? h)).2
theorem get_pad {α : Type} {l : List α} {n i : Nat} {u x : α} (h : l[i]? = some x) : (l ++ List.replicate n u)[i]? = some x := by
  rw [List.getElem?_append_left (lt_of_get h)]
  exact h
theorem Rl.pad (r : Rl K G H σ st) (n : Nat) : Rl K G H (σ ++ List.replicate n none) (st ++ List.replicate n .un) := by
  refine ⟨r.sub, by rw [List.length_append, List.length_append, r.len, List.length_replicate, List.length_replicate], fun i d h => ?_, fun i m ds h => ?_, fun i j m ds n' es hij h1 h2 => ?_⟩
  · rcases pad_get h with h | h
    · obtain ⟨v, a, b⟩ := r.val i d h
      exact ⟨v, get_pad a, b⟩
    · cases h
  · rcases pad_get h with h | h
    · obtain ⟨a, xs, e, q⟩ := r.own i m ds h
      exact ⟨a, xs, get_pad e, q⟩
    · cases h
  · rcases pad_get h1 with h1 | h1
    · rcases pad_get h2 with h2 | h2
      · have := r.sep i j m ds n' es hij h1 h2
        obtain ⟨a, _, e1, _⟩ := r.own i m ds h1
        obtain ⟨b, _, e2, _⟩ := r.own j n' es h2
        rw [get_pad e1, get_pad e2]
        rw [e1, e2] at this
        exact this
      · cases h2
    · cases h1
theorem own_pad {n : Nat} {b : Addr} (h : Owned (σ ++ List.replicate n none) (st ++ List.replicate n .un) b) : Owned σ st b := by
  obtain ⟨i, m, ds, h1, h2⟩ := h
  rcases pad_get h1 with h1 | h1
  · rcases pad_get h2 with h2 | h2
    · exact ⟨i, m, ds, h1, h2⟩
    · cases h2
  · cases h1
def backOf (st : List S) : List D := match (st[0]? : Option S) with | some (S.own true zs) => zs | _ => []
/-- a def is left -/
theorem leave {vs : List V} {ds es : List D} {lend : Bool} {n m : Nat} (r : Rl K G H (vs.map some) (argS lend es ds)) (p : Stp G H (vs.map some ++ List.replicate n none) (argS lend es ds ++ List.replicate m .un) G' H' σ' s1) (hnm : n = m) (r' : Rl K G' H' σ' s1) :
    Rl K G' H' (vs.map some) (argS lend (backOf s1) ds) ∧ Stp G H (vs.map some) (argS lend es ds) G' H' (vs.map some) (argS lend (backOf s1) ds) := by
  subst hnm
  cases lend with
  | false =>
    have no : ∀ b, ¬ Owned (vs.map some ++ List.replicate n none) (argS false es ds ++ List.replicate n .un) b := fun b h => not_owned_vals (own_pad h)
    have := r.over r'.sub (fun b o h => p.kp b o h (no b)) p.gr (fun b h => p.old b h (no b))
    exact this
  | true =>
    obtain ⟨e1, fs, e2⟩ := p.bor 0 es rfl
    have eb : backOf s1 = fs := by unfold backOf; rw [e2]
    obtain ⟨a, xs, e3, g3, h3, r3⟩ := r'.own 0 true fs e2
    rw [e1] at e3
    cases vs with
    | nil =>
      obtain ⟨a', _, e, _⟩ := r.own 0 true es rfl
      cases e
    | cons v vr =>
      have e3 : some (some v) = some (some (V.ref a)) := e3
      cases e3
      have ow : ∀ b, Owned ((V.ref a :: vr).map some ++ List.replicate n none) (argS true es ds ++ List.replicate n .un) b → b = a := fun b h => owned_lent (own_pad h)
      have := r.lent (i := 0) (m := true) (es := es) (es' := fs) (a := a) (xs := xs) rfl rfl r'.sub (fun b o hb h => p.kp b o h fun z => hb (ow b z)) p.gr (fun b hb h => p.old b h fun z => hb (ow b z)) g3 h3 r3
      rw [eb]
      exact this
/-- a body's run, from what the promise says -/
theorem body_ok {f : Fn} {vs : List V} {es ds : List D} {N : Nat} {tl : TL} {E : XK} {Q : VK} (r : Rl K G H (vs.map some) (argS f.lend es ds))
    (h : match runDef N f.lend f.fresh tl es ds with
      | none => False
      | some (.ok d, es') => ∀ v G' H', Stp G H (vs.map some) (argS f.lend es ds) G' H' (vs.map some) (argS f.lend es' ds) → Rl K G' H' (vs.map some) (argS f.lend es' ds) → RetOk K G H G' H' f.fresh v d → Q v H'
      | some (.error x, es') => ∀ cls dx G' H', Stp G H (vs.map some) (argS f.lend es ds) G' H' (vs.map some) (argS f.lend es' ds) → Rl K G' H' (vs.map some) (argS f.lend es' ds) → ErrOk K mg G' H' cls dx x → E cls dx H') :
    tS K mg (fun cls dx _ H' => E cls dx H') f.fresh (exL tl) { nx := fun _ H' => Q .non H', rt := Q } (vs.map some ++ List.replicate (N - vs.length) none) H := by
  have hl : (argS f.lend es ds).length = vs.length := by
    have := r.len
    rw [List.length_map] at this
    exact this
  refine ⟨G, argS f.lend es ds ++ List.replicate (N - (argS f.lend es ds).length) .un, by rw [hl]; exact r.pad _, ?_⟩
  have hn : N - vs.length = N - (argS f.lend es ds).length := by rw [hl]
  unfold runDef at h
  generalize exL tl (argS f.lend es ds ++ List.replicate (N - (argS f.lend es ds).length) .un) = oo at h ⊢
  match oo, h with
  | none, h => exact h.elim
  | some (.error x, s1), h =>
    intro cls dx G' H' σ' p r' ee
    obtain ⟨a, b⟩ := leave r p hn r'
    exact h cls dx G' H' b a ee
  | some (.ok .nx, s1), h =>
    intro G' H' σ' p r'
    obtain ⟨a, b⟩ := leave r p hn r'
    cases hf : f.fresh with
    | true =>
      rw [hf] at h
      exact h.elim
    | false =>
      rw [hf] at h
      exact h .non G' H' b a .non
  | some (.ok .bk, s1), h => exact h.elim
  | some (.ok .ct, s1), h => exact h.elim
  | some (.ok (.rt d), s1), h =>
    intro G' H' σ' p r' v hv
    obtain ⟨a, b⟩ := leave r p hn r'
    refine h v G' H' b a ?_
    unfold RetV at hv
    unfold RetOk
    cases hf : f.fresh with
    | false => rw [hf] at hv; exact hv
    | true =>
      rw [hf] at hv
      obtain ⟨zs, e, c, xs, e2, q1, q2, q3, q4, _⟩ := hv
      exact ⟨c, xs, zs, e, e2, q1, q2, q3, q4⟩
end
section
variable {P : Program} {w : World} {K : PySem.W.Frag} {mg : Str → Option Value} {base : Heap}
theorem fnG_of {k : Nat} {fa : Addr} {x qual : Str} {ar : Arguments} {bo : List Stmt} {sc : Scope} {dV kV doc pm cdv ct oc : Value} {an od : Option Addr} {osl : Array (Option Value)} {N ps : List Str} {f : Fn} {tl : TL}
    (look : K.lookup fa = some ⟨oc, od, .func (PySem.W.fnOf x qual ar bo sc dV kV doc pm an cdv ct), osl⟩) (code : PySem.W.codeIn K cdv qual = true) (S : FnScope N ps sc) (hm : f.many = ps.length) (hrun : f.run = runDef N.length f.lend f.fresh tl)
    (hok : okS N k f.fresh tl sc bo = true) (pr : prS ⟨FnSnd P w K mg base, Glo K mg⟩ tl) (blt : ∀ x ∈ bltWords, mg x = none) :
    FnG P w K mg base (k + 1) fa (PySem.W.fnOf x qual ar bo sc dV kV doc pm an cdv ct) ps (spFn K mg f) := by
  have len : ∀ vs H Q E, spFn K mg f vs H Q E → vs.length = ps.length := fun vs H Q E ⟨G, es, ds, r, hl, _⟩ => by
    rw [← hm, ← hl, r.len, List.length_map]
  constructor
  · exact len
  · intro A outer s H args us vs Q E room gd env0 binds rel hsp
    have hl := len vs H Q E hsp
    obtain ⟨G, es, ds, r, hl2, h⟩ := hsp
    rw [hrun] at h
    have KH : K.In s.heap := env0.mod.kin.keeps fun b o q => (env0.bs b o q).1
    have NL : s.heap.NoLimit := env0.mod.nolimit.keeps fun b o q => (env0.bs b o q).1
    have kinds : ∀ y ∈ ps.zip us, sc.names.lookup y.1 = some .local ∨ (sc.names.lookup y.1 = some .cell ∧ ((cellsFrom (s.heap.objs.size + 1) sc.names []).lookup y.1).isSome = true) := by
      rintro ⟨z, u⟩ hy
      cases S.par z (List.of_mem_zip hy).1 with
      | inl q => exact .inl q
      | inr q => exact .inr ⟨q, PySem.W.cellsFrom_some _ _ _ (.inl q)⟩
    refine codeAny_call_function room.depth (KH _ _ look) rfl S.co S.gen rfl (PySem.W.codeRec_of KH code) (binds _ _ _ _ ?_)
    refine wpAny_newFunctionEnv_cells S.kind kinds fun e1 he1 s1 inC => ?_
    subst he1
    refine ⟨NL.keeps inC.toInCall.keep, codeAny_func ?_⟩
    let X := cxOf (L2.CX P w) P w K mg base N qual sc fa cdv A outer s H E
    have tk : Takes X (fun cls dx _ H' => E cls dx H') := takes_of rfl rfl rfl rfl
    have am : AmbS X k := ⟨⟨room.deeper _, gd, rfl, S.nd, blt⟩, fun _ => rfl, passes_of rfl⟩
    have body := sSs (fr := f.fresh) tl bo am tk hok pr
    have I : Inv X [] (start N vs) H s1 := inv_start S room.hd env0 hl rel inC
    refine wpAny_mono (body.run [] s1 (start N vs) H _ I (body_ok r h)) (fun fl s' hs => ?_) fun e s' hs => hs
    have out : ∀ {τ : L2.St} {H' : Hp} {v : V} {u : Value}, Inv X [] τ H' s' → RelV v u → Q v H' → CE outer P w H s Q u s' := fun {τ H' v u} J a b => ⟨v, H', J.os, J.bare, J.base, J.hok, a, b⟩
    match fl, hs with
    | .ret u, ⟨v, τ, H', J, a, b⟩ => exact out J a b
    | .next, ⟨τ, H', J, b⟩ => exact out (v := V.non) (u := Value.none) J rfl b
    | .brk, ⟨_, _, _, b⟩ => exact b.elim
    | .cont, ⟨_, _, _, b⟩ => exact b.elim
/-- a def that may be called by its name -/
theorem snd_of {k : Nat} {fa : Addr} {x : Str} {st : Stmt} {dvs : List V} {fd : FuncData} {N ps : List Str} {f : Fn} {tl : TL} {ds : List Value} {dws : List V} {dfl : List D}
    (F : FunD K x x (defArgs st) (defBody st) (defScope st) dvs [] fa fd) (hx : mg f.name = some (.ref fa)) (S : FnScope N ps (defScope st)) (hb : Binds K fd ps ds) (hd : Vals dws ds) (hr : Rps K (fun _ => none) dws dfl) (hlv : f.lvl = k + 1) (hm : f.many + dfl.length = ps.length)
    (hrun : ∀ es as, f.run es as = runDef N.length f.lend f.fresh tl es (as ++ dfl)) (hok : okS N k f.fresh tl (defScope st) (defBody st) = true) (pr : prS ⟨FnSnd P w K mg base, Glo K mg⟩ tl) (blt : ∀ x ∈ bltWords, mg x = none) : FnSnd P w K mg base f := by
  obtain ⟨oc, od, dV, kV, doc, pm, an, cdv, ct, osl, rfl, lk, hcd, _, _⟩ := F.ex
  refine ⟨⟨{ f with many := ps.length, run := runDef N.length f.lend f.fresh tl }, fa, _, ps, ds, dws, dfl, hx, F.kp, ?_, hb, hd, hr, hrun, rfl, rfl, hm⟩⟩
  rw [hlv]
  exact fnG_of (f := { f with many := ps.length, run := runDef N.length f.lend f.fresh tl }) lk hcd S rfl rfl hok pr blt
end
end SG
/-! Sg15: the law's own call. -/
namespace SG
open PySem PySem.Spec L2 PyProof.Rows RZ

abbrev Wanted (s₁ : Shared) (r : Result) (s' : Shared) : Prop := r = .ok (.ret (.bool true)) ∧ OldK s₁.heap s'.heap ∧ s'.os = s₁.os ∧ AllBare s'.gens
section
variable {P : Program} {w : World} {K : PySem.W.Frag} {mg mb : Str → Option Value} {f : Fn} {fa a : Addr} {s₁ : Shared} {vs : List Value} {ns : List Int}
theorem ints_rps {G : Hp} : ∀ ns : List Int, Rps K G (ns.map V.int) (ns.map D.int)
  | [] => .nil
  | n :: r => .cons (.int n) (ints_rps r)
abbrev scr (vs : List Value) : Obj := { cls := .type "list", data := .seq vs.toArray }
theorem top_core {H : Hp} (KX : K.In s₁.heap) (hns : s₁.heap.Ns mainGlobals mg) (hb : s₁.heap.Ns builtinsNs mb) (hbb : ∀ x : Str, x ≠ "__name__" → mb x = bootBuiltins x) (hlim : s₁.heap.NoLimit) (hg : s₁.gens = #[])
    (ha : s₁.heap.get? a = some (scr vs)) (room : Room f.lvl callerA) (gd : callerA.guards = some []) (hname : mg f.name = some (.ref fa)) (F : ∀ base : Heap, FnSnd P w K mg base f) (h1 : f.lend = false) (h2 : f.fresh = false) (h3 : f.many = 1)
    (hrun : ∃ zs, f.run [] [.lst (ns.map D.int)] = some (.ok (.bl true), zs)) (hS : SqL K H a (ns.map V.int)) (hok : HOk P w H s₁.heap) (only : ∀ b o, H b = some o → b = a ∧ K.lookup a = none ∧ ∃ ob xs, o = .frz ob (.lst xs)) :
    codeAny (model P w) callerA (.call (.ref fa) ⟨[.ref a], []⟩) (Wanted s₁) s₁ := by
  -- what is not tracked stands in the base
  have stay : ∀ {b : Addr} {o : Obj}, s₁.heap.get? b = some o → H b = none → (hidT s₁.heap H).get? b = some o := fun p q => hidT_get p q
  have dictFree : ∀ {b : Addr} {o : Obj} {es : Array DictEntry} {ep : Nat}, s₁.heap.get? b = some o → o.data = .dict es ep → H b = none := by
    intro b o es ep p q
    cases e : H b with
    | none => rfl
    | some u =>
      obtain ⟨rfl, _, _⟩ := only b u e
      rw [ha] at p
      cases p
      cases (show Data.seq vs.toArray _ = Data.dict es ep from q)
  have space : ∀ {b : Addr} {m : Str → Option Value}, s₁.heap.Ns b m → (hidT s₁.heap H).Ns b m := by
    rintro b m ⟨o, es, ep, p, q, r⟩
    exact ⟨o, es, ep, stay p (dictFree p q), q, r⟩
  have kb : K.In (hidT s₁.heap H) := by
    intro b o p
    refine stay (KX b o p) ?_
    cases e : H b with
    | none => rfl
    | some u =>
      obtain ⟨rfl, z, _⟩ := only b u e
      rw [z] at p
      cases p
  have limit : (hidT s₁.heap H).NoLimit := by
    obtain ⟨mc, p, q⟩ := hlim
    exact ⟨mc, space p, q⟩
  have env0 : Env0 P w K mg (hidT s₁.heap H) callerA [] s₁ H :=
    ⟨rfl, ⟨kb, space hns, ⟨mb, space hb, hbb⟩, limit⟩, fun b o p => of_hidT p, Nat.le_of_eq (hidT_size _ _), trivial, (by intro b z; cases z), hok, .of_eq hg⟩
  obtain ⟨g, fa', fd, ps, ds, dvs, dfl, e1, e2, G, bi, vd, rd, er, el, ef, em⟩ := (F (hidT s₁.heap H)).ex
  rw [hname] at e1
  cases e1
  obtain ⟨zs, hrun⟩ := hrun
  have sp : spFn K mg g ([V.ref a] ++ dvs) H (fun v _ => v = .bl true) fun _ _ _ => False := by
    refine ⟨H, [], [.lst (ns.map D.int)] ++ dfl, ?_, ?_, ?_⟩
    · rw [← el, h1, argS_no]
      exact Rl.args (Sub.refl H) (.cons (.lst hS (ints_rps ns)) (rd.mono fun _ _ z => by cases z))
    · rw [← el, h1, argS_no, List.length_map, List.length_append, ← em, h3]
      rfl
    · rw [← er, hrun]
      intro v G' H' p r ret
      rw [← ef, h2] at ret
      cases (show Rp K G' v (.bl true) from ret)
      rfl
  have ll := G.len _ _ _ _ sp
  have val : Vals ([V.ref a] ++ dvs) ([Value.ref a] ++ ds) := Vals.append (.cons rfl .nil) vd
  have run := G.go callerA [] s₁ H ⟨[.ref a], []⟩ ([Value.ref a] ++ ds) _ _ _ room gd env0 (bi s₁ [.ref a] KX (by rw [← val.length]; exact ll)) val sp
  refine codeAny_mono run fun r s' h => ?_
  match r, h with
  | .error e, h =>
    obtain ⟨_, _, _, _, _, _, _, _, _, _, _, _, z⟩ := h
    exact z.elim
  | .ok .next, h => exact h.elim
  | .ok .brk, h => exact h.elim
  | .ok .cont, h => exact h.elim
  | .ok (.ret u), h =>
    obtain ⟨v, H', os, bare, un, hok', rel, q⟩ := h
    cases (show v = V.bl true from q)
    cases (show u = Value.bool true from rel)
    refine ⟨rfl, OldK.of_keep fun b o p => ?_, os, bare⟩
    cases e : H b with
    | none => exact un.keep b o p e (by intro z; cases z) (by intro z; cases z)
    | some t =>
      obtain ⟨_, _, ob, xs, rfl⟩ := only b t e
      have later := (hok' b _ (un.frzs b ob _ e)).1
      have now := (hok b _ e).1
      rw [p] at now
      cases now
      exact later
theorem top_call (KX : K.In s₁.heap) (hns : s₁.heap.Ns mainGlobals mg) (hb : s₁.heap.Ns builtinsNs mb) (hbb : ∀ x : Str, x ≠ "__name__" → mb x = bootBuiltins x) (hlim : s₁.heap.NoLimit) (hg : s₁.gens = #[])
    (ha : s₁.heap.get? a = some (scr vs)) (hi : IntsAre vs ns) (hl : ns.length ≤ sizeLine) (room : Room f.lvl callerA) (gd : callerA.guards = some []) (hname : mg f.name = some (.ref fa)) (F : ∀ base : Heap, FnSnd P w K mg base f)
    (h1 : f.lend = false) (h2 : f.fresh = false) (h3 : f.many = 1) (hrun : ∃ zs, f.run [] [.lst (ns.map D.int)] = some (.ok (.bl true), zs)) : codeAny (model P w) callerA (.call (.ref fa) ⟨[.ref a], []⟩) (Wanted s₁) s₁ := by
  have rv := vals_ints hi
  have lv := hi.length
  cases hk : K.lookup a with
  | some o =>
    have e := KX a o hk
    rw [ha] at e
    cases e
    have hS : SqL K (fun _ => none) a (ns.map V.int) := .inr ⟨_, vs.toArray, _, hk, rfl, rfl, rfl, by rw [List.size_toArray, lv]; exact hl, by simpa using rv⟩
    exact top_core KX hns hb hbb hlim hg ha room gd hname F h1 h2 h3 hrun hS (fun b u z => by cases z) fun b u z => by cases z
  | none =>
    have hH : ∀ b u, (if b = a then some (HO.frz (scr vs) (.lst (ns.map V.int))) else none) = some u → b = a ∧ u = HO.frz (scr vs) (.lst (ns.map V.int)) := fun b u z => by
      split at z
      · rename_i q
        cases z
        exact ⟨q, rfl⟩
      · cases z
    refine top_core (H := fun b => if b = a then some (HO.frz (scr vs) (.lst (ns.map V.int))) else none) KX hns hb hbb hlim hg ha room gd hname F h1 h2 h3 hrun (.inl (.inr ⟨scr vs, if_pos rfl⟩)) (fun b u z => ?_) fun b u z => ?_
    · obtain ⟨rfl, rfl⟩ := hH b u z
      exact ⟨ha, by rw [List.length_map]; exact hl, vs, _, rv, ha⟩
    · obtain ⟨rfl, rfl⟩ := hH b u z
      exact ⟨rfl, hk, _, _, rfl⟩
end
end SG
/-! Sg16: defs as they stand behind the top. -/
namespace SG
open PySem PySem.Spec L2 PyProof.Rows RZ

/-- a def under its name, its defaults dfl -/
def DefAt (K : PySem.W.Frag) (mg : Str → Option Value) (x : Str) (st : Stmt) (dfl : List D) : Prop :=
  ∃ (fa : Addr) (fd : FuncData) (dvs : List V), FunD K x x (defArgs st) (defBody st) (defScope st) dvs [] fa fd ∧ mg x = some (.ref fa) ∧ Rps K (fun _ => none) dvs dfl
section
variable {P : Program} {w : World} {K : PySem.W.Frag} {mg : Str → Option Value} {base : Heap} {x : Str} {st : Stmt} {N ps : List Str} {k many : Nat} {lend fresh : Bool} {tl : TL} {n : Nat}
theorem rps_nil {G : Hp} {vs : List V} (h : Rps K G vs []) : vs = [] := by cases h; rfl
theorem snd0 (A : DefAt K mg x st []) (sc : C8.scC N ps (defScope st) = true)
    (hb : ∀ (kV doc pm : Value) (an : Option Addr) (cdv ct : Value) (us : List Value), us.length = ps.length → bindArgs (PySem.W.fnOf x x (defArgs st) (defBody st) (defScope st) .none kV doc pm an cdv ct) ⟨us, []⟩ = pure (ps.zip us))
    (hok : okS N k fresh tl (defScope st) (defBody st) = true) (pr : prS ⟨FnSnd P w K mg base, Glo K mg⟩ tl) (blt : ∀ x ∈ bltWords, mg x = none) : FnSnd P w K mg base ⟨x, k + 1, lend, fresh, ps.length, runDef N.length lend fresh tl⟩ := by
  obtain ⟨fa, fd, dvs, F, hx, hr⟩ := A
  have e := rps_nil hr
  subst e
  exact snd_of (f := ⟨x, k + 1, lend, fresh, ps.length, runDef N.length lend fresh tl⟩) F hx (C8.fnScope_by sc) (F.bindsN hb) .nil .nil rfl rfl (fun es as => by rw [List.append_nil]) hok pr blt
theorem sndD (n j : Nat) {dfl : List D} (A : DefAt K mg x st dfl) (sc : C8.scC N ps (defScope st) = true) (hne : dfl ≠ []) (hn : n + (dfl.length - j) = ps.length)
    (hb : ∀ (T : Addr) (kV doc pm : Value) (an : Option Addr) (cdv ct : Value) (us its : List Value), us.length = n → its.length = dfl.length →
      ∃ k, bindArgs (PySem.W.fnOf x x (defArgs st) (defBody st) (defScope st) (.ref T) kV doc pm an cdv ct) ⟨us, []⟩ = seqItems? (.ref T) >>= k ∧ k (some its.toArray) = pure (ps.zip (us ++ its.drop j)))
    (hok : okS N k fresh tl (defScope st) (defBody st) = true) (pr : prS ⟨FnSnd P w K mg base, Glo K mg⟩ tl) (blt : ∀ x ∈ bltWords, mg x = none) : FnSnd P w K mg base ⟨x, k + 1, lend, fresh, n, fun es as => runDef N.length lend fresh tl es (as ++ dfl.drop j)⟩ := by
  obtain ⟨fa, fd, dvs, F, hx, hr⟩ := A
  have hl := hr.length
  have hd : dvs ≠ [] := fun z => by
    subst z
    exact hne (List.length_eq_zero_iff.mp hl.symm)
  obtain ⟨ds, r1, r2⟩ := F.binds1 (ps := ps) n j hd (by rw [hl]; exact hn) fun T kV doc pm an cdv ct us its h1 h2 => hb T kV doc pm an cdv ct us its h1 (by rw [h2, hl])
  exact snd_of (f := ⟨x, k + 1, lend, fresh, n, fun es as => runDef N.length lend fresh tl es (as ++ dfl.drop j)⟩) F hx (C8.fnScope_by sc) r2 r1 (hr.drop j) rfl (by rw [List.length_drop]; exact hn) (fun es as => rfl) hok pr blt
theorem defAt {h : Heap} {fa : Addr} {oc dc kV pm cd ct : Value} {od an : Option Addr} {sl : Array (Option Value)} (X : K.In h) (G : h.Ns mainGlobals mg) (a : PySem.W.nsIn K mainGlobals x = some (some (.ref fa)))
    (l : K.lookup fa = some ⟨oc, od, .func (PySem.W.fnOf x x (defArgs st) (defBody st) (defScope st) .none kV dc pm an cd ct), sl⟩) (c : PySem.W.codeIn K cd x = true) (k : PySem.W.keepIn K (.ref fa) = true) : DefAt K mg x st [] :=
  ⟨fa, _, [], ⟨⟨oc, od, .none, kV, dc, pm, an, cd, ct, sl, rfl, l, c, .inl ⟨rfl, rfl⟩, .inl rfl⟩, k⟩, PySem.W.mg_of X G a, .nil⟩
/-- its defaults: the tuple at T -/
theorem defAtD {h : Heap} {fa Td : Addr} {oc dc kV pm cd ct : Value} {od an : Option Addr} {sl : Array (Option Value)} {o : Obj} {its : List Value} {m : Nat} {dvs : List V} {dfl : List D} (X : K.In h) (G : h.Ns mainGlobals mg) (a : PySem.W.nsIn K mainGlobals x = some (some (.ref fa)))
    (l : K.lookup fa = some ⟨oc, od, .func (PySem.W.fnOf x x (defArgs st) (defBody st) (defScope st) (.ref Td) kV dc pm an cd ct), sl⟩) (c : PySem.W.codeIn K cd x = true) (k : PySem.W.keepIn K (.ref fa) = true)
    (t : K.lookup Td = some o) (ho : o.data = .seq its.toArray m) (v : Vals dvs its) (r : Rps K (fun _ => none) dvs dfl) (hne : dvs ≠ []) : DefAt K mg x st dfl :=
  ⟨fa, _, dvs, ⟨⟨oc, od, .ref Td, kV, dc, pm, an, cd, ct, sl, rfl, l, c, .inr ⟨hne, Td, o, its, m, rfl, t, ho, v⟩, .inl rfl⟩, k⟩, PySem.W.mg_of X G a, r⟩
/-- ints as defaults, or as a constant tuple -/
theorem vals_is : ∀ {l : List (Int × Tok)}, Vals (l.map fun p => V.int p.1) (l.map fun p => Value.int p.1 p.2)
  | [] => .nil
  | (i, t) :: l => .cons ⟨t, rfl⟩ vals_is
theorem rps_is {G : Hp} : ∀ {l : List (Int × Tok)}, Rps K G (l.map fun p => V.int p.1) (l.map fun p => D.int p.1)
  | [] => .nil
  | (i, t) :: l => .cons (.int i) rps_is
theorem gloInt {i : Int} {t : Tok} (h : mg x = some (.int i t)) : Glo K mg x (.int i) := ⟨.int i, _, h, ⟨t, rfl⟩, .int i⟩
theorem gloLit {h : Heap} {v : Value} {i : Int} {as : List Addr} (e : mg x = some v) (r : PySem.W.ReadsLit h v (.int i) as) : Glo K mg x (.int i) := by
  cases r
  exact gloInt e
/-- a constant pair of ints -/
theorem gloTup {h : Heap} {a : Addr} {o : Obj} {l : List (Int × Tok)} {m : Nat} (X : K.In h) (G : h.Ns mainGlobals mg) (e : PySem.W.nsIn K mainGlobals x = some (some (.ref a))) (t : K.lookup a = some o) (ho : o.data = .seq (l.map fun p => Value.int p.1 p.2).toArray m) (hc : o.cls = .type "tuple")
    (hl : l.length ≤ sizeLine) : Glo K mg x (.tup (l.map fun p => D.int p.1)) := by
  refine ⟨.ref a, _, PySem.W.mg_of X G e, rfl, .tup (.inr ⟨o, _, m, t, hc, ho, ?_, ?_⟩) rps_is⟩
  · simpa using hl
  · simpa using vals_is
end
end SG
namespace K24
open PySem PySem.Spec L2 SG
/-! ### the defs' texts -/
def c_NOUGHT : D := .tup [.int 0, .int 1]
def c_ONE : D := .tup [.int 1, .int 1]
def c_MAX_WIDTH : D := .int 144
/-- is_integer: slots value 0 -/
def p_is_integer : TL := .cons (.ret (.and (.isi (.var 0) "int") (.not (.isi (.var 0) "bool")))) .nil
def f_is_integer : Fn := ⟨"is_integer", 1, false, false, 1, runDef 1 false false p_is_integer⟩
theorem fr_is_integer : f_is_integer.run = runDef 1 false false p_is_integer := by simp only [f_is_integer]
theorem fl_is_integer : f_is_integer.fresh = false ∧ f_is_integer.lend = false ∧ f_is_integer.many = 1 := ⟨rfl, rfl, rfl⟩
abbrev n_is_integer : List Str := ["value"]
abbrev q_is_integer : List Str := ["value"]
/-- common_divisor: slots one 0, other 1 -/
def p_common_divisor : TL := .cons (.par2 0 1 (.e (.b1 .abs (.var 0))) (.e (.b1 .abs (.var 1)))) (.cons (.whl (.cmp .gt (.var 1) (.cst (.int 0))) (mInt 1) (.cons (.par2 0 1 (.e (.var 1)) (.e (.bin .mod (.var 0) (.var 1)))) .nil)) (.cons (.ret (.var 0)) .nil))
def f_common_divisor : Fn := ⟨"common_divisor", 1, false, false, 2, runDef 2 false false p_common_divisor⟩
theorem fr_common_divisor : f_common_divisor.run = runDef 2 false false p_common_divisor := by simp only [f_common_divisor]
theorem fl_common_divisor : f_common_divisor.fresh = false ∧ f_common_divisor.lend = false ∧ f_common_divisor.many = 2 := ⟨rfl, rfl, rfl⟩
abbrev n_common_divisor : List Str := ["one", "other"]
abbrev q_common_divisor : List Str := ["one", "other"]
/-- is_number: slots value 0, one 1 -/
def p_is_number : TL := .cons (.ife (.or (.not (.isi (.var 0) "tuple")) (.or (.cmp .ne (.b1 .len (.var 0)) (.cst (.int 2))) (.not (.b1 .all (.fr (.comp (.nm 1) (.seqT (.var 0)) .no (.call f_is_integer (.cons (.var 1) .nil)))))))) (.cons (.ret (.cst (.bl false))) .nil) (.nil)) (.cons (.ret (.and (.cmp .ge (.ix (.var 0) (.cst (.int 1))) (.cst (.int 1))) (.cmp .eq (.call f_common_divisor (.cons (.ix (.var 0) (.cst (.int 0))) (.cons (.ix (.var 0) (.cst (.int 1))) .nil))) (.cst (.int 1))))) .nil)
def f_is_number : Fn := ⟨"is_number", 2, false, false, 1, runDef 2 false false p_is_number⟩
theorem fr_is_number : f_is_number.run = runDef 2 false false p_is_number := by simp only [f_is_number]
theorem fl_is_number : f_is_number.fresh = false ∧ f_is_number.lend = false ∧ f_is_number.many = 1 := ⟨rfl, rfl, rfl⟩
abbrev n_is_number : List Str := ["value", "one"]
abbrev q_is_number : List Str := ["value"]
/-- reduced: slots top 0, bottom 1, divisor 2 -/
def p_reduced : TL := .cons (.ife (.cmp .lt (.var 1) (.cst (.int 0))) (.cons (.par2 0 1 (.e (.bin .sub (.cst (.int 0)) (.var 0))) (.e (.bin .sub (.cst (.int 0)) (.var 1)))) .nil) (.nil)) (.cons (.asg 2 (.e (.call f_common_divisor (.cons (.var 0) (.cons (.var 1) .nil))))) (.cons (.ret (.tup (.cons (.bin .fdiv (.var 0) (.var 2)) (.cons (.bin .fdiv (.var 1) (.var 2)) .nil)))) .nil))
def f_reduced : Fn := ⟨"reduced", 2, false, false, 2, runDef 3 false false p_reduced⟩
theorem fr_reduced : f_reduced.run = runDef 3 false false p_reduced := by simp only [f_reduced]
theorem fl_reduced : f_reduced.fresh = false ∧ f_reduced.lend = false ∧ f_reduced.many = 2 := ⟨rfl, rfl, rfl⟩
abbrev n_reduced : List Str := ["top", "bottom", "divisor"]
abbrev q_reduced : List Str := ["top", "bottom"]
/-- require_count: slots value 0, least 1, most 2 -/
def p_require_count : TL := .cons (.ife (.or (.not (.call f_is_integer (.cons (.var 0) .nil))) (.not (.chain .le .le (.var 1) (.var 0) (.var 2)))) (.cons .nev .nil) (.nil)) .nil
def dfl_require_count : List D := [.int 0, .int 60]
def f_require_count : Fn := ⟨"require_count", 2, false, false, 3, fun es as => runDef 3 false false p_require_count es (as ++ dfl_require_count.drop 2)⟩
theorem fr_require_count : f_require_count.run = fun es as => runDef 3 false false p_require_count es (as ++ dfl_require_count.drop 2) := by simp only [f_require_count]
theorem fl_require_count : f_require_count.fresh = false ∧ f_require_count.lend = false ∧ f_require_count.many = 3 := ⟨rfl, rfl, rfl⟩
abbrev n_require_count : List Str := ["value", "least", "most"]
abbrev q_require_count : List Str := ["value", "least", "most"]
/-- added: slots one 0, other 1 -/
def p_added : TL := .cons (.ife (.chain .eq .eq (.ix (.var 0) (.cst (.int 1))) (.ix (.var 1) (.cst (.int 1))) (.cst (.int 1))) (.cons (.ret (.tup (.cons (.bin .add (.ix (.var 0) (.cst (.int 0))) (.ix (.var 1) (.cst (.int 0)))) (.cons (.cst (.int 1)) .nil)))) .nil) (.nil)) (.cons (.ret (.call f_reduced (.cons (.bin .add (.bin .mul (.ix (.var 0) (.cst (.int 0))) (.ix (.var 1) (.cst (.int 1)))) (.bin .mul (.ix (.var 1) (.cst (.int 0))) (.ix (.var 0) (.cst (.int 1))))) (.cons (.bin .mul (.ix (.var 0) (.cst (.int 1))) (.ix (.var 1) (.cst (.int 1)))) .nil)))) .nil)
def f_added : Fn := ⟨"added", 3, false, false, 2, runDef 2 false false p_added⟩
theorem fr_added : f_added.run = runDef 2 false false p_added := by simp only [f_added]
theorem fl_added : f_added.fresh = false ∧ f_added.lend = false ∧ f_added.many = 2 := ⟨rfl, rfl, rfl⟩
abbrev n_added : List Str := ["one", "other"]
abbrev q_added : List Str := ["one", "other"]
/-- multiplied: slots one 0, other 1 -/
def p_multiplied : TL := .cons (.ife (.chain .eq .eq (.ix (.var 0) (.cst (.int 1))) (.ix (.var 1) (.cst (.int 1))) (.cst (.int 1))) (.cons (.ret (.tup (.cons (.bin .mul (.ix (.var 0) (.cst (.int 0))) (.ix (.var 1) (.cst (.int 0)))) (.cons (.cst (.int 1)) .nil)))) .nil) (.nil)) (.cons (.ret (.call f_reduced (.cons (.bin .mul (.ix (.var 0) (.cst (.int 0))) (.ix (.var 1) (.cst (.int 0)))) (.cons (.bin .mul (.ix (.var 0) (.cst (.int 1))) (.ix (.var 1) (.cst (.int 1)))) .nil)))) .nil)
def f_multiplied : Fn := ⟨"multiplied", 3, false, false, 2, runDef 2 false false p_multiplied⟩
theorem fr_multiplied : f_multiplied.run = runDef 2 false false p_multiplied := by simp only [f_multiplied]
theorem fl_multiplied : f_multiplied.fresh = false ∧ f_multiplied.lend = false ∧ f_multiplied.many = 2 := ⟨rfl, rfl, rfl⟩
abbrev n_multiplied : List Str := ["one", "other"]
abbrev q_multiplied : List Str := ["one", "other"]
/-- is_plain_row: slots width 0, value 1, one 2 -/
def p_is_plain_row : TL := .cons (.ret (.and (.isi (.var 1) "tuple") (.and (.cmp .eq (.b1 .len (.var 1)) (.var 0)) (.b1 .all (.fr (.comp (.nm 2) (.seqT (.var 1)) .no (.call f_is_number (.cons (.var 2) .nil)))))))) .nil
def f_is_plain_row : Fn := ⟨"is_plain_row", 3, false, false, 2, runDef 3 false false p_is_plain_row⟩
theorem fr_is_plain_row : f_is_plain_row.run = runDef 3 false false p_is_plain_row := by simp only [f_is_plain_row]
theorem fl_is_plain_row : f_is_plain_row.fresh = false ∧ f_is_plain_row.lend = false ∧ f_is_plain_row.many = 2 := ⟨rfl, rfl, rfl⟩
abbrev n_is_plain_row : List Str := ["width", "value", "one"]
abbrev q_is_plain_row : List Str := ["width", "value"]
/-- is_plain_table: slots height 0, width 1, value 2, row 3 -/
def p_is_plain_table : TL := .cons (.ret (.and (.isi (.var 2) "tuple") (.and (.cmp .eq (.b1 .len (.var 2)) (.var 0)) (.b1 .all (.fr (.comp (.nm 3) (.seqT (.var 2)) .no (.call f_is_plain_row (.cons (.var 1) (.cons (.var 3) .nil))))))))) .nil
def f_is_plain_table : Fn := ⟨"is_plain_table", 4, false, false, 3, runDef 4 false false p_is_plain_table⟩
theorem fr_is_plain_table : f_is_plain_table.run = runDef 4 false false p_is_plain_table := by simp only [f_is_plain_table]
theorem fl_is_plain_table : f_is_plain_table.fresh = false ∧ f_is_plain_table.lend = false ∧ f_is_plain_table.many = 3 := ⟨rfl, rfl, rfl⟩
abbrev n_is_plain_table : List Str := ["height", "width", "value", "row"]
abbrev q_is_plain_table : List Str := ["height", "width", "value"]
/-- rest_row: slots width 0 -/
def p_rest_row : TL := .cons (.ret (.bin .mul (.tup (.cons (.glb "NOUGHT" c_NOUGHT) .nil)) (.var 0))) .nil
def f_rest_row : Fn := ⟨"rest_row", 1, false, false, 1, runDef 1 false false p_rest_row⟩
theorem fr_rest_row : f_rest_row.run = runDef 1 false false p_rest_row := by simp only [f_rest_row]
theorem fl_rest_row : f_rest_row.fresh = false ∧ f_rest_row.lend = false ∧ f_rest_row.many = 1 := ⟨rfl, rfl, rfl⟩
abbrev n_rest_row : List Str := ["width"]
abbrev q_rest_row : List Str := ["width"]
/-- unit_row: slots width 0, index 1, place 2 -/
def p_unit_row : TL := .cons (.ret (.b1 .tup (.fr (.comp (.nm 2) (.rng1 (.var 0)) .no (.ite (.cmp .eq (.var 2) (.var 1)) (.glb "ONE" c_ONE) (.glb "NOUGHT" c_NOUGHT)))))) .nil
def f_unit_row : Fn := ⟨"unit_row", 1, false, false, 2, runDef 3 false false p_unit_row⟩
theorem fr_unit_row : f_unit_row.run = runDef 3 false false p_unit_row := by simp only [f_unit_row]
theorem fl_unit_row : f_unit_row.fresh = false ∧ f_unit_row.lend = false ∧ f_unit_row.many = 2 := ⟨rfl, rfl, rfl⟩
abbrev n_unit_row : List Str := ["width", "index", "place"]
abbrev q_unit_row : List Str := ["width", "index"]
/-- unit_table: slots width 0, index 1 -/
def p_unit_table : TL := .cons (.ret (.b1 .tup (.fr (.comp (.nm 1) (.rng1 (.var 0)) .no (.call f_unit_row (.cons (.var 0) (.cons (.var 1) .nil))))))) .nil
def f_unit_table : Fn := ⟨"unit_table", 2, false, false, 1, runDef 2 false false p_unit_table⟩
theorem fr_unit_table : f_unit_table.run = runDef 2 false false p_unit_table := by simp only [f_unit_table]
theorem fl_unit_table : f_unit_table.fresh = false ∧ f_unit_table.lend = false ∧ f_unit_table.many = 1 := ⟨rfl, rfl, rfl⟩
abbrev n_unit_table : List Str := ["width", "index"]
abbrev q_unit_table : List Str := ["width"]
/-- sum_of_rows: slots one 0, other 1, left 2, right 3 -/
def p_sum_of_rows : TL := .cons (.ret (.b1 .tup (.fr (.comp (.two 2 3) (.zipT (.var 0) (.var 1)) .no (.call f_added (.cons (.var 2) (.cons (.var 3) .nil))))))) .nil
def f_sum_of_rows : Fn := ⟨"sum_of_rows", 4, false, false, 2, runDef 4 false false p_sum_of_rows⟩
theorem fr_sum_of_rows : f_sum_of_rows.run = runDef 4 false false p_sum_of_rows := by simp only [f_sum_of_rows]
theorem fl_sum_of_rows : f_sum_of_rows.fresh = false ∧ f_sum_of_rows.lend = false ∧ f_sum_of_rows.many = 2 := ⟨rfl, rfl, rfl⟩
abbrev n_sum_of_rows : List Str := ["one", "other", "left", "right"]
abbrev q_sum_of_rows : List Str := ["one", "other"]
/-- times_row: slots number 0, row 1, one 2 -/
def p_times_row : TL := .cons (.ret (.b1 .tup (.fr (.comp (.nm 2) (.seqT (.var 1)) .no (.ite (.cmp .ne (.var 2) (.glb "NOUGHT" c_NOUGHT)) (.call f_multiplied (.cons (.var 0) (.cons (.var 2) .nil))) (.glb "NOUGHT" c_NOUGHT)))))) .nil
def f_times_row : Fn := ⟨"times_row", 4, false, false, 2, runDef 3 false false p_times_row⟩
theorem fr_times_row : f_times_row.run = runDef 3 false false p_times_row := by simp only [f_times_row]
theorem fl_times_row : f_times_row.fresh = false ∧ f_times_row.lend = false ∧ f_times_row.many = 2 := ⟨rfl, rfl, rfl⟩
abbrev n_times_row : List Str := ["number", "row", "one"]
abbrev q_times_row : List Str := ["number", "row"]
/-- product_of: slots one 0, other 1, found 2, left 3, right 4 -/
def p_product_of : TL := .cons (.asg 2 (.e (.glb "NOUGHT" c_NOUGHT))) (.cons (.forr (.two 3 4) (.zipT (.var 0) (.var 1)) (.cons (.ife (.and (.cmp .ne (.var 3) (.glb "NOUGHT" c_NOUGHT)) (.cmp .ne (.var 4) (.glb "NOUGHT" c_NOUGHT))) (.cons (.asg 2 (.e (.call f_added (.cons (.var 2) (.cons (.call f_multiplied (.cons (.var 3) (.cons (.var 4) .nil))) .nil))))) .nil) (.nil)) .nil)) (.cons (.ret (.var 2)) .nil))
def f_product_of : Fn := ⟨"product_of", 4, false, false, 2, runDef 5 false false p_product_of⟩
theorem fr_product_of : f_product_of.run = runDef 5 false false p_product_of := by simp only [f_product_of]
theorem fl_product_of : f_product_of.fresh = false ∧ f_product_of.lend = false ∧ f_product_of.many = 2 := ⟨rfl, rfl, rfl⟩
abbrev n_product_of : List Str := ["one", "other", "found", "left", "right"]
abbrev q_product_of : List Str := ["one", "other"]
/-- led_row: slots table 0, row 1, line 2 -/
def p_led_row : TL := .cons (.ret (.b1 .tup (.fr (.comp (.nm 2) (.seqT (.var 0)) .no (.call f_product_of (.cons (.var 1) (.cons (.var 2) .nil))))))) .nil
def f_led_row : Fn := ⟨"led_row", 5, false, false, 2, runDef 3 false false p_led_row⟩
theorem fr_led_row : f_led_row.run = runDef 3 false false p_led_row := by simp only [f_led_row]
theorem fl_led_row : f_led_row.fresh = false ∧ f_led_row.lend = false ∧ f_led_row.many = 2 := ⟨rfl, rfl, rfl⟩
abbrev n_led_row : List Str := ["table", "row", "line"]
abbrev q_led_row : List Str := ["table", "row"]
/-- led_told: slots width 0, table 1, told 2, found 3, number 4, line 5 -/
def p_led_told : TL := .cons (.asg 3 (.e (.call f_rest_row (.cons (.var 0) .nil)))) (.cons (.forr (.two 4 5) (.zipT (.var 2) (.var 1)) (.cons (.ife (.cmp .ne (.var 4) (.glb "NOUGHT" c_NOUGHT)) (.cons (.asg 3 (.e (.call f_sum_of_rows (.cons (.var 3) (.cons (.call f_times_row (.cons (.var 4) (.cons (.var 5) .nil))) .nil))))) .nil) (.nil)) .nil)) (.cons (.ret (.var 3)) .nil))
def f_led_told : Fn := ⟨"led_told", 5, false, false, 3, runDef 6 false false p_led_told⟩
theorem fr_led_told : f_led_told.run = runDef 6 false false p_led_told := by simp only [f_led_told]
theorem fl_led_told : f_led_told.fresh = false ∧ f_led_told.lend = false ∧ f_led_told.many = 3 := ⟨rfl, rfl, rfl⟩
abbrev n_led_told : List Str := ["width", "table", "told", "found", "number", "line"]
abbrev q_led_told : List Str := ["width", "table", "told"]
/-- columns_of: slots table 0, width 1, index 2, line 3 -/
def p_columns_of : TL := .cons (.ret (.b1 .tup (.fr (.comp (.nm 2) (.rng1 (.var 1)) .no (.b1 .tup (.fr (.comp (.nm 3) (.seqT (.var 0)) .no (.ix (.var 3) (.var 2))))))))) .nil
def f_columns_of : Fn := ⟨"columns_of", 1, false, false, 2, runDef 4 false false p_columns_of⟩
theorem fr_columns_of : f_columns_of.run = runDef 4 false false p_columns_of := by simp only [f_columns_of]
theorem fl_columns_of : f_columns_of.fresh = false ∧ f_columns_of.lend = false ∧ f_columns_of.many = 2 := ⟨rfl, rfl, rfl⟩
abbrev n_columns_of : List Str := ["table", "width", "index", "line"]
abbrev q_columns_of : List Str := ["table", "width"]
/-- table_behind: slots one 0, other 1, width 2, line 3 -/
def p_table_behind : TL := .cons (.ret (.b1 .tup (.fr (.comp (.nm 3) (.seqT (.var 0)) .no (.call f_led_told (.cons (.var 2) (.cons (.var 1) (.cons (.var 3) .nil)))))))) .nil
def f_table_behind : Fn := ⟨"table_behind", 6, false, false, 3, runDef 4 false false p_table_behind⟩
theorem fr_table_behind : f_table_behind.run = runDef 4 false false p_table_behind := by simp only [f_table_behind]
theorem fl_table_behind : f_table_behind.fresh = false ∧ f_table_behind.lend = false ∧ f_table_behind.many = 3 := ⟨rfl, rfl, rfl⟩
abbrev n_table_behind : List Str := ["one", "other", "width", "line"]
abbrev q_table_behind : List Str := ["one", "other", "width"]
/-- require_width: slots width 0 -/
def p_require_width : TL := .cons (.drop (.call f_require_count (.cons (.var 0) (.cons (.cst (.int 0)) (.cons (.glb "MAX_WIDTH" c_MAX_WIDTH) .nil))))) .nil
def f_require_width : Fn := ⟨"require_width", 3, false, false, 1, runDef 1 false false p_require_width⟩
theorem fr_require_width : f_require_width.run = runDef 1 false false p_require_width := by simp only [f_require_width]
theorem fl_require_width : f_require_width.fresh = false ∧ f_require_width.lend = false ∧ f_require_width.many = 1 := ⟨rfl, rfl, rfl⟩
abbrev n_require_width : List Str := ["width"]
abbrev q_require_width : List Str := ["width"]
/-- require_row: slots width 0, value 1 -/
def p_require_row : TL := .cons (.ife (.not (.call f_is_plain_row (.cons (.var 0) (.cons (.var 1) .nil)))) (.cons .nev .nil) (.nil)) .nil
def f_require_row : Fn := ⟨"require_row", 4, false, false, 2, runDef 2 false false p_require_row⟩
theorem fr_require_row : f_require_row.run = runDef 2 false false p_require_row := by simp only [f_require_row]
theorem fl_require_row : f_require_row.fresh = false ∧ f_require_row.lend = false ∧ f_require_row.many = 2 := ⟨rfl, rfl, rfl⟩
abbrev n_require_row : List Str := ["width", "value"]
abbrev q_require_row : List Str := ["width", "value"]
/-- require_table: slots height 0, width 1, value 2 -/
def p_require_table : TL := .cons (.ife (.not (.call f_is_plain_table (.cons (.var 0) (.cons (.var 1) (.cons (.var 2) .nil))))) (.cons .nev .nil) (.nil)) .nil
def f_require_table : Fn := ⟨"require_table", 5, false, false, 3, runDef 3 false false p_require_table⟩
theorem fr_require_table : f_require_table.run = runDef 3 false false p_require_table := by simp only [f_require_table]
theorem fl_require_table : f_require_table.fresh = false ∧ f_require_table.lend = false ∧ f_require_table.many = 3 := ⟨rfl, rfl, rfl⟩
abbrev n_require_table : List Str := ["height", "width", "value"]
abbrev q_require_table : List Str := ["height", "width", "value"]
/-- require_sized: slots height 0, width 1, table 2 -/
def p_require_sized : TL := .cons (.drop (.call f_require_width (.cons (.var 0) .nil))) (.cons (.drop (.call f_require_width (.cons (.var 1) .nil))) (.cons (.drop (.call f_require_table (.cons (.var 0) (.cons (.var 1) (.cons (.var 2) .nil))))) .nil))
def f_require_sized : Fn := ⟨"require_sized", 6, false, false, 3, runDef 3 false false p_require_sized⟩
theorem fr_require_sized : f_require_sized.run = runDef 3 false false p_require_sized := by simp only [f_require_sized]
theorem fl_require_sized : f_require_sized.fresh = false ∧ f_require_sized.lend = false ∧ f_require_sized.many = 3 := ⟨rfl, rfl, rfl⟩
abbrev n_require_sized : List Str := ["height", "width", "table"]
abbrev q_require_sized : List Str := ["height", "width", "table"]
/-- led: slots height 0, width 1, table 2, row 3 -/
def p_led : TL := .cons (.drop (.call f_require_sized (.cons (.var 0) (.cons (.var 1) (.cons (.var 2) .nil))))) (.cons (.drop (.call f_require_row (.cons (.var 1) (.cons (.var 3) .nil)))) (.cons (.ret (.call f_led_row (.cons (.var 2) (.cons (.var 3) .nil)))) .nil))
def f_led : Fn := ⟨"led", 7, false, false, 4, runDef 4 false false p_led⟩
theorem fr_led : f_led.run = runDef 4 false false p_led := by simp only [f_led]
theorem fl_led : f_led.fresh = false ∧ f_led.lend = false ∧ f_led.many = 4 := ⟨rfl, rfl, rfl⟩
abbrev n_led : List Str := ["height", "width", "table", "row"]
abbrev q_led : List Str := ["height", "width", "table", "row"]
/-- columns: slots height 0, width 1, table 2 -/
def p_columns : TL := .cons (.drop (.call f_require_sized (.cons (.var 0) (.cons (.var 1) (.cons (.var 2) .nil))))) (.cons (.ret (.call f_columns_of (.cons (.var 2) (.cons (.var 1) .nil)))) .nil)
def f_columns : Fn := ⟨"columns", 7, false, false, 3, runDef 3 false false p_columns⟩
theorem fr_columns : f_columns.run = runDef 3 false false p_columns := by simp only [f_columns]
theorem fl_columns : f_columns.fresh = false ∧ f_columns.lend = false ∧ f_columns.many = 3 := ⟨rfl, rfl, rfl⟩
abbrev n_columns : List Str := ["height", "width", "table"]
abbrev q_columns : List Str := ["height", "width", "table"]
/-- unit: slots width 0 -/
def p_unit : TL := .cons (.drop (.call f_require_width (.cons (.var 0) .nil))) (.cons (.ret (.call f_unit_table (.cons (.var 0) .nil))) .nil)
def f_unit : Fn := ⟨"unit", 4, false, false, 1, runDef 1 false false p_unit⟩
theorem fr_unit : f_unit.run = runDef 1 false false p_unit := by simp only [f_unit]
theorem fl_unit : f_unit.fresh = false ∧ f_unit.lend = false ∧ f_unit.many = 1 := ⟨rfl, rfl, rfl⟩
abbrev n_unit : List Str := ["width"]
abbrev q_unit : List Str := ["width"]
/-- table_plus: slots height 0, width 1, one 2, other 3, left 4, right 5 -/
def p_table_plus : TL := .cons (.drop (.call f_require_sized (.cons (.var 0) (.cons (.var 1) (.cons (.var 2) .nil))))) (.cons (.drop (.call f_require_table (.cons (.var 0) (.cons (.var 1) (.cons (.var 3) .nil))))) (.cons (.ret (.b1 .tup (.fr (.comp (.two 4 5) (.zipT (.var 2) (.var 3)) .no (.call f_sum_of_rows (.cons (.var 4) (.cons (.var 5) .nil))))))) .nil))
def f_table_plus : Fn := ⟨"table_plus", 7, false, false, 4, runDef 6 false false p_table_plus⟩
theorem fr_table_plus : f_table_plus.run = runDef 6 false false p_table_plus := by simp only [f_table_plus]
theorem fl_table_plus : f_table_plus.fresh = false ∧ f_table_plus.lend = false ∧ f_table_plus.many = 4 := ⟨rfl, rfl, rfl⟩
abbrev n_table_plus : List Str := ["height", "width", "one", "other", "left", "right"]
abbrev q_table_plus : List Str := ["height", "width", "one", "other"]
/-- table_times: slots height 0, middle 1, width 2, one 3, other 4 -/
def p_table_times : TL := .cons (.drop (.call f_require_width (.cons (.var 0) .nil))) (.cons (.drop (.call f_require_width (.cons (.var 1) .nil))) (.cons (.drop (.call f_require_width (.cons (.var 2) .nil))) (.cons (.drop (.call f_require_table (.cons (.var 0) (.cons (.var 1) (.cons (.var 3) .nil))))) (.cons (.drop (.call f_require_table (.cons (.var 1) (.cons (.var 2) (.cons (.var 4) .nil))))) (.cons (.ret (.call f_table_behind (.cons (.var 3) (.cons (.var 4) (.cons (.var 2) .nil))))) .nil)))))
def f_table_times : Fn := ⟨"table_times", 7, false, false, 5, runDef 5 false false p_table_times⟩
theorem fr_table_times : f_table_times.run = runDef 5 false false p_table_times := by simp only [f_table_times]
theorem fl_table_times : f_table_times.fresh = false ∧ f_table_times.lend = false ∧ f_table_times.many = 5 := ⟨rfl, rfl, rfl⟩
abbrev n_table_times : List Str := ["height", "middle", "width", "one", "other"]
abbrev q_table_times : List Str := ["height", "middle", "width", "one", "other"]
/-- _law_dice: slots script 0, spot 1, cell 2, great 3, seed 4 -/
def p_law_dice : TL := .cons (.asg 2 (.e (.ite (.cmp .lt (.var 1) (.b1 .len (.var 0))) (.b1 .int (.ix (.var 0) (.var 1))) (.bin .add (.bin .mul (.cst (.int 131)) (.var 1)) (.cst (.int 37)))))) (.cons (.asg 3 (.e (.bin .mod (.b1 .int (.b1 .abs (.var 2))) (.bin .pow (.bin .pow (.cst (.int 10)) (.cst (.int 53))) (.cst (.int 6)))))) (.cons (.asg 4 (.e (.bin .add (.bin .add (.bin .add (.bin .mul (.bin .mod (.var 3) (.cst (.int 2305843009213693907))) (.cst (.int 73))) (.bin .mul (.cst (.int 619)) (.var 1))) (.bin .mul (.cst (.int 41)) (.b1 .int (.cmp .lt (.var 2) (.cst (.int 0)))))) (.cst (.int 17))))) (.cons (.retF (.disp (.cons (.max2 (.cst (.int 0)) (.bin .sub (.var 3) (.bin .pow (.cst (.int 10)) (.cst (.int 16))))) (.cons (.var 4) (.cons (.cst (.int 0)) .nil))))) .nil)))
def f_law_dice : Fn := ⟨"_law_dice", 1, false, true, 2, runDef 5 false true p_law_dice⟩
theorem fr_law_dice : f_law_dice.run = runDef 5 false true p_law_dice := by simp only [f_law_dice]
theorem fl_law_dice : f_law_dice.fresh = true ∧ f_law_dice.lend = false ∧ f_law_dice.many = 2 := ⟨rfl, rfl, rfl⟩
abbrev n_law_dice : List Str := ["script", "spot", "cell", "great", "seed"]
abbrev q_law_dice : List Str := ["script", "spot"]
/-- _law_roll: slots dice 0, total 1, one 2, two 3, found 4 -/
def p_law_roll : TL := .cons (.ife (.cmp .gt (.ix (.var 0) (.cst (.int 0))) (.cst (.int 0))) (.cons (.asg 4 (.e (.bin .mod (.ix (.var 0) (.cst (.int 0))) (.var 1)))) (.cons (.setI 0 (.cst (.int 0)) (.bin .fdiv (.ix (.var 0) (.cst (.int 0))) (.var 1))) (.cons (.ret (.b1 .int (.var 4))) .nil))) (.nil)) (.cons (.setI 0 (.cst (.int 2)) (.bin .add (.ix (.var 0) (.cst (.int 2))) (.cst (.int 1)))) (.cons (.asg 2 (.e (.bin .mod (.bin .add (.ix (.var 0) (.cst (.int 1))) (.bin .mul (.cst (.int 49979687)) (.ix (.var 0) (.cst (.int 2))))) (.cst (.int 2305843009213693951))))) (.cons (.asg 3 (.e (.bin .add (.bin .mul (.bin .mod (.bin .add (.bin .mul (.var 2) (.var 2)) (.bin .mul (.cst (.int 131)) (.ix (.var 0) (.cst (.int 2))))) (.cst (.int 2305843009213693921))) (.cst (.int 32452843))) (.var 2)))) (.cons (.ret (.bin .mod (.b1 .int (.bin .fdiv (.var 3) (.cst (.int 65587)))) (.var 1))) .nil))))
def f_law_roll : Fn := ⟨"_law_roll", 1, true, false, 2, runDef 5 true false p_law_roll⟩
theorem fr_law_roll : f_law_roll.run = runDef 5 true false p_law_roll := by simp only [f_law_roll]
theorem fl_law_roll : f_law_roll.fresh = false ∧ f_law_roll.lend = true ∧ f_law_roll.many = 2 := ⟨rfl, rfl, rfl⟩
abbrev n_law_roll : List Str := ["dice", "total", "one", "two", "found"]
abbrev q_law_roll : List Str := ["dice", "total"]
/-- _law_pick: slots dice 0, items 1 -/
def p_law_pick : TL := .cons (.ret (.ix (.var 1) (.call f_law_roll (.cons (.var 0) (.cons (.b1 .len (.var 1)) .nil))))) .nil
def f_law_pick : Fn := ⟨"_law_pick", 2, true, false, 2, runDef 2 true false p_law_pick⟩
theorem fr_law_pick : f_law_pick.run = runDef 2 true false p_law_pick := by simp only [f_law_pick]
theorem fl_law_pick : f_law_pick.fresh = false ∧ f_law_pick.lend = true ∧ f_law_pick.many = 2 := ⟨rfl, rfl, rfl⟩
abbrev n_law_pick : List Str := ["dice", "items"]
abbrev q_law_pick : List Str := ["dice", "items"]
/-- _law_fr: slots top 0, bottom 1, sign 2, one 3, other 4 -/
def p_law_fr : TL := .cons (.par2 3 4 (.e (.b1 .abs (.var 0))) (.e (.b1 .abs (.var 1)))) (.cons (.whl (.cmp .gt (.var 4) (.cst (.int 0))) (mInt 4) (.cons (.par2 3 4 (.e (.var 4)) (.e (.bin .mod (.var 3) (.var 4)))) .nil)) (.cons (.asg 2 (.e (.ite (.cmp .lt (.var 1) (.cst (.int 0))) (.neg (.cst (.int 1))) (.cst (.int 1))))) (.cons (.ret (.tup (.cons (.bin .fdiv (.bin .mul (.var 2) (.var 0)) (.var 3)) (.cons (.bin .fdiv (.bin .mul (.var 2) (.var 1)) (.var 3)) .nil)))) .nil)))
def f_law_fr : Fn := ⟨"_law_fr", 1, false, false, 2, runDef 5 false false p_law_fr⟩
theorem fr_law_fr : f_law_fr.run = runDef 5 false false p_law_fr := by simp only [f_law_fr]
theorem fl_law_fr : f_law_fr.fresh = false ∧ f_law_fr.lend = false ∧ f_law_fr.many = 2 := ⟨rfl, rfl, rfl⟩
abbrev n_law_fr : List Str := ["top", "bottom", "sign", "one", "other"]
abbrev q_law_fr : List Str := ["top", "bottom"]
/-- _law_plus: slots one 0, other 1 -/
def p_law_plus : TL := .cons (.ret (.call f_law_fr (.cons (.bin .add (.bin .mul (.ix (.var 0) (.cst (.int 0))) (.ix (.var 1) (.cst (.int 1)))) (.bin .mul (.ix (.var 1) (.cst (.int 0))) (.ix (.var 0) (.cst (.int 1))))) (.cons (.bin .mul (.ix (.var 0) (.cst (.int 1))) (.ix (.var 1) (.cst (.int 1)))) .nil)))) .nil
def f_law_plus : Fn := ⟨"_law_plus", 2, false, false, 2, runDef 2 false false p_law_plus⟩
theorem fr_law_plus : f_law_plus.run = runDef 2 false false p_law_plus := by simp only [f_law_plus]
theorem fl_law_plus : f_law_plus.fresh = false ∧ f_law_plus.lend = false ∧ f_law_plus.many = 2 := ⟨rfl, rfl, rfl⟩
abbrev n_law_plus : List Str := ["one", "other"]
abbrev q_law_plus : List Str := ["one", "other"]
/-- _law_times: slots one 0, other 1 -/
def p_law_times : TL := .cons (.ret (.call f_law_fr (.cons (.bin .mul (.ix (.var 0) (.cst (.int 0))) (.ix (.var 1) (.cst (.int 0)))) (.cons (.bin .mul (.ix (.var 0) (.cst (.int 1))) (.ix (.var 1) (.cst (.int 1)))) .nil)))) .nil
def f_law_times : Fn := ⟨"_law_times", 2, false, false, 2, runDef 2 false false p_law_times⟩
theorem fr_law_times : f_law_times.run = runDef 2 false false p_law_times := by simp only [f_law_times]
theorem fl_law_times : f_law_times.fresh = false ∧ f_law_times.lend = false ∧ f_law_times.many = 2 := ⟨rfl, rfl, rfl⟩
abbrev n_law_times : List Str := ["one", "other"]
abbrev q_law_times : List Str := ["one", "other"]
/-- _law_dot: slots row 0, told 1, found 2, one 3, other 4 -/
def p_law_dot : TL := .cons (.asg 2 (.e (.tup (.cons (.cst (.int 0)) (.cons (.cst (.int 1)) .nil))))) (.cons (.forr (.two 3 4) (.zipT (.var 0) (.var 1)) (.cons (.ife (.and (.cmp .ne (.ix (.var 3) (.cst (.int 0))) (.cst (.int 0))) (.cmp .ne (.ix (.var 4) (.cst (.int 0))) (.cst (.int 0)))) (.cons (.asg 2 (.e (.call f_law_plus (.cons (.var 2) (.cons (.call f_law_times (.cons (.var 3) (.cons (.var 4) .nil))) .nil))))) .nil) (.nil)) .nil)) (.cons (.ret (.var 2)) .nil))
def f_law_dot : Fn := ⟨"_law_dot", 3, false, false, 2, runDef 5 false false p_law_dot⟩
theorem fr_law_dot : f_law_dot.run = runDef 5 false false p_law_dot := by simp only [f_law_dot]
theorem fl_law_dot : f_law_dot.fresh = false ∧ f_law_dot.lend = false ∧ f_law_dot.many = 2 := ⟨rfl, rfl, rfl⟩
abbrev n_law_dot : List Str := ["row", "told", "found", "one", "other"]
abbrev q_law_dot : List Str := ["row", "told"]
/-- _law_columns: slots table 0, width 1, at 2, line 3 -/
def p_law_columns : TL := .cons (.retF (.comp (.nm 2) (.rng1 (.var 1)) .no (.b1 .tup (.fr (.comp (.nm 3) (.seqT (.var 0)) .no (.ix (.var 3) (.var 2))))))) .nil
def f_law_columns : Fn := ⟨"_law_columns", 1, false, true, 2, runDef 4 false true p_law_columns⟩
theorem fr_law_columns : f_law_columns.run = runDef 4 false true p_law_columns := by simp only [f_law_columns]
theorem fl_law_columns : f_law_columns.fresh = true ∧ f_law_columns.lend = false ∧ f_law_columns.many = 2 := ⟨rfl, rfl, rfl⟩
abbrev n_law_columns : List Str := ["table", "width", "at", "line"]
abbrev q_law_columns : List Str := ["table", "width"]
/-- _law_table: slots dice 0, height 1, width 2, some 3, line 4, at 5 -/
def p_law_table : TL := .cons (.asg 3 (.f (.disp (.cons (.tup (.cons (.cst (.int 0)) (.cons (.cst (.int 1)) .nil))) (.cons (.tup (.cons (.cst (.int 0)) (.cons (.cst (.int 1)) .nil))) (.cons (.tup (.cons (.cst (.int 1)) (.cons (.cst (.int 1)) .nil))) (.cons (.tup (.cons (.neg (.cst (.int 1))) (.cons (.cst (.int 1)) .nil))) (.cons (.tup (.cons (.cst (.int 2)) (.cons (.cst (.int 1)) .nil))) (.cons (.tup (.cons (.cst (.int 1)) (.cons (.cst (.int 3)) .nil))) (.cons (.tup (.cons (.neg (.cst (.int 5))) (.cons (.cst (.int 2)) .nil))) .nil)))))))))) (.cons (.ret (.b1 .tup (.fr (.comp (.nm 4) (.rng1 (.var 1)) .no (.b1 .tup (.fr (.comp (.nm 5) (.rng1 (.var 2)) .no (.call f_law_pick (.cons (.var 0) (.cons (.var 3) .nil)))))))))) .nil)
def f_law_table : Fn := ⟨"_law_table", 3, true, false, 3, runDef 6 true false p_law_table⟩
theorem fr_law_table : f_law_table.run = runDef 6 true false p_law_table := by simp only [f_law_table]
theorem fl_law_table : f_law_table.fresh = false ∧ f_law_table.lend = true ∧ f_law_table.many = 3 := ⟨rfl, rfl, rfl⟩
abbrev n_law_table : List Str := ["dice", "height", "width", "some", "line", "at"]
abbrev q_law_table : List Str := ["dice", "height", "width"]
/-- _law_behind_one: slots one 0, other 1, width 2, line 3, column 4 -/
def p_law_behind_one : TL := .cons (.ret (.b1 .tup (.fr (.comp (.nm 3) (.seqT (.var 0)) .no (.b1 .tup (.fr (.comp (.nm 4) (.seqL (.fr (.callF f_law_columns (.cons (.var 1) (.cons (.var 2) .nil))))) .no (.call f_law_dot (.cons (.var 3) (.cons (.var 4) .nil)))))))))) .nil
def f_law_behind_one : Fn := ⟨"_law_behind_one", 4, false, false, 3, runDef 5 false false p_law_behind_one⟩
theorem fr_law_behind_one : f_law_behind_one.run = runDef 5 false false p_law_behind_one := by simp only [f_law_behind_one]
theorem fl_law_behind_one : f_law_behind_one.fresh = false ∧ f_law_behind_one.lend = false ∧ f_law_behind_one.many = 3 := ⟨rfl, rfl, rfl⟩
abbrev n_law_behind_one : List Str := ["one", "other", "width", "line", "column"]
abbrev q_law_behind_one : List Str := ["one", "other", "width"]
/-- _law_right: slots dice 0, left 1, more 2, due 3, first 4, middle 5, last 6, width 7, one 8, other 9, third 10, both 11, row 12, line 13, beside 14, turn 15, spot 16, right 17, at 18 -/
def p_law_right : TL := .cons (.unpN true [4, 5, 6, 7] (.fr (.comp (.nm 15) (.rng1 (.cst (.int 4))) .no (.call f_law_roll (.cons (.var 0) (.cons (.cst (.int 5)) .nil)))))) (.cons (.par3 8 9 10 (.e (.call f_law_table (.cons (.var 0) (.cons (.var 4) (.cons (.var 5) .nil))))) (.e (.call f_law_table (.cons (.var 0) (.cons (.var 5) (.cons (.var 6) .nil))))) (.e (.call f_law_table (.cons (.var 0) (.cons (.var 6) (.cons (.var 7) .nil)))))) (.cons (.par2 11 12 (.e (.call f_table_times (.cons (.var 4) (.cons (.var 5) (.cons (.var 6) (.cons (.var 8) (.cons (.var 9) .nil))))))) (.e (.ix (.call f_law_table (.cons (.var 0) (.cons (.cst (.int 1)) (.cons (.var 6) .nil)))) (.cst (.int 0))))) (.cons (.ife (.cmp .ne (.b1 .repr (.var 11)) (.b1 .repr (.call f_law_behind_one (.cons (.var 8) (.cons (.var 9) (.cons (.var 6) .nil)))))) (.cons (.ret (.cst (.bl false))) .nil) (.nil)) (.cons (.ife (.cmp .ne (.call f_led (.cons (.var 4) (.cons (.var 6) (.cons (.var 11) (.cons (.var 12) .nil))))) (.call f_led (.cons (.var 4) (.cons (.var 5) (.cons (.var 8) (.cons (.call f_led (.cons (.var 5) (.cons (.var 6) (.cons (.var 9) (.cons (.var 12) .nil))))) .nil)))))) (.cons (.ret (.cst (.bl false))) .nil) (.nil)) (.cons (.asg 1 (.e (.call f_table_times (.cons (.var 4) (.cons (.var 6) (.cons (.var 7) (.cons (.var 11) (.cons (.var 10) .nil)))))))) (.cons (.ife (.cmp .ne (.var 1) (.call f_table_times (.cons (.var 4) (.cons (.var 5) (.cons (.var 7) (.cons (.var 8) (.cons (.call f_table_times (.cons (.var 5) (.cons (.var 6) (.cons (.var 7) (.cons (.var 9) (.cons (.var 10) .nil)))))) .nil))))))) (.cons (.ret (.cst (.bl false))) .nil) (.nil)) (.cons (.ife (.cmp .ne (.call f_table_times (.cons (.var 4) (.cons (.var 4) (.cons (.var 5) (.cons (.call f_unit (.cons (.var 4) .nil)) (.cons (.var 8) .nil)))))) (.var 8)) (.cons (.ret (.cst (.bl false))) .nil) (.nil)) (.cons (.ife (.cmp .ne (.call f_table_times (.cons (.var 4) (.cons (.var 5) (.cons (.var 5) (.cons (.var 8) (.cons (.call f_unit (.cons (.var 5) .nil)) .nil)))))) (.var 8)) (.cons (.ret (.cst (.bl false))) .nil) (.nil)) (.cons (.asg 2 (.e (.call f_law_table (.cons (.var 0) (.cons (.var 4) (.cons (.var 5) .nil)))))) (.cons (.asg 3 (.f (.disp .nil))) (.cons (.forr (.two 13 14) (.zipT (.var 8) (.var 2)) (.cons (.app 3 (.b1 .tup (.fr (.comp (.two 1 17) (.zipT (.var 13) (.var 14)) .no (.call f_law_plus (.cons (.var 1) (.cons (.var 17) .nil))))))) .nil)) (.cons (.ife (.cmp .ne (.b1 .repr (.call f_table_plus (.cons (.var 4) (.cons (.var 5) (.cons (.var 8) (.cons (.var 2) .nil)))))) (.b1 .repr (.b1 .tup (.var 3)))) (.cons (.ret (.cst (.bl false))) .nil) (.nil)) (.cons (.ife (.and (.cmp .ne (.call f_columns (.cons (.var 5) (.cons (.var 4) (.cons (.call f_columns (.cons (.var 4) (.cons (.var 5) (.cons (.var 8) .nil)))) .nil)))) (.var 8)) (.cmp .gt (.var 5) (.cst (.int 0)))) (.cons (.ret (.cst (.bl false))) .nil) (.nil)) (.cons (.ret (.cmp .eq (.call f_unit (.cons (.var 7) .nil)) (.b1 .tup (.fr (.comp (.nm 16) (.rng1 (.var 7)) .no (.b1 .tup (.fr (.comp (.nm 18) (.rng1 (.var 7)) .no (.tup (.cons (.b1 .int (.cmp .eq (.var 18) (.var 16))) (.cons (.cst (.int 1)) .nil))))))))))) .nil))))))))))))))
def f_law_right : Fn := ⟨"_law_right", 8, true, false, 1, runDef 19 true false p_law_right⟩
theorem fr_law_right : f_law_right.run = runDef 19 true false p_law_right := by simp only [f_law_right]
theorem fl_law_right : f_law_right.fresh = false ∧ f_law_right.lend = true ∧ f_law_right.many = 1 := ⟨rfl, rfl, rfl⟩
abbrev n_law_right : List Str := ["dice", "left", "more", "due", "first", "middle", "last", "width", "one", "other", "third", "both", "row", "line", "beside", "turn", "spot", "right", "at"]
abbrev q_law_right : List Str := ["dice"]
/-- law: slots script 0, spot 1, told 2, dice 3, turn 4 -/
def p_law : TL := .cons (.forr (.nm 1) (.rng1 (.max2 (.cst (.int 1)) (.min2 (.cst (.int 6)) (.b1 .len (.var 0))))) (.cons (.asg 3 (.f (.callF f_law_dice (.cons (.var 0) (.cons (.var 1) .nil))))) (.cons (.forr (.nm 4) (.rng1 (.cst (.int 2))) (.cons (.ife (.not (.call f_law_right (.cons (.var 3) .nil))) (.cons (.ret (.cst (.bl false))) .nil) (.nil)) .nil)) .nil))) (.cons (.asg 2 (.f (.disp (.cons (.call f_unit (.cons (.cst (.int 0)) .nil)) (.cons (.call f_table_times (.cons (.cst (.int 2)) (.cons (.cst (.int 0)) (.cons (.cst (.int 1)) (.cons (.tup (.cons (.tup .nil) (.cons (.tup .nil) .nil))) (.cons (.tup .nil) .nil)))))) (.cons (.call f_table_times (.cons (.cst (.int 0)) (.cons (.cst (.int 3)) (.cons (.cst (.int 2)) (.cons (.tup .nil) (.cons (.bin .mul (.tup (.cons (.tup (.cons (.tup (.cons (.cst (.int 1)) (.cons (.cst (.int 1)) .nil))) (.cons (.tup (.cons (.cst (.int 0)) (.cons (.cst (.int 1)) .nil))) .nil))) .nil)) (.cst (.int 3))) .nil)))))) .nil)))))) (.cons (.app 2 (.b1 .len (.call f_unit (.cons (.cst (.int 144)) .nil)))) (.cons (.ret (.cmp .eq (.b1 .repr (.var 2)) (.b1 .repr (.fr (.disp (.cons (.tup .nil) (.cons (.tup (.cons (.tup (.cons (.tup (.cons (.cst (.int 0)) (.cons (.cst (.int 1)) .nil))) .nil)) (.cons (.tup (.cons (.tup (.cons (.cst (.int 0)) (.cons (.cst (.int 1)) .nil))) .nil)) .nil))) (.cons (.tup .nil) (.cons (.cst (.int 144)) .nil))))))))) .nil)))
def f_law : Fn := ⟨"law", 9, false, false, 1, runDef 5 false false p_law⟩
theorem fr_law : f_law.run = runDef 5 false false p_law := by simp only [f_law]
theorem fl_law : f_law.fresh = false ∧ f_law.lend = false ∧ f_law.many = 1 := ⟨rfl, rfl, rfl⟩
abbrev n_law : List Str := ["script", "spot", "told", "dice", "turn"]
abbrev q_law : List Str := ["script"]
end K24
namespace K24
open PySem PySem.Spec L2 PyProof.Rows SG
/-! ### the texts are these programs -/
def topS (i : Nat) : Stmt := PySem.Challenge.pw_stillgauge_k24_whole_tables_led_one_behi.main.body.getD i (.Pass ⟨0, 0, 0, 0⟩)
theorem e_is_integer : okS n_is_integer 0 false p_is_integer (defScope (topS 9)) (defBody (topS 9)) = true := by decide +kernel
theorem sc_is_integer : C8.scC n_is_integer q_is_integer (defScope (topS 9)) = true := by decide +kernel
theorem e_common_divisor : okS n_common_divisor 0 false p_common_divisor (defScope (topS 10)) (defBody (topS 10)) = true := by decide +kernel
theorem sc_common_divisor : C8.scC n_common_divisor q_common_divisor (defScope (topS 10)) = true := by decide +kernel
theorem e_is_number : okS n_is_number 1 false p_is_number (defScope (topS 11)) (defBody (topS 11)) = true := by decide +kernel
theorem sc_is_number : C8.scC n_is_number q_is_number (defScope (topS 11)) = true := by decide +kernel
theorem e_reduced : okS n_reduced 1 false p_reduced (defScope (topS 12)) (defBody (topS 12)) = true := by decide +kernel
theorem sc_reduced : C8.scC n_reduced q_reduced (defScope (topS 12)) = true := by decide +kernel
theorem e_require_count : okS n_require_count 1 false p_require_count (defScope (topS 13)) (defBody (topS 13)) = true := by decide +kernel
theorem sc_require_count : C8.scC n_require_count q_require_count (defScope (topS 13)) = true := by decide +kernel
theorem e_added : okS n_added 2 false p_added (defScope (topS 14)) (defBody (topS 14)) = true := by decide +kernel
theorem sc_added : C8.scC n_added q_added (defScope (topS 14)) = true := by decide +kernel
theorem e_multiplied : okS n_multiplied 2 false p_multiplied (defScope (topS 15)) (defBody (topS 15)) = true := by decide +kernel
theorem sc_multiplied : C8.scC n_multiplied q_multiplied (defScope (topS 15)) = true := by decide +kernel
theorem e_is_plain_row : okS n_is_plain_row 2 false p_is_plain_row (defScope (topS 17)) (defBody (topS 17)) = true := by decide +kernel
theorem sc_is_plain_row : C8.scC n_is_plain_row q_is_plain_row (defScope (topS 17)) = true := by decide +kernel
theorem e_is_plain_table : okS n_is_plain_table 3 false p_is_plain_table (defScope (topS 18)) (defBody (topS 18)) = true := by decide +kernel
theorem sc_is_plain_table : C8.scC n_is_plain_table q_is_plain_table (defScope (topS 18)) = true := by decide +kernel
theorem e_rest_row : okS n_rest_row 0 false p_rest_row (defScope (topS 19)) (defBody (topS 19)) = true := by decide +kernel
theorem sc_rest_row : C8.scC n_rest_row q_rest_row (defScope (topS 19)) = true := by decide +kernel
theorem e_unit_row : okS n_unit_row 0 false p_unit_row (defScope (topS 20)) (defBody (topS 20)) = true := by decide +kernel
theorem sc_unit_row : C8.scC n_unit_row q_unit_row (defScope (topS 20)) = true := by decide +kernel
theorem e_unit_table : okS n_unit_table 1 false p_unit_table (defScope (topS 21)) (defBody (topS 21)) = true := by decide +kernel
theorem sc_unit_table : C8.scC n_unit_table q_unit_table (defScope (topS 21)) = true := by decide +kernel
theorem e_sum_of_rows : okS n_sum_of_rows 3 false p_sum_of_rows (defScope (topS 22)) (defBody (topS 22)) = true := by decide +kernel
theorem sc_sum_of_rows : C8.scC n_sum_of_rows q_sum_of_rows (defScope (topS 22)) = true := by decide +kernel
theorem e_times_row : okS n_times_row 3 false p_times_row (defScope (topS 23)) (defBody (topS 23)) = true := by decide +kernel
theorem sc_times_row : C8.scC n_times_row q_times_row (defScope (topS 23)) = true := by decide +kernel
theorem e_product_of : okS n_product_of 3 false p_product_of (defScope (topS 24)) (defBody (topS 24)) = true := by decide +kernel
theorem sc_product_of : C8.scC n_product_of q_product_of (defScope (topS 24)) = true := by decide +kernel
theorem e_led_row : okS n_led_row 4 false p_led_row (defScope (topS 25)) (defBody (topS 25)) = true := by decide +kernel
theorem sc_led_row : C8.scC n_led_row q_led_row (defScope (topS 25)) = true := by decide +kernel
theorem e_led_told : okS n_led_told 4 false p_led_told (defScope (topS 26)) (defBody (topS 26)) = true := by decide +kernel
theorem sc_led_told : C8.scC n_led_told q_led_told (defScope (topS 26)) = true := by decide +kernel
theorem e_columns_of : okS n_columns_of 0 false p_columns_of (defScope (topS 27)) (defBody (topS 27)) = true := by decide +kernel
theorem sc_columns_of : C8.scC n_columns_of q_columns_of (defScope (topS 27)) = true := by decide +kernel
theorem e_table_behind : okS n_table_behind 5 false p_table_behind (defScope (topS 28)) (defBody (topS 28)) = true := by decide +kernel
theorem sc_table_behind : C8.scC n_table_behind q_table_behind (defScope (topS 28)) = true := by decide +kernel
theorem e_require_width : okS n_require_width 2 false p_require_width (defScope (topS 31)) (defBody (topS 31)) = true := by decide +kernel
theorem sc_require_width : C8.scC n_require_width q_require_width (defScope (topS 31)) = true := by decide +kernel
theorem e_require_row : okS n_require_row 3 false p_require_row (defScope (topS 32)) (defBody (topS 32)) = true := by decide +kernel
theorem sc_require_row : C8.scC n_require_row q_require_row (defScope (topS 32)) = true := by decide +kernel
theorem e_require_table : okS n_require_table 4 false p_require_table (defScope (topS 33)) (defBody (topS 33)) = true := by decide +kernel
theorem sc_require_table : C8.scC n_require_table q_require_table (defScope (topS 33)) = true := by decide +kernel
theorem e_require_sized : okS n_require_sized 5 false p_require_sized (defScope (topS 34)) (defBody (topS 34)) = true := by decide +kernel
theorem sc_require_sized : C8.scC n_require_sized q_require_sized (defScope (topS 34)) = true := by decide +kernel
theorem e_led : okS n_led 6 false p_led (defScope (topS 35)) (defBody (topS 35)) = true := by decide +kernel
theorem sc_led : C8.scC n_led q_led (defScope (topS 35)) = true := by decide +kernel
theorem e_columns : okS n_columns 6 false p_columns (defScope (topS 36)) (defBody (topS 36)) = true := by decide +kernel
theorem sc_columns : C8.scC n_columns q_columns (defScope (topS 36)) = true := by decide +kernel
theorem e_unit : okS n_unit 3 false p_unit (defScope (topS 37)) (defBody (topS 37)) = true := by decide +kernel
theorem sc_unit : C8.scC n_unit q_unit (defScope (topS 37)) = true := by decide +kernel
theorem e_table_plus : okS n_table_plus 6 false p_table_plus (defScope (topS 38)) (defBody (topS 38)) = true := by decide +kernel
theorem sc_table_plus : C8.scC n_table_plus q_table_plus (defScope (topS 38)) = true := by decide +kernel
theorem e_table_times : okS n_table_times 6 false p_table_times (defScope (topS 39)) (defBody (topS 39)) = true := by decide +kernel
theorem sc_table_times : C8.scC n_table_times q_table_times (defScope (topS 39)) = true := by decide +kernel
theorem e_law_dice : okS n_law_dice 0 true p_law_dice (defScope (topS 41)) (defBody (topS 41)) = true := by decide +kernel
theorem sc_law_dice : C8.scC n_law_dice q_law_dice (defScope (topS 41)) = true := by decide +kernel
theorem e_law_roll : okS n_law_roll 0 false p_law_roll (defScope (topS 42)) (defBody (topS 42)) = true := by decide +kernel
theorem sc_law_roll : C8.scC n_law_roll q_law_roll (defScope (topS 42)) = true := by decide +kernel
theorem e_law_pick : okS n_law_pick 1 false p_law_pick (defScope (topS 43)) (defBody (topS 43)) = true := by decide +kernel
theorem sc_law_pick : C8.scC n_law_pick q_law_pick (defScope (topS 43)) = true := by decide +kernel
theorem e_law_fr : okS n_law_fr 0 false p_law_fr (defScope (topS 44)) (defBody (topS 44)) = true := by decide +kernel
theorem sc_law_fr : C8.scC n_law_fr q_law_fr (defScope (topS 44)) = true := by decide +kernel
theorem e_law_plus : okS n_law_plus 1 false p_law_plus (defScope (topS 45)) (defBody (topS 45)) = true := by decide +kernel
theorem sc_law_plus : C8.scC n_law_plus q_law_plus (defScope (topS 45)) = true := by decide +kernel
theorem e_law_times : okS n_law_times 1 false p_law_times (defScope (topS 46)) (defBody (topS 46)) = true := by decide +kernel
theorem sc_law_times : C8.scC n_law_times q_law_times (defScope (topS 46)) = true := by decide +kernel
theorem e_law_dot : okS n_law_dot 2 false p_law_dot (defScope (topS 47)) (defBody (topS 47)) = true := by decide +kernel
theorem sc_law_dot : C8.scC n_law_dot q_law_dot (defScope (topS 47)) = true := by decide +kernel
theorem e_law_columns : okS n_law_columns 0 true p_law_columns (defScope (topS 48)) (defBody (topS 48)) = true := by decide +kernel
theorem sc_law_columns : C8.scC n_law_columns q_law_columns (defScope (topS 48)) = true := by decide +kernel
theorem e_law_table : okS n_law_table 2 false p_law_table (defScope (topS 49)) (defBody (topS 49)) = true := by decide +kernel
theorem sc_law_table : C8.scC n_law_table q_law_table (defScope (topS 49)) = true := by decide +kernel
theorem e_law_behind_one : okS n_law_behind_one 3 false p_law_behind_one (defScope (topS 50)) (defBody (topS 50)) = true := by decide +kernel
theorem sc_law_behind_one : C8.scC n_law_behind_one q_law_behind_one (defScope (topS 50)) = true := by decide +kernel
theorem e_law_right : okS n_law_right 7 false p_law_right (defScope (topS 51)) (defBody (topS 51)) = true := by decide +kernel
theorem sc_law_right : C8.scC n_law_right q_law_right (defScope (topS 51)) = true := by decide +kernel
theorem e_law : okS n_law 8 false p_law (defScope (topS 52)) (defBody (topS 52)) = true := by decide +kernel
theorem sc_law : C8.scC n_law q_law (defScope (topS 52)) = true := by decide +kernel
/-- what stands behind the top -/
structure Top (K : PySem.W.Frag) (mg : Str → Option Value) : Prop where
  blt : ∀ x ∈ bltWords, mg x = none
  g_NOUGHT : Glo K mg "NOUGHT" c_NOUGHT
  g_ONE : Glo K mg "ONE" c_ONE
  g_MAX_WIDTH : Glo K mg "MAX_WIDTH" c_MAX_WIDTH
  d_is_integer : DefAt K mg "is_integer" (topS 9) []
  d_common_divisor : DefAt K mg "common_divisor" (topS 10) []
  d_is_number : DefAt K mg "is_number" (topS 11) []
  d_reduced : DefAt K mg "reduced" (topS 12) []
  d_require_count : DefAt K mg "require_count" (topS 13) [.int 0, .int 60]
  d_added : DefAt K mg "added" (topS 14) []
  d_multiplied : DefAt K mg "multiplied" (topS 15) []
  d_is_plain_row : DefAt K mg "is_plain_row" (topS 17) []
  d_is_plain_table : DefAt K mg "is_plain_table" (topS 18) []
  d_rest_row : DefAt K mg "rest_row" (topS 19) []
  d_unit_row : DefAt K mg "unit_row" (topS 20) []
  d_unit_table : DefAt K mg "unit_table" (topS 21) []
  d_sum_of_rows : DefAt K mg "sum_of_rows" (topS 22) []
  d_times_row : DefAt K mg "times_row" (topS 23) []
  d_product_of : DefAt K mg "product_of" (topS 24) []
  d_led_row : DefAt K mg "led_row" (topS 25) []
  d_led_told : DefAt K mg "led_told" (topS 26) []
  d_columns_of : DefAt K mg "columns_of" (topS 27) []
  d_table_behind : DefAt K mg "table_behind" (topS 28) []
  d_require_width : DefAt K mg "require_width" (topS 31) []
  d_require_row : DefAt K mg "require_row" (topS 32) []
  d_require_table : DefAt K mg "require_table" (topS 33) []
  d_require_sized : DefAt K mg "require_sized" (topS 34) []
  d_led : DefAt K mg "led" (topS 35) []
  d_columns : DefAt K mg "columns" (topS 36) []
  d_unit : DefAt K mg "unit" (topS 37) []
  d_table_plus : DefAt K mg "table_plus" (topS 38) []
  d_table_times : DefAt K mg "table_times" (topS 39) []
  d_law_dice : DefAt K mg "_law_dice" (topS 41) []
  d_law_roll : DefAt K mg "_law_roll" (topS 42) []
  d_law_pick : DefAt K mg "_law_pick" (topS 43) []
  d_law_fr : DefAt K mg "_law_fr" (topS 44) []
  d_law_plus : DefAt K mg "_law_plus" (topS 45) []
  d_law_times : DefAt K mg "_law_times" (topS 46) []
  d_law_dot : DefAt K mg "_law_dot" (topS 47) []
  d_law_columns : DefAt K mg "_law_columns" (topS 48) []
  d_law_table : DefAt K mg "_law_table" (topS 49) []
  d_law_behind_one : DefAt K mg "_law_behind_one" (topS 50) []
  d_law_right : DefAt K mg "_law_right" (topS 51) []
  d_law : DefAt K mg "law" (topS 52) []
section
variable {P : Program} {w : World} {K : PySem.W.Frag} {mg : Str → Option Value} {base : Heap}
theorem s_is_integer (A : Top K mg) : FnSnd P w K mg base f_is_integer := snd0 A.d_is_integer sc_is_integer (fun _ _ _ _ _ _ us hl => match us, hl with | [_], _ => rfl) e_is_integer ⟨⟨trivial, trivial⟩, trivial⟩ A.blt
theorem s_common_divisor (A : Top K mg) : FnSnd P w K mg base f_common_divisor := snd0 A.d_common_divisor sc_common_divisor (fun _ _ _ _ _ _ us hl => match us, hl with | [_, _], _ => rfl) e_common_divisor ⟨⟨trivial, trivial⟩, ⟨⟨⟨trivial, trivial⟩, ⟨⟨trivial, ⟨trivial, trivial⟩⟩, trivial⟩⟩, ⟨trivial, trivial⟩⟩⟩ A.blt
theorem s_is_number (A : Top K mg) : FnSnd P w K mg base f_is_number := snd0 A.d_is_number sc_is_number (fun _ _ _ _ _ _ us hl => match us, hl with | [_], _ => rfl) e_is_number ⟨⟨⟨trivial, ⟨⟨trivial, trivial⟩, ⟨trivial, trivial, ⟨s_is_integer A, ⟨trivial, trivial⟩⟩⟩⟩⟩, ⟨trivial, trivial⟩, trivial⟩, ⟨⟨⟨⟨trivial, trivial⟩, trivial⟩, ⟨⟨s_common_divisor A, ⟨⟨trivial, trivial⟩, ⟨⟨trivial, trivial⟩, trivial⟩⟩⟩, trivial⟩⟩, trivial⟩⟩ A.blt
theorem s_reduced (A : Top K mg) : FnSnd P w K mg base f_reduced := snd0 A.d_reduced sc_reduced (fun _ _ _ _ _ _ us hl => match us, hl with | [_, _], _ => rfl) e_reduced ⟨⟨⟨trivial, trivial⟩, ⟨⟨⟨trivial, trivial⟩, ⟨trivial, trivial⟩⟩, trivial⟩, trivial⟩, ⟨⟨s_common_divisor A, ⟨trivial, ⟨trivial, trivial⟩⟩⟩, ⟨⟨⟨trivial, trivial⟩, ⟨⟨trivial, trivial⟩, trivial⟩⟩, trivial⟩⟩⟩ A.blt
theorem s_require_count (A : Top K mg) : FnSnd P w K mg base f_require_count := sndD 3 2 A.d_require_count sc_require_count (by decide) rfl (fun _ _ _ _ _ _ _ us its h1 h2 => match us, its, h1, h2 with | [_, _, _], [_, _], _, _ => ⟨_, rfl, rfl⟩) e_require_count ⟨⟨⟨⟨s_is_integer A, ⟨trivial, trivial⟩⟩, ⟨trivial, trivial, trivial⟩⟩, ⟨trivial, trivial⟩, trivial⟩, trivial⟩ A.blt
theorem s_added (A : Top K mg) : FnSnd P w K mg base f_added := snd0 A.d_added sc_added (fun _ _ _ _ _ _ us hl => match us, hl with | [_, _], _ => rfl) e_added ⟨⟨⟨⟨trivial, trivial⟩, ⟨trivial, trivial⟩, trivial⟩, ⟨⟨⟨⟨trivial, trivial⟩, ⟨trivial, trivial⟩⟩, ⟨trivial, trivial⟩⟩, trivial⟩, trivial⟩, ⟨⟨s_reduced A, ⟨⟨⟨⟨trivial, trivial⟩, ⟨trivial, trivial⟩⟩, ⟨⟨trivial, trivial⟩, ⟨trivial, trivial⟩⟩⟩, ⟨⟨⟨trivial, trivial⟩, ⟨trivial, trivial⟩⟩, trivial⟩⟩⟩, trivial⟩⟩ A.blt
theorem s_multiplied (A : Top K mg) : FnSnd P w K mg base f_multiplied := snd0 A.d_multiplied sc_multiplied (fun _ _ _ _ _ _ us hl => match us, hl with | [_, _], _ => rfl) e_multiplied ⟨⟨⟨⟨trivial, trivial⟩, ⟨trivial, trivial⟩, trivial⟩, ⟨⟨⟨⟨trivial, trivial⟩, ⟨trivial, trivial⟩⟩, ⟨trivial, trivial⟩⟩, trivial⟩, trivial⟩, ⟨⟨s_reduced A, ⟨⟨⟨trivial, trivial⟩, ⟨trivial, trivial⟩⟩, ⟨⟨⟨trivial, trivial⟩, ⟨trivial, trivial⟩⟩, trivial⟩⟩⟩, trivial⟩⟩ A.blt
theorem s_is_plain_row (A : Top K mg) : FnSnd P w K mg base f_is_plain_row := snd0 A.d_is_plain_row sc_is_plain_row (fun _ _ _ _ _ _ us hl => match us, hl with | [_, _], _ => rfl) e_is_plain_row ⟨⟨trivial, ⟨⟨trivial, trivial⟩, ⟨trivial, trivial, ⟨s_is_number A, ⟨trivial, trivial⟩⟩⟩⟩⟩, trivial⟩ A.blt
theorem s_is_plain_table (A : Top K mg) : FnSnd P w K mg base f_is_plain_table := snd0 A.d_is_plain_table sc_is_plain_table (fun _ _ _ _ _ _ us hl => match us, hl with | [_, _, _], _ => rfl) e_is_plain_table ⟨⟨trivial, ⟨⟨trivial, trivial⟩, ⟨trivial, trivial, ⟨s_is_plain_row A, ⟨trivial, ⟨trivial, trivial⟩⟩⟩⟩⟩⟩, trivial⟩ A.blt
theorem s_rest_row (A : Top K mg) : FnSnd P w K mg base f_rest_row := snd0 A.d_rest_row sc_rest_row (fun _ _ _ _ _ _ us hl => match us, hl with | [_], _ => rfl) e_rest_row ⟨⟨⟨A.g_NOUGHT, trivial⟩, trivial⟩, trivial⟩ A.blt
theorem s_unit_row (A : Top K mg) : FnSnd P w K mg base f_unit_row := snd0 A.d_unit_row sc_unit_row (fun _ _ _ _ _ _ us hl => match us, hl with | [_, _], _ => rfl) e_unit_row ⟨⟨trivial, trivial, ⟨⟨trivial, trivial⟩, A.g_ONE, A.g_NOUGHT⟩⟩, trivial⟩ A.blt
theorem s_unit_table (A : Top K mg) : FnSnd P w K mg base f_unit_table := snd0 A.d_unit_table sc_unit_table (fun _ _ _ _ _ _ us hl => match us, hl with | [_], _ => rfl) e_unit_table ⟨⟨trivial, trivial, ⟨s_unit_row A, ⟨trivial, ⟨trivial, trivial⟩⟩⟩⟩, trivial⟩ A.blt
theorem s_sum_of_rows (A : Top K mg) : FnSnd P w K mg base f_sum_of_rows := snd0 A.d_sum_of_rows sc_sum_of_rows (fun _ _ _ _ _ _ us hl => match us, hl with | [_, _], _ => rfl) e_sum_of_rows ⟨⟨⟨trivial, trivial⟩, trivial, ⟨s_added A, ⟨trivial, ⟨trivial, trivial⟩⟩⟩⟩, trivial⟩ A.blt
theorem s_times_row (A : Top K mg) : FnSnd P w K mg base f_times_row := snd0 A.d_times_row sc_times_row (fun _ _ _ _ _ _ us hl => match us, hl with | [_, _], _ => rfl) e_times_row ⟨⟨trivial, trivial, ⟨⟨trivial, A.g_NOUGHT⟩, ⟨s_multiplied A, ⟨trivial, ⟨trivial, trivial⟩⟩⟩, A.g_NOUGHT⟩⟩, trivial⟩ A.blt
theorem s_product_of (A : Top K mg) : FnSnd P w K mg base f_product_of := snd0 A.d_product_of sc_product_of (fun _ _ _ _ _ _ us hl => match us, hl with | [_, _], _ => rfl) e_product_of ⟨A.g_NOUGHT, ⟨⟨⟨trivial, trivial⟩, ⟨⟨⟨⟨trivial, A.g_NOUGHT⟩, ⟨trivial, A.g_NOUGHT⟩⟩, ⟨⟨s_added A, ⟨trivial, ⟨⟨s_multiplied A, ⟨trivial, ⟨trivial, trivial⟩⟩⟩, trivial⟩⟩⟩, trivial⟩, trivial⟩, trivial⟩⟩, ⟨trivial, trivial⟩⟩⟩ A.blt
theorem s_led_row (A : Top K mg) : FnSnd P w K mg base f_led_row := snd0 A.d_led_row sc_led_row (fun _ _ _ _ _ _ us hl => match us, hl with | [_, _], _ => rfl) e_led_row ⟨⟨trivial, trivial, ⟨s_product_of A, ⟨trivial, ⟨trivial, trivial⟩⟩⟩⟩, trivial⟩ A.blt
theorem s_led_told (A : Top K mg) : FnSnd P w K mg base f_led_told := snd0 A.d_led_told sc_led_told (fun _ _ _ _ _ _ us hl => match us, hl with | [_, _, _], _ => rfl) e_led_told ⟨⟨s_rest_row A, ⟨trivial, trivial⟩⟩, ⟨⟨⟨trivial, trivial⟩, ⟨⟨⟨trivial, A.g_NOUGHT⟩, ⟨⟨s_sum_of_rows A, ⟨trivial, ⟨⟨s_times_row A, ⟨trivial, ⟨trivial, trivial⟩⟩⟩, trivial⟩⟩⟩, trivial⟩, trivial⟩, trivial⟩⟩, ⟨trivial, trivial⟩⟩⟩ A.blt
theorem s_columns_of (A : Top K mg) : FnSnd P w K mg base f_columns_of := snd0 A.d_columns_of sc_columns_of (fun _ _ _ _ _ _ us hl => match us, hl with | [_, _], _ => rfl) e_columns_of ⟨⟨trivial, trivial, ⟨trivial, trivial, ⟨trivial, trivial⟩⟩⟩, trivial⟩ A.blt
theorem s_table_behind (A : Top K mg) : FnSnd P w K mg base f_table_behind := snd0 A.d_table_behind sc_table_behind (fun _ _ _ _ _ _ us hl => match us, hl with | [_, _, _], _ => rfl) e_table_behind ⟨⟨trivial, trivial, ⟨s_led_told A, ⟨trivial, ⟨trivial, ⟨trivial, trivial⟩⟩⟩⟩⟩, trivial⟩ A.blt
theorem s_require_width (A : Top K mg) : FnSnd P w K mg base f_require_width := snd0 A.d_require_width sc_require_width (fun _ _ _ _ _ _ us hl => match us, hl with | [_], _ => rfl) e_require_width ⟨⟨s_require_count A, ⟨trivial, ⟨trivial, ⟨A.g_MAX_WIDTH, trivial⟩⟩⟩⟩, trivial⟩ A.blt
theorem s_require_row (A : Top K mg) : FnSnd P w K mg base f_require_row := snd0 A.d_require_row sc_require_row (fun _ _ _ _ _ _ us hl => match us, hl with | [_, _], _ => rfl) e_require_row ⟨⟨⟨s_is_plain_row A, ⟨trivial, ⟨trivial, trivial⟩⟩⟩, ⟨trivial, trivial⟩, trivial⟩, trivial⟩ A.blt
theorem s_require_table (A : Top K mg) : FnSnd P w K mg base f_require_table := snd0 A.d_require_table sc_require_table (fun _ _ _ _ _ _ us hl => match us, hl with | [_, _, _], _ => rfl) e_require_table ⟨⟨⟨s_is_plain_table A, ⟨trivial, ⟨trivial, ⟨trivial, trivial⟩⟩⟩⟩, ⟨trivial, trivial⟩, trivial⟩, trivial⟩ A.blt
theorem s_require_sized (A : Top K mg) : FnSnd P w K mg base f_require_sized := snd0 A.d_require_sized sc_require_sized (fun _ _ _ _ _ _ us hl => match us, hl with | [_, _, _], _ => rfl) e_require_sized ⟨⟨s_require_width A, ⟨trivial, trivial⟩⟩, ⟨⟨s_require_width A, ⟨trivial, trivial⟩⟩, ⟨⟨s_require_table A, ⟨trivial, ⟨trivial, ⟨trivial, trivial⟩⟩⟩⟩, trivial⟩⟩⟩ A.blt
theorem s_led (A : Top K mg) : FnSnd P w K mg base f_led := snd0 A.d_led sc_led (fun _ _ _ _ _ _ us hl => match us, hl with | [_, _, _, _], _ => rfl) e_led ⟨⟨s_require_sized A, ⟨trivial, ⟨trivial, ⟨trivial, trivial⟩⟩⟩⟩, ⟨⟨s_require_row A, ⟨trivial, ⟨trivial, trivial⟩⟩⟩, ⟨⟨s_led_row A, ⟨trivial, ⟨trivial, trivial⟩⟩⟩, trivial⟩⟩⟩ A.blt
theorem s_columns (A : Top K mg) : FnSnd P w K mg base f_columns := snd0 A.d_columns sc_columns (fun _ _ _ _ _ _ us hl => match us, hl with | [_, _, _], _ => rfl) e_columns ⟨⟨s_require_sized A, ⟨trivial, ⟨trivial, ⟨trivial, trivial⟩⟩⟩⟩, ⟨⟨s_columns_of A, ⟨trivial, ⟨trivial, trivial⟩⟩⟩, trivial⟩⟩ A.blt
theorem s_unit (A : Top K mg) : FnSnd P w K mg base f_unit := snd0 A.d_unit sc_unit (fun _ _ _ _ _ _ us hl => match us, hl with | [_], _ => rfl) e_unit ⟨⟨s_require_width A, ⟨trivial, trivial⟩⟩, ⟨⟨s_unit_table A, ⟨trivial, trivial⟩⟩, trivial⟩⟩ A.blt
theorem s_table_plus (A : Top K mg) : FnSnd P w K mg base f_table_plus := snd0 A.d_table_plus sc_table_plus (fun _ _ _ _ _ _ us hl => match us, hl with | [_, _, _, _], _ => rfl) e_table_plus ⟨⟨s_require_sized A, ⟨trivial, ⟨trivial, ⟨trivial, trivial⟩⟩⟩⟩, ⟨⟨s_require_table A, ⟨trivial, ⟨trivial, ⟨trivial, trivial⟩⟩⟩⟩, ⟨⟨⟨trivial, trivial⟩, trivial, ⟨s_sum_of_rows A, ⟨trivial, ⟨trivial, trivial⟩⟩⟩⟩, trivial⟩⟩⟩ A.blt
theorem s_table_times (A : Top K mg) : FnSnd P w K mg base f_table_times := snd0 A.d_table_times sc_table_times (fun _ _ _ _ _ _ us hl => match us, hl with | [_, _, _, _, _], _ => rfl) e_table_times ⟨⟨s_require_width A, ⟨trivial, trivial⟩⟩, ⟨⟨s_require_width A, ⟨trivial, trivial⟩⟩, ⟨⟨s_require_width A, ⟨trivial, trivial⟩⟩, ⟨⟨s_require_table A, ⟨trivial, ⟨trivial, ⟨trivial, trivial⟩⟩⟩⟩, ⟨⟨s_require_table A, ⟨trivial, ⟨trivial, ⟨trivial, trivial⟩⟩⟩⟩, ⟨⟨s_table_behind A, ⟨trivial, ⟨trivial, ⟨trivial, trivial⟩⟩⟩⟩, trivial⟩⟩⟩⟩⟩⟩ A.blt
theorem s_law_dice (A : Top K mg) : FnSnd P w K mg base f_law_dice := snd0 A.d_law_dice sc_law_dice (fun _ _ _ _ _ _ us hl => match us, hl with | [_, _], _ => rfl) e_law_dice ⟨⟨⟨trivial, trivial⟩, ⟨trivial, trivial⟩, ⟨⟨trivial, trivial⟩, trivial⟩⟩, ⟨⟨trivial, ⟨⟨trivial, trivial⟩, trivial⟩⟩, ⟨⟨⟨⟨⟨⟨trivial, trivial⟩, trivial⟩, ⟨trivial, trivial⟩⟩, ⟨trivial, ⟨trivial, trivial⟩⟩⟩, trivial⟩, ⟨⟨⟨trivial, ⟨trivial, ⟨trivial, trivial⟩⟩⟩, ⟨trivial, ⟨trivial, trivial⟩⟩⟩, trivial⟩⟩⟩⟩ A.blt
theorem s_law_roll (A : Top K mg) : FnSnd P w K mg base f_law_roll := snd0 A.d_law_roll sc_law_roll (fun _ _ _ _ _ _ us hl => match us, hl with | [_, _], _ => rfl) e_law_roll ⟨⟨⟨⟨trivial, trivial⟩, trivial⟩, ⟨⟨⟨trivial, trivial⟩, trivial⟩, ⟨⟨trivial, ⟨⟨trivial, trivial⟩, trivial⟩⟩, ⟨trivial, trivial⟩⟩⟩, trivial⟩, ⟨⟨trivial, ⟨⟨trivial, trivial⟩, trivial⟩⟩, ⟨⟨⟨⟨trivial, trivial⟩, ⟨trivial, ⟨trivial, trivial⟩⟩⟩, trivial⟩, ⟨⟨⟨⟨⟨⟨trivial, trivial⟩, ⟨trivial, ⟨trivial, trivial⟩⟩⟩, trivial⟩, trivial⟩, trivial⟩, ⟨⟨⟨trivial, trivial⟩, trivial⟩, trivial⟩⟩⟩⟩⟩ A.blt
theorem s_law_pick (A : Top K mg) : FnSnd P w K mg base f_law_pick := snd0 A.d_law_pick sc_law_pick (fun _ _ _ _ _ _ us hl => match us, hl with | [_, _], _ => rfl) e_law_pick ⟨⟨trivial, ⟨s_law_roll A, ⟨trivial, ⟨trivial, trivial⟩⟩⟩⟩, trivial⟩ A.blt
theorem s_law_fr (A : Top K mg) : FnSnd P w K mg base f_law_fr := snd0 A.d_law_fr sc_law_fr (fun _ _ _ _ _ _ us hl => match us, hl with | [_, _], _ => rfl) e_law_fr ⟨⟨trivial, trivial⟩, ⟨⟨⟨trivial, trivial⟩, ⟨⟨trivial, ⟨trivial, trivial⟩⟩, trivial⟩⟩, ⟨⟨⟨trivial, trivial⟩, trivial, trivial⟩, ⟨⟨⟨⟨trivial, trivial⟩, trivial⟩, ⟨⟨⟨trivial, trivial⟩, trivial⟩, trivial⟩⟩, trivial⟩⟩⟩⟩ A.blt
theorem s_law_plus (A : Top K mg) : FnSnd P w K mg base f_law_plus := snd0 A.d_law_plus sc_law_plus (fun _ _ _ _ _ _ us hl => match us, hl with | [_, _], _ => rfl) e_law_plus ⟨⟨s_law_fr A, ⟨⟨⟨⟨trivial, trivial⟩, ⟨trivial, trivial⟩⟩, ⟨⟨trivial, trivial⟩, ⟨trivial, trivial⟩⟩⟩, ⟨⟨⟨trivial, trivial⟩, ⟨trivial, trivial⟩⟩, trivial⟩⟩⟩, trivial⟩ A.blt
theorem s_law_times (A : Top K mg) : FnSnd P w K mg base f_law_times := snd0 A.d_law_times sc_law_times (fun _ _ _ _ _ _ us hl => match us, hl with | [_, _], _ => rfl) e_law_times ⟨⟨s_law_fr A, ⟨⟨⟨trivial, trivial⟩, ⟨trivial, trivial⟩⟩, ⟨⟨⟨trivial, trivial⟩, ⟨trivial, trivial⟩⟩, trivial⟩⟩⟩, trivial⟩ A.blt
theorem s_law_dot (A : Top K mg) : FnSnd P w K mg base f_law_dot := snd0 A.d_law_dot sc_law_dot (fun _ _ _ _ _ _ us hl => match us, hl with | [_, _], _ => rfl) e_law_dot ⟨⟨trivial, ⟨trivial, trivial⟩⟩, ⟨⟨⟨trivial, trivial⟩, ⟨⟨⟨⟨⟨trivial, trivial⟩, trivial⟩, ⟨⟨trivial, trivial⟩, trivial⟩⟩, ⟨⟨s_law_plus A, ⟨trivial, ⟨⟨s_law_times A, ⟨trivial, ⟨trivial, trivial⟩⟩⟩, trivial⟩⟩⟩, trivial⟩, trivial⟩, trivial⟩⟩, ⟨trivial, trivial⟩⟩⟩ A.blt
theorem s_law_columns (A : Top K mg) : FnSnd P w K mg base f_law_columns := snd0 A.d_law_columns sc_law_columns (fun _ _ _ _ _ _ us hl => match us, hl with | [_, _], _ => rfl) e_law_columns ⟨⟨trivial, trivial, ⟨trivial, trivial, ⟨trivial, trivial⟩⟩⟩, trivial⟩ A.blt
theorem s_law_table (A : Top K mg) : FnSnd P w K mg base f_law_table := snd0 A.d_law_table sc_law_table (fun _ _ _ _ _ _ us hl => match us, hl with | [_, _, _], _ => rfl) e_law_table ⟨⟨⟨trivial, ⟨trivial, trivial⟩⟩, ⟨⟨trivial, ⟨trivial, trivial⟩⟩, ⟨⟨trivial, ⟨trivial, trivial⟩⟩, ⟨⟨trivial, ⟨trivial, trivial⟩⟩, ⟨⟨trivial, ⟨trivial, trivial⟩⟩, ⟨⟨trivial, ⟨trivial, trivial⟩⟩, ⟨⟨trivial, ⟨trivial, trivial⟩⟩, trivial⟩⟩⟩⟩⟩⟩⟩, ⟨⟨trivial, trivial, ⟨trivial, trivial, ⟨s_law_pick A, ⟨trivial, ⟨trivial, trivial⟩⟩⟩⟩⟩, trivial⟩⟩ A.blt
theorem s_law_behind_one (A : Top K mg) : FnSnd P w K mg base f_law_behind_one := snd0 A.d_law_behind_one sc_law_behind_one (fun _ _ _ _ _ _ us hl => match us, hl with | [_, _, _], _ => rfl) e_law_behind_one ⟨⟨trivial, trivial, ⟨⟨s_law_columns A, ⟨trivial, ⟨trivial, trivial⟩⟩⟩, trivial, ⟨s_law_dot A, ⟨trivial, ⟨trivial, trivial⟩⟩⟩⟩⟩, trivial⟩ A.blt
theorem s_law_right (A : Top K mg) : FnSnd P w K mg base f_law_right := snd0 A.d_law_right sc_law_right (fun _ _ _ _ _ _ us hl => match us, hl with | [_], _ => rfl) e_law_right ⟨⟨trivial, trivial, ⟨s_law_roll A, ⟨trivial, ⟨trivial, trivial⟩⟩⟩⟩, ⟨⟨⟨s_law_table A, ⟨trivial, ⟨trivial, ⟨trivial, trivial⟩⟩⟩⟩, ⟨s_law_table A, ⟨trivial, ⟨trivial, ⟨trivial, trivial⟩⟩⟩⟩, ⟨s_law_table A, ⟨trivial, ⟨trivial, ⟨trivial, trivial⟩⟩⟩⟩⟩, ⟨⟨⟨s_table_times A, ⟨trivial, ⟨trivial, ⟨trivial, ⟨trivial, ⟨trivial, trivial⟩⟩⟩⟩⟩⟩, ⟨⟨s_law_table A, ⟨trivial, ⟨trivial, ⟨trivial, trivial⟩⟩⟩⟩, trivial⟩⟩, ⟨⟨⟨trivial, ⟨s_law_behind_one A, ⟨trivial, ⟨trivial, ⟨trivial, trivial⟩⟩⟩⟩⟩, ⟨trivial, trivial⟩, trivial⟩, ⟨⟨⟨⟨s_led A, ⟨trivial, ⟨trivial, ⟨trivial, ⟨trivial, trivial⟩⟩⟩⟩⟩, ⟨s_led A, ⟨trivial, ⟨trivial, ⟨trivial, ⟨⟨s_led A, ⟨trivial, ⟨trivial, ⟨trivial, ⟨trivial, trivial⟩⟩⟩⟩⟩, trivial⟩⟩⟩⟩⟩⟩, ⟨trivial, trivial⟩, trivial⟩, ⟨⟨s_table_times A, ⟨trivial, ⟨trivial, ⟨trivial, ⟨trivial, ⟨trivial, trivial⟩⟩⟩⟩⟩⟩, ⟨⟨⟨trivial, ⟨s_table_times A, ⟨trivial, ⟨trivial, ⟨trivial, ⟨trivial, ⟨⟨s_table_times A, ⟨trivial, ⟨trivial, ⟨trivial, ⟨trivial, ⟨trivial, trivial⟩⟩⟩⟩⟩⟩, trivial⟩⟩⟩⟩⟩⟩⟩, ⟨trivial, trivial⟩, trivial⟩, ⟨⟨⟨⟨s_table_times A, ⟨trivial, ⟨trivial, ⟨trivial, ⟨⟨s_unit A, ⟨trivial, trivial⟩⟩, ⟨trivial, trivial⟩⟩⟩⟩⟩⟩, trivial⟩, ⟨trivial, trivial⟩, trivial⟩, ⟨⟨⟨⟨s_table_times A, ⟨trivial, ⟨trivial, ⟨trivial, ⟨trivial, ⟨⟨s_unit A, ⟨trivial, trivial⟩⟩, trivial⟩⟩⟩⟩⟩⟩, trivial⟩, ⟨trivial, trivial⟩, trivial⟩, ⟨⟨s_law_table A, ⟨trivial, ⟨trivial, ⟨trivial, trivial⟩⟩⟩⟩, ⟨trivial, ⟨⟨⟨trivial, trivial⟩, ⟨⟨⟨trivial, trivial⟩, trivial, ⟨s_law_plus A, ⟨trivial, ⟨trivial, trivial⟩⟩⟩⟩, trivial⟩⟩, ⟨⟨⟨⟨s_table_plus A, ⟨trivial, ⟨trivial, ⟨trivial, ⟨trivial, trivial⟩⟩⟩⟩⟩, trivial⟩, ⟨trivial, trivial⟩, trivial⟩, ⟨⟨⟨⟨⟨s_columns A, ⟨trivial, ⟨trivial, ⟨⟨s_columns A, ⟨trivial, ⟨trivial, ⟨trivial, trivial⟩⟩⟩⟩, trivial⟩⟩⟩⟩, trivial⟩, ⟨trivial, trivial⟩⟩, ⟨trivial, trivial⟩, trivial⟩, ⟨⟨⟨s_unit A, ⟨trivial, trivial⟩⟩, ⟨trivial, trivial, ⟨trivial, trivial, ⟨⟨trivial, trivial⟩, ⟨trivial, trivial⟩⟩⟩⟩⟩, trivial⟩⟩⟩⟩⟩⟩⟩⟩⟩⟩⟩⟩⟩⟩⟩ A.blt
theorem s_law (A : Top K mg) : FnSnd P w K mg base f_law := snd0 A.d_law sc_law (fun _ _ _ _ _ _ us hl => match us, hl with | [_], _ => rfl) e_law ⟨⟨⟨trivial, ⟨trivial, trivial⟩⟩, ⟨⟨s_law_dice A, ⟨trivial, ⟨trivial, trivial⟩⟩⟩, ⟨⟨trivial, ⟨⟨⟨s_law_right A, ⟨trivial, trivial⟩⟩, ⟨trivial, trivial⟩, trivial⟩, trivial⟩⟩, trivial⟩⟩⟩, ⟨⟨⟨s_unit A, ⟨trivial, trivial⟩⟩, ⟨⟨s_table_times A, ⟨trivial, ⟨trivial, ⟨trivial, ⟨⟨trivial, ⟨trivial, trivial⟩⟩, ⟨trivial, trivial⟩⟩⟩⟩⟩⟩, ⟨⟨s_table_times A, ⟨trivial, ⟨trivial, ⟨trivial, ⟨trivial, ⟨⟨⟨⟨⟨trivial, ⟨trivial, trivial⟩⟩, ⟨⟨trivial, ⟨trivial, trivial⟩⟩, trivial⟩⟩, trivial⟩, trivial⟩, trivial⟩⟩⟩⟩⟩⟩, trivial⟩⟩⟩, ⟨⟨s_unit A, ⟨trivial, trivial⟩⟩, ⟨⟨trivial, ⟨trivial, ⟨⟨⟨⟨trivial, ⟨trivial, trivial⟩⟩, trivial⟩, ⟨⟨⟨trivial, ⟨trivial, trivial⟩⟩, trivial⟩, trivial⟩⟩, ⟨trivial, ⟨trivial, trivial⟩⟩⟩⟩⟩, trivial⟩⟩⟩⟩ A.blt
end
theorem top_mk {K : PySem.W.Frag} {h : Heap} {mg : Str → Option Value} (X : K.In h) (G : h.Ns mainGlobals mg)
    {F_is_integer : Addr} {od_is_integer an_is_integer : Option Addr} {sl_is_integer : Array (Option Value)} {oc_is_integer kV_is_integer dc_is_integer pm_is_integer cd_is_integer ct_is_integer : Value}
    (a_is_integer : PySem.W.nsIn K mainGlobals "is_integer" = some (some (.ref F_is_integer))) (l_is_integer : K.lookup F_is_integer = some ⟨oc_is_integer, od_is_integer, .func (PySem.W.fnOf "is_integer" "is_integer" (defArgs (topS 9)) (defBody (topS 9)) (defScope (topS 9)) .none kV_is_integer dc_is_integer pm_is_integer an_is_integer cd_is_integer ct_is_integer), sl_is_integer⟩) (c_is_integer : PySem.W.codeIn K cd_is_integer "is_integer" = true) (k_is_integer : PySem.W.keepIn K (.ref F_is_integer) = true)
    {F_common_divisor : Addr} {od_common_divisor an_common_divisor : Option Addr} {sl_common_divisor : Array (Option Value)} {oc_common_divisor kV_common_divisor dc_common_divisor pm_common_divisor cd_common_divisor ct_common_divisor : Value}
    (a_common_divisor : PySem.W.nsIn K mainGlobals "common_divisor" = some (some (.ref F_common_divisor))) (l_common_divisor : K.lookup F_common_divisor = some ⟨oc_common_divisor, od_common_divisor, .func (PySem.W.fnOf "common_divisor" "common_divisor" (defArgs (topS 10)) (defBody (topS 10)) (defScope (topS 10)) .none kV_common_divisor dc_common_divisor pm_common_divisor an_common_divisor cd_common_divisor ct_common_divisor), sl_common_divisor⟩) (c_common_divisor : PySem.W.codeIn K cd_common_divisor "common_divisor" = true) (k_common_divisor : PySem.W.keepIn K (.ref F_common_divisor) = true)
    {F_is_number : Addr} {od_is_number an_is_number : Option Addr} {sl_is_number : Array (Option Value)} {oc_is_number kV_is_number dc_is_number pm_is_number cd_is_number ct_is_number : Value}
    (a_is_number : PySem.W.nsIn K mainGlobals "is_number" = some (some (.ref F_is_number))) (l_is_number : K.lookup F_is_number = some ⟨oc_is_number, od_is_number, .func (PySem.W.fnOf "is_number" "is_number" (defArgs (topS 11)) (defBody (topS 11)) (defScope (topS 11)) .none kV_is_number dc_is_number pm_is_number an_is_number cd_is_number ct_is_number), sl_is_number⟩) (c_is_number : PySem.W.codeIn K cd_is_number "is_number" = true) (k_is_number : PySem.W.keepIn K (.ref F_is_number) = true)
    {F_reduced : Addr} {od_reduced an_reduced : Option Addr} {sl_reduced : Array (Option Value)} {oc_reduced kV_reduced dc_reduced pm_reduced cd_reduced ct_reduced : Value}
    (a_reduced : PySem.W.nsIn K mainGlobals "reduced" = some (some (.ref F_reduced))) (l_reduced : K.lookup F_reduced = some ⟨oc_reduced, od_reduced, .func (PySem.W.fnOf "reduced" "reduced" (defArgs (topS 12)) (defBody (topS 12)) (defScope (topS 12)) .none kV_reduced dc_reduced pm_reduced an_reduced cd_reduced ct_reduced), sl_reduced⟩) (c_reduced : PySem.W.codeIn K cd_reduced "reduced" = true) (k_reduced : PySem.W.keepIn K (.ref F_reduced) = true)
    {F_require_count : Addr} {od_require_count an_require_count : Option Addr} {sl_require_count : Array (Option Value)} {oc_require_count kV_require_count dc_require_count pm_require_count cd_require_count ct_require_count : Value}
    {T_require_count : Addr} {cT_require_count : Value} {dT_require_count : Option Addr} {sT_require_count : Array (Option Value)} {mT_require_count : Nat} {tk_require_count_0 tk_require_count_1 : Tok}
    (a_require_count : PySem.W.nsIn K mainGlobals "require_count" = some (some (.ref F_require_count))) (l_require_count : K.lookup F_require_count = some ⟨oc_require_count, od_require_count, .func (PySem.W.fnOf "require_count" "require_count" (defArgs (topS 13)) (defBody (topS 13)) (defScope (topS 13)) (.ref T_require_count) kV_require_count dc_require_count pm_require_count an_require_count cd_require_count ct_require_count), sl_require_count⟩) (c_require_count : PySem.W.codeIn K cd_require_count "require_count" = true) (k_require_count : PySem.W.keepIn K (.ref F_require_count) = true)
    (t_require_count : K.lookup T_require_count = some ⟨cT_require_count, dT_require_count, .seq [.int 0 tk_require_count_0, .int 60 tk_require_count_1].toArray mT_require_count, sT_require_count⟩)
    {F_added : Addr} {od_added an_added : Option Addr} {sl_added : Array (Option Value)} {oc_added kV_added dc_added pm_added cd_added ct_added : Value}
    (a_added : PySem.W.nsIn K mainGlobals "added" = some (some (.ref F_added))) (l_added : K.lookup F_added = some ⟨oc_added, od_added, .func (PySem.W.fnOf "added" "added" (defArgs (topS 14)) (defBody (topS 14)) (defScope (topS 14)) .none kV_added dc_added pm_added an_added cd_added ct_added), sl_added⟩) (c_added : PySem.W.codeIn K cd_added "added" = true) (k_added : PySem.W.keepIn K (.ref F_added) = true)
    {F_multiplied : Addr} {od_multiplied an_multiplied : Option Addr} {sl_multiplied : Array (Option Value)} {oc_multiplied kV_multiplied dc_multiplied pm_multiplied cd_multiplied ct_multiplied : Value}
    (a_multiplied : PySem.W.nsIn K mainGlobals "multiplied" = some (some (.ref F_multiplied))) (l_multiplied : K.lookup F_multiplied = some ⟨oc_multiplied, od_multiplied, .func (PySem.W.fnOf "multiplied" "multiplied" (defArgs (topS 15)) (defBody (topS 15)) (defScope (topS 15)) .none kV_multiplied dc_multiplied pm_multiplied an_multiplied cd_multiplied ct_multiplied), sl_multiplied⟩) (c_multiplied : PySem.W.codeIn K cd_multiplied "multiplied" = true) (k_multiplied : PySem.W.keepIn K (.ref F_multiplied) = true)
    {F_is_plain_row : Addr} {od_is_plain_row an_is_plain_row : Option Addr} {sl_is_plain_row : Array (Option Value)} {oc_is_plain_row kV_is_plain_row dc_is_plain_row pm_is_plain_row cd_is_plain_row ct_is_plain_row : Value}
    (a_is_plain_row : PySem.W.nsIn K mainGlobals "is_plain_row" = some (some (.ref F_is_plain_row))) (l_is_plain_row : K.lookup F_is_plain_row = some ⟨oc_is_plain_row, od_is_plain_row, .func (PySem.W.fnOf "is_plain_row" "is_plain_row" (defArgs (topS 17)) (defBody (topS 17)) (defScope (topS 17)) .none kV_is_plain_row dc_is_plain_row pm_is_plain_row an_is_plain_row cd_is_plain_row ct_is_plain_row), sl_is_plain_row⟩) (c_is_plain_row : PySem.W.codeIn K cd_is_plain_row "is_plain_row" = true) (k_is_plain_row : PySem.W.keepIn K (.ref F_is_plain_row) = true)
    {F_is_plain_table : Addr} {od_is_plain_table an_is_plain_table : Option Addr} {sl_is_plain_table : Array (Option Value)} {oc_is_plain_table kV_is_plain_table dc_is_plain_table pm_is_plain_table cd_is_plain_table ct_is_plain_table : Value}
    (a_is_plain_table : PySem.W.nsIn K mainGlobals "is_plain_table" = some (some (.ref F_is_plain_table))) (l_is_plain_table : K.lookup F_is_plain_table = some ⟨oc_is_plain_table, od_is_plain_table, .func (PySem.W.fnOf "is_plain_table" "is_plain_table" (defArgs (topS 18)) (defBody (topS 18)) (defScope (topS 18)) .none kV_is_plain_table dc_is_plain_table pm_is_plain_table an_is_plain_table cd_is_plain_table ct_is_plain_table), sl_is_plain_table⟩) (c_is_plain_table : PySem.W.codeIn K cd_is_plain_table "is_plain_table" = true) (k_is_plain_table : PySem.W.keepIn K (.ref F_is_plain_table) = true)
    {F_rest_row : Addr} {od_rest_row an_rest_row : Option Addr} {sl_rest_row : Array (Option Value)} {oc_rest_row kV_rest_row dc_rest_row pm_rest_row cd_rest_row ct_rest_row : Value}
    (a_rest_row : PySem.W.nsIn K mainGlobals "rest_row" = some (some (.ref F_rest_row))) (l_rest_row : K.lookup F_rest_row = some ⟨oc_rest_row, od_rest_row, .func (PySem.W.fnOf "rest_row" "rest_row" (defArgs (topS 19)) (defBody (topS 19)) (defScope (topS 19)) .none kV_rest_row dc_rest_row pm_rest_row an_rest_row cd_rest_row ct_rest_row), sl_rest_row⟩) (c_rest_row : PySem.W.codeIn K cd_rest_row "rest_row" = true) (k_rest_row : PySem.W.keepIn K (.ref F_rest_row) = true)
    {F_unit_row : Addr} {od_unit_row an_unit_row : Option Addr} {sl_unit_row : Array (Option Value)} {oc_unit_row kV_unit_row dc_unit_row pm_unit_row cd_unit_row ct_unit_row : Value}
    (a_unit_row : PySem.W.nsIn K mainGlobals "unit_row" = some (some (.ref F_unit_row))) (l_unit_row : K.lookup F_unit_row = some ⟨oc_unit_row, od_unit_row, .func (PySem.W.fnOf "unit_row" "unit_row" (defArgs (topS 20)) (defBody (topS 20)) (defScope (topS 20)) .none kV_unit_row dc_unit_row pm_unit_row an_unit_row cd_unit_row ct_unit_row), sl_unit_row⟩) (c_unit_row : PySem.W.codeIn K cd_unit_row "unit_row" = true) (k_unit_row : PySem.W.keepIn K (.ref F_unit_row) = true)
    {F_unit_table : Addr} {od_unit_table an_unit_table : Option Addr} {sl_unit_table : Array (Option Value)} {oc_unit_table kV_unit_table dc_unit_table pm_unit_table cd_unit_table ct_unit_table : Value}
    (a_unit_table : PySem.W.nsIn K mainGlobals "unit_table" = some (some (.ref F_unit_table))) (l_unit_table : K.lookup F_unit_table = some ⟨oc_unit_table, od_unit_table, .func (PySem.W.fnOf "unit_table" "unit_table" (defArgs (topS 21)) (defBody (topS 21)) (defScope (topS 21)) .none kV_unit_table dc_unit_table pm_unit_table an_unit_table cd_unit_table ct_unit_table), sl_unit_table⟩) (c_unit_table : PySem.W.codeIn K cd_unit_table "unit_table" = true) (k_unit_table : PySem.W.keepIn K (.ref F_unit_table) = true)
    {F_sum_of_rows : Addr} {od_sum_of_rows an_sum_of_rows : Option Addr} {sl_sum_of_rows : Array (Option Value)} {oc_sum_of_rows kV_sum_of_rows dc_sum_of_rows pm_sum_of_rows cd_sum_of_rows ct_sum_of_rows : Value}
    (a_sum_of_rows : PySem.W.nsIn K mainGlobals "sum_of_rows" = some (some (.ref F_sum_of_rows))) (l_sum_of_rows : K.lookup F_sum_of_rows = some ⟨oc_sum_of_rows, od_sum_of_rows, .func (PySem.W.fnOf "sum_of_rows" "sum_of_rows" (defArgs (topS 22)) (defBody (topS 22)) (defScope (topS 22)) .none kV_sum_of_rows dc_sum_of_rows pm_sum_of_rows an_sum_of_rows cd_sum_of_rows ct_sum_of_rows), sl_sum_of_rows⟩) (c_sum_of_rows : PySem.W.codeIn K cd_sum_of_rows "sum_of_rows" = true) (k_sum_of_rows : PySem.W.keepIn K (.ref F_sum_of_rows) = true)
    {F_times_row : Addr} {od_times_row an_times_row : Option Addr} {sl_times_row : Array (Option Value)} {oc_times_row kV_times_row dc_times_row pm_times_row cd_times_row ct_times_row : Value}
    (a_times_row : PySem.W.nsIn K mainGlobals "times_row" = some (some (.ref F_times_row))) (l_times_row : K.lookup F_times_row = some ⟨oc_times_row, od_times_row, .func (PySem.W.fnOf "times_row" "times_row" (defArgs (topS 23)) (defBody (topS 23)) (defScope (topS 23)) .none kV_times_row dc_times_row pm_times_row an_times_row cd_times_row ct_times_row), sl_times_row⟩) (c_times_row : PySem.W.codeIn K cd_times_row "times_row" = true) (k_times_row : PySem.W.keepIn K (.ref F_times_row) = true)
    {F_product_of : Addr} {od_product_of an_product_of : Option Addr} {sl_product_of : Array (Option Value)} {oc_product_of kV_product_of dc_product_of pm_product_of cd_product_of ct_product_of : Value}
    (a_product_of : PySem.W.nsIn K mainGlobals "product_of" = some (some (.ref F_product_of))) (l_product_of : K.lookup F_product_of = some ⟨oc_product_of, od_product_of, .func (PySem.W.fnOf "product_of" "product_of" (defArgs (topS 24)) (defBody (topS 24)) (defScope (topS 24)) .none kV_product_of dc_product_of pm_product_of an_product_of cd_product_of ct_product_of), sl_product_of⟩) (c_product_of : PySem.W.codeIn K cd_product_of "product_of" = true) (k_product_of : PySem.W.keepIn K (.ref F_product_of) = true)
    {F_led_row : Addr} {od_led_row an_led_row : Option Addr} {sl_led_row : Array (Option Value)} {oc_led_row kV_led_row dc_led_row pm_led_row cd_led_row ct_led_row : Value}
    (a_led_row : PySem.W.nsIn K mainGlobals "led_row" = some (some (.ref F_led_row))) (l_led_row : K.lookup F_led_row = some ⟨oc_led_row, od_led_row, .func (PySem.W.fnOf "led_row" "led_row" (defArgs (topS 25)) (defBody (topS 25)) (defScope (topS 25)) .none kV_led_row dc_led_row pm_led_row an_led_row cd_led_row ct_led_row), sl_led_row⟩) (c_led_row : PySem.W.codeIn K cd_led_row "led_row" = true) (k_led_row : PySem.W.keepIn K (.ref F_led_row) = true)
    {F_led_told : Addr} {od_led_told an_led_told : Option Addr} {sl_led_told : Array (Option Value)} {oc_led_told kV_led_told dc_led_told pm_led_told cd_led_told ct_led_told : Value}
    (a_led_told : PySem.W.nsIn K mainGlobals "led_told" = some (some (.ref F_led_told))) (l_led_told : K.lookup F_led_told = some ⟨oc_led_told, od_led_told, .func (PySem.W.fnOf "led_told" "led_told" (defArgs (topS 26)) (defBody (topS 26)) (defScope (topS 26)) .none kV_led_told dc_led_told pm_led_told an_led_told cd_led_told ct_led_told), sl_led_told⟩) (c_led_told : PySem.W.codeIn K cd_led_told "led_told" = true) (k_led_told : PySem.W.keepIn K (.ref F_led_told) = true)
    {F_columns_of : Addr} {od_columns_of an_columns_of : Option Addr} {sl_columns_of : Array (Option Value)} {oc_columns_of kV_columns_of dc_columns_of pm_columns_of cd_columns_of ct_columns_of : Value}
    (a_columns_of : PySem.W.nsIn K mainGlobals "columns_of" = some (some (.ref F_columns_of))) (l_columns_of : K.lookup F_columns_of = some ⟨oc_columns_of, od_columns_of, .func (PySem.W.fnOf "columns_of" "columns_of" (defArgs (topS 27)) (defBody (topS 27)) (defScope (topS 27)) .none kV_columns_of dc_columns_of pm_columns_of an_columns_of cd_columns_of ct_columns_of), sl_columns_of⟩) (c_columns_of : PySem.W.codeIn K cd_columns_of "columns_of" = true) (k_columns_of : PySem.W.keepIn K (.ref F_columns_of) = true)
    {F_table_behind : Addr} {od_table_behind an_table_behind : Option Addr} {sl_table_behind : Array (Option Value)} {oc_table_behind kV_table_behind dc_table_behind pm_table_behind cd_table_behind ct_table_behind : Value}
    (a_table_behind : PySem.W.nsIn K mainGlobals "table_behind" = some (some (.ref F_table_behind))) (l_table_behind : K.lookup F_table_behind = some ⟨oc_table_behind, od_table_behind, .func (PySem.W.fnOf "table_behind" "table_behind" (defArgs (topS 28)) (defBody (topS 28)) (defScope (topS 28)) .none kV_table_behind dc_table_behind pm_table_behind an_table_behind cd_table_behind ct_table_behind), sl_table_behind⟩) (c_table_behind : PySem.W.codeIn K cd_table_behind "table_behind" = true) (k_table_behind : PySem.W.keepIn K (.ref F_table_behind) = true)
    {F_require_width : Addr} {od_require_width an_require_width : Option Addr} {sl_require_width : Array (Option Value)} {oc_require_width kV_require_width dc_require_width pm_require_width cd_require_width ct_require_width : Value}
    (a_require_width : PySem.W.nsIn K mainGlobals "require_width" = some (some (.ref F_require_width))) (l_require_width : K.lookup F_require_width = some ⟨oc_require_width, od_require_width, .func (PySem.W.fnOf "require_width" "require_width" (defArgs (topS 31)) (defBody (topS 31)) (defScope (topS 31)) .none kV_require_width dc_require_width pm_require_width an_require_width cd_require_width ct_require_width), sl_require_width⟩) (c_require_width : PySem.W.codeIn K cd_require_width "require_width" = true) (k_require_width : PySem.W.keepIn K (.ref F_require_width) = true)
    {F_require_row : Addr} {od_require_row an_require_row : Option Addr} {sl_require_row : Array (Option Value)} {oc_require_row kV_require_row dc_require_row pm_require_row cd_require_row ct_require_row : Value}
    (a_require_row : PySem.W.nsIn K mainGlobals "require_row" = some (some (.ref F_require_row))) (l_require_row : K.lookup F_require_row = some ⟨oc_require_row, od_require_row, .func (PySem.W.fnOf "require_row" "require_row" (defArgs (topS 32)) (defBody (topS 32)) (defScope (topS 32)) .none kV_require_row dc_require_row pm_require_row an_require_row cd_require_row ct_require_row), sl_require_row⟩) (c_require_row : PySem.W.codeIn K cd_require_row "require_row" = true) (k_require_row : PySem.W.keepIn K (.ref F_require_row) = true)
    {F_require_table : Addr} {od_require_table an_require_table : Option Addr} {sl_require_table : Array (Option Value)} {oc_require_table kV_require_table dc_require_table pm_require_table cd_require_table ct_require_table : Value}
    (a_require_table : PySem.W.nsIn K mainGlobals "require_table" = some (some (.ref F_require_table))) (l_require_table : K.lookup F_require_table = some ⟨oc_require_table, od_require_table, .func (PySem.W.fnOf "require_table" "require_table" (defArgs (topS 33)) (defBody (topS 33)) (defScope (topS 33)) .none kV_require_table dc_require_table pm_require_table an_require_table cd_require_table ct_require_table), sl_require_table⟩) (c_require_table : PySem.W.codeIn K cd_require_table "require_table" = true) (k_require_table : PySem.W.keepIn K (.ref F_require_table) = true)
    {F_require_sized : Addr} {od_require_sized an_require_sized : Option Addr} {sl_require_sized : Array (Option Value)} {oc_require_sized kV_require_sized dc_require_sized pm_require_sized cd_require_sized ct_require_sized : Value}
    (a_require_sized : PySem.W.nsIn K mainGlobals "require_sized" = some (some (.ref F_require_sized))) (l_require_sized : K.lookup F_require_sized = some ⟨oc_require_sized, od_require_sized, .func (PySem.W.fnOf "require_sized" "require_sized" (defArgs (topS 34)) (defBody (topS 34)) (defScope (topS 34)) .none kV_require_sized dc_require_sized pm_require_sized an_require_sized cd_require_sized ct_require_sized), sl_require_sized⟩) (c_require_sized : PySem.W.codeIn K cd_require_sized "require_sized" = true) (k_require_sized : PySem.W.keepIn K (.ref F_require_sized) = true)
    {F_led : Addr} {od_led an_led : Option Addr} {sl_led : Array (Option Value)} {oc_led kV_led dc_led pm_led cd_led ct_led : Value}
    (a_led : PySem.W.nsIn K mainGlobals "led" = some (some (.ref F_led))) (l_led : K.lookup F_led = some ⟨oc_led, od_led, .func (PySem.W.fnOf "led" "led" (defArgs (topS 35)) (defBody (topS 35)) (defScope (topS 35)) .none kV_led dc_led pm_led an_led cd_led ct_led), sl_led⟩) (c_led : PySem.W.codeIn K cd_led "led" = true) (k_led : PySem.W.keepIn K (.ref F_led) = true)
    {F_columns : Addr} {od_columns an_columns : Option Addr} {sl_columns : Array (Option Value)} {oc_columns kV_columns dc_columns pm_columns cd_columns ct_columns : Value}
    (a_columns : PySem.W.nsIn K mainGlobals "columns" = some (some (.ref F_columns))) (l_columns : K.lookup F_columns = some ⟨oc_columns, od_columns, .func (PySem.W.fnOf "columns" "columns" (defArgs (topS 36)) (defBody (topS 36)) (defScope (topS 36)) .none kV_columns dc_columns pm_columns an_columns cd_columns ct_columns), sl_columns⟩) (c_columns : PySem.W.codeIn K cd_columns "columns" = true) (k_columns : PySem.W.keepIn K (.ref F_columns) = true)
    {F_unit : Addr} {od_unit an_unit : Option Addr} {sl_unit : Array (Option Value)} {oc_unit kV_unit dc_unit pm_unit cd_unit ct_unit : Value}
    (a_unit : PySem.W.nsIn K mainGlobals "unit" = some (some (.ref F_unit))) (l_unit : K.lookup F_unit = some ⟨oc_unit, od_unit, .func (PySem.W.fnOf "unit" "unit" (defArgs (topS 37)) (defBody (topS 37)) (defScope (topS 37)) .none kV_unit dc_unit pm_unit an_unit cd_unit ct_unit), sl_unit⟩) (c_unit : PySem.W.codeIn K cd_unit "unit" = true) (k_unit : PySem.W.keepIn K (.ref F_unit) = true)
    {F_table_plus : Addr} {od_table_plus an_table_plus : Option Addr} {sl_table_plus : Array (Option Value)} {oc_table_plus kV_table_plus dc_table_plus pm_table_plus cd_table_plus ct_table_plus : Value}
    (a_table_plus : PySem.W.nsIn K mainGlobals "table_plus" = some (some (.ref F_table_plus))) (l_table_plus : K.lookup F_table_plus = some ⟨oc_table_plus, od_table_plus, .func (PySem.W.fnOf "table_plus" "table_plus" (defArgs (topS 38)) (defBody (topS 38)) (defScope (topS 38)) .none kV_table_plus dc_table_plus pm_table_plus an_table_plus cd_table_plus ct_table_plus), sl_table_plus⟩) (c_table_plus : PySem.W.codeIn K cd_table_plus "table_plus" = true) (k_table_plus : PySem.W.keepIn K (.ref F_table_plus) = true)
    {F_table_times : Addr} {od_table_times an_table_times : Option Addr} {sl_table_times : Array (Option Value)} {oc_table_times kV_table_times dc_table_times pm_table_times cd_table_times ct_table_times : Value}
    (a_table_times : PySem.W.nsIn K mainGlobals "table_times" = some (some (.ref F_table_times))) (l_table_times : K.lookup F_table_times = some ⟨oc_table_times, od_table_times, .func (PySem.W.fnOf "table_times" "table_times" (defArgs (topS 39)) (defBody (topS 39)) (defScope (topS 39)) .none kV_table_times dc_table_times pm_table_times an_table_times cd_table_times ct_table_times), sl_table_times⟩) (c_table_times : PySem.W.codeIn K cd_table_times "table_times" = true) (k_table_times : PySem.W.keepIn K (.ref F_table_times) = true)
    {F_law_dice : Addr} {od_law_dice an_law_dice : Option Addr} {sl_law_dice : Array (Option Value)} {oc_law_dice kV_law_dice dc_law_dice pm_law_dice cd_law_dice ct_law_dice : Value}
    (a_law_dice : PySem.W.nsIn K mainGlobals "_law_dice" = some (some (.ref F_law_dice))) (l_law_dice : K.lookup F_law_dice = some ⟨oc_law_dice, od_law_dice, .func (PySem.W.fnOf "_law_dice" "_law_dice" (defArgs (topS 41)) (defBody (topS 41)) (defScope (topS 41)) .none kV_law_dice dc_law_dice pm_law_dice an_law_dice cd_law_dice ct_law_dice), sl_law_dice⟩) (c_law_dice : PySem.W.codeIn K cd_law_dice "_law_dice" = true) (k_law_dice : PySem.W.keepIn K (.ref F_law_dice) = true)
    {F_law_roll : Addr} {od_law_roll an_law_roll : Option Addr} {sl_law_roll : Array (Option Value)} {oc_law_roll kV_law_roll dc_law_roll pm_law_roll cd_law_roll ct_law_roll : Value}
    (a_law_roll : PySem.W.nsIn K mainGlobals "_law_roll" = some (some (.ref F_law_roll))) (l_law_roll : K.lookup F_law_roll = some ⟨oc_law_roll, od_law_roll, .func (PySem.W.fnOf "_law_roll" "_law_roll" (defArgs (topS 42)) (defBody (topS 42)) (defScope (topS 42)) .none kV_law_roll dc_law_roll pm_law_roll an_law_roll cd_law_roll ct_law_roll), sl_law_roll⟩) (c_law_roll : PySem.W.codeIn K cd_law_roll "_law_roll" = true) (k_law_roll : PySem.W.keepIn K (.ref F_law_roll) = true)
    {F_law_pick : Addr} {od_law_pick an_law_pick : Option Addr} {sl_law_pick : Array (Option Value)} {oc_law_pick kV_law_pick dc_law_pick pm_law_pick cd_law_pick ct_law_pick : Value}
    (a_law_pick : PySem.W.nsIn K mainGlobals "_law_pick" = some (some (.ref F_law_pick))) (l_law_pick : K.lookup F_law_pick = some ⟨oc_law_pick, od_law_pick, .func (PySem.W.fnOf "_law_pick" "_law_pick" (defArgs (topS 43)) (defBody (topS 43)) (defScope (topS 43)) .none kV_law_pick dc_law_pick pm_law_pick an_law_pick cd_law_pick ct_law_pick), sl_law_pick⟩) (c_law_pick : PySem.W.codeIn K cd_law_pick "_law_pick" = true) (k_law_pick : PySem.W.keepIn K (.ref F_law_pick) = true)
    {F_law_fr : Addr} {od_law_fr an_law_fr : Option Addr} {sl_law_fr : Array (Option Value)} {oc_law_fr kV_law_fr dc_law_fr pm_law_fr cd_law_fr ct_law_fr : Value}
    (a_law_fr : PySem.W.nsIn K mainGlobals "_law_fr" = some (some (.ref F_law_fr))) (l_law_fr : K.lookup F_law_fr = some ⟨oc_law_fr, od_law_fr, .func (PySem.W.fnOf "_law_fr" "_law_fr" (defArgs (topS 44)) (defBody (topS 44)) (defScope (topS 44)) .none kV_law_fr dc_law_fr pm_law_fr an_law_fr cd_law_fr ct_law_fr), sl_law_fr⟩) (c_law_fr : PySem.W.codeIn K cd_law_fr "_law_fr" = true) (k_law_fr : PySem.W.keepIn K (.ref F_law_fr) = true)
    {F_law_plus : Addr} {od_law_plus an_law_plus : Option Addr} {sl_law_plus : Array (Option Value)} {oc_law_plus kV_law_plus dc_law_plus pm_law_plus cd_law_plus ct_law_plus : Value}
    (a_law_plus : PySem.W.nsIn K mainGlobals "_law_plus" = some (some (.ref F_law_plus))) (l_law_plus : K.lookup F_law_plus = some ⟨oc_law_plus, od_law_plus, .func (PySem.W.fnOf "_law_plus" "_law_plus" (defArgs (topS 45)) (defBody (topS 45)) (defScope (topS 45)) .none kV_law_plus dc_law_plus pm_law_plus an_law_plus cd_law_plus ct_law_plus), sl_law_plus⟩) (c_law_plus : PySem.W.codeIn K cd_law_plus "_law_plus" = true) (k_law_plus : PySem.W.keepIn K (.ref F_law_plus) = true)
    {F_law_times : Addr} {od_law_times an_law_times : Option Addr} {sl_law_times : Array (Option Value)} {oc_law_times kV_law_times dc_law_times pm_law_times cd_law_times ct_law_times : Value}
    (a_law_times : PySem.W.nsIn K mainGlobals "_law_times" = some (some (.ref F_law_times))) (l_law_times : K.lookup F_law_times = some ⟨oc_law_times, od_law_times, .func (PySem.W.fnOf "_law_times" "_law_times" (defArgs (topS 46)) (defBody (topS 46)) (defScope (topS 46)) .none kV_law_times dc_law_times pm_law_times an_law_times cd_law_times ct_law_times), sl_law_times⟩) (c_law_times : PySem.W.codeIn K cd_law_times "_law_times" = true) (k_law_times : PySem.W.keepIn K (.ref F_law_times) = true)
    {F_law_dot : Addr} {od_law_dot an_law_dot : Option Addr} {sl_law_dot : Array (Option Value)} {oc_law_dot kV_law_dot dc_law_dot pm_law_dot cd_law_dot ct_law_dot : Value}
    (a_law_dot : PySem.W.nsIn K mainGlobals "_law_dot" = some (some (.ref F_law_dot))) (l_law_dot : K.lookup F_law_dot = some ⟨oc_law_dot, od_law_dot, .func (PySem.W.fnOf "_law_dot" "_law_dot" (defArgs (topS 47)) (defBody (topS 47)) (defScope (topS 47)) .none kV_law_dot dc_law_dot pm_law_dot an_law_dot cd_law_dot ct_law_dot), sl_law_dot⟩) (c_law_dot : PySem.W.codeIn K cd_law_dot "_law_dot" = true) (k_law_dot : PySem.W.keepIn K (.ref F_law_dot) = true)
    {F_law_columns : Addr} {od_law_columns an_law_columns : Option Addr} {sl_law_columns : Array (Option Value)} {oc_law_columns kV_law_columns dc_law_columns pm_law_columns cd_law_columns ct_law_columns : Value}
    (a_law_columns : PySem.W.nsIn K mainGlobals "_law_columns" = some (some (.ref F_law_columns))) (l_law_columns : K.lookup F_law_columns = some ⟨oc_law_columns, od_law_columns, .func (PySem.W.fnOf "_law_columns" "_law_columns" (defArgs (topS 48)) (defBody (topS 48)) (defScope (topS 48)) .none kV_law_columns dc_law_columns pm_law_columns an_law_columns cd_law_columns ct_law_columns), sl_law_columns⟩) (c_law_columns : PySem.W.codeIn K cd_law_columns "_law_columns" = true) (k_law_columns : PySem.W.keepIn K (.ref F_law_columns) = true)
    {F_law_table : Addr} {od_law_table an_law_table : Option Addr} {sl_law_table : Array (Option Value)} {oc_law_table kV_law_table dc_law_table pm_law_table cd_law_table ct_law_table : Value}
    (a_law_table : PySem.W.nsIn K mainGlobals "_law_table" = some (some (.ref F_law_table))) (l_law_table : K.lookup F_law_table = some ⟨oc_law_table, od_law_table, .func (PySem.W.fnOf "_law_table" "_law_table" (defArgs (topS 49)) (defBody (topS 49)) (defScope (topS 49)) .none kV_law_table dc_law_table pm_law_table an_law_table cd_law_table ct_law_table), sl_law_table⟩) (c_law_table : PySem.W.codeIn K cd_law_table "_law_table" = true) (k_law_table : PySem.W.keepIn K (.ref F_law_table) = true)
    {F_law_behind_one : Addr} {od_law_behind_one an_law_behind_one : Option Addr} {sl_law_behind_one : Array (Option Value)} {oc_law_behind_one kV_law_behind_one dc_law_behind_one pm_law_behind_one cd_law_behind_one ct_law_behind_one : Value}
    (a_law_behind_one : PySem.W.nsIn K mainGlobals "_law_behind_one" = some (some (.ref F_law_behind_one))) (l_law_behind_one : K.lookup F_law_behind_one = some ⟨oc_law_behind_one, od_law_behind_one, .func (PySem.W.fnOf "_law_behind_one" "_law_behind_one" (defArgs (topS 50)) (defBody (topS 50)) (defScope (topS 50)) .none kV_law_behind_one dc_law_behind_one pm_law_behind_one an_law_behind_one cd_law_behind_one ct_law_behind_one), sl_law_behind_one⟩) (c_law_behind_one : PySem.W.codeIn K cd_law_behind_one "_law_behind_one" = true) (k_law_behind_one : PySem.W.keepIn K (.ref F_law_behind_one) = true)
    {F_law_right : Addr} {od_law_right an_law_right : Option Addr} {sl_law_right : Array (Option Value)} {oc_law_right kV_law_right dc_law_right pm_law_right cd_law_right ct_law_right : Value}
    (a_law_right : PySem.W.nsIn K mainGlobals "_law_right" = some (some (.ref F_law_right))) (l_law_right : K.lookup F_law_right = some ⟨oc_law_right, od_law_right, .func (PySem.W.fnOf "_law_right" "_law_right" (defArgs (topS 51)) (defBody (topS 51)) (defScope (topS 51)) .none kV_law_right dc_law_right pm_law_right an_law_right cd_law_right ct_law_right), sl_law_right⟩) (c_law_right : PySem.W.codeIn K cd_law_right "_law_right" = true) (k_law_right : PySem.W.keepIn K (.ref F_law_right) = true)
    {F_law : Addr} {od_law an_law : Option Addr} {sl_law : Array (Option Value)} {oc_law kV_law dc_law pm_law cd_law ct_law : Value}
    (a_law : PySem.W.nsIn K mainGlobals "law" = some (some (.ref F_law))) (l_law : K.lookup F_law = some ⟨oc_law, od_law, .func (PySem.W.fnOf "law" "law" (defArgs (topS 52)) (defBody (topS 52)) (defScope (topS 52)) .none kV_law dc_law pm_law an_law cd_law ct_law), sl_law⟩) (c_law : PySem.W.codeIn K cd_law "law" = true) (k_law : PySem.W.keepIn K (.ref F_law) = true)
    {A_NOUGHT : Addr} {dd_NOUGHT : Option Addr} {sl_NOUGHT : Array (Option Value)} {m_NOUGHT : Nat} {tk_NOUGHT_0 tk_NOUGHT_1 : Tok} (a_NOUGHT : PySem.W.nsIn K mainGlobals "NOUGHT" = some (some (.ref A_NOUGHT))) (l_NOUGHT : K.lookup A_NOUGHT = some ⟨.type "tuple", dd_NOUGHT, .seq [.int 0 tk_NOUGHT_0, .int 1 tk_NOUGHT_1].toArray m_NOUGHT, sl_NOUGHT⟩)
    {A_ONE : Addr} {dd_ONE : Option Addr} {sl_ONE : Array (Option Value)} {m_ONE : Nat} {tk_ONE_0 tk_ONE_1 : Tok} (a_ONE : PySem.W.nsIn K mainGlobals "ONE" = some (some (.ref A_ONE))) (l_ONE : K.lookup A_ONE = some ⟨.type "tuple", dd_ONE, .seq [.int 1 tk_ONE_0, .int 1 tk_ONE_1].toArray m_ONE, sl_ONE⟩)
    (q_MAX_WIDTH : Glo K mg "MAX_WIDTH" c_MAX_WIDTH)
    (z_len : PySem.W.nsIn K mainGlobals "len" = some none)
    (z_abs : PySem.W.nsIn K mainGlobals "abs" = some none)
    (z_int : PySem.W.nsIn K mainGlobals "int" = some none)
    (z_repr : PySem.W.nsIn K mainGlobals "repr" = some none)
    (z_tuple : PySem.W.nsIn K mainGlobals "tuple" = some none)
    (z_all : PySem.W.nsIn K mainGlobals "all" = some none)
    (z_any : PySem.W.nsIn K mainGlobals "any" = some none)
    (z_str : PySem.W.nsIn K mainGlobals "str" = some none)
    (z_isinstance : PySem.W.nsIn K mainGlobals "isinstance" = some none)
    (z_bool : PySem.W.nsIn K mainGlobals "bool" = some none)
    (z_list : PySem.W.nsIn K mainGlobals "list" = some none)
    (z_dict : PySem.W.nsIn K mainGlobals "dict" = some none)
    (z_max : PySem.W.nsIn K mainGlobals "max" = some none)
    (z_min : PySem.W.nsIn K mainGlobals "min" = some none)
    (z_range : PySem.W.nsIn K mainGlobals "range" = some none)
    (z_zip : PySem.W.nsIn K mainGlobals "zip" = some none)
    (z_enumerate : PySem.W.nsIn K mainGlobals "enumerate" = some none) : Top K mg where
  blt := by
    intro x hx
    simp only [bltWords, List.mem_cons, List.not_mem_nil, or_false] at hx
    rcases hx with rfl | rfl | rfl | rfl | rfl | rfl | rfl | rfl | rfl | rfl | rfl | rfl | rfl | rfl | rfl | rfl | rfl
    · exact PySem.W.mg_none_of X G z_len
    · exact PySem.W.mg_none_of X G z_abs
    · exact PySem.W.mg_none_of X G z_int
    · exact PySem.W.mg_none_of X G z_repr
    · exact PySem.W.mg_none_of X G z_tuple
    · exact PySem.W.mg_none_of X G z_all
    · exact PySem.W.mg_none_of X G z_any
    · exact PySem.W.mg_none_of X G z_str
    · exact PySem.W.mg_none_of X G z_isinstance
    · exact PySem.W.mg_none_of X G z_bool
    · exact PySem.W.mg_none_of X G z_list
    · exact PySem.W.mg_none_of X G z_dict
    · exact PySem.W.mg_none_of X G z_max
    · exact PySem.W.mg_none_of X G z_min
    · exact PySem.W.mg_none_of X G z_range
    · exact PySem.W.mg_none_of X G z_zip
    · exact PySem.W.mg_none_of X G z_enumerate
  d_is_integer := defAt X G a_is_integer l_is_integer c_is_integer k_is_integer
  d_common_divisor := defAt X G a_common_divisor l_common_divisor c_common_divisor k_common_divisor
  d_is_number := defAt X G a_is_number l_is_number c_is_number k_is_number
  d_reduced := defAt X G a_reduced l_reduced c_reduced k_reduced
  d_require_count := defAtD X G a_require_count l_require_count c_require_count k_require_count (dvs := [.int 0, .int 60]) t_require_count rfl (.cons ⟨_, rfl⟩ (.cons ⟨_, rfl⟩ (.nil))) (.cons (.int _) (.cons (.int _) (.nil))) (by simp)
  d_added := defAt X G a_added l_added c_added k_added
  d_multiplied := defAt X G a_multiplied l_multiplied c_multiplied k_multiplied
  d_is_plain_row := defAt X G a_is_plain_row l_is_plain_row c_is_plain_row k_is_plain_row
  d_is_plain_table := defAt X G a_is_plain_table l_is_plain_table c_is_plain_table k_is_plain_table
  d_rest_row := defAt X G a_rest_row l_rest_row c_rest_row k_rest_row
  d_unit_row := defAt X G a_unit_row l_unit_row c_unit_row k_unit_row
  d_unit_table := defAt X G a_unit_table l_unit_table c_unit_table k_unit_table
  d_sum_of_rows := defAt X G a_sum_of_rows l_sum_of_rows c_sum_of_rows k_sum_of_rows
  d_times_row := defAt X G a_times_row l_times_row c_times_row k_times_row
  d_product_of := defAt X G a_product_of l_product_of c_product_of k_product_of
  d_led_row := defAt X G a_led_row l_led_row c_led_row k_led_row
  d_led_told := defAt X G a_led_told l_led_told c_led_told k_led_told
  d_columns_of := defAt X G a_columns_of l_columns_of c_columns_of k_columns_of
  d_table_behind := defAt X G a_table_behind l_table_behind c_table_behind k_table_behind
  d_require_width := defAt X G a_require_width l_require_width c_require_width k_require_width
  d_require_row := defAt X G a_require_row l_require_row c_require_row k_require_row
  d_require_table := defAt X G a_require_table l_require_table c_require_table k_require_table
  d_require_sized := defAt X G a_require_sized l_require_sized c_require_sized k_require_sized
  d_led := defAt X G a_led l_led c_led k_led
  d_columns := defAt X G a_columns l_columns c_columns k_columns
  d_unit := defAt X G a_unit l_unit c_unit k_unit
  d_table_plus := defAt X G a_table_plus l_table_plus c_table_plus k_table_plus
  d_table_times := defAt X G a_table_times l_table_times c_table_times k_table_times
  d_law_dice := defAt X G a_law_dice l_law_dice c_law_dice k_law_dice
  d_law_roll := defAt X G a_law_roll l_law_roll c_law_roll k_law_roll
  d_law_pick := defAt X G a_law_pick l_law_pick c_law_pick k_law_pick
  d_law_fr := defAt X G a_law_fr l_law_fr c_law_fr k_law_fr
  d_law_plus := defAt X G a_law_plus l_law_plus c_law_plus k_law_plus
  d_law_times := defAt X G a_law_times l_law_times c_law_times k_law_times
  d_law_dot := defAt X G a_law_dot l_law_dot c_law_dot k_law_dot
  d_law_columns := defAt X G a_law_columns l_law_columns c_law_columns k_law_columns
  d_law_table := defAt X G a_law_table l_law_table c_law_table k_law_table
  d_law_behind_one := defAt X G a_law_behind_one l_law_behind_one c_law_behind_one k_law_behind_one
  d_law_right := defAt X G a_law_right l_law_right c_law_right k_law_right
  d_law := defAt X G a_law l_law c_law k_law
  g_NOUGHT := gloTup (l := [(0, tk_NOUGHT_0), (1, tk_NOUGHT_1)]) X G a_NOUGHT l_NOUGHT rfl rfl (by simp [sizeLine_eq])
  g_ONE := gloTup (l := [(1, tk_ONE_0), (1, tk_ONE_1)]) X G a_ONE l_ONE rfl rfl (by simp [sizeLine_eq])
  g_MAX_WIDTH := q_MAX_WIDTH
end K24
namespace K24
open PySem SG
theorem ix_lt {n : Nat} {j : Nat} (h : j < n) : L2.ixN n (j : Int) = some j := by
  unfold L2.ixN
  rw [if_pos (by omega), if_pos (by omega)]
  rfl
theorem at_nat {l : List D} {j : Nat} {x : D} (h : l[j]? = some x) : L2.atI l (j : Int) = some x := by
  unfold L2.atI
  rw [ix_lt (List.getElem?_eq_some_iff.mp h).1]
  exact h
theorem at0 (x : D) (l : List D) : L2.atI (x :: l) 0 = some x := at_nat (j := 0) rfl
theorem at1 (x y : D) (l : List D) : L2.atI (x :: y :: l) 1 = some y := at_nat (j := 1) rfl
theorem at2 (x y z : D) (l : List D) : L2.atI (x :: y :: z :: l) 2 = some z := at_nat (j := 2) rfl
/-! ### Euclid -/
theorem gcd_step (a b : Int) : Int.gcd b (a % b) = Int.gcd a b := by
  have e : a % b + b * (a / b) = a := Int.emod_add_mul_ediv a b
  have h := Int.gcd_add_mul_left_right b (a % b) (a / b)
  rw [e] at h
  rw [← h, Int.gcd_comm]
theorem while_gcd {c : List S → R Bool} {body : List S → R Fl} {mk : Int → Int → List S} (hc : ∀ a b, c (mk a b) = SG.ok (decide (0 < b)) (mk a b)) (hb : ∀ a b, 0 < b → body (mk a b) = SG.ok .nx (mk b (a % b))) :
    ∀ (n : Nat) (a b : Int), 0 ≤ a → 0 ≤ b → b.natAbs < n → whileT c body n (mk a b) = SG.ok .nx (mk (Int.gcd a b) 0)
  | 0, _, _, _, _, h => by omega
  | n + 1, a, b, ha, h0, h => by
    unfold whileT
    rw [hc]
    by_cases hp : 0 < b
    · rw [decide_eq_true hp]
      show turnS (body (mk a b)) _ = _
      rw [hb a b hp]
      show whileT c body n (mk b (a % b)) = _
      have h1 := Int.emod_nonneg a (show b ≠ 0 by omega)
      have h2 := Int.emod_lt_of_pos a hp
      rw [while_gcd hc hb n b (a % b) h0 h1 (by omega), gcd_step]
    · have : b = 0 := by omega
      subst this
      rw [decide_eq_false hp]
      show SG.ok Fl.nx (mk a 0) = _
      rw [Int.gcd_zero_right, Int.natAbs_of_nonneg ha]
theorem iabs (a : Int) : (if a < 0 then -a else a) = (a.natAbs : Int) := by split <;> omega
theorem exL_nx {t : T} {r : TL} {st s1 : List S} (h : exT t st = some (.ok .nx, s1)) : exL (.cons t r) st = exL r s1 := by rw [exL, h]
theorem exL_rt {t : T} {r : TL} {st s1 : List S} {d : D} (h : exT t st = some (.ok (.rt d), s1)) : exL (.cons t r) st = some (.ok (.rt d), s1) := by rw [exL, h]
theorem exL_nil {st : List S} : exL .nil st = some (.ok .nx, st) := by rw [exL]; rfl
theorem exT_if {c : E} {a b : TL} {st s1 : List S} {k : Bool} (h : evT c st = some (.ok k, s1)) : exT (.ife c a b) st = if k then exL a s1 else exL b s1 := by
  rw [exT, h]
  cases k <;> rfl
theorem exT_for {t : Tg} {it : IT} {b : TL} {st s1 : List S} {items : List D} (h : evI it st = some (.ok items, s1)) (hl : items.length ≤ 100000) : exT (.forr t it b) st = loopT t (fun s => exL b s) items s1 := by
  rw [exT, h]
  show (if items.length ≤ 100000 then _ else _) = _
  rw [if_pos hl]
theorem exT_wh {c : E} {m : List S → Nat} {b : TL} {st : List S} : exT (.whl c m b) st = whileT (fun s => evT c s) (fun s => exL b s) (m st) st := by rw [exT]
theorem run0 {N : Nat} {fr : Bool} {tl : TL} {es ds : List D} {d : D} {s1 init : List S} (hi : ds.map S.val ++ List.replicate (N - ds.length) S.un = init) (h : exL tl init = some (.ok (.rt d), s1))
    (h0 : (match (s1[0]? : Option S) with | some (S.own true zs) => zs | _ => []) = []) : runDef N false fr tl es ds = some (.ok d, []) := by
  subst hi
  unfold runDef
  rw [show argS false es ds = ds.map S.val from rfl, List.length_map, h]
  exact congrArg (fun z => some (Except.ok d, z)) h0
theorem runN {N : Nat} {tl : TL} {es ds : List D} {s1 init : List S} (hi : ds.map S.val ++ List.replicate (N - ds.length) S.un = init) (h : exL tl init = some (.ok .nx, s1))
    (h0 : (match (s1[0]? : Option S) with | some (S.own true zs) => zs | _ => []) = []) : runDef N false false tl es ds = some (.ok .non, []) := by
  subst hi
  unfold runDef
  rw [show argS false es ds = ds.map S.val from rfl, List.length_map, h]
  exact congrArg (fun z => some (Except.ok D.non, z)) h0
theorem runL {N : Nat} {fr : Bool} {tl : TL} {es ds zs : List D} {d : D} {s1 init : List S} (hi : S.own true es :: ds.map S.val ++ List.replicate (N - (ds.length + 1)) S.un = init) (h : exL tl init = some (.ok (.rt d), s1))
    (h0 : s1[0]? = some (S.own true zs)) : runDef N true fr tl es ds = some (.ok d, zs) := by
  subst hi
  unfold runDef
  rw [show argS true es ds = S.own true es :: ds.map S.val from rfl, List.length_cons, List.length_map, h]
  simp only [h0]
theorem cd_run (es : List D) (a b : Int) : f_common_divisor.run es [.int a, .int b] = some (.ok (.int (Int.gcd a b)), []) := by
  have key := while_gcd (c := fun s => evT (.cmp .gt (.var 1) (.cst (.int 0))) s) (body := fun s => exL (.cons (.par2 0 1 (.e (.var 1)) (.e (.bin .mod (.var 0) (.var 1)))) .nil) s) (mk := fun a b => [.val (.int a), .val (.int b)])
    (fun a b => by simp [exT, evX, evE, evT, evF, evL, evI, evC, SG.bnd, SG.ok, SG.opt, slotOf, rd, frz, frzs, opD, cmD, b1D, atD, setS, setTg, free, truD, isiD, tyOf, isNon, callD, at0, at1, at2])
    (fun a b hp => by simp [exL, exT, evX, evE, evT, evF, evL, evI, evC, SG.bnd, SG.ok, SG.opt, slotOf, rd, frz, frzs, opD, cmD, b1D, atD, setS, setTg, free, truD, isiD, tyOf, isNon, callD, at0, at1, at2, hp])
    (b.natAbs + 1) (a.natAbs) (b.natAbs) (by omega) (by omega) (by omega)
  have kg : Int.gcd (a.natAbs : Int) (b.natAbs : Int) = Int.gcd a b := by simp [Int.gcd]
  rw [kg] at key
  have run : exL p_common_divisor [.val (.int a), .val (.int b)] = some (.ok (.rt (.int (Int.gcd a b))), [.val (.int (Int.gcd a b)), .val (.int 0)]) := by
    unfold p_common_divisor
    rw [exL_nx (s1 := [.val (.int a.natAbs), .val (.int b.natAbs)]) (by simp [exT, evX, evE, evT, evF, evL, evI, evC, SG.bnd, SG.ok, SG.opt, slotOf, rd, frz, frzs, opD, cmD, b1D, atD, setS, setTg, free, truD, isiD, tyOf, isNon, callD, at0, at1, at2, iabs]), exL_nx (s1 := [.val (.int (Int.gcd a b)), .val (.int 0)]) (by rw [exT_wh]; exact key)]
    exact exL_rt (by simp [exT, evX, evE, evT, evF, evL, evI, evC, SG.bnd, SG.ok, SG.opt, slotOf, rd, frz, frzs, opD, cmD, b1D, atD, setS, setTg, free, truD, isiD, tyOf, isNon, callD, at0, at1, at2])
  exact run0 rfl run rfl
/-! ### fractions -/
def frD (q : Rat) : D := .tup [.int q.num, .int q.den]
/-- in bounds -/
def Bd (n : Nat) (i : Int) : Prop := i.natAbs < 2 ^ n
theorem bd_bits {n : Nat} {i : Int} (h : Bd n i) : bitsOf i ≤ n := by
  unfold Bd at h
  unfold bitsOf Builtin.Int.intBits
  split
  · exact Nat.zero_le _
  · rename_i z
    have : i.natAbs ≠ 0 := by simpa using z
    have := (Nat.log2_lt this).mpr h
    omega
theorem Bd.mul {m n : Nat} {i j : Int} (h : Bd m i) (k : Bd n j) : Bd (m + n) (i * j) := by
  unfold Bd at *
  rw [Int.natAbs_mul, Nat.pow_add]
  exact Nat.mul_lt_mul'' h k
theorem Bd.mono {m n : Nat} {i : Int} (h : Bd m i) (l : m ≤ n) : Bd n i := Nat.lt_of_lt_of_le h (Nat.pow_le_pow_right (by decide) l)
theorem Bd.add {n : Nat} {i j : Int} (h : Bd n i) (k : Bd n j) : Bd (n + 1) (i + j) := by
  unfold Bd at *
  rw [Nat.pow_succ]
  omega
theorem mul_okB {m n : Nat} {i j : Int} (h : Bd m i) (k : Bd n j) (l : m + n < 1000000) : mulOk i j = true := by
  unfold mulOk
  have := bd_bits h
  have := bd_bits k
  exact decide_eq_true (.inr (.inr (by omega)))
def FB (n : Nat) (q : Rat) : Prop := Bd n q.num ∧ Bd n q.den
theorem divInt_bd {n : Nat} {t b : Int} (hb : b ≠ 0) (h : Bd n t) (k : Bd n b) : FB n (Rat.divInt t b) := by
  unfold FB Bd at *
  rw [Rat.num_divInt, Rat.den_divInt, if_neg hb]
  constructor
  · refine Nat.lt_of_le_of_lt ?_ h
    refine Nat.le_trans (Int.natAbs_ediv_le_natAbs _ _) ?_
    rw [Int.natAbs_mul]
    rw [Int.natAbs_sign_of_ne_zero hb, Nat.one_mul]
    exact Nat.le_refl _
  · refine Nat.lt_of_le_of_lt ?_ k
    exact Nat.div_le_self _ _
/-- what both make of a top and a bottom -/
theorem divInt_pos {t b : Int} (hb : 0 < b) : frD (Rat.divInt t b) = .tup [.int (t / (Int.gcd t b : Int)), .int (b / (Int.gcd t b : Int))] := by
  unfold frD
  rw [Rat.num_divInt, Rat.den_divInt, if_neg (by omega), Int.sign_eq_one_of_pos hb, Int.one_mul, Int.gcd_comm b t]
  have e : ((b.natAbs / Int.gcd t b : Nat) : Int) = b / (Int.gcd t b : Int) := by
    rw [Int.natCast_ediv, Int.natAbs_of_nonneg (by omega)]
  rw [e]
theorem divInt_neg {t b : Int} (hb : b < 0) : frD (Rat.divInt t b) = .tup [.int (-t / (Int.gcd t b : Int)), .int (-b / (Int.gcd t b : Int))] := by
  have := divInt_pos (t := -t) (b := -b) (by omega)
  rw [Rat.neg_divInt_neg] at this
  rw [this, Int.neg_gcd, Int.gcd_neg]
/-! ### the defs, one by one -/
theorem gcd_facts {t b : Int} {n : Nat} (hb : b ≠ 0) (k : Bd n b) : 0 < (Int.gcd t b : Int) ∧ bitsOf (Int.gcd t b : Int) ≤ n := by
  have h1 : 0 < Int.gcd t b := Int.gcd_pos_of_ne_zero_right t hb
  refine ⟨by omega, bd_bits ?_⟩
  unfold Bd at *
  have := Int.gcd_le_natAbs_right t hb
  omega
theorem reduced_run (es : List D) {t b : Int} (hb : b ≠ 0) (k : Bd 8000 b) : f_reduced.run es [.int t, .int b] = some (.ok (frD (Rat.divInt t b)), []) := by
  obtain ⟨g1, g2⟩ := gcd_facts (t := t) hb k
  have g3 : bitsOf (Int.gcd t b : Int) ≤ 9000 := by omega
  by_cases hn : b < 0
  · rw [divInt_neg hn]
    refine run0 rfl (s1 := [.val (.int (-t)), .val (.int (-b)), .val (.int (Int.gcd t b))]) ?_ rfl
    unfold p_reduced
    rw [exL_nx (s1 := [.val (.int (-t)), .val (.int (-b)), .un]) (by rw [exT_if (k := true) (s1 := [.val (.int t), .val (.int b), .un]) (by simp [exT, evX, evE, evT, evF, evL, evI, evC, SG.bnd, SG.ok, SG.opt, slotOf, rd, frz, frzs, opD, cmD, b1D, atD, setS, setTg, free, truD, isiD, tyOf, isNon, callD, at0, at1, at2, hn])]; simp [exL, exT, evX, evE, evT, evF, evL, evI, evC, SG.bnd, SG.ok, SG.opt, slotOf, rd, frz, frzs, opD, cmD, b1D, atD, setS, setTg, free, truD, isiD, tyOf, isNon, callD, at0, at1, at2]),
      exL_nx (s1 := [.val (.int (-t)), .val (.int (-b)), .val (.int (Int.gcd t b))]) (by simp [exT, evX, evE, evT, evF, evL, evI, evC, SG.bnd, SG.ok, SG.opt, slotOf, rd, frz, frzs, opD, cmD, b1D, atD, setS, setTg, free, truD, isiD, tyOf, isNon, callD, at0, at1, at2, fl_common_divisor, cd_run])]
    exact exL_rt (by simp [exT, evX, evE, evT, evF, evL, evI, evC, SG.bnd, SG.ok, SG.opt, slotOf, rd, frz, frzs, opD, cmD, b1D, atD, setS, setTg, free, truD, isiD, tyOf, isNon, callD, at0, at1, at2, hb, g1, g3])
  · rw [divInt_pos (by omega)]
    refine run0 rfl (s1 := [.val (.int t), .val (.int b), .val (.int (Int.gcd t b))]) ?_ rfl
    unfold p_reduced
    rw [exL_nx (s1 := [.val (.int t), .val (.int b), .un]) (by rw [exT_if (k := false) (s1 := [.val (.int t), .val (.int b), .un]) (by simp [exT, evX, evE, evT, evF, evL, evI, evC, SG.bnd, SG.ok, SG.opt, slotOf, rd, frz, frzs, opD, cmD, b1D, atD, setS, setTg, free, truD, isiD, tyOf, isNon, callD, at0, at1, at2, hn])]; simp [exL, exT, evX, evE, evT, evF, evL, evI, evC, SG.bnd, SG.ok, SG.opt, slotOf, rd, frz, frzs, opD, cmD, b1D, atD, setS, setTg, free, truD, isiD, tyOf, isNon, callD, at0, at1, at2]),
      exL_nx (s1 := [.val (.int t), .val (.int b), .val (.int (Int.gcd t b))]) (by simp [exT, evX, evE, evT, evF, evL, evI, evC, SG.bnd, SG.ok, SG.opt, slotOf, rd, frz, frzs, opD, cmD, b1D, atD, setS, setTg, free, truD, isiD, tyOf, isNon, callD, at0, at1, at2, fl_common_divisor, cd_run])]
    exact exL_rt (by simp [exT, evX, evE, evT, evF, evL, evI, evC, SG.bnd, SG.ok, SG.opt, slotOf, rd, frz, frzs, opD, cmD, b1D, atD, setS, setTg, free, truD, isiD, tyOf, isNon, callD, at0, at1, at2, hb, g1, g3])
theorem lawfr_run (es : List D) {t b : Int} (hb : b ≠ 0) (ht : Bd 8000 t) (k : Bd 8000 b) : f_law_fr.run es [.int t, .int b] = some (.ok (frD (Rat.divInt t b)), []) := by
  obtain ⟨g1, g2⟩ := gcd_facts (t := t) hb k
  have g3 : bitsOf (Int.gcd t b : Int) ≤ 9000 := by omega
  have key := while_gcd (c := fun s => evT (.cmp .gt (.var 4) (.cst (.int 0))) s) (body := fun s => exL (.cons (.par2 3 4 (.e (.var 4)) (.e (.bin .mod (.var 3) (.var 4)))) .nil) s) (mk := fun x y => [.val (.int t), .val (.int b), .un, .val (.int x), .val (.int y)])
    (fun a b => by simp [exT, evX, evE, evT, evF, evL, evI, evC, SG.bnd, SG.ok, SG.opt, slotOf, rd, frz, frzs, opD, cmD, b1D, atD, setS, setTg, free, truD, isiD, tyOf, isNon, callD, at0, at1, at2])
    (fun a b hp => by simp [exL, exT, evX, evE, evT, evF, evL, evI, evC, SG.bnd, SG.ok, SG.opt, slotOf, rd, frz, frzs, opD, cmD, b1D, atD, setS, setTg, free, truD, isiD, tyOf, isNon, callD, at0, at1, at2, hp])
    (b.natAbs + 1) (t.natAbs) (b.natAbs) (by omega) (by omega) (by omega)
  have kg : Int.gcd (t.natAbs : Int) (b.natAbs : Int) = Int.gcd t b := by simp [Int.gcd]
  rw [kg] at key
  have m1 : mulOk (-1) t = true := mul_okB (m := 1) (n := 8000) (by unfold Bd; decide) ht (by decide)
  have m2 : mulOk (-1) b = true := mul_okB (m := 1) (n := 8000) (by unfold Bd; decide) k (by decide)
  have m3 : mulOk 1 t = true := mul_okB (m := 1) (n := 8000) (by unfold Bd; decide) ht (by decide)
  have m4 : mulOk 1 b = true := mul_okB (m := 1) (n := 8000) (by unfold Bd; decide) k (by decide)
  by_cases hn : b < 0
  · rw [divInt_neg hn]
    refine run0 rfl (s1 := [.val (.int t), .val (.int b), .val (.int (-1)), .val (.int (Int.gcd t b)), .val (.int 0)]) ?_ rfl
    unfold p_law_fr
    rw [exL_nx (s1 := [.val (.int t), .val (.int b), .un, .val (.int t.natAbs), .val (.int b.natAbs)]) (by simp [exT, evX, evE, evT, evF, evL, evI, evC, SG.bnd, SG.ok, SG.opt, slotOf, rd, frz, frzs, opD, cmD, b1D, atD, setS, setTg, free, truD, isiD, tyOf, isNon, callD, at0, at1, at2, iabs]), exL_nx (s1 := [.val (.int t), .val (.int b), .un, .val (.int (Int.gcd t b)), .val (.int 0)]) (by rw [exT_wh]; exact key),
      exL_nx (s1 := [.val (.int t), .val (.int b), .val (.int (-1)), .val (.int (Int.gcd t b)), .val (.int 0)]) (by simp [exT, evX, evE, evT, evF, evL, evI, evC, SG.bnd, SG.ok, SG.opt, slotOf, rd, frz, frzs, opD, cmD, b1D, atD, setS, setTg, free, truD, isiD, tyOf, isNon, callD, at0, at1, at2, hn])]
    exact exL_rt (by simp [exT, evX, evE, evT, evF, evL, evI, evC, SG.bnd, SG.ok, SG.opt, slotOf, rd, frz, frzs, opD, cmD, b1D, atD, setS, setTg, free, truD, isiD, tyOf, isNon, callD, at0, at1, at2, hb, g1, g3, m1, m2])
  · rw [divInt_pos (by omega)]
    refine run0 rfl (s1 := [.val (.int t), .val (.int b), .val (.int 1), .val (.int (Int.gcd t b)), .val (.int 0)]) ?_ rfl
    unfold p_law_fr
    rw [exL_nx (s1 := [.val (.int t), .val (.int b), .un, .val (.int t.natAbs), .val (.int b.natAbs)]) (by simp [exT, evX, evE, evT, evF, evL, evI, evC, SG.bnd, SG.ok, SG.opt, slotOf, rd, frz, frzs, opD, cmD, b1D, atD, setS, setTg, free, truD, isiD, tyOf, isNon, callD, at0, at1, at2, iabs]), exL_nx (s1 := [.val (.int t), .val (.int b), .un, .val (.int (Int.gcd t b)), .val (.int 0)]) (by rw [exT_wh]; exact key),
      exL_nx (s1 := [.val (.int t), .val (.int b), .val (.int 1), .val (.int (Int.gcd t b)), .val (.int 0)]) (by simp [exT, evX, evE, evT, evF, evL, evI, evC, SG.bnd, SG.ok, SG.opt, slotOf, rd, frz, frzs, opD, cmD, b1D, atD, setS, setTg, free, truD, isiD, tyOf, isNon, callD, at0, at1, at2, hn])]
    exact exL_rt (by simp [exT, evX, evE, evT, evF, evL, evI, evC, SG.bnd, SG.ok, SG.opt, slotOf, rd, frz, frzs, opD, cmD, b1D, atD, setS, setTg, free, truD, isiD, tyOf, isNon, callD, at0, at1, at2, hb, g1, g3, m3, m4])
theorem isint_run (es : List D) (i : Int) : f_is_integer.run es [.int i] = some (.ok (.bl true), []) := by
  rw [fr_is_integer]
  refine run0 rfl (s1 := [.val (.int i)]) ?_ rfl
  unfold p_is_integer
  exact exL_rt (by simp [exT, evX, evE, evT, evF, evL, evI, evC, SG.bnd, SG.ok, SG.opt, slotOf, rd, frz, frzs, opD, cmD, b1D, atD, setS, setTg, free, truD, isiD, tyOf, isNon, callD, at0, at1, at2])
theorem den_pos (q : Rat) : (1 : Int) ≤ q.den := by have := q.den_pos; omega
theorem num_gcd (q : Rat) : Int.gcd q.num (q.den : Int) = 1 := by
  have := q.reduced
  simpa [Int.gcd] using this
theorem isnum_run (es : List D) (q : Rat) : f_is_number.run es [frD q] = some (.ok (.bl true), []) := by
  rw [fr_is_number]
  have h1 := den_pos q
  have h2 := num_gcd q
  refine run0 rfl (s1 := [.val (frD q), .un]) ?_ rfl
  unfold p_is_number
  rw [exL_nx (s1 := [.val (frD q), .un]) (by rw [exT_if (k := false) (s1 := [.val (frD q), .un]) (by simp [exT, evX, evE, evT, evF, evL, evI, evC, SG.bnd, SG.ok, SG.opt, slotOf, rd, frz, frzs, opD, cmD, b1D, atD, setS, setTg, free, truD, isiD, tyOf, isNon, callD, at0, at1, at2, turns, wipeS, Tg.slots, plainAt, restore, frzR, boolsOf, frD, shp, eqD, D.toP, SeqAt.shaped, PyData.canLay0, PyData.depth, PyData.eqv, fl_is_integer, isint_run])]; simp [exL, exT, evX, evE, evT, evF, evL, evI, evC, SG.bnd, SG.ok, SG.opt, slotOf, rd, frz, frzs, opD, cmD, b1D, atD, setS, setTg, free, truD, isiD, tyOf, isNon, callD, at0, at1, at2])]
  exact exL_rt (by simp [exT, evX, evE, evT, evF, evL, evI, evC, SG.bnd, SG.ok, SG.opt, slotOf, rd, frz, frzs, opD, cmD, b1D, atD, setS, setTg, free, truD, isiD, tyOf, isNon, callD, at0, at1, at2, shp, eqD, D.toP, D.toPs, SeqAt.shaped, PyData.canLay0, PyData.canLayAll0, PyData.depth, PyData.depthAll, PyData.eqv, PyData.eqvAll, frD, fl_common_divisor, cd_run, h1, h2])
/-! ### what the sums are -/
theorem Bd.neg {n : Nat} {i : Int} (h : Bd n i) : Bd n (-i) := by
  unfold Bd at *
  rw [Int.natAbs_neg]
  exact h
theorem FB.mono {m n : Nat} {q : Rat} (h : FB m q) (l : m ≤ n) : FB n q := ⟨h.1.mono l, h.2.mono l⟩
theorem den_ne (q : Rat) : (q.den : Int) ≠ 0 := by have := q.den_pos; omega
theorem add_div (a b : Rat) : a + b = Rat.divInt (a.num * b.den + b.num * a.den) (a.den * b.den) := by
  rw [Rat.add_def', ← Rat.divInt_ofNat, Int.natCast_mul]
theorem mul_div (a b : Rat) : a * b = Rat.divInt (a.num * b.num) (a.den * b.den) := by
  rw [Rat.mul_def', ← Rat.divInt_ofNat, Int.natCast_mul]
theorem sub_div (a b : Rat) : a - b = Rat.divInt (a.num * b.den - b.num * a.den) (a.den * b.den) := by
  rw [Rat.sub_def', ← Rat.divInt_ofNat, Int.natCast_mul]
theorem div_div' (a b : Rat) : a / b = Rat.divInt (a.num * b.den) (a.den * b.num) := by
  rw [Rat.div_def, Rat.inv_def]
  have h : Rat.divInt a.num a.den * Rat.divInt b.den b.num = Rat.divInt (a.num * b.den) (a.den * b.num) := Rat.divInt_mul_divInt _ _
  rw [Rat.num_divInt_den] at h
  exact h
theorem prod_ne (a b : Rat) : (a.den : Int) * b.den ≠ 0 := Int.mul_ne_zero (den_ne a) (den_ne b)
theorem FB.add {m n : Nat} {a b : Rat} (h : FB m a) (k : FB n b) : FB (m + n + 1) (a + b) := by
  rw [add_div]
  refine divInt_bd (prod_ne a b) ?_ ?_
  · exact (h.1.mul k.2).add ((k.1.mul h.2).mono (by omega))
  · exact (h.2.mul k.2).mono (by omega)
theorem FB.mul {m n : Nat} {a b : Rat} (h : FB m a) (k : FB n b) : FB (m + n) (a * b) := by
  rw [mul_div]
  exact divInt_bd (prod_ne a b) (h.1.mul k.1) (h.2.mul k.2)
theorem FB.neg {n : Nat} {a : Rat} (h : FB n a) : FB n (-a) := by
  refine ⟨?_, h.2⟩
  have := h.1
  unfold Bd at *
  rw [Rat.neg_num, Int.natAbs_neg]
  exact this
theorem FB.sub {m n : Nat} {a b : Rat} (h : FB m a) (k : FB n b) : FB (m + n + 1) (a - b) := by
  rw [Rat.sub_eq_add_neg]
  exact h.add k.neg
theorem num_ne {b : Rat} (h : b ≠ 0) : b.num ≠ 0 := fun z => h (Rat.num_eq_zero.mp z)
theorem FB.div {m n : Nat} {a b : Rat} (h : FB m a) (k : FB n b) (hb : b ≠ 0) : FB (m + n) (a / b) := by
  rw [div_div']
  exact divInt_bd (Int.mul_ne_zero (den_ne a) (num_ne hb)) (h.1.mul k.2) (h.2.mul k.1)
theorem muls {n : Nat} {a b : Rat} (h : FB n a) (k : FB n b) (l : 2 * n < 1000000) : mulOk a.num b.den = true ∧ mulOk b.num a.den = true ∧ mulOk a.den b.den = true ∧ mulOk a.num b.num = true ∧ mulOk a.den b.num = true :=
  ⟨mul_okB h.1 k.2 (by omega), mul_okB k.1 h.2 (by omega), mul_okB h.2 k.2 (by omega), mul_okB h.1 k.1 (by omega), mul_okB h.2 k.1 (by omega)⟩
theorem int_div (i : Int) : frD (Rat.divInt i 1) = .tup [.int i, .int 1] := by
  rw [divInt_pos (by decide)]
  simp
theorem added_run (es : List D) {a b : Rat} (h : FB 3000 a) (k : FB 3000 b) : f_added.run es [frD a, frD b] = some (.ok (frD (a + b)), []) := by
  rw [fr_added]
  obtain ⟨m1, m2, m3, _, _⟩ := muls h k (by decide)
  refine run0 rfl (s1 := [.val (frD a), .val (frD b)]) ?_ rfl
  unfold p_added
  rw [add_div]
  by_cases hc : (a.den : Int) = b.den ∧ (b.den : Int) = 1
  · obtain ⟨c1, c2⟩ := hc
    rw [c2] at c1
    rw [c1, c2, Int.mul_one, Int.mul_one, Int.one_mul, int_div]
    exact exL_rt (by rw [exT_if (k := true) (s1 := [.val (frD a), .val (frD b)]) (by simp [exT, evX, evE, evT, evF, evL, evI, evC, SG.bnd, SG.ok, SG.opt, slotOf, rd, frz, frzs, opD, cmD, b1D, atD, setS, setTg, free, truD, isiD, tyOf, isNon, callD, at0, at1, at2, shp, eqD, D.toP, D.toPs, SeqAt.shaped, PyData.canLay0, PyData.canLayAll0, PyData.depth, PyData.depthAll, PyData.eqv, PyData.eqvAll, frD, c1, c2]), if_pos rfl]; exact exL_rt (by simp [exT, evX, evE, evT, evF, evL, evI, evC, SG.bnd, SG.ok, SG.opt, slotOf, rd, frz, frzs, opD, cmD, b1D, atD, setS, setTg, free, truD, isiD, tyOf, isNon, callD, at0, at1, at2, frD]))
  · rw [exL_nx (s1 := [.val (frD a), .val (frD b)]) (by
      rw [exT_if (k := false) (s1 := [.val (frD a), .val (frD b)]) (by
        by_cases e : (a.den : Int) = b.den
        · have e2 : ¬ (b.den : Int) = 1 := fun z => hc ⟨e, z⟩
          simp [exT, evX, evE, evT, evF, evL, evI, evC, SG.bnd, SG.ok, SG.opt, slotOf, rd, frz, frzs, opD, cmD, b1D, atD, setS, setTg, free, truD, isiD, tyOf, isNon, callD, at0, at1, at2, shp, eqD, D.toP, D.toPs, SeqAt.shaped, PyData.canLay0, PyData.canLayAll0, PyData.depth, PyData.depthAll, PyData.eqv, PyData.eqvAll, frD, e, e2]
        · simp [exT, evX, evE, evT, evF, evL, evI, evC, SG.bnd, SG.ok, SG.opt, slotOf, rd, frz, frzs, opD, cmD, b1D, atD, setS, setTg, free, truD, isiD, tyOf, isNon, callD, at0, at1, at2, shp, eqD, D.toP, D.toPs, SeqAt.shaped, PyData.canLay0, PyData.canLayAll0, PyData.depth, PyData.depthAll, PyData.eqv, PyData.eqvAll, frD, show ((a.den : Int) == (b.den : Int)) = false from beq_eq_false_iff_ne.mpr e])]
      simp [exL, exT, evX, evE, evT, evF, evL, evI, evC, SG.bnd, SG.ok, SG.opt, slotOf, rd, frz, frzs, opD, cmD, b1D, atD, setS, setTg, free, truD, isiD, tyOf, isNon, callD, at0, at1, at2])]
    exact exL_rt (by simp [exT, evX, evE, evT, evF, evL, evI, evC, SG.bnd, SG.ok, SG.opt, slotOf, rd, frz, frzs, opD, cmD, b1D, atD, setS, setTg, free, truD, isiD, tyOf, isNon, callD, at0, at1, at2, frD, m1, m2, m3, fl_reduced, reduced_run [] (prod_ne a b) ((h.2.mul k.2).mono (by decide))])
theorem multiplied_run (es : List D) {a b : Rat} (h : FB 3000 a) (k : FB 3000 b) : f_multiplied.run es [frD a, frD b] = some (.ok (frD (a * b)), []) := by
  rw [fr_multiplied]
  obtain ⟨m1, m2, m3, m4, m5⟩ := muls h k (by decide)
  refine run0 rfl (s1 := [.val (frD a), .val (frD b)]) ?_ rfl
  unfold p_multiplied
  rw [mul_div]
  by_cases hc : (a.den : Int) = b.den ∧ (b.den : Int) = 1
  · obtain ⟨c1, c2⟩ := hc
    rw [c2] at c1
    rw [c1, c2, Int.mul_one, int_div]
    exact exL_rt (by rw [exT_if (k := true) (s1 := [.val (frD a), .val (frD b)]) (by simp [exT, evX, evE, evT, evF, evL, evI, evC, SG.bnd, SG.ok, SG.opt, slotOf, rd, frz, frzs, opD, cmD, b1D, atD, setS, setTg, free, truD, isiD, tyOf, isNon, callD, at0, at1, at2, shp, eqD, D.toP, D.toPs, SeqAt.shaped, PyData.canLay0, PyData.canLayAll0, PyData.depth, PyData.depthAll, PyData.eqv, PyData.eqvAll, frD, c1, c2]), if_pos rfl]; exact exL_rt (by simp [exT, evX, evE, evT, evF, evL, evI, evC, SG.bnd, SG.ok, SG.opt, slotOf, rd, frz, frzs, opD, cmD, b1D, atD, setS, setTg, free, truD, isiD, tyOf, isNon, callD, at0, at1, at2, frD, m4]))
  · rw [exL_nx (s1 := [.val (frD a), .val (frD b)]) (by
      rw [exT_if (k := false) (s1 := [.val (frD a), .val (frD b)]) (by
        by_cases e : (a.den : Int) = b.den
        · have e2 : ¬ (b.den : Int) = 1 := fun z => hc ⟨e, z⟩
          simp [exT, evX, evE, evT, evF, evL, evI, evC, SG.bnd, SG.ok, SG.opt, slotOf, rd, frz, frzs, opD, cmD, b1D, atD, setS, setTg, free, truD, isiD, tyOf, isNon, callD, at0, at1, at2, shp, eqD, D.toP, D.toPs, SeqAt.shaped, PyData.canLay0, PyData.canLayAll0, PyData.depth, PyData.depthAll, PyData.eqv, PyData.eqvAll, frD, e, e2]
        · simp [exT, evX, evE, evT, evF, evL, evI, evC, SG.bnd, SG.ok, SG.opt, slotOf, rd, frz, frzs, opD, cmD, b1D, atD, setS, setTg, free, truD, isiD, tyOf, isNon, callD, at0, at1, at2, shp, eqD, D.toP, D.toPs, SeqAt.shaped, PyData.canLay0, PyData.canLayAll0, PyData.depth, PyData.depthAll, PyData.eqv, PyData.eqvAll, frD, show ((a.den : Int) == (b.den : Int)) = false from beq_eq_false_iff_ne.mpr e])]
      simp [exL, exT, evX, evE, evT, evF, evL, evI, evC, SG.bnd, SG.ok, SG.opt, slotOf, rd, frz, frzs, opD, cmD, b1D, atD, setS, setTg, free, truD, isiD, tyOf, isNon, callD, at0, at1, at2])]
    exact exL_rt (by simp [exT, evX, evE, evT, evF, evL, evI, evC, SG.bnd, SG.ok, SG.opt, slotOf, rd, frz, frzs, opD, cmD, b1D, atD, setS, setTg, free, truD, isiD, tyOf, isNon, callD, at0, at1, at2, frD, m4, m3, fl_reduced, reduced_run [] (prod_ne a b) ((h.2.mul k.2).mono (by decide))])
/-- which one is greater -/
def cmpI (l r : Int) : Int := (if l > r then 1 else 0) - (if l < r then 1 else 0)
theorem lplus_run (es : List D) {a b : Rat} (h : FB 3000 a) (k : FB 3000 b) : f_law_plus.run es [frD a, frD b] = some (.ok (frD (a + b)), []) := by
  rw [fr_law_plus]
  obtain ⟨m1, m2, m3, m4, m5⟩ := muls h k (by decide)
  refine run0 rfl (s1 := [.val (frD a), .val (frD b)]) ?_ rfl
  unfold p_law_plus
  rw [add_div]
  exact exL_rt (by simp [exT, evX, evE, evT, evF, evL, evI, evC, SG.bnd, SG.ok, SG.opt, slotOf, rd, frz, frzs, opD, cmD, b1D, atD, setS, setTg, free, truD, isiD, tyOf, isNon, callD, at0, at1, at2, frD, m1, m2, m3, fl_law_fr, lawfr_run [] (prod_ne a b) (((h.1.mul k.2).add (k.1.mul h.2)).mono (by decide)) ((h.2.mul k.2).mono (by decide))])
theorem ltimes_run (es : List D) {a b : Rat} (h : FB 3000 a) (k : FB 3000 b) : f_law_times.run es [frD a, frD b] = some (.ok (frD (a * b)), []) := by
  rw [fr_law_times]
  obtain ⟨m1, m2, m3, m4, m5⟩ := muls h k (by decide)
  refine run0 rfl (s1 := [.val (frD a), .val (frD b)]) ?_ rfl
  unfold p_law_times
  rw [mul_div]
  exact exL_rt (by simp [exT, evX, evE, evT, evF, evL, evI, evC, SG.bnd, SG.ok, SG.opt, slotOf, rd, frz, frzs, opD, cmD, b1D, atD, setS, setTg, free, truD, isiD, tyOf, isNon, callD, at0, at1, at2, frD, m3, m4, fl_law_fr, lawfr_run [] (prod_ne a b) ((h.1.mul k.1).mono (by decide)) ((h.2.mul k.2).mono (by decide))])
theorem mulL {i j : Int} (h : bitsOf i ≤ 64) : mulOk i j = true := decide_eq_true (.inl h)
theorem mulR {i j : Int} (h : bitsOf j ≤ 64) : mulOk i j = true := decide_eq_true (.inr (.inl h))
theorem small_bits {i : Int} (h0 : 0 ≤ i) (h : i < 2305843009213693952) : bitsOf i ≤ 64 := bd_bits (n := 64) (by unfold Bd; omega)
def Dc (ds : List D) : Prop := ∃ g s c : Int, ds = [.int g, .int s, .int c]
theorem roll_run {ds : List D} (hd : Dc ds) {n : Int} (hn : 0 < n) (hb : bitsOf n ≤ 9000) : ∃ r ds', f_law_roll.run ds [.int n] = some (.ok (.int r), ds') ∧ Dc ds' ∧ 0 ≤ r ∧ r < n := by
  obtain ⟨g, s, c, rfl⟩ := hd
  rw [fr_law_roll]
  by_cases hg : 0 < g
  · refine ⟨g % n, [.int (g / n), .int s, .int c], ?_, ⟨_, _, _, rfl⟩, Int.emod_nonneg g (by omega), Int.emod_lt_of_pos g hn⟩
    refine runL rfl (s1 := [.own true [.int (g / n), .int s, .int c], .val (.int n), .un, .un, .val (.int (g % n))]) ?_ rfl
    unfold p_law_roll
    refine exL_rt ?_
    rw [exT_if (k := true) (s1 := [.own true [.int g, .int s, .int c], .val (.int n), .un, .un, .un]) (by simp [exT, evX, evE, evT, evF, evL, evI, evC, SG.bnd, SG.ok, SG.opt, slotOf, rd, frz, frzs, opD, cmD, b1D, atD, setS, setTg, free, truD, isiD, tyOf, isNon, callD, at0, at1, at2, hg]), if_pos rfl,
      exL_nx (s1 := [.own true [.int g, .int s, .int c], .val (.int n), .un, .un, .val (.int (g % n))]) (by simp [exT, evX, evE, evT, evF, evL, evI, evC, SG.bnd, SG.ok, SG.opt, slotOf, rd, frz, frzs, opD, cmD, b1D, atD, setS, setTg, free, truD, isiD, tyOf, isNon, callD, at0, at1, at2, hn]),
      exL_nx (s1 := [.own true [.int (g / n), .int s, .int c], .val (.int n), .un, .un, .val (.int (g % n))]) (by simp [exT, evX, evE, evT, evF, evL, evI, evC, SG.bnd, SG.ok, SG.opt, slotOf, rd, frz, frzs, opD, cmD, b1D, atD, setS, setTg, free, truD, isiD, tyOf, isNon, callD, at0, at1, at2, hn, hb, show L2.ixN 3 0 = some 0 from rfl])]
    exact exL_rt (by simp [exT, evX, evE, evT, evF, evL, evI, evC, SG.bnd, SG.ok, SG.opt, slotOf, rd, frz, frzs, opD, cmD, b1D, atD, setS, setTg, free, truD, isiD, tyOf, isNon, callD, at0, at1, at2])
  · obtain ⟨c1, e1⟩ : ∃ c1, c1 = c + 1 := ⟨_, rfl⟩
    obtain ⟨one, e2⟩ : ∃ one, one = (s + 49979687 * c1) % 2305843009213693951 := ⟨_, rfl⟩
    obtain ⟨two, e3⟩ : ∃ two, two = (one * one + 131 * c1) % 2305843009213693921 * 32452843 + one := ⟨_, rfl⟩
    have h1 : bitsOf one ≤ 64 := small_bits (by rw [e2]; exact Int.emod_nonneg _ (by decide)) (by
      rw [e2]
      have := Int.emod_lt_of_pos (s + 49979687 * c1) (show (0 : Int) < 2305843009213693951 by decide)
      omega)
    have m1 : mulOk 49979687 c1 = true := mulL (by decide +kernel)
    have m2 : mulOk one one = true := mulL h1
    have m3 : mulOk 131 c1 = true := mulL (by decide +kernel)
    have m4 : mulOk ((one * one + 131 * c1) % 2305843009213693921) 32452843 = true := mulR (by decide +kernel)
    have b1 : bitsOf 65587 ≤ 9000 := by decide +kernel
    refine ⟨two / 65587 % n, [.int g, .int s, .int c1], ?_, ⟨_, _, _, rfl⟩, Int.emod_nonneg _ (by omega), Int.emod_lt_of_pos _ hn⟩
    refine runL rfl (s1 := [.own true [.int g, .int s, .int c1], .val (.int n), .val (.int one), .val (.int two), .un]) ?_ rfl
    unfold p_law_roll
    rw [exL_nx (s1 := [.own true [.int g, .int s, .int c], .val (.int n), .un, .un, .un]) (by
        rw [exT_if (k := false) (s1 := [.own true [.int g, .int s, .int c], .val (.int n), .un, .un, .un]) (by simp [exT, evX, evE, evT, evF, evL, evI, evC, SG.bnd, SG.ok, SG.opt, slotOf, rd, frz, frzs, opD, cmD, b1D, atD, setS, setTg, free, truD, isiD, tyOf, isNon, callD, at0, at1, at2, hg])]
        simp [exL, exT, evX, evE, evT, evF, evL, evI, evC, SG.bnd, SG.ok, SG.opt, slotOf, rd, frz, frzs, opD, cmD, b1D, atD, setS, setTg, free, truD, isiD, tyOf, isNon, callD, at0, at1, at2]),
      exL_nx (s1 := [.own true [.int g, .int s, .int c1], .val (.int n), .un, .un, .un]) (by simp [exT, evX, evE, evT, evF, evL, evI, evC, SG.bnd, SG.ok, SG.opt, slotOf, rd, frz, frzs, opD, cmD, b1D, atD, setS, setTg, free, truD, isiD, tyOf, isNon, callD, at0, at1, at2, e1, show L2.ixN 3 2 = some 2 from rfl]),
      exL_nx (s1 := [.own true [.int g, .int s, .int c1], .val (.int n), .val (.int one), .un, .un]) (by simp [exT, evX, evE, evT, evF, evL, evI, evC, SG.bnd, SG.ok, SG.opt, slotOf, rd, frz, frzs, opD, cmD, b1D, atD, setS, setTg, free, truD, isiD, tyOf, isNon, callD, at0, at1, at2, m1, ← e2]),
      exL_nx (s1 := [.own true [.int g, .int s, .int c1], .val (.int n), .val (.int one), .val (.int two), .un]) (by simp [exT, evX, evE, evT, evF, evL, evI, evC, SG.bnd, SG.ok, SG.opt, slotOf, rd, frz, frzs, opD, cmD, b1D, atD, setS, setTg, free, truD, isiD, tyOf, isNon, callD, at0, at1, at2, m2, m3, m4, ← e3])]
    exact exL_rt (by simp [exT, evX, evE, evT, evF, evL, evI, evC, SG.bnd, SG.ok, SG.opt, slotOf, rd, frz, frzs, opD, cmD, b1D, atD, setS, setTg, free, truD, isiD, tyOf, isNon, callD, at0, at1, at2, b1, hn])
theorem len_bits {n : Nat} (h : n ≤ 1000) : bitsOf (n : Int) ≤ 9000 := Nat.le_trans (bd_bits (n := 64) (by unfold Bd; omega)) (by decide)
theorem pick_run {ds : List D} (hd : Dc ds) {its : List D} (hne : its ≠ []) (hl : its.length ≤ 1000) : ∃ x ∈ its, ∃ ds', f_law_pick.run ds [.lst its] = some (.ok x, ds') ∧ Dc ds' := by
  have h0 : 0 < its.length := List.length_pos_iff.mpr hne
  obtain ⟨r, ds', hr, hd', r0, r1⟩ := roll_run hd (n := its.length) (by omega) (len_bits hl)
  obtain ⟨k, rfl⟩ : ∃ k : Nat, r = (k : Int) := ⟨r.toNat, by omega⟩
  have hk : k < its.length := by omega
  refine ⟨its[k], List.getElem_mem hk, ds', ?_, hd'⟩
  have ha : L2.atI its (k : Int) = some its[k] := at_nat (List.getElem?_eq_getElem hk)
  rw [fr_law_pick]
  refine runL rfl (s1 := [.own true ds', .val (.lst its)]) ?_ rfl
  unfold p_law_pick
  exact exL_rt (by simp [exT, evX, evE, evT, evF, evL, evI, evC, SG.bnd, SG.ok, SG.opt, slotOf, rd, frz, frzs, opD, cmD, b1D, atD, setS, setTg, free, truD, isiD, tyOf, isNon, callD, at0, at1, at2, fl_law_roll, hr, ha])
theorem bits10 : bitsOf 10 = 4 := by decide +kernel
theorem zero_frD : frD 0 = .tup [.int 0, .int 1] := rfl
/-! ### loops -/
theorem fold_loop {β : Type} {e : β → D} {P : β → Prop} {body : List S → R Fl} {tg : Tg} {mk : Rat → D → List S} {m0 : Rat → List S} {op : Rat → β → Rat} {ok' : Nat → Rat → Prop} {N : Nat}
    (h0 : ∀ a x, setTg (m0 a) tg x = some (mk a x)) (hs : ∀ a y x, setTg (mk a y) tg x = some (mk a x)) (hb : ∀ n a q, n < N → ok' n a → P q → body (mk a (e q)) = SG.ok .nx (mk (op a q) (e q)) ∧ ok' (n + 1) (op a q)) :
    ∀ (qs : List β) (n : Nat) (a : Rat), n + qs.length ≤ N → ok' n a → (∀ q ∈ qs, P q) → (∀ y, ∃ y', loopT tg body (qs.map e) (mk a y) = SG.ok .nx (mk (qs.foldl op a) y')) ∧
      (∃ st', loopT tg body (qs.map e) (m0 a) = SG.ok .nx st' ∧ (st' = m0 (qs.foldl op a) ∨ ∃ y, st' = mk (qs.foldl op a) y)) ∧ ok' (n + qs.length) (qs.foldl op a)
  | [], n, a, _, ha, _ => ⟨fun y => ⟨y, rfl⟩, ⟨_, rfl, .inl rfl⟩, ha⟩
  | q :: qs, n, a, hl, ha, hq => by
    have hl' : n + (qs.length + 1) ≤ N := hl
    obtain ⟨hb1, hb2⟩ := hb n a q (by omega) ha (hq q List.mem_cons_self)
    obtain ⟨r1, _, r3⟩ := fold_loop h0 hs hb qs (n + 1) (op a q) (by omega) hb2 fun x hx => hq x (List.mem_cons_of_mem _ hx)
    have go : ∀ st, setTg st tg (e q) = some (mk a (e q)) → ∃ y', loopT tg body ((q :: qs).map e) st = SG.ok .nx (mk ((q :: qs).foldl op a) y') := fun st hst => by
      obtain ⟨y', hy⟩ := r1 (e q)
      refine ⟨y', ?_⟩
      show (match setTg st tg (e q) with | none => none | some s1 => turnS (body s1) fun s => loopT tg body (qs.map e) s) = _
      rw [hst]
      show turnS (body (mk a (e q))) _ = _
      rw [hb1]
      exact hy
    refine ⟨fun y => go _ (hs a y _), ?_, ?_⟩
    · obtain ⟨y', hy⟩ := go _ (h0 a _)
      exact ⟨_, hy, .inr ⟨y', rfl⟩⟩
    · rw [show n + (q :: qs).length = n + 1 + qs.length from by simp; omega]
      exact r3
/-- the turns of a comprehension that changes nothing -/
theorem turns_map {β : Type} {e : β → D} {P : β → Prop} {tg : Tg} {test : List S → R Bool} {elt : List S → R D} {mk : D → List S} {f : β → D} (hs : ∀ y x, setTg (wipeS (mk y) tg.slots) tg x = some (mk x)) (ht : ∀ q, P q → test (mk (e q)) = some (.ok true, mk (e q)))
    (he : ∀ q, P q → elt (mk (e q)) = some (.ok (f q), mk (e q))) : ∀ (qs : List β) (st : List S), (∀ x, setTg (wipeS st tg.slots) tg x = some (mk x)) → (∀ q ∈ qs, P q) → ∃ st', turns tg test elt (qs.map e) st = some (.ok (qs.map f), st') ∧ (st' = st ∨ ∃ y, st' = mk y)
  | [], st, _, _ => ⟨st, rfl, .inl rfl⟩
  | q :: qs, st, h0, hq => by
    obtain ⟨st', h1, h2⟩ := turns_map hs ht he qs (mk (e q)) (hs (e q)) fun x hx => hq x (List.mem_cons_of_mem _ hx)
    refine ⟨st', ?_, .inr ?_⟩
    · show turns tg test elt (e q :: qs.map e) st = _
      unfold turns
      rw [h0]
      dsimp only
      rw [ht q (hq q List.mem_cons_self)]
      dsimp only
      rw [he q (hq q List.mem_cons_self)]
      dsimp only
      rw [h1]
      rfl
    · rcases h2 with h2 | h2
      · exact ⟨_, h2⟩
      · exact h2
def sumQ (qs : List Rat) : Rat := qs.foldl (· + ·) 0
theorem FBz : FB 70 0 := by unfold FB Bd; exact ⟨by decide +kernel, by decide +kernel⟩
theorem FBo : FB 70 1 := by unfold FB Bd; exact ⟨by decide +kernel, by decide +kernel⟩
theorem bools_true {β : Type} (qs : List β) : boolsOf (qs.map fun _ => D.bl true) = some (qs.map fun _ => true) := by
  induction qs with
  | nil => rfl
  | cons q qs ih =>
    show (boolsOf (qs.map fun _ => D.bl true)).map (true :: ·) = _
    rw [ih]
    rfl
theorem all_true {β : Type} (qs : List β) : (qs.map fun _ => true).all id = true := by
  induction qs with
  | nil => rfl
  | cons q qs ih => exact ih
/-! ### what is shown -/
theorem log_lt {n : Nat} {i : Int} (h : Bd n i) (hn : 0 < n) : i.natAbs.log2 < n := by
  unfold Bd at h
  by_cases z : i.natAbs = 0
  · rw [z]
    simpa using hn
  · exact (Nat.log2_lt z).mpr h
theorem int_short {i : Int} (h : Bd 200 i) : PyData.leavesShort 201 (.int i) = true := by
  unfold PyData.leavesShort
  refine decide_eq_true ?_
  have := int_text_length_le (k := 200) (by decide) (log_lt h (by decide))
  unfold PyData.shown
  rw [ofString_length]
  exact this
theorem int_weight {i : Int} (h : Bd 200 i) : PyData.weight (.int i) ≤ 200 := by
  unfold PyData.weight
  split
  · exact Nat.zero_le _
  · have := log_lt h (by decide)
    omega
theorem int_showable {i : Int} (h : Bd 200 i) : PyData.showable (.int i) = true := by
  unfold PyData.showable
  have := log_lt h (by decide)
  exact decide_eq_true (by omega)
structure Sh (d : D) (w : Nat) : Prop where
  a : d.toP.showable = true
  b : d.toP.leavesShort 201 = true
  c : d.toP.weight ≤ w
  d : d.toP.depth ≤ 20
theorem sh_int {i : Int} (h : Bd 200 i) : Sh (.int i) 200 := by
  refine ⟨?_, ?_, ?_, ?_⟩ <;> unfold D.toP
  · exact int_showable h
  · exact int_short h
  · exact int_weight h
  · unfold PyData.depth
    exact Nat.zero_le _
theorem sh_pair {i j : Int} (h : Bd 200 i) (k : Bd 200 j) : Sh (.tup [.int i, .int j]) 402 := by
  have a := sh_int h
  have b := sh_int k
  have a1 := a.a
  have a2 := a.b
  have a3 := a.c
  have b1 := b.a
  have b2 := b.b
  have b3 := b.c
  unfold D.toP at a1 a2 a3 b1 b2 b3
  refine ⟨?_, ?_, ?_, ?_⟩
  · simp [D.toP, D.toPs, PyData.showable, PyData.showableAll, a1, b1] at *
    simp [a1, b1]
  · simp [D.toP, D.toPs, PyData.leavesShort, PyData.leavesShortAll] at *
    simp [a2, b2]
  · simp only [D.toP, D.toPs, PyData.weight, PyData.weightAll] at *
    omega
  · simp [D.toP, D.toPs, PyData.depth, PyData.depthAll]
theorem sh_ok {d : D} {w : Nat} (h : Sh d w) (hw : w ≤ 4000) : shownOk d = true := by
  unfold shownOk
  rw [Bool.and_eq_true, Bool.and_eq_true]
  refine ⟨⟨h.a, decide_eq_true ?_⟩, decide_eq_true (Nat.le_trans h.d (by decide))⟩
  have e := PyData.shown_le 201 (by decide) d.toP h.b
  have c := h.c
  omega
theorem sh_fr {q : Rat} (h : FB 200 q) : Sh (frD q) 402 := sh_pair h.1 h.2
theorem sh_four {a b c d : Rat} (ha : FB 200 a) (hb : FB 200 b) (hc : FB 200 c) (hd : FB 200 d) : shownOk (.lst [frD a, frD b, frD c, frD d]) = true := by
  have A := sh_fr ha
  have B := sh_fr hb
  have C := sh_fr hc
  have E := sh_fr hd
  refine sh_ok (w := 1612) ⟨?_, ?_, ?_, ?_⟩ (by decide)
  · simp only [D.toP, D.toPs, PyData.showable, PyData.showableAll, A.a, B.a, C.a, E.a, Bool.and_self]
  · simp only [D.toP, D.toPs, PyData.leavesShort, PyData.leavesShortAll, A.b, B.b, C.b, E.b, Bool.and_self]
  · simp only [D.toP, D.toPs, PyData.weight, PyData.weightAll]
    have := A.c
    have := B.c
    have := C.c
    have := E.c
    omega
  · have e : ∀ q : Rat, (frD q).toP.depth = 1 := fun q => by simp [frD, D.toP, D.toPs, PyData.depth, PyData.depthAll]
    simp [D.toP, D.toPs, PyData.depth, PyData.depthAll, e]
def powQ (q : Rat) (n : Nat) : Rat := (List.range n).foldl (fun a _ => a * q) 1
theorem rng0 (n : Nat) : rngD 0 n = (List.range n).map fun (i : Nat) => D.int (0 + (i : Int)) := rfl
theorem one_frD : frD 1 = .tup [.int 1, .int 1] := rfl
/-! ### number -/
theorem passed {t : Int} (h : Bd 70 t) : ¬ (10000000000000000000000000000000000000000 : Int) ≤ (t.natAbs : Int) := by
  unfold Bd at h
  omega
/-! ### sums backwards -/
theorem fold_add (qs : List Rat) : ∀ a : Rat, qs.foldl (· + ·) a = a + qs.foldl (· + ·) 0 := by
  induction qs with
  | nil => intro a; exact (Rat.add_zero a).symm
  | cons q qs ih =>
    intro a
    show qs.foldl (· + ·) (a + q) = a + qs.foldl (· + ·) (0 + q)
    rw [ih (a + q), ih (0 + q), Rat.zero_add, Rat.add_assoc]
theorem sum_rev (qs : List Rat) : sumQ qs.reverse = sumQ qs := by
  unfold sumQ
  induction qs with
  | nil => rfl
  | cons q qs ih =>
    rw [List.reverse_cons, List.foldl_append, ih]
    show qs.foldl (· + ·) 0 + q = qs.foldl (· + ·) (0 + q)
    rw [fold_add qs (0 + q), Rat.zero_add, Rat.add_comm]
theorem at_fr0 (q : Rat) : atD (frD q) (.int 0) = some (.int q.num) := at0 _ _
theorem at_fr1 (q : Rat) : atD (frD q) (.int 1) = some (.int q.den) := at1 _ _ _
theorem cm_ne_fr (q : Rat) : cmD .ne (frD q) (frD q) = some false := by simp [exT, evX, evE, evT, evF, evL, evI, evC, SG.bnd, SG.ok, SG.opt, slotOf, rd, frz, frzs, opD, cmD, b1D, atD, setS, setTg, free, truD, isiD, tyOf, isNon, callD, at0, at1, at2, shp, eqD, D.toP, D.toPs, SeqAt.shaped, PyData.canLay0, PyData.canLayAll0, PyData.depth, PyData.depthAll, PyData.eqv, PyData.eqvAll, frD]
theorem cm_eq_fr (q : Rat) : cmD .eq (frD q) (frD q) = some true := by simp [exT, evX, evE, evT, evF, evL, evI, evC, SG.bnd, SG.ok, SG.opt, slotOf, rd, frz, frzs, opD, cmD, b1D, atD, setS, setTg, free, truD, isiD, tyOf, isNon, callD, at0, at1, at2, shp, eqD, D.toP, D.toPs, SeqAt.shaped, PyData.canLay0, PyData.canLayAll0, PyData.depth, PyData.depthAll, PyData.eqv, PyData.eqvAll, frD]
theorem cm_ne_int (i j : Int) : cmD .ne (.int i) (.int j) = some (!decide (i = j)) := by
  by_cases h : i = j
  · simp [exT, evX, evE, evT, evF, evL, evI, evC, SG.bnd, SG.ok, SG.opt, slotOf, rd, frz, frzs, opD, cmD, b1D, atD, setS, setTg, free, truD, isiD, tyOf, isNon, callD, at0, at1, at2, shp, eqD, D.toP, D.toPs, SeqAt.shaped, PyData.canLay0, PyData.canLayAll0, PyData.depth, PyData.depthAll, PyData.eqv, PyData.eqvAll, h]
  · simp [exT, evX, evE, evT, evF, evL, evI, evC, SG.bnd, SG.ok, SG.opt, slotOf, rd, frz, frzs, opD, cmD, b1D, atD, setS, setTg, free, truD, isiD, tyOf, isNon, callD, at0, at1, at2, shp, eqD, D.toP, D.toPs, SeqAt.shaped, PyData.canLay0, PyData.canLayAll0, PyData.depth, PyData.depthAll, PyData.eqv, PyData.eqvAll, h, show (i == j) = false from beq_eq_false_iff_ne.mpr h]
theorem cm_gt_int (i j : Int) : cmD .gt (.int i) (.int j) = some (decide (j < i)) := rfl
theorem cm_lt_int (i j : Int) : cmD .lt (.int i) (.int j) = some (decide (i < j)) := rfl
theorem cm_ne_str (x : Str) : cmD .ne (.str x) (.str x) = some false := by simp [cmD]
theorem cm_eq_str (x : Str) : cmD .eq (.str x) (.str x) = some true := by simp [cmD]
theorem b1_repr (d : D) : b1D .repr d = if shownOk d = true then some (.str d.toP.shown) else none := by cases d <;> rfl
theorem b1_int_bl (b : Bool) : b1D .int (.bl b) = some (.int (if b then 1 else 0)) := rfl
theorem b1_int_int (b : Int) : b1D .int (.int b) = some (.int b) := rfl
theorem b1_tup_lst (l : List D) : b1D .tup (.lst l) = some (.tup l) := rfl
theorem cmp_ne (l r : Int) : cmD .ne (.int (cmpI l r)) (.int ((if r < l then 1 else 0) - (if l < r then 1 else 0))) = some false := by
  rw [cm_ne_int]
  unfold cmpI
  simp
theorem cmp_self (l : Int) : cmpI l l = 0 := by unfold cmpI; simp
theorem cm_ne_one : cmD .ne (frD 1) (.tup [.int 1, .int 1]) = some false := cm_ne_fr 1
theorem small_roll {n : Int} (h0 : 0 < n) (h : n ≤ 1000) : bitsOf n ≤ 9000 := Nat.le_trans (bd_bits (n := 64) (by unfold Bd; omega)) (by decide)
theorem pw_ok (st : List S) : evE (.bin .pow (.bin .pow (.cst (.int 10)) (.cst (.int 53))) (.cst (.int 6))) st = some (.ok (.v (.int ((10 ^ 53) ^ 6))), st) := by kernel_rfl
theorem pw2_ok (st : List S) : evE (.bin .pow (.cst (.int 10)) (.cst (.int 16))) st = some (.ok (.v (.int (10 ^ 16))), st) := by kernel_rfl
theorem bnd_ok {α β : Type} (a : α) (s : List S) (k : α → List S → R β) : SG.bnd (SG.ok a s) k = k a s := rfl
theorem set_nm {st : List S} {i : Nat} {d : D} (h : free st i = true) : setTg st (.nm i) d = some (st.set i (.val d)) := by simp [setTg, h]
theorem asg_run {x : E} {i : Nat} {st : List S} {d : D} (h : evE x st = some (.ok (.v d), st)) (hf : free st i = true) : exT (.asg i (.e x)) st = some (.ok .nx, st.set i (.val d)) := by
  rw [exT]
  show SG.bnd (SG.bnd (evE x st) _) _ = _
  rw [h]
  show SG.bnd (SG.opt (setS st i (.val d)) st) _ = _
  unfold setS
  rw [if_pos hf]
  rfl
theorem bin_int {o : Op} {x y : E} {st : List S} {i j k : Int} (h : evE x st = some (.ok (.v (.int i)), st)) (h2 : evE y st = some (.ok (.v (.int j)), st)) (e : opD o (.int i) (.int j) = some (.int k)) : evE (.bin o x y) st = some (.ok (.v (.int k)), st) := by
  rw [evE.eq_4, h]
  show SG.bnd (evE y st) _ = _
  rw [h2]
  show SG.bnd (SG.opt (opD o (.int i) (.int j)) st) _ = _
  rw [e]
  rfl
theorem at_script {ns : List Int} {k : Nat} (h : k < ns.length) : atD (.lst (ns.map D.int)) (.int (k : Int)) = some (.int ns[k]) :=
  at_nat (by rw [List.getElem?_map, List.getElem?_eq_getElem h]; rfl)
theorem dice_run (ns : List Int) (k : Nat) : ∃ ds, f_law_dice.run [] [.lst (ns.map D.int), .int k] = some (.ok (.lst ds), []) ∧ Dc ds := by
  rw [fr_law_dice]
  obtain ⟨cell, hcell⟩ : ∃ cell : Int, evE (.ite (.cmp .lt (.var 1) (.b1 .len (.var 0))) (.b1 .int (.ix (.var 0) (.var 1))) (.bin .add (.bin .mul (.cst (.int 131)) (.var 1)) (.cst (.int 37)))) [.val (.lst (ns.map D.int)), .val (.int k), .un, .un, .un] = some (.ok (.v (.int cell)), [.val (.lst (ns.map D.int)), .val (.int k), .un, .un, .un]) := by
    by_cases h : k < ns.length
    · have h' : (k : Int) < ns.length := by omega
      refine ⟨ns[k], ?_⟩
      simp [evE, evT, SG.bnd, SG.ok, SG.opt, slotOf, rd, cmD, b1D, at_script h, h]
    · have h' : ¬ (k : Int) < ns.length := by omega
      refine ⟨131 * k + 37, ?_⟩
      have m : mulOk 131 (k : Int) = true := mulL (by decide +kernel)
      simp [evE, evT, SG.bnd, SG.ok, SG.opt, slotOf, rd, cmD, b1D, opD, h, m]
  obtain ⟨great, e1⟩ : ∃ great : Int, great = (cell.natAbs : Int) % (10 ^ 53) ^ 6 := ⟨_, rfl⟩
  obtain ⟨seed, e2⟩ : ∃ seed : Int, seed = great % 2305843009213693907 * 73 + 619 * (k : Int) + 41 * (if cell < 0 then 1 else 0) + 17 := ⟨_, rfl⟩
  have m1 : mulOk (great % 2305843009213693907) 73 = true := mulR (by decide +kernel)
  have m2 : mulOk 619 (k : Int) = true := mulL (by decide +kernel)
  have m3 : ∀ b : Int, mulOk 41 b = true := fun b => mulL (by decide +kernel)
  refine ⟨[.int (if great - 10 ^ 16 > 0 then great - 10 ^ 16 else 0), .int seed, .int 0], ?_, ⟨_, _, _, rfl⟩⟩
  refine run0 rfl (s1 := [.val (.lst (ns.map D.int)), .val (.int k), .val (.int cell), .val (.int great), .val (.int seed)]) ?_ rfl
  unfold p_law_dice
  have g3 : evE (.bin .mod (.b1 .int (.b1 .abs (.var 2))) (.bin .pow (.bin .pow (.cst (.int 10)) (.cst (.int 53))) (.cst (.int 6)))) [.val (.lst (ns.map D.int)), .val (.int k), .val (.int cell), .un, .un] = some (.ok (.v (.int great)), [.val (.lst (ns.map D.int)), .val (.int k), .val (.int cell), .un, .un]) := by
    refine bin_int (i := cell.natAbs) (j := (10 ^ 53) ^ 6) (by simp [evE, SG.bnd, SG.ok, SG.opt, slotOf, rd, b1D, iabs]) (pw_ok _) ?_
    rw [e1]
    show (if (0 : Int) < (10 ^ 53) ^ 6 then some (D.int ((cell.natAbs : Int) % (10 ^ 53) ^ 6)) else none) = _
    rw [if_pos (by decide +kernel)]
  rw [exL_nx (s1 := [.val (.lst (ns.map D.int)), .val (.int k), .val (.int cell), .un, .un]) (asg_run hcell rfl),
    exL_nx (s1 := [.val (.lst (ns.map D.int)), .val (.int k), .val (.int cell), .val (.int great), .un]) (asg_run g3 rfl),
    exL_nx (s1 := [.val (.lst (ns.map D.int)), .val (.int k), .val (.int cell), .val (.int great), .val (.int seed)]) (by simp [exT, evX, evE, evT, evF, evL, evI, evC, SG.bnd, SG.ok, SG.opt, slotOf, rd, frz, frzs, opD, cmD, b1D, atD, setS, setTg, free, truD, isiD, tyOf, isNon, callD, at0, at1, at2, m1, m2, m3, ← e2])]
  refine exL_rt ?_
  have g5 : evE (.max2 (.cst (.int 0)) (.bin .sub (.var 3) (.bin .pow (.cst (.int 10)) (.cst (.int 16))))) [.val (.lst (ns.map D.int)), .val (.int k), .val (.int cell), .val (.int great), .val (.int seed)] = some (.ok (.v (.int (if great - 10 ^ 16 > 0 then great - 10 ^ 16 else 0))), [.val (.lst (ns.map D.int)), .val (.int k), .val (.int cell), .val (.int great), .val (.int seed)]) := by
    rw [evE.eq_21, evE.eq_2, bnd_ok]
    rw [bin_int (i := great) (j := 10 ^ 16) (k := great - 10 ^ 16) (by simp [evE, SG.bnd, SG.ok, slotOf]) (pw2_ok _) rfl]
    rfl
  rw [exT, evF.eq_1, evL, g5]
  rfl
/-! ### the law's loops -/
def Fr (s : S) : Prop := s = .un ∨ (∃ x, s = .val x) ∨ ∃ ds, s = .own false ds
theorem free_of {st : List S} {i : Nat} {s : S} (h : st[i]? = some s) (f : Fr s) : free st i = true := by
  unfold free
  rw [h]
  rcases f with rfl | ⟨x, rfl⟩ | ⟨ds, rfl⟩ <;> rfl
end K24
/-! Gn: loops and comprehensions of the small language, for all laws. -/
namespace Gn
open PySem SG
/-- a loop that carries a -/
theorem fold_for {α β : Type} {e : β → D} {P : β → Prop} {body : List S → R Fl} {tg : Tg} {mk : α → β → List S} {m0 : α → List S} {op : α → β → α} {ok' : Nat → α → Prop} {N : Nat}
    (h0 : ∀ a q, setTg (m0 a) tg (e q) = some (mk a q)) (hs : ∀ a y q, setTg (mk a y) tg (e q) = some (mk a q)) (hb : ∀ n a q, n < N → ok' n a → P q → body (mk a q) = SG.ok .nx (mk (op a q) q) ∧ ok' (n + 1) (op a q)) :
    ∀ (qs : List β) (n : Nat) (a : α), n + qs.length ≤ N → ok' n a → (∀ q ∈ qs, P q) → (∀ y, ∃ y', loopT tg body (qs.map e) (mk a y) = SG.ok .nx (mk (qs.foldl op a) y')) ∧
      (∃ st', loopT tg body (qs.map e) (m0 a) = SG.ok .nx st' ∧ (st' = m0 (qs.foldl op a) ∨ ∃ y, st' = mk (qs.foldl op a) y)) ∧ ok' (n + qs.length) (qs.foldl op a)
  | [], n, a, _, ha, _ => ⟨fun y => ⟨y, rfl⟩, ⟨_, rfl, .inl rfl⟩, ha⟩
  | q :: qs, n, a, hl, ha, hq => by
    have hl' : n + (qs.length + 1) ≤ N := hl
    obtain ⟨hb1, hb2⟩ := hb n a q (by omega) ha (hq q List.mem_cons_self)
    obtain ⟨r1, _, r3⟩ := fold_for h0 hs hb qs (n + 1) (op a q) (by omega) hb2 fun x hx => hq x (List.mem_cons_of_mem _ hx)
    have go : ∀ st, setTg st tg (e q) = some (mk a q) → ∃ y', loopT tg body ((q :: qs).map e) st = SG.ok .nx (mk ((q :: qs).foldl op a) y') := fun st hst => by
      obtain ⟨y', hy⟩ := r1 q
      refine ⟨y', ?_⟩
      show (match setTg st tg (e q) with | none => none | some s1 => turnS (body s1) fun s => loopT tg body (qs.map e) s) = _
      rw [hst]
      show turnS (body (mk a q)) _ = _
      rw [hb1]
      exact hy
    refine ⟨fun y => go _ (hs a y _), ?_, ?_⟩
    · obtain ⟨y', hy⟩ := go _ (h0 a _)
      exact ⟨_, hy, .inr ⟨y', rfl⟩⟩
    · rw [show n + (q :: qs).length = n + 1 + qs.length from by simp; omega]
      exact r3
/-- the turns of a comprehension that changes nothing -/
theorem turns_all {β : Type} {e : β → D} {P : β → Prop} {tg : Tg} {test : List S → R Bool} {elt : List S → R D} {mk : β → List S} {f : β → D} (hs : ∀ y q, setTg (wipeS (mk y) tg.slots) tg (e q) = some (mk q)) (ht : ∀ q, P q → test (mk q) = some (.ok true, mk q))
    (he : ∀ q, P q → elt (mk q) = some (.ok (f q), mk q)) : ∀ (qs : List β) (st : List S), (∀ q, setTg (wipeS st tg.slots) tg (e q) = some (mk q)) → (∀ q ∈ qs, P q) → ∃ st', turns tg test elt (qs.map e) st = some (.ok (qs.map f), st') ∧ (st' = st ∨ ∃ y, st' = mk y)
  | [], st, _, _ => ⟨st, rfl, .inl rfl⟩
  | q :: qs, st, h0, hq => by
    obtain ⟨st', h1, h2⟩ := turns_all hs ht he qs (mk q) (fun x => hs q x) fun x hx => hq x (List.mem_cons_of_mem _ hx)
    refine ⟨st', ?_, .inr ?_⟩
    · show turns tg test elt (e q :: qs.map e) st = _
      unfold turns
      rw [h0]
      dsimp only
      rw [ht q (hq q List.mem_cons_self)]
      dsimp only
      rw [he q (hq q List.mem_cons_self)]
      dsimp only
      rw [h1]
      rfl
    · rcases h2 with h2 | h2
      · exact ⟨_, h2⟩
      · exact h2
theorem set_un {st : List S} {i : Nat} (h : st[i]? = some .un) : st.set i .un = st := by
  obtain ⟨h1, h2⟩ := List.getElem?_eq_some_iff.mp h
  rw [← h2]
  exact List.set_getElem_self h1
theorem lt_some {st : List S} {i : Nat} {s : S} (h : st[i]? = some s) : i < st.length := (List.getElem?_eq_some_iff.mp h).1
theorem free_un {st : List S} {i : Nat} (h : i < st.length) : free (st.set i .un) i = true := by
  unfold free
  rw [List.getElem?_set_self h]
/-- [el for x in it], x in the unset slot i -/
theorem comp_all {β : Type} {e f : β → D} {P : β → Prop} {i : Nat} {it : IT} {el : E} {st : List S} {qs : List β} (hit : evI it st = some (.ok (qs.map e), st)) (hi : st[i]? = some .un) (hl : qs.length ≤ 100000)
    (hel : ∀ q, P q → frzR (evE el (st.set i (.val (e q)))) = some (.ok (f q), st.set i (.val (e q)))) (hP : ∀ q ∈ qs, P q) : evF (.comp (.nm i) it .no el) st = some (.ok (qs.map f), st) := by
  have il := lt_some hi
  have hset : ∀ (s : S) (x : D), setTg (wipeS (st.set i s) (Tg.nm i).slots) (.nm i) x = some (st.set i (.val x)) := fun s x => by
    show (if free ((st.set i s).set i .un) i then some (((st.set i s).set i .un).set i (.val x)) else none) = _
    rw [List.set_set, if_pos (free_un il), List.set_set]
  obtain ⟨st', h1, h2⟩ := turns_all (e := e) (P := P) (tg := .nm i) (test := fun s => evC .no s) (elt := fun s => frzR (evE el s)) (mk := fun q => st.set i (.val (e q))) (f := f) (fun y q => hset _ _) (fun q _ => rfl) hel qs st (fun q => by
    have := hset .un (e q)
    rw [set_un hi] at this
    exact this) hP
  rw [evF.eq_2, hit]
  show (if _ then _ else _) = _
  rw [if_pos (by simp [Tg.slots, plainAt, hi]; exact hl), h1]
  show some (Except.ok (qs.map f), restore st st' [i]) = _
  have hr : restore st st' [i] = st := by
    show (match (st[i]? : Option S) with | some s => (restore st st' []).set i s | none => restore st st' []) = st
    rw [hi]
    show st'.set i .un = st
    rcases h2 with rfl | ⟨y, rfl⟩
    · exact set_un hi
    · rw [List.set_set]
      exact set_un hi
  rw [hr]
theorem set_at {st : List S} {i : Nat} {s : S} (h : st[i]? = some s) : st.set i s = st := by
  obtain ⟨h1, h2⟩ := List.getElem?_eq_some_iff.mp h
  rw [← h2]
  exact List.set_getElem_self h1
/-- [el for x, y in it], in the slots i, j, which hold no list of their own -/
theorem comp_all2 {β : Type} {e f : β → D} {a b : β → D} {P : β → Prop} {i j : Nat} {it : IT} {el : E} {st : List S} {si sj : S} {qs : List β} (hit : evI it st = some (.ok (qs.map e), st)) (hi : st[i]? = some si) (hj : st[j]? = some sj) (hij : i ≠ j) (hl : qs.length ≤ 100000) (hab : ∀ q, e q = .tup [a q, b q])
    (hel : ∀ q, P q → frzR (evE el ((st.set i (.val (a q))).set j (.val (b q)))) = some (.ok (f q), (st.set i (.val (a q))).set j (.val (b q)))) (hP : ∀ q ∈ qs, P q) (pi : plainAt st i = true) (pj : plainAt st j = true) : evF (.comp (.two i j) it .no el) st = some (.ok (qs.map f), st) := by
  have il := lt_some hi
  have jl := lt_some hj
  have put : ∀ q, setTg ((st.set j .un).set i .un) (.two i j) (e q) = some ((st.set i (.val (a q))).set j (.val (b q))) := fun q => by
    rw [hab]
    show (if free ((st.set j .un).set i .un) i then (if free (((st.set j .un).set i .un).set i (.val (a q))) j then some ((((st.set j .un).set i .un).set i (.val (a q))).set j (.val (b q))) else none) else none) = _
    have f1 : free ((st.set j .un).set i .un) i = true := by
      unfold free
      rw [List.getElem?_set_self (by rw [List.length_set]; exact il)]
    have f2 : free (((st.set j .un).set i .un).set i (.val (a q))) j = true := by
      unfold free
      rw [List.set_set, List.getElem?_set_ne hij, List.getElem?_set_self jl]
    rw [if_pos f1, if_pos f2, List.set_set, List.set_comm _ _ hij, List.set_set, List.set_comm _ _ hij.symm]
  have wip : ∀ (s t : S), wipeS ((st.set i s).set j t) (Tg.two i j).slots = (st.set j .un).set i .un := fun s t => by
    show (((st.set i s).set j t).set j .un).set i .un = _
    rw [List.set_set, List.set_comm _ _ hij, List.set_set]
  obtain ⟨st', h1, h2⟩ := turns_all (e := e) (P := P) (tg := .two i j) (test := fun s => evC .no s) (elt := fun s => frzR (evE el s)) (mk := fun q => (st.set i (.val (a q))).set j (.val (b q))) (f := f) (fun y q => by rw [wip]; exact put q) (fun q _ => rfl) hel qs st (fun q => put q) hP
  rw [evF.eq_2, hit]
  show (if _ then _ else _) = _
  rw [if_pos (by simp [Tg.slots, pi, pj]; exact hl), h1]
  show some (Except.ok (qs.map f), restore st st' [i, j]) = _
  have hr : restore st st' [i, j] = st := by
    have e1 : restore st st' [j] = st'.set j sj := by
      show (match (st[j]? : Option S) with | some s => (restore st st' []).set j s | none => restore st st' []) = _
      rw [hj]
      first | rfl | skip
    show (match (st[i]? : Option S) with | some s => (restore st st' [j]).set i s | none => restore st st' [j]) = st
    rw [hi, e1]
    show (st'.set j sj).set i si = st
    rcases h2 with rfl | ⟨y, rfl⟩
    · rw [set_at hj, set_at hi]
    · rw [List.set_set, List.set_comm _ _ hij, List.set_set, List.set_comm _ _ hij.symm, set_at hi, set_at hj]
  rw [hr]
/-- a comprehension that carries a state -/
theorem turns_thread {α : Type} {I : α → Prop} {Pd : D → Prop} {tg : Tg} {test : List S → R Bool} {elt : List S → R D} {M : α → S → List S} (hs : ∀ a s x, setTg (wipeS (M a s) tg.slots) tg x = some (M a (.val x))) (ht : ∀ st, test st = some (.ok true, st))
    (he : ∀ a s, I a → ∃ d a', elt (M a s) = some (.ok d, M a' s) ∧ I a' ∧ Pd d) : ∀ (its : List D) (a : α) (s : S), I a → ∃ (ds : List D) (a' : α) (s' : S), turns tg test elt its (M a s) = some (.ok ds, M a' s') ∧ I a' ∧ ds.length = its.length ∧ ∀ d ∈ ds, Pd d
  | [], a, s, h => ⟨[], a, s, rfl, h, rfl, fun _ z => by cases z⟩
  | x :: its, a, s, h => by
    obtain ⟨d, a1, h1, h2, h3⟩ := he a (.val x) h
    obtain ⟨ds, a2, s2, k1, k2, k3, k4⟩ := turns_thread hs ht he its a1 (.val x) h2
    refine ⟨d :: ds, a2, s2, ?_, k2, by rw [List.length_cons, k3, List.length_cons], fun z hz => ?_⟩
    · unfold turns
      rw [hs a s x]
      dsimp only
      rw [ht]
      dsimp only
      rw [h1]
      dsimp only
      rw [k1]
    · rcases List.mem_cons.mp hz with rfl | hz
      · exact h3
      · exact k4 z hz
/-- data that are all of one make -/
theorem all_of {β : Type} {g : β → D} {P : β → Prop} : ∀ {ds : List D}, (∀ d ∈ ds, ∃ b, d = g b ∧ P b) → ∃ bs : List β, ds = bs.map g ∧ ∀ b ∈ bs, P b
  | [], _ => ⟨[], rfl, fun _ z => by cases z⟩
  | d :: ds, h => by
    obtain ⟨b, rfl, hb⟩ := h d List.mem_cons_self
    obtain ⟨bs, rfl, hbs⟩ := all_of fun x hx => h x (List.mem_cons_of_mem _ hx)
    refine ⟨b :: bs, rfl, fun z hz => ?_⟩
    rcases List.mem_cons.mp hz with rfl | hz
    · exact hb
    · exact hbs z hz
end Gn
namespace K24
open PySem SG Gn
theorem cm_eq_int (i j : Int) : cmD .eq (.int i) (.int j) = some (decide (i = j)) := by
  by_cases h : i = j
  · simp [exT, evX, evE, evT, evF, evL, evI, evC, SG.bnd, SG.ok, SG.opt, slotOf, rd, frz, frzs, opD, cmD, b1D, atD, setS, setTg, free, truD, isiD, tyOf, isNon, callD, at0, at1, at2, shp, eqD, D.toP, D.toPs, SeqAt.shaped, PyData.canLay0, PyData.canLayAll0, PyData.depth, PyData.depthAll, PyData.eqv, PyData.eqvAll, h]
  · simp [exT, evX, evE, evT, evF, evL, evI, evC, SG.bnd, SG.ok, SG.opt, slotOf, rd, frz, frzs, opD, cmD, b1D, atD, setS, setTg, free, truD, isiD, tyOf, isNon, callD, at0, at1, at2, shp, eqD, D.toP, D.toPs, SeqAt.shaped, PyData.canLay0, PyData.canLayAll0, PyData.depth, PyData.depthAll, PyData.eqv, PyData.eqvAll, h, show (i == j) = false from beq_eq_false_iff_ne.mpr h]
theorem b1_len_tup (l : List D) : b1D .len (.tup l) = some (.int l.length) := rfl
theorem b1_len_lst (l : List D) : b1D .len (.lst l) = some (.int l.length) := rfl
theorem nought : c_NOUGHT = frD 0 := rfl
theorem one' : c_ONE = frD 1 := rfl
theorem frD_inj {p q : Rat} (h : frD p = frD q) : p = q := by
  unfold frD at h
  simp only [D.tup.injEq, List.cons.injEq, D.int.injEq, and_true] at h
  exact Rat.ext h.1 (by omega)
theorem cm_ne_zero (q : Rat) : cmD .ne (frD q) (frD 0) = some (!decide (q = 0)) := by
  by_cases h : q = 0
  · subst h
    rw [cm_ne_fr]
    rfl
  · rw [decide_eq_false h]
    have hn := num_ne h
    simp [exT, evX, evE, evT, evF, evL, evI, evC, SG.bnd, SG.ok, SG.opt, slotOf, rd, frz, frzs, opD, cmD, b1D, atD, setS, setTg, free, truD, isiD, tyOf, isNon, callD, at0, at1, at2, shp, eqD, D.toP, D.toPs, SeqAt.shaped, PyData.canLay0, PyData.canLayAll0, PyData.depth, PyData.depthAll, PyData.eqv, PyData.eqvAll, frD, hn]
def rwD (r : List Rat) : D := .tup (r.map frD)
def tbD (t : List (List Rat)) : D := .tup (t.map rwD)
/-- in bounds -/
def RB (n : Nat) (r : List Rat) : Prop := ∀ q ∈ r, FB n q
def TB (n : Nat) (t : List (List Rat)) : Prop := ∀ r ∈ t, RB n r
/-- of that size -/
def Siz (h w : Nat) (t : List (List Rat)) : Prop := t.length = h ∧ ∀ r ∈ t, r.length = w
theorem all_tt {β : Type} (qs : List β) : b1D .all (.lst (qs.map fun _ => D.bl true)) = some (.bl true) := by
  show (boolsOf _).map _ = _
  rw [bools_true]
  show some (D.bl ((qs.map fun _ => true).all id)) = _
  rw [all_true]
theorem tup_of {F : FE} {st : List S} {ds : List D} (h : evF F st = some (.ok ds, st)) : evE (.b1 .tup (.fr F)) st = some (.ok (.v (.tup ds)), st) := by
  simp [evE, SG.bnd, SG.ok, SG.opt, rd, b1_tup_lst, h]
theorem ret_tup {F : FE} {r : TL} {st : List S} {ds : List D} (h : evF F st = some (.ok ds, st)) : exL (.cons (.ret (.b1 .tup (.fr F))) r) st = some (.ok (.rt (.tup ds)), st) := by
  refine exL_rt ?_
  simp [exT, evE, SG.bnd, SG.ok, SG.opt, rd, frz, b1_tup_lst, h]
/-! ### what is asked of rows and tables -/
theorem isprow_run (es : List D) {w : Nat} {r : List Rat} (hw : r.length = w) (hl : w ≤ 1000) : f_is_plain_row.run es [.int w, rwD r] = some (.ok (.bl true), []) := by
  rw [fr_is_plain_row]
  have hc := comp_all (e := frD) (f := fun _ => D.bl true) (P := fun _ => True) (i := 2) (it := .seqT (.var 1)) (el := .call f_is_number (.cons (.var 2) .nil)) (st := [.val (.int w), .val (rwD r), .un]) (qs := r) (by simp [evI, evE, SG.bnd, SG.ok, slotOf, rwD]) rfl (by omega)
    (fun q _ => by simp [exT, evX, evE, evT, evL, evC, SG.bnd, SG.ok, SG.opt, slotOf, rd, frz, frzs, frzR, opD, setS, setTg, free, truD, isiD, tyOf, callD, at_fr0, at_fr1, cm_ne_fr, cm_eq_fr, cm_ne_int, cm_gt_int, cm_lt_int, cm_eq_int, cm_ne_str, cm_eq_str, b1_repr, b1_int_bl, b1_tup_lst, b1_int_int, b1_len_tup, b1_len_lst, fl_is_number, isnum_run]) (fun _ _ => trivial)
  refine run0 rfl (s1 := [.val (.int w), .val (rwD r), .un]) ?_ rfl
  unfold p_is_plain_row
  refine exL_rt ?_
  simp only [rwD] at hc ⊢
  simp [exT, evX, evE, evT, evL, evC, SG.bnd, SG.ok, SG.opt, slotOf, rd, frz, frzs, frzR, opD, setS, setTg, free, truD, isiD, tyOf, callD, at_fr0, at_fr1, cm_ne_fr, cm_eq_fr, cm_ne_int, cm_gt_int, cm_lt_int, cm_eq_int, cm_ne_str, cm_eq_str, b1_repr, b1_int_bl, b1_tup_lst, b1_int_int, b1_len_tup, b1_len_lst, hc, all_tt, hw]
end K24
namespace K24
open PySem SG Gn
theorem isptable_run (es : List D) {h w : Nat} {t : List (List Rat)} (ht : Siz h w t) (hl : h ≤ 1000) (hl2 : w ≤ 1000) : f_is_plain_table.run es [.int h, .int w, tbD t] = some (.ok (.bl true), []) := by
  rw [fr_is_plain_table]
  have hc := comp_all (e := rwD) (f := fun _ => D.bl true) (P := fun r => r.length = w) (i := 3) (it := .seqT (.var 2)) (el := .call f_is_plain_row (.cons (.var 1) (.cons (.var 3) .nil))) (st := [.val (.int h), .val (.int w), .val (tbD t), .un]) (qs := t) (by simp [evI, evE, SG.bnd, SG.ok, slotOf, tbD]) rfl (by have := ht.1; omega)
    (fun r hr => by simp [exT, evX, evE, evT, evL, evC, SG.bnd, SG.ok, SG.opt, slotOf, rd, frz, frzs, frzR, opD, setS, setTg, free, truD, isiD, tyOf, callD, at_fr0, at_fr1, cm_ne_fr, cm_eq_fr, cm_ne_int, cm_gt_int, cm_lt_int, cm_eq_int, cm_ne_str, cm_eq_str, b1_repr, b1_int_bl, b1_tup_lst, b1_int_int, b1_len_tup, b1_len_lst, fl_is_plain_row, isprow_run [] hr hl2]) ht.2
  refine run0 rfl (s1 := [.val (.int h), .val (.int w), .val (tbD t), .un]) ?_ rfl
  unfold p_is_plain_table
  refine exL_rt ?_
  simp only [tbD] at hc ⊢
  simp [exT, evX, evE, evT, evL, evC, SG.bnd, SG.ok, SG.opt, slotOf, rd, frz, frzs, frzR, opD, setS, setTg, free, truD, isiD, tyOf, callD, at_fr0, at_fr1, cm_ne_fr, cm_eq_fr, cm_ne_int, cm_gt_int, cm_lt_int, cm_eq_int, cm_ne_str, cm_eq_str, b1_repr, b1_int_bl, b1_tup_lst, b1_int_int, b1_len_tup, b1_len_lst, hc, all_tt, ht.1]
theorem reqcount3_run (es : List D) {n : Nat} (h : n ≤ 144) : f_require_count.run es [.int n, .int 0, .int 144] = some (.ok .non, []) := by
  simp only [fr_require_count]
  rw [show ([D.int n, D.int 0, D.int 144] ++ List.drop 2 dfl_require_count) = [D.int n, D.int 0, D.int 144] from rfl]
  refine runN rfl (s1 := [.val (.int n), .val (.int 0), .val (.int 144)]) ?_ rfl
  unfold p_require_count
  have h0 : (0 : Int) ≤ n := by omega
  have h1 : (n : Int) ≤ 144 := by omega
  rw [exL_nx (s1 := [.val (.int n), .val (.int 0), .val (.int 144)]) (by rw [exT_if (k := false) (s1 := [.val (.int n), .val (.int 0), .val (.int 144)]) (by simp [exT, evX, evE, evT, evF, evL, evI, evC, SG.bnd, SG.ok, SG.opt, slotOf, rd, frz, frzs, opD, cmD, b1D, atD, setS, setTg, free, truD, isiD, tyOf, isNon, callD, at0, at1, at2, fl_is_integer, isint_run, h0, h1])]; simp [exL, exT, evX, evE, evT, evF, evL, evI, evC, SG.bnd, SG.ok, SG.opt, slotOf, rd, frz, frzs, opD, cmD, b1D, atD, setS, setTg, free, truD, isiD, tyOf, isNon, callD, at0, at1, at2]), exL_nil]
theorem reqwidth_run (es : List D) {n : Nat} (h : n ≤ 144) : f_require_width.run es [.int n] = some (.ok .non, []) := by
  rw [fr_require_width]
  refine runN rfl (s1 := [.val (.int n)]) ?_ rfl
  unfold p_require_width
  rw [exL_nx (s1 := [.val (.int n)]) (by simp [exT, evX, evE, evT, evF, evL, evI, evC, SG.bnd, SG.ok, SG.opt, slotOf, rd, frz, frzs, opD, cmD, b1D, atD, setS, setTg, free, truD, isiD, tyOf, isNon, callD, at0, at1, at2, fl_require_count, c_MAX_WIDTH, reqcount3_run [] h]), exL_nil]
theorem reqrow_run (es : List D) {w : Nat} {r : List Rat} (hw : r.length = w) (hl : w ≤ 1000) : f_require_row.run es [.int w, rwD r] = some (.ok .non, []) := by
  rw [fr_require_row]
  refine runN rfl (s1 := [.val (.int w), .val (rwD r)]) ?_ rfl
  unfold p_require_row
  rw [exL_nx (s1 := [.val (.int w), .val (rwD r)]) (by rw [exT_if (k := false) (s1 := [.val (.int w), .val (rwD r)]) (by simp [exT, evX, evE, evT, evF, evL, evI, evC, SG.bnd, SG.ok, SG.opt, slotOf, rd, frz, frzs, opD, cmD, b1D, atD, setS, setTg, free, truD, isiD, tyOf, isNon, callD, at0, at1, at2, fl_is_plain_row, isprow_run [] hw hl])]; simp [exL, exT, evX, evE, evT, evF, evL, evI, evC, SG.bnd, SG.ok, SG.opt, slotOf, rd, frz, frzs, opD, cmD, b1D, atD, setS, setTg, free, truD, isiD, tyOf, isNon, callD, at0, at1, at2]), exL_nil]
theorem reqtable_run (es : List D) {h w : Nat} {t : List (List Rat)} (ht : Siz h w t) (hl : h ≤ 1000) (hl2 : w ≤ 1000) : f_require_table.run es [.int h, .int w, tbD t] = some (.ok .non, []) := by
  rw [fr_require_table]
  refine runN rfl (s1 := [.val (.int h), .val (.int w), .val (tbD t)]) ?_ rfl
  unfold p_require_table
  rw [exL_nx (s1 := [.val (.int h), .val (.int w), .val (tbD t)]) (by rw [exT_if (k := false) (s1 := [.val (.int h), .val (.int w), .val (tbD t)]) (by simp [exT, evX, evE, evT, evF, evL, evI, evC, SG.bnd, SG.ok, SG.opt, slotOf, rd, frz, frzs, opD, cmD, b1D, atD, setS, setTg, free, truD, isiD, tyOf, isNon, callD, at0, at1, at2, fl_is_plain_table, isptable_run [] ht hl hl2])]; simp [exL, exT, evX, evE, evT, evF, evL, evI, evC, SG.bnd, SG.ok, SG.opt, slotOf, rd, frz, frzs, opD, cmD, b1D, atD, setS, setTg, free, truD, isiD, tyOf, isNon, callD, at0, at1, at2]), exL_nil]
theorem reqsized_run (es : List D) {h w : Nat} {t : List (List Rat)} (ht : Siz h w t) (hl : h ≤ 144) (hl2 : w ≤ 144) : f_require_sized.run es [.int h, .int w, tbD t] = some (.ok .non, []) := by
  rw [fr_require_sized]
  refine runN rfl (s1 := [.val (.int h), .val (.int w), .val (tbD t)]) ?_ rfl
  unfold p_require_sized
  rw [exL_nx (s1 := [.val (.int h), .val (.int w), .val (tbD t)]) (by simp [exT, evX, evE, evT, evF, evL, evI, evC, SG.bnd, SG.ok, SG.opt, slotOf, rd, frz, frzs, opD, cmD, b1D, atD, setS, setTg, free, truD, isiD, tyOf, isNon, callD, at0, at1, at2, fl_require_width, reqwidth_run [] hl]), exL_nx (s1 := [.val (.int h), .val (.int w), .val (tbD t)]) (by simp [exT, evX, evE, evT, evF, evL, evI, evC, SG.bnd, SG.ok, SG.opt, slotOf, rd, frz, frzs, opD, cmD, b1D, atD, setS, setTg, free, truD, isiD, tyOf, isNon, callD, at0, at1, at2, fl_require_width, reqwidth_run [] hl2]),
    exL_nx (s1 := [.val (.int h), .val (.int w), .val (tbD t)]) (by simp [exT, evX, evE, evT, evF, evL, evI, evC, SG.bnd, SG.ok, SG.opt, slotOf, rd, frz, frzs, opD, cmD, b1D, atD, setS, setTg, free, truD, isiD, tyOf, isNon, callD, at0, at1, at2, fl_require_table, reqtable_run [] ht (by omega) (by omega)]), exL_nil]
/-! ### rows -/
theorem rest_run (es : List D) {w : Nat} (hw : w ≤ 1000) : f_rest_row.run es [.int w] = some (.ok (rwD (List.replicate w 0)), []) := by
  rw [fr_rest_row]
  refine run0 rfl (s1 := [.val (.int w)]) ?_ rfl
  unfold p_rest_row
  have e1 : (List.replicate w [frD 0]).flatten = (List.replicate w (0 : Rat)).map frD := by
    induction w with
    | zero => rfl
    | succ n ih => rw [List.replicate_succ, List.flatten_cons, ih (by omega)]; rfl
  have e2 : (w : Int) ≤ 1000 := by omega
  exact exL_rt (by simp [exT, evX, evE, evT, evF, evL, evI, evC, SG.bnd, SG.ok, SG.opt, slotOf, rd, frz, frzs, opD, cmD, b1D, atD, setS, setTg, free, truD, isiD, tyOf, isNon, callD, at0, at1, at2, nought, rwD, e2, e1])
def unitR (w i : Nat) : List Rat := (List.range w).map fun k => if k = i then 1 else 0
def unitT (w : Nat) : List (List Rat) := (List.range w).map (unitR w)
theorem rngN (n : Nat) : rngD 0 (n : Int).toNat = (List.range n).map fun (i : Nat) => D.int i := by
  unfold rngD
  rw [Int.toNat_natCast]
  exact List.map_congr_left fun i _ => by rw [Int.zero_add]
theorem rng_ev {st : List S} {a : E} {w : Nat} (h : evE a st = some (.ok (.v (.int w)), st)) (hw : w ≤ 100000) : evI (.rng1 a) st = some (.ok ((List.range w).map fun (i : Nat) => D.int i), st) := by
  rw [evI.eq_1, h]
  show (if (-100000 : Int) ≤ (w : Int) ∧ (w : Int) ≤ 100000 then SG.ok (rngD 0 (w : Int).toNat) st else none) = _
  rw [if_pos (by omega), rngN]
  rfl
theorem unitrow_run (es : List D) {w i : Nat} (hw : w ≤ 1000) : f_unit_row.run es [.int w, .int i] = some (.ok (rwD (unitR w i)), []) := by
  rw [fr_unit_row]
  refine run0 rfl (s1 := [.val (.int w), .val (.int i), .un]) ?_ rfl
  unfold p_unit_row
  have hc := comp_all (e := fun k : Nat => D.int k) (f := fun k => frD (if k = i then 1 else 0)) (P := fun _ => True) (i := 2) (it := .rng1 (.var 0)) (el := .ite (.cmp .eq (.var 2) (.var 1)) (.glb "ONE" c_ONE) (.glb "NOUGHT" c_NOUGHT)) (st := [.val (.int w), .val (.int i), .un]) (qs := List.range w)
    (rng_ev (by simp [evE, slotOf, SG.ok]) (by omega)) rfl (by rw [List.length_range]; omega) (fun k _ => by
      by_cases h : k = i
      · simp [exT, evX, evE, evT, evL, evC, SG.bnd, SG.ok, SG.opt, slotOf, rd, frz, frzs, frzR, opD, setS, setTg, free, truD, isiD, tyOf, callD, at_fr0, at_fr1, cm_ne_fr, cm_eq_fr, cm_ne_int, cm_gt_int, cm_lt_int, cm_eq_int, cm_ne_str, cm_eq_str, b1_repr, b1_int_bl, b1_tup_lst, b1_int_int, b1_len_tup, b1_len_lst, one', nought, h]
      · have h' : ¬ (k : Int) = i := by omega
        simp [exT, evX, evE, evT, evL, evC, SG.bnd, SG.ok, SG.opt, slotOf, rd, frz, frzs, frzR, opD, setS, setTg, free, truD, isiD, tyOf, callD, at_fr0, at_fr1, cm_ne_fr, cm_eq_fr, cm_ne_int, cm_gt_int, cm_lt_int, cm_eq_int, cm_ne_str, cm_eq_str, b1_repr, b1_int_bl, b1_tup_lst, b1_int_int, b1_len_tup, b1_len_lst, one', nought, h, h']) (fun _ _ => trivial)
  refine (ret_tup hc).trans ?_
  unfold rwD unitR
  rw [List.map_map]
  rfl
theorem unittable_run (es : List D) {w : Nat} (hw : w ≤ 1000) : f_unit_table.run es [.int w] = some (.ok (tbD (unitT w)), []) := by
  rw [fr_unit_table]
  refine run0 rfl (s1 := [.val (.int w), .un]) ?_ rfl
  unfold p_unit_table
  have hc := comp_all (e := fun k : Nat => D.int k) (f := fun k => rwD (unitR w k)) (P := fun _ => True) (i := 1) (it := .rng1 (.var 0)) (el := .call f_unit_row (.cons (.var 0) (.cons (.var 1) .nil))) (st := [.val (.int w), .un]) (qs := List.range w)
    (rng_ev (by simp [evE, slotOf, SG.ok]) (by omega)) rfl (by rw [List.length_range]; omega) (fun k _ => by simp [exT, evX, evE, evT, evL, evC, SG.bnd, SG.ok, SG.opt, slotOf, rd, frz, frzs, frzR, opD, setS, setTg, free, truD, isiD, tyOf, callD, at_fr0, at_fr1, cm_ne_fr, cm_eq_fr, cm_ne_int, cm_gt_int, cm_lt_int, cm_eq_int, cm_ne_str, cm_eq_str, b1_repr, b1_int_bl, b1_tup_lst, b1_int_int, b1_len_tup, b1_len_lst, fl_unit_row, unitrow_run [] hw]) (fun _ _ => trivial)
  refine (ret_tup hc).trans ?_
  unfold tbD unitT
  rw [List.map_map]
  rfl
/-- pairs of rows -/
theorem pairs_zip {α β : Type} (f : α → D) (g : β → D) : ∀ (l : List α) (m : List β), pairs (l.map f) (m.map g) = (l.zip m).map fun p => D.tup [f p.1, g p.2]
  | [], _ => by cases ‹List β› <;> rfl
  | _ :: _, [] => rfl
  | x :: l, y :: m => congrArg (D.tup [f x, g y] :: ·) (pairs_zip f g l m)
theorem zip_ev {α β : Type} {f : α → D} {g : β → D} {st : List S} {a b : E} {l : List α} {m : List β} (h : evE a st = some (.ok (.v (.tup (l.map f))), st)) (h2 : evE b st = some (.ok (.v (.tup (m.map g))), st)) (hl : l.length = m.length) :
    evI (.zipT a b) st = some (.ok ((l.zip m).map fun p => D.tup [f p.1, g p.2]), st) := by
  rw [evI.eq_5, h]
  show SG.bnd (evE b st) _ = _
  rw [h2]
  show (if (l.map f).length = (m.map g).length then SG.ok (pairs (l.map f) (m.map g)) st else none) = _
  rw [if_pos (by rw [List.length_map, List.length_map, hl]), pairs_zip]
  rfl
def addR (a b : List Rat) : List Rat := (a.zip b).map fun p => p.1 + p.2
def scR (q : Rat) (r : List Rat) : List Rat := r.map fun x => q * x
theorem zip_mem {α β : Type} {P : α → Prop} {Q : β → Prop} {l : List α} {m : List β} (h : ∀ x ∈ l, P x) (k : ∀ y ∈ m, Q y) : ∀ p ∈ l.zip m, P p.1 ∧ Q p.2 := fun p hp => ⟨h _ (List.of_mem_zip hp).1, k _ (List.of_mem_zip hp).2⟩
theorem sumrows_run (es : List D) {a b : List Rat} {n : Nat} (ha : RB n a) (hb : RB n b) (hn : n ≤ 3000) (hl : a.length = b.length) (h1 : a.length ≤ 1000) : f_sum_of_rows.run es [rwD a, rwD b] = some (.ok (rwD (addR a b)), []) := by
  rw [fr_sum_of_rows]
  refine run0 rfl (s1 := [.val (rwD a), .val (rwD b), .un, .un]) ?_ rfl
  unfold p_sum_of_rows
  have hc := comp_all2 (e := fun p : Rat × Rat => D.tup [frD p.1, frD p.2]) (a := fun p => frD p.1) (b := fun p => frD p.2) (f := fun p => frD (p.1 + p.2)) (P := fun p => FB n p.1 ∧ FB n p.2) (i := 2) (j := 3) (it := .zipT (.var 0) (.var 1)) (el := .call f_added (.cons (.var 2) (.cons (.var 3) .nil))) (st := [.val (rwD a), .val (rwD b), .un, .un]) (qs := a.zip b)
    (zip_ev (by simp [evE, slotOf, SG.ok, rwD]) (by simp [evE, slotOf, SG.ok, rwD]) hl) rfl rfl (by decide) (by rw [List.length_zip]; omega) (fun _ => rfl) (fun p hp => by simp [exT, evX, evE, evT, evL, evC, SG.bnd, SG.ok, SG.opt, slotOf, rd, frz, frzs, frzR, opD, setS, setTg, free, truD, isiD, tyOf, callD, at_fr0, at_fr1, cm_ne_fr, cm_eq_fr, cm_ne_int, cm_gt_int, cm_lt_int, cm_eq_int, cm_ne_str, cm_eq_str, b1_repr, b1_int_bl, b1_tup_lst, b1_int_int, b1_len_tup, b1_len_lst, fl_added, added_run [] (hp.1.mono hn) (hp.2.mono hn)]) (zip_mem ha hb) rfl rfl
  refine (ret_tup hc).trans ?_
  unfold rwD addR
  rw [List.map_map]
  rfl
theorem timesrow_run (es : List D) {q : Rat} {r : List Rat} {n : Nat} (hq : FB n q) (hr : RB n r) (hn : n ≤ 3000) (h1 : r.length ≤ 1000) : f_times_row.run es [frD q, rwD r] = some (.ok (rwD (scR q r)), []) := by
  rw [fr_times_row]
  refine run0 rfl (s1 := [.val (frD q), .val (rwD r), .un]) ?_ rfl
  unfold p_times_row
  have hc := comp_all (e := frD) (f := fun x => frD (q * x)) (P := FB n) (i := 2) (it := .seqT (.var 1)) (el := .ite (.cmp .ne (.var 2) (.glb "NOUGHT" c_NOUGHT)) (.call f_multiplied (.cons (.var 0) (.cons (.var 2) .nil))) (.glb "NOUGHT" c_NOUGHT)) (st := [.val (frD q), .val (rwD r), .un]) (qs := r)
    (by simp [evI, evE, SG.bnd, SG.ok, slotOf, rwD]) rfl (by omega) (fun x hx => by
      by_cases h : x = 0
      · subst h
        simp [exT, evX, evE, evT, evL, evC, SG.bnd, SG.ok, SG.opt, slotOf, rd, frz, frzs, frzR, opD, setS, setTg, free, truD, isiD, tyOf, callD, at_fr0, at_fr1, cm_ne_fr, cm_eq_fr, cm_ne_int, cm_gt_int, cm_lt_int, cm_eq_int, cm_ne_str, cm_eq_str, b1_repr, b1_int_bl, b1_tup_lst, b1_int_int, b1_len_tup, b1_len_lst, nought]
      · simp [exT, evX, evE, evT, evL, evC, SG.bnd, SG.ok, SG.opt, slotOf, rd, frz, frzs, frzR, opD, setS, setTg, free, truD, isiD, tyOf, callD, at_fr0, at_fr1, cm_ne_fr, cm_eq_fr, cm_ne_int, cm_gt_int, cm_lt_int, cm_eq_int, cm_ne_str, cm_eq_str, b1_repr, b1_int_bl, b1_tup_lst, b1_int_int, b1_len_tup, b1_len_lst, nought, cm_ne_zero, h, fl_multiplied, multiplied_run [] (hq.mono hn) (hx.mono hn)]) hr
  refine (ret_tup hc).trans ?_
  unfold rwD scR
  rw [List.map_map]
  rfl
def dotQ (a b : List Rat) : Rat := (a.zip b).foldl (fun s p => s + p.1 * p.2) 0
theorem FBzero : FB 1 0 := by unfold FB Bd; exact ⟨by decide +kernel, by decide +kernel⟩
/-- how far a sum of products reaches -/
theorem dot_bd {n : Nat} : ∀ (l : List (Rat × Rat)) (m : Nat) (s : Rat), FB m s → (∀ p ∈ l, FB n p.1 ∧ FB n p.2) → FB (m + l.length * (2 * n + 1)) (l.foldl (fun s p => s + p.1 * p.2) s)
  | [], m, s, h, _ => h.mono (by simp)
  | p :: l, m, s, h, hp => by
    have h2 := hp p List.mem_cons_self
    have := dot_bd l _ _ (h.add (h2.1.mul h2.2)) fun q hq => hp q (List.mem_cons_of_mem _ hq)
    refine this.mono ?_
    rw [List.length_cons, Nat.add_mul]
    omega
theorem product_run (es : List D) {a b : List Rat} {n : Nat} (ha : RB n a) (hb : RB n b) (hl : a.length = b.length) (h1 : a.length ≤ 10) (hn : n ≤ 100) : f_product_of.run es [rwD a, rwD b] = some (.ok (frD (dotQ a b)), []) := by
  rw [fr_product_of]
  obtain ⟨_, ⟨st', e1, e2⟩, _⟩ := fold_for (e := fun p : Rat × Rat => D.tup [frD p.1, frD p.2]) (P := fun p => FB n p.1 ∧ FB n p.2) (tg := .two 3 4) (mk := fun s p => [.val (rwD a), .val (rwD b), .val (frD s), .val (frD p.1), .val (frD p.2)]) (m0 := fun s => [.val (rwD a), .val (rwD b), .val (frD s), .un, .un])
    (body := fun s => exL (.cons (.ife (.and (.cmp .ne (.var 3) (.glb "NOUGHT" c_NOUGHT)) (.cmp .ne (.var 4) (.glb "NOUGHT" c_NOUGHT))) (.cons (.asg 2 (.e (.call f_added (.cons (.var 2) (.cons (.call f_multiplied (.cons (.var 3) (.cons (.var 4) .nil))) .nil))))) .nil) (.nil)) .nil) s)
    (op := fun s p => s + p.1 * p.2) (ok' := fun k s => FB (1 + k * (2 * n + 1)) s) (N := 10) (fun s p => by simp [setTg, free]) (fun s y p => by simp [setTg, free]) (fun k s p hk hs hp => ⟨by
      have bk : 1 + k * (2 * n + 1) ≤ 3000 := by
        have : k * (2 * n + 1) ≤ 9 * 201 := Nat.mul_le_mul (by omega) (by omega)
        omega
      by_cases z1 : p.1 = 0
      · rw [exL_nx (s1 := [.val (rwD a), .val (rwD b), .val (frD s), .val (frD p.1), .val (frD p.2)]) (by
          rw [exT_if (k := false) (s1 := [.val (rwD a), .val (rwD b), .val (frD s), .val (frD p.1), .val (frD p.2)]) (by simp [exT, evX, evE, evT, evL, evC, SG.bnd, SG.ok, SG.opt, slotOf, rd, frz, frzs, frzR, opD, setS, setTg, free, truD, isiD, tyOf, callD, at_fr0, at_fr1, cm_ne_fr, cm_eq_fr, cm_ne_int, cm_gt_int, cm_lt_int, cm_eq_int, cm_ne_str, cm_eq_str, b1_repr, b1_int_bl, b1_tup_lst, b1_int_int, b1_len_tup, b1_len_lst, nought, cm_ne_zero, z1])]
          simp [exL, SG.ok]), exL_nil, z1, Rat.zero_mul, Rat.add_zero]
        rfl
      · by_cases z2 : p.2 = 0
        · rw [exL_nx (s1 := [.val (rwD a), .val (rwD b), .val (frD s), .val (frD p.1), .val (frD p.2)]) (by
            rw [exT_if (k := false) (s1 := [.val (rwD a), .val (rwD b), .val (frD s), .val (frD p.1), .val (frD p.2)]) (by simp [exT, evX, evE, evT, evL, evC, SG.bnd, SG.ok, SG.opt, slotOf, rd, frz, frzs, frzR, opD, setS, setTg, free, truD, isiD, tyOf, callD, at_fr0, at_fr1, cm_ne_fr, cm_eq_fr, cm_ne_int, cm_gt_int, cm_lt_int, cm_eq_int, cm_ne_str, cm_eq_str, b1_repr, b1_int_bl, b1_tup_lst, b1_int_int, b1_len_tup, b1_len_lst, nought, cm_ne_zero, z1, z2])]
            simp [exL, SG.ok]), exL_nil, z2, Rat.mul_zero, Rat.add_zero]
          rfl
        · rw [exL_nx (s1 := [.val (rwD a), .val (rwD b), .val (frD (s + p.1 * p.2)), .val (frD p.1), .val (frD p.2)]) (by
            rw [exT_if (k := true) (s1 := [.val (rwD a), .val (rwD b), .val (frD s), .val (frD p.1), .val (frD p.2)]) (by simp [exT, evX, evE, evT, evL, evC, SG.bnd, SG.ok, SG.opt, slotOf, rd, frz, frzs, frzR, opD, setS, setTg, free, truD, isiD, tyOf, callD, at_fr0, at_fr1, cm_ne_fr, cm_eq_fr, cm_ne_int, cm_gt_int, cm_lt_int, cm_eq_int, cm_ne_str, cm_eq_str, b1_repr, b1_int_bl, b1_tup_lst, b1_int_int, b1_len_tup, b1_len_lst, nought, cm_ne_zero, z1, z2]), if_pos rfl,
              exL_nx (s1 := [.val (rwD a), .val (rwD b), .val (frD (s + p.1 * p.2)), .val (frD p.1), .val (frD p.2)]) (by
                simp [exT, evX, evE, evT, evL, evC, SG.bnd, SG.ok, SG.opt, slotOf, rd, frz, frzs, frzR, opD, setS, setTg, free, truD, isiD, tyOf, callD, at_fr0, at_fr1, cm_ne_fr, cm_eq_fr, cm_ne_int, cm_gt_int, cm_lt_int, cm_eq_int, cm_ne_str, cm_eq_str, b1_repr, b1_int_bl, b1_tup_lst, b1_int_int, b1_len_tup, b1_len_lst, fl_added, fl_multiplied, multiplied_run [] (hp.1.mono (show n ≤ 3000 by omega)) (hp.2.mono (show n ≤ 3000 by omega)), added_run [] (hs.mono bk) ((hp.1.mul hp.2).mono (show n + n ≤ 3000 by omega))]), exL_nil]), exL_nil]
          rfl, (hs.add (hp.1.mul hp.2)).mono (by rw [Nat.add_mul]; omega)⟩) (a.zip b) 0 0 (by rw [List.length_zip]; omega) (FBzero.mono (by omega)) (zip_mem ha hb)
  have a0 : exL p_product_of [.val (rwD a), .val (rwD b), .un, .un, .un] = exL (.cons (.ret (.var 2)) .nil) st' := by
    unfold p_product_of
    rw [exL_nx (s1 := [.val (rwD a), .val (rwD b), .val (frD 0), .un, .un]) (by simp [exT, evX, evE, evT, evL, evC, SG.bnd, SG.ok, SG.opt, slotOf, rd, frz, frzs, frzR, opD, setS, setTg, free, truD, isiD, tyOf, callD, at_fr0, at_fr1, cm_ne_fr, cm_eq_fr, cm_ne_int, cm_gt_int, cm_lt_int, cm_eq_int, cm_ne_str, cm_eq_str, b1_repr, b1_int_bl, b1_tup_lst, b1_int_int, b1_len_tup, b1_len_lst, nought]), exL_nx (s1 := st') (by
      rw [exT_for (items := (a.zip b).map fun p => D.tup [frD p.1, frD p.2]) (s1 := [.val (rwD a), .val (rwD b), .val (frD 0), .un, .un]) (zip_ev (by simp [evE, slotOf, SG.ok, rwD]) (by simp [evE, slotOf, SG.ok, rwD]) hl) (by rw [List.length_map, List.length_zip]; omega)]
      exact e1)]
  rcases e2 with rfl | ⟨y, rfl⟩
  · exact run0 rfl (s1 := [.val (rwD a), .val (rwD b), .val (frD (dotQ a b)), .un, .un]) (a0.trans (exL_rt (by simp [exT, evX, evE, evT, evL, evC, SG.bnd, SG.ok, SG.opt, slotOf, rd, frz, frzs, frzR, opD, setS, setTg, free, truD, isiD, tyOf, callD, at_fr0, at_fr1, cm_ne_fr, cm_eq_fr, cm_ne_int, cm_gt_int, cm_lt_int, cm_eq_int, cm_ne_str, cm_eq_str, b1_repr, b1_int_bl, b1_tup_lst, b1_int_int, b1_len_tup, b1_len_lst]; rfl))) rfl
  · exact run0 rfl (s1 := [.val (rwD a), .val (rwD b), .val (frD (dotQ a b)), .val (frD y.1), .val (frD y.2)]) (a0.trans (exL_rt (by simp [exT, evX, evE, evT, evL, evC, SG.bnd, SG.ok, SG.opt, slotOf, rd, frz, frzs, frzR, opD, setS, setTg, free, truD, isiD, tyOf, callD, at_fr0, at_fr1, cm_ne_fr, cm_eq_fr, cm_ne_int, cm_gt_int, cm_lt_int, cm_eq_int, cm_ne_str, cm_eq_str, b1_repr, b1_int_bl, b1_tup_lst, b1_int_int, b1_len_tup, b1_len_lst]; rfl))) rfl
end K24
namespace K24
open PySem SG Gn
/-! ### rows and tables of numbers: the mathematics -/
theorem dot_nil (b : List Rat) : dotQ [] b = 0 := rfl
theorem dot_acc (l : List (Rat × Rat)) : ∀ s : Rat, l.foldl (fun s p => s + p.1 * p.2) s = s + l.foldl (fun s p => s + p.1 * p.2) 0 := by
  induction l with
  | nil => intro s; exact (Rat.add_zero s).symm
  | cons p l ih =>
    intro s
    show l.foldl _ (s + p.1 * p.2) = s + l.foldl _ (0 + p.1 * p.2)
    rw [ih (s + p.1 * p.2), ih (0 + p.1 * p.2), Rat.zero_add, Rat.add_assoc]
theorem dot_cons (x y : Rat) (a b : List Rat) : dotQ (x :: a) (y :: b) = x * y + dotQ a b := by
  show (a.zip b).foldl (fun s p => s + p.1 * p.2) (0 + x * y) = _
  rw [dot_acc, Rat.zero_add]
  rfl
theorem dot_comm : ∀ a b : List Rat, dotQ a b = dotQ b a
  | [], [] => rfl
  | [], _ :: _ => rfl
  | _ :: _, [] => rfl
  | x :: a, y :: b => by rw [dot_cons, dot_cons, dot_comm a b, Rat.mul_comm]
theorem addR_cons (x y : Rat) (a b : List Rat) : addR (x :: a) (y :: b) = (x + y) :: addR a b := rfl
theorem addR_len {a b : List Rat} (h : a.length = b.length) : (addR a b).length = a.length := by
  unfold addR
  rw [List.length_map, List.length_zip, h, Nat.min_self]
theorem scR_len (q : Rat) (r : List Rat) : (scR q r).length = r.length := List.length_map _
theorem dot_step : ∀ (a b c : List Rat) (q : Rat), a.length = b.length → dotQ (addR a (scR q b)) c = dotQ a c + q * dotQ b c
  | [], [], c, q, _ => by
    show dotQ [] c = dotQ [] c + q * dotQ [] c
    rw [dot_nil, Rat.mul_zero, Rat.add_zero]
  | x :: a, y :: b, [], q, _ => by
    rw [dot_comm _ [], dot_comm _ [], dot_comm _ [], dot_nil, dot_nil, dot_nil, Rat.mul_zero, Rat.add_zero]
  | x :: a, y :: b, z :: c, q, h => by
    show dotQ ((x + q * y) :: addR a (scR q b)) (z :: c) = _
    rw [dot_cons, dot_cons, dot_cons, dot_step a b c q (by simpa using h), Rat.add_mul, Rat.mul_add, Rat.mul_assoc]
    rw [Rat.add_assoc, Rat.add_assoc]
    congr 1
    rw [← Rat.add_assoc, ← Rat.add_assoc, Rat.add_comm (q * (y * z))]
  | [], _ :: _, _, _, h => by cases h
  | _ :: _, [], _, _, h => by cases h
theorem dot_zeros : ∀ (n : Nat) (c : List Rat), dotQ (List.replicate n 0) c = 0
  | 0, c => rfl
  | n + 1, [] => rfl
  | n + 1, z :: c => by rw [List.replicate_succ, dot_cons, dot_zeros n c, Rat.zero_mul, Rat.add_zero]
/-- a row led by a table -/
def toldR (w : Nat) (t : List (List Rat)) (v : List Rat) : List Rat := (v.zip t).foldl (fun f p => addR f (scR p.1 p.2)) (List.replicate w 0)
def colsR (t : List (List Rat)) (w : Nat) : List (List Rat) := (List.range w).map fun i => t.map fun l => l.getD i 0
def behR (a b : List (List Rat)) (w : Nat) : List (List Rat) := a.map (toldR w b)
def ledR (t : List (List Rat)) (r : List Rat) : List Rat := t.map (dotQ r)
theorem told_len {w : Nat} : ∀ (l : List (Rat × List Rat)) (f : List Rat), f.length = w → (∀ p ∈ l, p.2.length = w) → (l.foldl (fun f p => addR f (scR p.1 p.2)) f).length = w
  | [], f, h, _ => h
  | p :: l, f, h, hp => told_len l _ (by rw [addR_len (by rw [scR_len, h, hp p List.mem_cons_self]), h]) fun q hq => hp q (List.mem_cons_of_mem _ hq)
theorem told_dot {w : Nat} (c : List Rat) : ∀ (l : List (Rat × List Rat)) (f : List Rat), f.length = w → (∀ p ∈ l, p.2.length = w) → dotQ (l.foldl (fun f p => addR f (scR p.1 p.2)) f) c = l.foldl (fun s p => s + p.1 * dotQ p.2 c) (dotQ f c)
  | [], f, _, _ => rfl
  | p :: l, f, h, hp => by
    have h2 := hp p List.mem_cons_self
    show dotQ (l.foldl _ (addR f (scR p.1 p.2))) c = l.foldl _ (dotQ f c + p.1 * dotQ p.2 c)
    rw [told_dot c l _ (by rw [addR_len (by rw [scR_len, h, h2]), h]) (fun q hq => hp q (List.mem_cons_of_mem _ hq)), dot_step f p.2 c p.1 (by rw [h, h2])]
theorem zip_snd {w : Nat} {t : List (List Rat)} (h : ∀ r ∈ t, r.length = w) (v : List Rat) : ∀ p ∈ v.zip t, p.2.length = w := fun p hp => h _ (List.of_mem_zip hp).2
theorem told_len' {w : Nat} {t : List (List Rat)} (h : ∀ r ∈ t, r.length = w) (v : List Rat) : (toldR w t v).length = w := told_len _ _ (List.length_replicate ..) (zip_snd h v)
theorem told_dotQ {w : Nat} {t : List (List Rat)} (h : ∀ r ∈ t, r.length = w) (v c : List Rat) : dotQ (toldR w t v) c = dotQ v (t.map fun l => dotQ l c) := by
  unfold toldR
  rw [told_dot c _ _ (List.length_replicate ..) (zip_snd h v), dot_zeros]
  unfold dotQ
  rw [List.zip_map_right, List.foldl_map]
  rfl
/-- unit rows -/
theorem dot_unit_from : ∀ (c : List Rat) (s i : Nat), dotQ ((List.range' s c.length).map fun k => if k = i then (1 : Rat) else 0) c = if s ≤ i then c.getD (i - s) 0 else 0
  | [], s, i => by
    rw [show dotQ _ [] = 0 from by rw [dot_comm]; rfl]
    split <;> rfl
  | x :: c, s, i => by
    rw [List.length_cons, List.range'_succ, List.map_cons, dot_cons, dot_unit_from c (s + 1) i]
    by_cases h : s = i
    · subst h
      rw [if_pos rfl, if_neg (by omega), if_pos (Nat.le_refl _), Nat.sub_self, Rat.one_mul, Rat.add_zero]
      rfl
    · rw [if_neg h, Rat.zero_mul, Rat.zero_add]
      by_cases h2 : s ≤ i
      · rw [if_pos (by omega), if_pos h2, show i - s = (i - (s + 1)) + 1 from by omega]
        rfl
      · rw [if_neg (by omega), if_neg h2]
theorem dot_unit {n i : Nat} {c : List Rat} (h : c.length = n) : dotQ (unitR n i) c = c.getD i 0 := by
  unfold unitR
  subst h
  rw [List.range_eq_range']
  have := dot_unit_from c 0 i
  rw [if_pos (Nat.zero_le _)] at this
  exact this
theorem map_getD {α : Type} {l : List α} {n : Nat} {d : α} (h : l.length = n) : (List.range n).map (fun i => l.getD i d) = l := by
  refine List.ext_getElem (by rw [List.length_map, List.length_range, h]) fun i h1 h2 => ?_
  rw [List.getElem_map, List.getElem_range]
  exact List.getElem_eq_getD d |>.symm
theorem row_eq {a b : List Rat} {w : Nat} (ha : a.length = w) (hb : b.length = w) (h : ∀ i, a.getD i 0 = b.getD i 0) : a = b := by
  rw [← map_getD (d := (0 : Rat)) ha, ← map_getD (d := (0 : Rat)) hb]
  exact List.map_congr_left fun i _ => h i
theorem getD_dot {a : List Rat} {w : Nat} (h : a.length = w) (i : Nat) : a.getD i 0 = dotQ a (unitR w i) := by rw [dot_comm, dot_unit h]
theorem row_dot {a b : List Rat} {w : Nat} (ha : a.length = w) (hb : b.length = w) (h : ∀ c, dotQ a c = dotQ b c) : a = b := row_eq ha hb fun i => by rw [getD_dot ha, getD_dot hb, h]
/-- by columns -/
theorem told_cols {w : Nat} {t : List (List Rat)} (h : ∀ r ∈ t, r.length = w) (v : List Rat) : toldR w t v = (colsR t w).map (dotQ v) := by
  unfold colsR
  rw [List.map_map]
  refine row_eq (told_len' h v) (by rw [List.length_map, List.length_range]) fun i => ?_
  rw [getD_dot (told_len' h v), told_dotQ h]
  by_cases hi : i < w
  · rw [List.getD_eq_getElem?_getD, List.getElem?_map, List.getElem?_range hi]
    show dotQ v _ = dotQ v (t.map fun l => l.getD i 0)
    congr 1
    exact List.map_congr_left fun l hl => (getD_dot (h l hl) i).symm
  · rw [List.getD_eq_getElem?_getD, List.getElem?_map, List.getElem?_eq_none (by rw [List.length_range]; omega)]
    show dotQ v _ = 0
    rw [show (t.map fun l => dotQ l (unitR w i)) = t.map fun _ => (0 : Rat) from List.map_congr_left fun l hl => by
      rw [← getD_dot (h l hl), List.getD_eq_getElem?_getD, List.getElem?_eq_none (by rw [h l hl]; omega)]
      rfl, List.map_const', dot_comm, dot_zeros]
/-- led through both -/
theorem led_both {last : Nat} {other : List (List Rat)} (h : ∀ r ∈ other, r.length = last) (one : List (List Rat)) (row : List Rat) : ledR (behR one other last) row = ledR one (ledR other row) := by
  unfold ledR behR
  rw [List.map_map]
  refine List.map_congr_left fun l _ => ?_
  show dotQ row (toldR last other l) = dotQ (other.map (dotQ row)) l
  rw [dot_comm, told_dotQ h, dot_comm]
  congr 1
  exact List.map_congr_left fun x _ => dot_comm x row
theorem beh_len {w : Nat} {b : List (List Rat)} (h : ∀ r ∈ b, r.length = w) (a : List (List Rat)) : ∀ r ∈ behR a b w, r.length = w := fun r hr => by
  obtain ⟨l, _, rfl⟩ := List.mem_map.mp hr
  exact told_len' h l
theorem beh_assoc {last width : Nat} {other third : List (List Rat)} (h : ∀ r ∈ other, r.length = last) (k : ∀ r ∈ third, r.length = width) (one : List (List Rat)) : behR (behR one other last) third width = behR one (behR other third width) width := by
  unfold behR
  rw [List.map_map]
  refine List.map_congr_left fun l _ => ?_
  show toldR width third (toldR last other l) = toldR width (other.map (toldR width third)) l
  have hb : ∀ r ∈ other.map (toldR width third), r.length = width := beh_len k other
  refine row_dot (told_len' k _) (told_len' hb l) fun c => ?_
  rw [told_dotQ k, told_dotQ h, told_dotQ hb, List.map_map]
  congr 1
  refine List.map_congr_left fun x _ => ?_
  show _ = dotQ (toldR width third x) c
  rw [told_dotQ k]
theorem unit_left {n m : Nat} {one : List (List Rat)} (h : Siz n m one) : behR (unitT n) one m = one := by
  unfold behR unitT
  rw [List.map_map]
  refine Eq.trans ?_ (map_getD (d := ([] : List Rat)) h.1)
  refine List.map_congr_left fun i hi => ?_
  have hi : i < n := List.mem_range.mp hi
  have hm : one.getD i [] ∈ one := by
    rw [List.getD_eq_getElem?_getD, List.getElem?_eq_getElem (by rw [h.1]; exact hi)]
    exact List.getElem_mem _
  refine row_dot (told_len' h.2 _) (h.2 _ hm) fun c => ?_
  show dotQ (toldR m one (unitR n i)) c = _
  rw [told_dotQ h.2, dot_unit (by rw [List.length_map, h.1]), List.getD_eq_getElem?_getD, List.getElem?_map, List.getElem?_eq_getElem (by rw [h.1]; exact hi), List.getD_eq_getElem?_getD, List.getElem?_eq_getElem (by rw [h.1]; exact hi)]
  rfl
theorem unit_len (n : Nat) : ∀ r ∈ unitT n, r.length = n := fun r hr => by
  obtain ⟨i, _, rfl⟩ := List.mem_map.mp hr
  unfold unitR
  rw [List.length_map, List.length_range]
theorem unit_siz (n : Nat) : Siz n n (unitT n) := ⟨by unfold unitT; rw [List.length_map, List.length_range], unit_len n⟩
theorem unit_right {n m : Nat} {one : List (List Rat)} (h : Siz n m one) : behR one (unitT m) m = one := by
  unfold behR
  refine Eq.trans (List.map_congr_left fun l hl => ?_) (List.map_id one)
  have hl2 := h.2 l hl
  refine row_eq (told_len' (unit_len m) _) hl2 fun i => ?_
  rw [getD_dot (told_len' (unit_len m) l), told_dotQ (unit_len m), getD_dot (a := id l) hl2]
  show _ = dotQ l _
  congr 1
  have e : (unitT m).map (fun r => dotQ r (unitR m i)) = (List.range m).map fun k => (unitR m i).getD k 0 := by
    unfold unitT
    rw [List.map_map]
    exact List.map_congr_left fun k _ => dot_unit (by unfold unitR; rw [List.length_map, List.length_range])
  rw [e, map_getD (by unfold unitR; rw [List.length_map, List.length_range])]
theorem cols_cols {n m : Nat} {one : List (List Rat)} (h : Siz n m one) : colsR (colsR one m) n = one := by
  refine Eq.trans ?_ (map_getD (d := ([] : List Rat)) h.1)
  unfold colsR
  refine List.map_congr_left fun i hi => ?_
  have hi : i < n := List.mem_range.mp hi
  have hm : one.getD i [] ∈ one := by
    rw [List.getD_eq_getElem?_getD, List.getElem?_eq_getElem (by rw [h.1]; exact hi)]
    exact List.getElem_mem _
  rw [List.map_map]
  refine Eq.trans ?_ (map_getD (d := (0 : Rat)) (h.2 _ hm))
  refine List.map_congr_left fun j _ => ?_
  show (one.map fun l => l.getD j 0).getD i 0 = (one.getD i []).getD j 0
  rw [List.getD_eq_getElem?_getD, List.getElem?_map, List.getElem?_eq_getElem (by rw [h.1]; exact hi), List.getD_eq_getElem?_getD (l := one), List.getElem?_eq_getElem (by rw [h.1]; exact hi)]
  rfl
theorem cols_siz {t : List (List Rat)} {n : Nat} (h : t.length = n) (w : Nat) : Siz w n (colsR t w) := by
  unfold colsR
  refine ⟨by rw [List.length_map, List.length_range], fun r hr => ?_⟩
  obtain ⟨i, _, rfl⟩ := List.mem_map.mp hr
  rw [List.length_map, h]
theorem beh_siz {n w : Nat} {a b : List (List Rat)} (ha : a.length = n) (h : ∀ r ∈ b, r.length = w) : Siz n w (behR a b w) := ⟨by unfold behR; rw [List.length_map, ha], beh_len h a⟩
/-- bounds -/
theorem getD_bd {n : Nat} {r : List Rat} (h : RB n r) (i : Nat) (hn : 1 ≤ n) : FB n (r.getD i 0) := by
  rw [List.getD_eq_getElem?_getD]
  cases e : r[i]? with
  | none => exact FBzero.mono hn
  | some q => exact h q (List.mem_of_getElem? e)
theorem cols_bd {n w : Nat} {t : List (List Rat)} (h : TB n t) (hn : 1 ≤ n) : TB n (colsR t w) := fun r hr q hq => by
  obtain ⟨i, _, rfl⟩ := List.mem_map.mp hr
  obtain ⟨l, hl, rfl⟩ := List.mem_map.mp hq
  exact getD_bd (h l hl) i hn
theorem dotQ_bd {n : Nat} {a b : List Rat} (ha : RB n a) (hb : RB n b) (hl : a.length ≤ 5) : FB (1 + 5 * (2 * n + 1)) (dotQ a b) := by
  refine (dot_bd (a.zip b) 1 0 FBzero (zip_mem ha hb)).mono ?_
  have : (a.zip b).length ≤ 5 := by rw [List.length_zip]; omega
  have := Nat.mul_le_mul_right (2 * n + 1) this
  omega
theorem told_bd {n w : Nat} {t : List (List Rat)} {v : List Rat} (hs : ∀ r ∈ t, r.length = w) (h : TB n t) (hv : RB n v) (hl : v.length ≤ 5) (hn : 1 ≤ n) : RB (1 + 5 * (2 * n + 1)) (toldR w t v) := fun q hq => by
  rw [told_cols hs] at hq
  obtain ⟨c, hc, rfl⟩ := List.mem_map.mp hq
  exact dotQ_bd hv (cols_bd h hn c hc) hl
theorem beh_bd {n w m : Nat} {a b : List (List Rat)} (ha : Siz m w a) (h : TB n a) (k : TB n b) (hw : w ≤ 5) (hn : 1 ≤ n) {v : Nat} (hv : ∀ r ∈ b, r.length = v) : TB (1 + 5 * (2 * n + 1)) (behR a b v) := fun r hr => by
  obtain ⟨l, hl, rfl⟩ := List.mem_map.mp hr
  exact told_bd hv k (h l hl) (by rw [ha.2 l hl]; exact hw) hn
theorem led_bd {n w m : Nat} {t : List (List Rat)} {r : List Rat} (ht : Siz m w t) (h : TB n t) (k : RB n r) (hr : r.length ≤ 5) : RB (1 + 5 * (2 * n + 1)) (ledR t r) := fun q hq => by
  obtain ⟨l, hl, rfl⟩ := List.mem_map.mp hq
  exact dotQ_bd k (h l hl) hr
end K24
namespace K24
open PySem SG Gn
theorem RB.mono {m n : Nat} {r : List Rat} (h : RB m r) (l : m ≤ n) : RB n r := fun q hq => (h q hq).mono l
theorem TB.mono {m n : Nat} {t : List (List Rat)} (h : TB m t) (l : m ≤ n) : TB n t := fun q hq => (h q hq).mono l
theorem addR_bd {m n : Nat} {a b : List Rat} (ha : RB m a) (hb : RB n b) : RB (m + n + 1) (addR a b) := fun q hq => by
  unfold addR at hq
  obtain ⟨p, hp, rfl⟩ := List.mem_map.mp hq
  have := zip_mem ha hb p hp
  exact this.1.add this.2
theorem scR_bd {m n : Nat} {q : Rat} {r : List Rat} (hq : FB m q) (hr : RB n r) : RB (m + n) (scR q r) := fun x hx => by
  obtain ⟨y, hy, rfl⟩ := List.mem_map.mp hx
  exact hq.mul (hr y hy)
theorem scR_zero (r : List Rat) : scR 0 r = List.replicate r.length 0 := by
  unfold scR
  rw [show (fun x : Rat => 0 * x) = fun _ => 0 from funext fun x => Rat.zero_mul x, List.map_const']
theorem addR_zero : ∀ (a : List Rat) (n : Nat), a.length = n → addR a (List.replicate n 0) = a
  | [], 0, _ => rfl
  | x :: a, n + 1, h => by rw [List.replicate_succ, addR_cons, addR_zero a n (by simpa using h), Rat.add_zero]
  | [], _ + 1, h => by cases h
  | _ :: _, 0, h => by cases h
theorem zero_rb (n w : Nat) (hn : 1 ≤ n) : RB n (List.replicate w 0) := fun q hq => by
  rw [(List.mem_replicate.mp hq).2]
  exact FBzero.mono hn
theorem ledtold_run (es : List D) {w n : Nat} {t : List (List Rat)} {v : List Rat} (hs : ∀ r ∈ t, r.length = w) (hv : v.length = t.length) (ht : TB n t) (hb : RB n v) (hn : n ≤ 100) (hl : v.length ≤ 5) (hw : w ≤ 200) : f_led_told.run es [.int w, tbD t, rwD v] = some (.ok (rwD (toldR w t v)), []) := by
  rw [fr_led_told]
  obtain ⟨_, ⟨st', e1, e2⟩, _⟩ := fold_for (e := fun p : Rat × List Rat => D.tup [frD p.1, rwD p.2]) (P := fun p => FB n p.1 ∧ (RB n p.2 ∧ p.2.length = w)) (tg := .two 4 5) (mk := fun f p => [.val (.int w), .val (tbD t), .val (rwD v), .val (rwD f), .val (frD p.1), .val (rwD p.2)]) (m0 := fun f => [.val (.int w), .val (tbD t), .val (rwD v), .val (rwD f), .un, .un])
    (body := fun s => exL (.cons (.ife (.cmp .ne (.var 4) (.glb "NOUGHT" c_NOUGHT)) (.cons (.asg 3 (.e (.call f_sum_of_rows (.cons (.var 3) (.cons (.call f_times_row (.cons (.var 4) (.cons (.var 5) .nil))) .nil))))) .nil) (.nil)) .nil) s)
    (op := fun f p => addR f (scR p.1 p.2)) (ok' := fun k f => f.length = w ∧ RB (1 + k * (2 * n + 1)) f) (N := 10) (fun s p => by simp [setTg, free]) (fun s y p => by simp [setTg, free]) (fun k f p hk hf hp => ⟨by
      have bk : 1 + k * (2 * n + 1) ≤ 3000 := by
        have : k * (2 * n + 1) ≤ 9 * 201 := Nat.mul_le_mul (by omega) (by omega)
        omega
      by_cases z1 : p.1 = 0
      · rw [exL_nx (s1 := [.val (.int w), .val (tbD t), .val (rwD v), .val (rwD f), .val (frD p.1), .val (rwD p.2)]) (by
          rw [exT_if (k := false) (s1 := [.val (.int w), .val (tbD t), .val (rwD v), .val (rwD f), .val (frD p.1), .val (rwD p.2)]) (by simp [exT, evX, evE, evT, evL, evC, SG.bnd, SG.ok, SG.opt, slotOf, rd, frz, frzs, frzR, opD, setS, setTg, free, truD, isiD, tyOf, callD, at_fr0, at_fr1, cm_ne_fr, cm_eq_fr, cm_ne_int, cm_gt_int, cm_lt_int, cm_eq_int, cm_ne_str, cm_eq_str, b1_repr, b1_int_bl, b1_tup_lst, b1_int_int, b1_len_tup, b1_len_lst, nought, cm_ne_zero, z1])]
          simp [exL, SG.ok]), exL_nil, z1, scR_zero, addR_zero f p.2.length (by rw [hf.1, hp.2.2])]
        rfl
      · rw [exL_nx (s1 := [.val (.int w), .val (tbD t), .val (rwD v), .val (rwD (addR f (scR p.1 p.2))), .val (frD p.1), .val (rwD p.2)]) (by
          rw [exT_if (k := true) (s1 := [.val (.int w), .val (tbD t), .val (rwD v), .val (rwD f), .val (frD p.1), .val (rwD p.2)]) (by simp [exT, evX, evE, evT, evL, evC, SG.bnd, SG.ok, SG.opt, slotOf, rd, frz, frzs, frzR, opD, setS, setTg, free, truD, isiD, tyOf, callD, at_fr0, at_fr1, cm_ne_fr, cm_eq_fr, cm_ne_int, cm_gt_int, cm_lt_int, cm_eq_int, cm_ne_str, cm_eq_str, b1_repr, b1_int_bl, b1_tup_lst, b1_int_int, b1_len_tup, b1_len_lst, nought, cm_ne_zero, z1]), if_pos rfl,
            exL_nx (s1 := [.val (.int w), .val (tbD t), .val (rwD v), .val (rwD (addR f (scR p.1 p.2))), .val (frD p.1), .val (rwD p.2)]) (by
              simp [exT, evX, evE, evT, evL, evC, SG.bnd, SG.ok, SG.opt, slotOf, rd, frz, frzs, frzR, opD, setS, setTg, free, truD, isiD, tyOf, callD, at_fr0, at_fr1, cm_ne_fr, cm_eq_fr, cm_ne_int, cm_gt_int, cm_lt_int, cm_eq_int, cm_ne_str, cm_eq_str, b1_repr, b1_int_bl, b1_tup_lst, b1_int_int, b1_len_tup, b1_len_lst, fl_sum_of_rows, fl_times_row, timesrow_run [] hp.1 hp.2.1 (show n ≤ 3000 by omega) (by rw [hp.2.2]; omega), sumrows_run [] (hf.2.mono bk) ((scR_bd hp.1 hp.2.1).mono (show n + n ≤ 3000 by omega)) (Nat.le_refl _) (by rw [scR_len, hf.1, hp.2.2]) (by rw [hf.1]; omega)]), exL_nil]), exL_nil]
        rfl, by rw [addR_len (by rw [scR_len, hf.1, hp.2.2]), hf.1], (addR_bd hf.2 (scR_bd hp.1 hp.2.1)).mono (by rw [Nat.add_mul]; omega)⟩) (v.zip t) 0 (List.replicate w 0) (by rw [List.length_zip]; omega) ⟨List.length_replicate .., zero_rb _ _ (by omega)⟩
      (fun p hp => ⟨hb _ (List.of_mem_zip hp).1, ht _ (List.of_mem_zip hp).2, hs _ (List.of_mem_zip hp).2⟩)
  have a0 : exL p_led_told [.val (.int w), .val (tbD t), .val (rwD v), .un, .un, .un] = exL (.cons (.ret (.var 3)) .nil) st' := by
    unfold p_led_told
    rw [exL_nx (s1 := [.val (.int w), .val (tbD t), .val (rwD v), .val (rwD (List.replicate w 0)), .un, .un]) (by simp [exT, evX, evE, evT, evL, evC, SG.bnd, SG.ok, SG.opt, slotOf, rd, frz, frzs, frzR, opD, setS, setTg, free, truD, isiD, tyOf, callD, at_fr0, at_fr1, cm_ne_fr, cm_eq_fr, cm_ne_int, cm_gt_int, cm_lt_int, cm_eq_int, cm_ne_str, cm_eq_str, b1_repr, b1_int_bl, b1_tup_lst, b1_int_int, b1_len_tup, b1_len_lst, fl_rest_row, rest_run [] (show w ≤ 1000 by omega)]), exL_nx (s1 := st') (by
      rw [exT_for (items := (v.zip t).map fun p => D.tup [frD p.1, rwD p.2]) (s1 := [.val (.int w), .val (tbD t), .val (rwD v), .val (rwD (List.replicate w 0)), .un, .un]) (zip_ev (by simp [evE, slotOf, SG.ok, rwD]) (by simp [evE, slotOf, SG.ok, tbD]) hv) (by rw [List.length_map, List.length_zip]; omega)]
      exact e1)]
  rcases e2 with rfl | ⟨y, rfl⟩
  · exact run0 rfl (s1 := [.val (.int w), .val (tbD t), .val (rwD v), .val (rwD (toldR w t v)), .un, .un]) (a0.trans (exL_rt (by simp [exT, evX, evE, evT, evL, evC, SG.bnd, SG.ok, SG.opt, slotOf, rd, frz, frzs, frzR, opD, setS, setTg, free, truD, isiD, tyOf, callD, at_fr0, at_fr1, cm_ne_fr, cm_eq_fr, cm_ne_int, cm_gt_int, cm_lt_int, cm_eq_int, cm_ne_str, cm_eq_str, b1_repr, b1_int_bl, b1_tup_lst, b1_int_int, b1_len_tup, b1_len_lst]; rfl))) rfl
  · exact run0 rfl (s1 := [.val (.int w), .val (tbD t), .val (rwD v), .val (rwD (toldR w t v)), .val (frD y.1), .val (rwD y.2)]) (a0.trans (exL_rt (by simp [exT, evX, evE, evT, evL, evC, SG.bnd, SG.ok, SG.opt, slotOf, rd, frz, frzs, frzR, opD, setS, setTg, free, truD, isiD, tyOf, callD, at_fr0, at_fr1, cm_ne_fr, cm_eq_fr, cm_ne_int, cm_gt_int, cm_lt_int, cm_eq_int, cm_ne_str, cm_eq_str, b1_repr, b1_int_bl, b1_tup_lst, b1_int_int, b1_len_tup, b1_len_lst]; rfl))) rfl
/-- a table of rows, row by row -/
theorem tb_map {β : Type} (g : β → List Rat) (l : List β) : D.tup (l.map fun x => rwD (g x)) = tbD (l.map g) := by
  unfold tbD
  rw [List.map_map]
  rfl
theorem rw_map {β : Type} (g : β → Rat) (l : List β) : D.tup (l.map fun x => frD (g x)) = rwD (l.map g) := by
  unfold rwD
  rw [List.map_map]
  rfl
theorem behind_run (es : List D) {h m w n : Nat} {a b : List (List Rat)} (sa : Siz h m a) (sb : Siz m w b) (ta : TB n a) (tb : TB n b) (hn : n ≤ 100) (hh : h ≤ 200) (hm : m ≤ 5) (hw : w ≤ 200) : f_table_behind.run es [tbD a, tbD b, .int w] = some (.ok (tbD (behR a b w)), []) := by
  rw [fr_table_behind]
  refine run0 rfl (s1 := [.val (tbD a), .val (tbD b), .val (.int w), .un]) ?_ rfl
  unfold p_table_behind
  have hc := comp_all (e := rwD) (f := fun l => rwD (toldR w b l)) (P := fun l => RB n l ∧ l.length = m) (i := 3) (it := .seqT (.var 0)) (el := .call f_led_told (.cons (.var 2) (.cons (.var 1) (.cons (.var 3) .nil)))) (st := [.val (tbD a), .val (tbD b), .val (.int w), .un]) (qs := a)
    (by simp [evI, evE, SG.bnd, SG.ok, slotOf, tbD]) rfl (by rw [sa.1]; omega) (fun l hl => by simp [exT, evX, evE, evT, evL, evC, SG.bnd, SG.ok, SG.opt, slotOf, rd, frz, frzs, frzR, opD, setS, setTg, free, truD, isiD, tyOf, callD, at_fr0, at_fr1, cm_ne_fr, cm_eq_fr, cm_ne_int, cm_gt_int, cm_lt_int, cm_eq_int, cm_ne_str, cm_eq_str, b1_repr, b1_int_bl, b1_tup_lst, b1_int_int, b1_len_tup, b1_len_lst, fl_led_told, ledtold_run [] sb.2 (by rw [hl.2, sb.1]) tb hl.1 hn (by rw [hl.2]; exact hm) hw]) (fun l hl => ⟨ta l hl, sa.2 l hl⟩)
  refine (ret_tup hc).trans ?_
  rw [tb_map]
  rfl
theorem ledrow_run (es : List D) {h w n : Nat} {t : List (List Rat)} {r : List Rat} (st : Siz h w t) (tt : TB n t) (hr : RB n r) (hl : r.length = w) (hn : n ≤ 100) (hh : h ≤ 200) (hw : w ≤ 5) : f_led_row.run es [tbD t, rwD r] = some (.ok (rwD (ledR t r)), []) := by
  rw [fr_led_row]
  refine run0 rfl (s1 := [.val (tbD t), .val (rwD r), .un]) ?_ rfl
  unfold p_led_row
  have hc := comp_all (e := rwD) (f := fun l => frD (dotQ r l)) (P := fun l => RB n l ∧ l.length = w) (i := 2) (it := .seqT (.var 0)) (el := .call f_product_of (.cons (.var 1) (.cons (.var 2) .nil))) (st := [.val (tbD t), .val (rwD r), .un]) (qs := t)
    (by simp [evI, evE, SG.bnd, SG.ok, slotOf, tbD]) rfl (by rw [st.1]; omega) (fun l hl' => by simp [exT, evX, evE, evT, evL, evC, SG.bnd, SG.ok, SG.opt, slotOf, rd, frz, frzs, frzR, opD, setS, setTg, free, truD, isiD, tyOf, callD, at_fr0, at_fr1, cm_ne_fr, cm_eq_fr, cm_ne_int, cm_gt_int, cm_lt_int, cm_eq_int, cm_ne_str, cm_eq_str, b1_repr, b1_int_bl, b1_tup_lst, b1_int_int, b1_len_tup, b1_len_lst, fl_product_of, product_run [] hr hl'.1 (by rw [hl, hl'.2]) (by rw [hl]; omega) hn]) (fun l hl => ⟨tt l hl, st.2 l hl⟩)
  refine (ret_tup hc).trans ?_
  rw [rw_map]
  rfl
theorem at_row {l : List Rat} {k : Nat} (h : k < l.length) : atD (rwD l) (.int k) = some (frD (l.getD k 0)) := by
  show L2.atI (l.map frD) (k : Int) = _
  refine at_nat ?_
  rw [List.getElem?_map, List.getElem?_eq_getElem h, List.getD_eq_getElem?_getD, List.getElem?_eq_getElem h]
  rfl
theorem frz_tup {F : FE} {st : List S} {ds : List D} (h : evF F st = some (.ok ds, st)) : frzR (evE (.b1 .tup (.fr F)) st) = some (.ok (.tup ds), st) := by
  rw [tup_of h]
  rfl
theorem cols_comp {h w : Nat} {t : List (List Rat)} (st : Siz h w t) (hh : h ≤ 1000) (hw : w ≤ 1000) : evF (.comp (.nm 2) (.rng1 (.var 1)) .no (.b1 .tup (.fr (.comp (.nm 3) (.seqT (.var 0)) .no (.ix (.var 3) (.var 2)))))) [.val (tbD t), .val (.int w), .un, .un] = some (.ok ((colsR t w).map rwD), [.val (tbD t), .val (.int w), .un, .un]) := by
  have hc := comp_all (e := fun k : Nat => D.int k) (f := fun k => rwD (t.map fun l => l.getD k 0)) (P := fun k => k < w) (i := 2) (it := .rng1 (.var 1)) (el := .b1 .tup (.fr (.comp (.nm 3) (.seqT (.var 0)) .no (.ix (.var 3) (.var 2))))) (st := [.val (tbD t), .val (.int w), .un, .un]) (qs := List.range w)
    (rng_ev (by simp [evE, slotOf, SG.ok]) (by omega)) rfl (by rw [List.length_range]; omega) (fun k hk => by
      have hi := comp_all (e := rwD) (f := fun l => frD (l.getD k 0)) (P := fun l => l.length = w) (i := 3) (it := .seqT (.var 0)) (el := .ix (.var 3) (.var 2)) (st := [.val (tbD t), .val (.int w), .val (.int k), .un]) (qs := t)
        (by simp [evI, evE, SG.bnd, SG.ok, slotOf, tbD]) rfl (by rw [st.1]; omega) (fun l hl => by simp [exT, evX, evE, evT, evL, evC, SG.bnd, SG.ok, SG.opt, slotOf, rd, frz, frzs, frzR, opD, setS, setTg, free, truD, isiD, tyOf, callD, at_fr0, at_fr1, cm_ne_fr, cm_eq_fr, cm_ne_int, cm_gt_int, cm_lt_int, cm_eq_int, cm_ne_str, cm_eq_str, b1_repr, b1_int_bl, b1_tup_lst, b1_int_int, b1_len_tup, b1_len_lst, at_row (show k < l.length by omega)]) st.2
      have := frz_tup hi
      rw [rw_map] at this
      exact this) (fun k hk => List.mem_range.mp hk)
  rw [hc]
  unfold colsR
  rw [List.map_map]
  rfl
theorem colsof_run (es : List D) {h w : Nat} {t : List (List Rat)} (st : Siz h w t) (hh : h ≤ 1000) (hw : w ≤ 1000) : f_columns_of.run es [tbD t, .int w] = some (.ok (tbD (colsR t w)), []) := by
  rw [fr_columns_of]
  refine run0 rfl (s1 := [.val (tbD t), .val (.int w), .un, .un]) ?_ rfl
  unfold p_columns_of
  exact ret_tup (cols_comp st hh hw)
theorem lawcols_run {h w : Nat} {t : List (List Rat)} (st : Siz h w t) (hh : h ≤ 1000) (hw : w ≤ 1000) : f_law_columns.run [] [tbD t, .int w] = some (.ok (.lst ((colsR t w).map rwD)), []) := by
  rw [fr_law_columns]
  refine run0 (init := [.val (tbD t), .val (.int w), .un, .un]) rfl (s1 := [.val (tbD t), .val (.int w), .un, .un]) ?_ rfl
  unfold p_law_columns
  refine exL_rt ?_
  rw [exT, cols_comp st hh hw]
  rfl
/-! ### the public ones -/
theorem led_run (es : List D) {h w n : Nat} {t : List (List Rat)} {r : List Rat} (st : Siz h w t) (tt : TB n t) (hr : RB n r) (hl : r.length = w) (hn : n ≤ 100) (hh : h ≤ 100) (hw : w ≤ 5) : f_led.run es [.int h, .int w, tbD t, rwD r] = some (.ok (rwD (ledR t r)), []) := by
  rw [fr_led]
  refine run0 rfl (s1 := [.val (.int h), .val (.int w), .val (tbD t), .val (rwD r)]) ?_ rfl
  unfold p_led
  rw [exL_nx (s1 := [.val (.int h), .val (.int w), .val (tbD t), .val (rwD r)]) (by simp [exT, evX, evE, evT, evL, evC, SG.bnd, SG.ok, SG.opt, slotOf, rd, frz, frzs, frzR, opD, setS, setTg, free, truD, isiD, tyOf, callD, at_fr0, at_fr1, cm_ne_fr, cm_eq_fr, cm_ne_int, cm_gt_int, cm_lt_int, cm_eq_int, cm_ne_str, cm_eq_str, b1_repr, b1_int_bl, b1_tup_lst, b1_int_int, b1_len_tup, b1_len_lst, fl_require_sized, reqsized_run [] st (show h ≤ 144 by omega) (show w ≤ 144 by omega)]), exL_nx (s1 := [.val (.int h), .val (.int w), .val (tbD t), .val (rwD r)]) (by simp [exT, evX, evE, evT, evL, evC, SG.bnd, SG.ok, SG.opt, slotOf, rd, frz, frzs, frzR, opD, setS, setTg, free, truD, isiD, tyOf, callD, at_fr0, at_fr1, cm_ne_fr, cm_eq_fr, cm_ne_int, cm_gt_int, cm_lt_int, cm_eq_int, cm_ne_str, cm_eq_str, b1_repr, b1_int_bl, b1_tup_lst, b1_int_int, b1_len_tup, b1_len_lst, fl_require_row, reqrow_run [] hl (show w ≤ 1000 by omega)])]
  exact exL_rt (by simp [exT, evX, evE, evT, evL, evC, SG.bnd, SG.ok, SG.opt, slotOf, rd, frz, frzs, frzR, opD, setS, setTg, free, truD, isiD, tyOf, callD, at_fr0, at_fr1, cm_ne_fr, cm_eq_fr, cm_ne_int, cm_gt_int, cm_lt_int, cm_eq_int, cm_ne_str, cm_eq_str, b1_repr, b1_int_bl, b1_tup_lst, b1_int_int, b1_len_tup, b1_len_lst, fl_led_row, ledrow_run [] st tt hr hl hn (show h ≤ 200 by omega) hw])
theorem columns_run (es : List D) {h w : Nat} {t : List (List Rat)} (st : Siz h w t) (hh : h ≤ 144) (hw : w ≤ 144) : f_columns.run es [.int h, .int w, tbD t] = some (.ok (tbD (colsR t w)), []) := by
  rw [fr_columns]
  refine run0 rfl (s1 := [.val (.int h), .val (.int w), .val (tbD t)]) ?_ rfl
  unfold p_columns
  rw [exL_nx (s1 := [.val (.int h), .val (.int w), .val (tbD t)]) (by simp [exT, evX, evE, evT, evL, evC, SG.bnd, SG.ok, SG.opt, slotOf, rd, frz, frzs, frzR, opD, setS, setTg, free, truD, isiD, tyOf, callD, at_fr0, at_fr1, cm_ne_fr, cm_eq_fr, cm_ne_int, cm_gt_int, cm_lt_int, cm_eq_int, cm_ne_str, cm_eq_str, b1_repr, b1_int_bl, b1_tup_lst, b1_int_int, b1_len_tup, b1_len_lst, fl_require_sized, reqsized_run [] st hh hw])]
  exact exL_rt (by simp [exT, evX, evE, evT, evL, evC, SG.bnd, SG.ok, SG.opt, slotOf, rd, frz, frzs, frzR, opD, setS, setTg, free, truD, isiD, tyOf, callD, at_fr0, at_fr1, cm_ne_fr, cm_eq_fr, cm_ne_int, cm_gt_int, cm_lt_int, cm_eq_int, cm_ne_str, cm_eq_str, b1_repr, b1_int_bl, b1_tup_lst, b1_int_int, b1_len_tup, b1_len_lst, fl_columns_of, colsof_run [] st (show h ≤ 1000 by omega) (show w ≤ 1000 by omega)])
theorem unit_run (es : List D) {w : Nat} (hw : w ≤ 144) : f_unit.run es [.int w] = some (.ok (tbD (unitT w)), []) := by
  rw [fr_unit]
  refine run0 rfl (s1 := [.val (.int w)]) ?_ rfl
  unfold p_unit
  rw [exL_nx (s1 := [.val (.int w)]) (by simp [exT, evX, evE, evT, evL, evC, SG.bnd, SG.ok, SG.opt, slotOf, rd, frz, frzs, frzR, opD, setS, setTg, free, truD, isiD, tyOf, callD, at_fr0, at_fr1, cm_ne_fr, cm_eq_fr, cm_ne_int, cm_gt_int, cm_lt_int, cm_eq_int, cm_ne_str, cm_eq_str, b1_repr, b1_int_bl, b1_tup_lst, b1_int_int, b1_len_tup, b1_len_lst, fl_require_width, reqwidth_run [] hw])]
  exact exL_rt (by simp [exT, evX, evE, evT, evL, evC, SG.bnd, SG.ok, SG.opt, slotOf, rd, frz, frzs, frzR, opD, setS, setTg, free, truD, isiD, tyOf, callD, at_fr0, at_fr1, cm_ne_fr, cm_eq_fr, cm_ne_int, cm_gt_int, cm_lt_int, cm_eq_int, cm_ne_str, cm_eq_str, b1_repr, b1_int_bl, b1_tup_lst, b1_int_int, b1_len_tup, b1_len_lst, fl_unit_table, unittable_run [] (show w ≤ 1000 by omega)])
theorem times_run (es : List D) {h m w n : Nat} {a b : List (List Rat)} (sa : Siz h m a) (sb : Siz m w b) (ta : TB n a) (tb : TB n b) (hn : n ≤ 100) (hh : h ≤ 100) (hm : m ≤ 5) (hw : w ≤ 100) : f_table_times.run es [.int h, .int m, .int w, tbD a, tbD b] = some (.ok (tbD (behR a b w)), []) := by
  rw [fr_table_times]
  refine run0 rfl (s1 := [.val (.int h), .val (.int m), .val (.int w), .val (tbD a), .val (tbD b)]) ?_ rfl
  unfold p_table_times
  rw [exL_nx (s1 := [.val (.int h), .val (.int m), .val (.int w), .val (tbD a), .val (tbD b)]) (by simp [exT, evX, evE, evT, evL, evC, SG.bnd, SG.ok, SG.opt, slotOf, rd, frz, frzs, frzR, opD, setS, setTg, free, truD, isiD, tyOf, callD, at_fr0, at_fr1, cm_ne_fr, cm_eq_fr, cm_ne_int, cm_gt_int, cm_lt_int, cm_eq_int, cm_ne_str, cm_eq_str, b1_repr, b1_int_bl, b1_tup_lst, b1_int_int, b1_len_tup, b1_len_lst, fl_require_width, reqwidth_run [] (show h ≤ 144 by omega)]), exL_nx (s1 := [.val (.int h), .val (.int m), .val (.int w), .val (tbD a), .val (tbD b)]) (by simp [exT, evX, evE, evT, evL, evC, SG.bnd, SG.ok, SG.opt, slotOf, rd, frz, frzs, frzR, opD, setS, setTg, free, truD, isiD, tyOf, callD, at_fr0, at_fr1, cm_ne_fr, cm_eq_fr, cm_ne_int, cm_gt_int, cm_lt_int, cm_eq_int, cm_ne_str, cm_eq_str, b1_repr, b1_int_bl, b1_tup_lst, b1_int_int, b1_len_tup, b1_len_lst, fl_require_width, reqwidth_run [] (show m ≤ 144 by omega)]),
    exL_nx (s1 := [.val (.int h), .val (.int m), .val (.int w), .val (tbD a), .val (tbD b)]) (by simp [exT, evX, evE, evT, evL, evC, SG.bnd, SG.ok, SG.opt, slotOf, rd, frz, frzs, frzR, opD, setS, setTg, free, truD, isiD, tyOf, callD, at_fr0, at_fr1, cm_ne_fr, cm_eq_fr, cm_ne_int, cm_gt_int, cm_lt_int, cm_eq_int, cm_ne_str, cm_eq_str, b1_repr, b1_int_bl, b1_tup_lst, b1_int_int, b1_len_tup, b1_len_lst, fl_require_width, reqwidth_run [] (show w ≤ 144 by omega)]),
    exL_nx (s1 := [.val (.int h), .val (.int m), .val (.int w), .val (tbD a), .val (tbD b)]) (by simp [exT, evX, evE, evT, evL, evC, SG.bnd, SG.ok, SG.opt, slotOf, rd, frz, frzs, frzR, opD, setS, setTg, free, truD, isiD, tyOf, callD, at_fr0, at_fr1, cm_ne_fr, cm_eq_fr, cm_ne_int, cm_gt_int, cm_lt_int, cm_eq_int, cm_ne_str, cm_eq_str, b1_repr, b1_int_bl, b1_tup_lst, b1_int_int, b1_len_tup, b1_len_lst, fl_require_table, reqtable_run [] sa (show h ≤ 1000 by omega) (show m ≤ 1000 by omega)]), exL_nx (s1 := [.val (.int h), .val (.int m), .val (.int w), .val (tbD a), .val (tbD b)]) (by simp [exT, evX, evE, evT, evL, evC, SG.bnd, SG.ok, SG.opt, slotOf, rd, frz, frzs, frzR, opD, setS, setTg, free, truD, isiD, tyOf, callD, at_fr0, at_fr1, cm_ne_fr, cm_eq_fr, cm_ne_int, cm_gt_int, cm_lt_int, cm_eq_int, cm_ne_str, cm_eq_str, b1_repr, b1_int_bl, b1_tup_lst, b1_int_int, b1_len_tup, b1_len_lst, fl_require_table, reqtable_run [] sb (show m ≤ 1000 by omega) (show w ≤ 1000 by omega)])]
  exact exL_rt (by simp [exT, evX, evE, evT, evL, evC, SG.bnd, SG.ok, SG.opt, slotOf, rd, frz, frzs, frzR, opD, setS, setTg, free, truD, isiD, tyOf, callD, at_fr0, at_fr1, cm_ne_fr, cm_eq_fr, cm_ne_int, cm_gt_int, cm_lt_int, cm_eq_int, cm_ne_str, cm_eq_str, b1_repr, b1_int_bl, b1_tup_lst, b1_int_int, b1_len_tup, b1_len_lst, fl_table_behind, behind_run [] sa sb ta tb hn (show h ≤ 200 by omega) hm (show w ≤ 200 by omega)])
def plusT (a b : List (List Rat)) : List (List Rat) := (a.zip b).map fun p => addR p.1 p.2
theorem tplus_run (es : List D) {h w n : Nat} {a b : List (List Rat)} (sa : Siz h w a) (sb : Siz h w b) (ta : TB n a) (tb : TB n b) (hn : n ≤ 100) (hh : h ≤ 100) (hw : w ≤ 100) : f_table_plus.run es [.int h, .int w, tbD a, tbD b] = some (.ok (tbD (plusT a b)), []) := by
  rw [fr_table_plus]
  refine run0 rfl (s1 := [.val (.int h), .val (.int w), .val (tbD a), .val (tbD b), .un, .un]) ?_ rfl
  unfold p_table_plus
  have hc := comp_all2 (e := fun p : List Rat × List Rat => D.tup [rwD p.1, rwD p.2]) (a := fun p => rwD p.1) (b := fun p => rwD p.2) (f := fun p => rwD (addR p.1 p.2)) (P := fun p => (RB n p.1 ∧ p.1.length = w) ∧ (RB n p.2 ∧ p.2.length = w)) (i := 4) (j := 5) (it := .zipT (.var 2) (.var 3)) (el := .call f_sum_of_rows (.cons (.var 4) (.cons (.var 5) .nil))) (st := [.val (.int h), .val (.int w), .val (tbD a), .val (tbD b), .un, .un]) (qs := a.zip b)
    (zip_ev (by simp [evE, slotOf, SG.ok, tbD]) (by simp [evE, slotOf, SG.ok, tbD]) (by rw [sa.1, sb.1])) rfl rfl (by decide) (by rw [List.length_zip, sa.1, sb.1]; omega) (fun _ => rfl)
    (fun p hp => by simp [exT, evX, evE, evT, evL, evC, SG.bnd, SG.ok, SG.opt, slotOf, rd, frz, frzs, frzR, opD, setS, setTg, free, truD, isiD, tyOf, callD, at_fr0, at_fr1, cm_ne_fr, cm_eq_fr, cm_ne_int, cm_gt_int, cm_lt_int, cm_eq_int, cm_ne_str, cm_eq_str, b1_repr, b1_int_bl, b1_tup_lst, b1_int_int, b1_len_tup, b1_len_lst, fl_sum_of_rows, sumrows_run [] hp.1.1 hp.2.1 (show n ≤ 3000 by omega) (by rw [hp.1.2, hp.2.2]) (by rw [hp.1.2]; omega)]) (fun p hp => ⟨⟨ta _ (List.of_mem_zip hp).1, sa.2 _ (List.of_mem_zip hp).1⟩, tb _ (List.of_mem_zip hp).2, sb.2 _ (List.of_mem_zip hp).2⟩) rfl rfl
  rw [exL_nx (s1 := [.val (.int h), .val (.int w), .val (tbD a), .val (tbD b), .un, .un]) (by simp [exT, evX, evE, evT, evL, evC, SG.bnd, SG.ok, SG.opt, slotOf, rd, frz, frzs, frzR, opD, setS, setTg, free, truD, isiD, tyOf, callD, at_fr0, at_fr1, cm_ne_fr, cm_eq_fr, cm_ne_int, cm_gt_int, cm_lt_int, cm_eq_int, cm_ne_str, cm_eq_str, b1_repr, b1_int_bl, b1_tup_lst, b1_int_int, b1_len_tup, b1_len_lst, fl_require_sized, reqsized_run [] sa (show h ≤ 144 by omega) (show w ≤ 144 by omega)]), exL_nx (s1 := [.val (.int h), .val (.int w), .val (tbD a), .val (tbD b), .un, .un]) (by simp [exT, evX, evE, evT, evL, evC, SG.bnd, SG.ok, SG.opt, slotOf, rd, frz, frzs, frzR, opD, setS, setTg, free, truD, isiD, tyOf, callD, at_fr0, at_fr1, cm_ne_fr, cm_eq_fr, cm_ne_int, cm_gt_int, cm_lt_int, cm_eq_int, cm_ne_str, cm_eq_str, b1_repr, b1_int_bl, b1_tup_lst, b1_int_int, b1_len_tup, b1_len_lst, fl_require_table, reqtable_run [] sb (show h ≤ 1000 by omega) (show w ≤ 1000 by omega)])]
  refine (ret_tup hc).trans ?_
  rw [tb_map]
  rfl
end K24
namespace K24
open PySem SG Gn
theorem num_zero (q : Rat) : decide (q.num = 0) = decide (q = 0) := by
  by_cases h : q = 0
  · subst h; rfl
  · rw [decide_eq_false h, decide_eq_false (num_ne h)]
theorem dot_run (es : List D) {a b : List Rat} {n : Nat} (ha : RB n a) (hb : RB n b) (hl : a.length = b.length) (h1 : a.length ≤ 10) (hn : n ≤ 100) : f_law_dot.run es [rwD a, rwD b] = some (.ok (frD (dotQ a b)), []) := by
  rw [fr_law_dot]
  obtain ⟨_, ⟨st', e1, e2⟩, _⟩ := fold_for (e := fun p : Rat × Rat => D.tup [frD p.1, frD p.2]) (P := fun p => FB n p.1 ∧ FB n p.2) (tg := .two 3 4) (mk := fun s p => [.val (rwD a), .val (rwD b), .val (frD s), .val (frD p.1), .val (frD p.2)]) (m0 := fun s => [.val (rwD a), .val (rwD b), .val (frD s), .un, .un])
    (body := fun s => exL (.cons (.ife (.and (.cmp .ne (.ix (.var 3) (.cst (.int 0))) (.cst (.int 0))) (.cmp .ne (.ix (.var 4) (.cst (.int 0))) (.cst (.int 0)))) (.cons (.asg 2 (.e (.call f_law_plus (.cons (.var 2) (.cons (.call f_law_times (.cons (.var 3) (.cons (.var 4) .nil))) .nil))))) .nil) (.nil)) .nil) s)
    (op := fun s p => s + p.1 * p.2) (ok' := fun k s => FB (1 + k * (2 * n + 1)) s) (N := 10) (fun s p => by simp [setTg, free]) (fun s y p => by simp [setTg, free]) (fun k s p hk hs hp => ⟨by
      have bk : 1 + k * (2 * n + 1) ≤ 3000 := by
        have : k * (2 * n + 1) ≤ 9 * 201 := Nat.mul_le_mul (by omega) (by omega)
        omega
      by_cases z1 : p.1 = 0
      · rw [exL_nx (s1 := [.val (rwD a), .val (rwD b), .val (frD s), .val (frD p.1), .val (frD p.2)]) (by
          rw [exT_if (k := false) (s1 := [.val (rwD a), .val (rwD b), .val (frD s), .val (frD p.1), .val (frD p.2)]) (by simp [exT, evX, evE, evT, evL, evC, SG.bnd, SG.ok, SG.opt, slotOf, rd, frz, frzs, frzR, opD, setS, setTg, free, truD, isiD, tyOf, callD, at_fr0, at_fr1, cm_ne_fr, cm_eq_fr, cm_ne_int, cm_gt_int, cm_lt_int, cm_eq_int, cm_ne_str, cm_eq_str, b1_repr, b1_int_bl, b1_tup_lst, b1_int_int, b1_len_tup, b1_len_lst, num_zero, z1])]
          simp [exL, SG.ok]), exL_nil, z1, Rat.zero_mul, Rat.add_zero]
        rfl
      · have y1 := num_ne z1
        by_cases z2 : p.2 = 0
        · rw [exL_nx (s1 := [.val (rwD a), .val (rwD b), .val (frD s), .val (frD p.1), .val (frD p.2)]) (by
            rw [exT_if (k := false) (s1 := [.val (rwD a), .val (rwD b), .val (frD s), .val (frD p.1), .val (frD p.2)]) (by simp [exT, evX, evE, evT, evL, evC, SG.bnd, SG.ok, SG.opt, slotOf, rd, frz, frzs, frzR, opD, setS, setTg, free, truD, isiD, tyOf, callD, at_fr0, at_fr1, cm_ne_fr, cm_eq_fr, cm_ne_int, cm_gt_int, cm_lt_int, cm_eq_int, cm_ne_str, cm_eq_str, b1_repr, b1_int_bl, b1_tup_lst, b1_int_int, b1_len_tup, b1_len_lst, num_zero, y1, z2])]
            simp [exL, SG.ok]), exL_nil, z2, Rat.mul_zero, Rat.add_zero]
          rfl
        · have y2 := num_ne z2
          rw [exL_nx (s1 := [.val (rwD a), .val (rwD b), .val (frD (s + p.1 * p.2)), .val (frD p.1), .val (frD p.2)]) (by
            rw [exT_if (k := true) (s1 := [.val (rwD a), .val (rwD b), .val (frD s), .val (frD p.1), .val (frD p.2)]) (by simp [exT, evX, evE, evT, evL, evC, SG.bnd, SG.ok, SG.opt, slotOf, rd, frz, frzs, frzR, opD, setS, setTg, free, truD, isiD, tyOf, callD, at_fr0, at_fr1, cm_ne_fr, cm_eq_fr, cm_ne_int, cm_gt_int, cm_lt_int, cm_eq_int, cm_ne_str, cm_eq_str, b1_repr, b1_int_bl, b1_tup_lst, b1_int_int, b1_len_tup, b1_len_lst, num_zero, y1, y2]), if_pos rfl,
              exL_nx (s1 := [.val (rwD a), .val (rwD b), .val (frD (s + p.1 * p.2)), .val (frD p.1), .val (frD p.2)]) (by
                simp [exT, evX, evE, evT, evL, evC, SG.bnd, SG.ok, SG.opt, slotOf, rd, frz, frzs, frzR, opD, setS, setTg, free, truD, isiD, tyOf, callD, at_fr0, at_fr1, cm_ne_fr, cm_eq_fr, cm_ne_int, cm_gt_int, cm_lt_int, cm_eq_int, cm_ne_str, cm_eq_str, b1_repr, b1_int_bl, b1_tup_lst, b1_int_int, b1_len_tup, b1_len_lst, fl_law_plus, fl_law_times, ltimes_run [] (hp.1.mono (show n ≤ 3000 by omega)) (hp.2.mono (show n ≤ 3000 by omega)), lplus_run [] (hs.mono bk) ((hp.1.mul hp.2).mono (show n + n ≤ 3000 by omega))]), exL_nil]), exL_nil]
          rfl, (hs.add (hp.1.mul hp.2)).mono (by rw [Nat.add_mul]; omega)⟩) (a.zip b) 0 0 (by rw [List.length_zip]; omega) (FBzero.mono (by omega)) (zip_mem ha hb)
  have a0 : exL p_law_dot [.val (rwD a), .val (rwD b), .un, .un, .un] = exL (.cons (.ret (.var 2)) .nil) st' := by
    unfold p_law_dot
    rw [exL_nx (s1 := [.val (rwD a), .val (rwD b), .val (frD 0), .un, .un]) (by simp [exT, evX, evE, evT, evL, evC, SG.bnd, SG.ok, SG.opt, slotOf, rd, frz, frzs, frzR, opD, setS, setTg, free, truD, isiD, tyOf, callD, at_fr0, at_fr1, cm_ne_fr, cm_eq_fr, cm_ne_int, cm_gt_int, cm_lt_int, cm_eq_int, cm_ne_str, cm_eq_str, b1_repr, b1_int_bl, b1_tup_lst, b1_int_int, b1_len_tup, b1_len_lst, zero_frD]), exL_nx (s1 := st') (by
      rw [exT_for (items := (a.zip b).map fun p => D.tup [frD p.1, frD p.2]) (s1 := [.val (rwD a), .val (rwD b), .val (frD 0), .un, .un]) (zip_ev (by simp [evE, slotOf, SG.ok, rwD]) (by simp [evE, slotOf, SG.ok, rwD]) hl) (by rw [List.length_map, List.length_zip]; omega)]
      exact e1)]
  rcases e2 with rfl | ⟨y, rfl⟩
  · exact run0 rfl (s1 := [.val (rwD a), .val (rwD b), .val (frD (dotQ a b)), .un, .un]) (a0.trans (exL_rt (by simp [exT, evX, evE, evT, evL, evC, SG.bnd, SG.ok, SG.opt, slotOf, rd, frz, frzs, frzR, opD, setS, setTg, free, truD, isiD, tyOf, callD, at_fr0, at_fr1, cm_ne_fr, cm_eq_fr, cm_ne_int, cm_gt_int, cm_lt_int, cm_eq_int, cm_ne_str, cm_eq_str, b1_repr, b1_int_bl, b1_tup_lst, b1_int_int, b1_len_tup, b1_len_lst]; rfl))) rfl
  · exact run0 rfl (s1 := [.val (rwD a), .val (rwD b), .val (frD (dotQ a b)), .val (frD y.1), .val (frD y.2)]) (a0.trans (exL_rt (by simp [exT, evX, evE, evT, evL, evC, SG.bnd, SG.ok, SG.opt, slotOf, rd, frz, frzs, frzR, opD, setS, setTg, free, truD, isiD, tyOf, callD, at_fr0, at_fr1, cm_ne_fr, cm_eq_fr, cm_ne_int, cm_gt_int, cm_lt_int, cm_eq_int, cm_ne_str, cm_eq_str, b1_repr, b1_int_bl, b1_tup_lst, b1_int_int, b1_len_tup, b1_len_lst]; rfl))) rfl
theorem behone_run (es : List D) {h m w n : Nat} {a b : List (List Rat)} (sa : Siz h m a) (sb : Siz m w b) (ta : TB n a) (tb : TB n b) (hn : n ≤ 100) (hn1 : 1 ≤ n) (hh : h ≤ 200) (hm : m ≤ 5) (hw : w ≤ 200) : f_law_behind_one.run es [tbD a, tbD b, .int w] = some (.ok (tbD (behR a b w)), []) := by
  rw [fr_law_behind_one]
  refine run0 (init := [.val (tbD a), .val (tbD b), .val (.int w), .un, .un]) rfl (s1 := [.val (tbD a), .val (tbD b), .val (.int w), .un, .un]) ?_ rfl
  unfold p_law_behind_one
  have hc := comp_all (e := rwD) (f := fun l => rwD (toldR w b l)) (P := fun l => RB n l ∧ l.length = m) (i := 3) (it := .seqT (.var 0)) (el := .b1 .tup (.fr (.comp (.nm 4) (.seqL (.fr (.callF f_law_columns (.cons (.var 1) (.cons (.var 2) .nil))))) .no (.call f_law_dot (.cons (.var 3) (.cons (.var 4) .nil)))))) (st := [.val (tbD a), .val (tbD b), .val (.int w), .un, .un]) (qs := a)
    (by simp [evI, evE, SG.bnd, SG.ok, slotOf, tbD]) rfl (by rw [sa.1]; omega) (fun l hl => by
      have hi := comp_all (e := rwD) (f := fun c => frD (dotQ l c)) (P := fun c => RB n c ∧ c.length = m) (i := 4) (it := .seqL (.fr (.callF f_law_columns (.cons (.var 1) (.cons (.var 2) .nil))))) (el := .call f_law_dot (.cons (.var 3) (.cons (.var 4) .nil))) (st := [.val (tbD a), .val (tbD b), .val (.int w), .val (rwD l), .un]) (qs := colsR b w)
        (by simp [evI, evF, exT, evX, evE, evT, evL, evC, SG.bnd, SG.ok, SG.opt, slotOf, rd, frz, frzs, frzR, opD, setS, setTg, free, truD, isiD, tyOf, callD, at_fr0, at_fr1, cm_ne_fr, cm_eq_fr, cm_ne_int, cm_gt_int, cm_lt_int, cm_eq_int, cm_ne_str, cm_eq_str, b1_repr, b1_int_bl, b1_tup_lst, b1_int_int, b1_len_tup, b1_len_lst, fl_law_columns, lawcols_run sb (show m ≤ 1000 by omega) (show w ≤ 1000 by omega)]) rfl (by rw [(cols_siz sb.1 w).1]; omega) (fun c hc => by simp [exT, evX, evE, evT, evL, evC, SG.bnd, SG.ok, SG.opt, slotOf, rd, frz, frzs, frzR, opD, setS, setTg, free, truD, isiD, tyOf, callD, at_fr0, at_fr1, cm_ne_fr, cm_eq_fr, cm_ne_int, cm_gt_int, cm_lt_int, cm_eq_int, cm_ne_str, cm_eq_str, b1_repr, b1_int_bl, b1_tup_lst, b1_int_int, b1_len_tup, b1_len_lst, fl_law_dot, dot_run [] hl.1 hc.1 (by rw [hl.2, hc.2]) (by rw [hl.2]; omega) hn])
        (fun c hc => ⟨cols_bd tb hn1 c hc, (cols_siz sb.1 w).2 c hc⟩)
      have := frz_tup hi
      rw [rw_map, show (colsR b w).map (fun c => dotQ l c) = toldR w b l from (told_cols sb.2 l).symm] at this
      exact this) (fun l hl => ⟨ta l hl, sa.2 l hl⟩)
  refine (ret_tup hc).trans ?_
  rw [tb_map]
  rfl
/-! ### drawn tables -/
def someL : List D := [frD 0, frD 0, frD 1, frD (-1), frD 2, frD (Rat.divInt 1 3), frD (Rat.divInt (-5) 2)]
theorem some_eq : someL = [.tup [.int 0, .int 1], .tup [.int 0, .int 1], .tup [.int 1, .int 1], .tup [.int (-1), .int 1], .tup [.int 2, .int 1], .tup [.int 1, .int 3], .tup [.int (-5), .int 2]] := by
  unfold someL
  rw [divInt_pos (by decide), divInt_pos (by decide)]
  rfl
theorem some_fr : ∀ d ∈ someL, ∃ q, d = frD q ∧ FB 3 q := fun d hd => by
  unfold someL at hd
  simp only [List.mem_cons, List.not_mem_nil, or_false] at hd
  have b0 : FB 3 0 := FBzero.mono (by decide)
  rcases hd with rfl | rfl | rfl | rfl | rfl | rfl | rfl
  · exact ⟨_, rfl, b0⟩
  · exact ⟨_, rfl, b0⟩
  · exact ⟨_, rfl, by unfold FB Bd; exact ⟨by decide +kernel, by decide +kernel⟩⟩
  · exact ⟨_, rfl, by unfold FB Bd; exact ⟨by decide +kernel, by decide +kernel⟩⟩
  · exact ⟨_, rfl, by unfold FB Bd; exact ⟨by decide +kernel, by decide +kernel⟩⟩
  · exact ⟨_, rfl, divInt_bd (by decide) (by unfold Bd; decide +kernel) (by unfold Bd; decide +kernel)⟩
  · exact ⟨_, rfl, divInt_bd (by decide) (by unfold Bd; decide +kernel) (by unfold Bd; decide +kernel)⟩
def Sm (s : S) : Prop := s = .own false someL ∨ s = .val (.lst someL)
theorem table_run {ds : List D} (hd : Dc ds) {h w : Nat} (hh : h ≤ 1000) (hw : w ≤ 1000) : ∃ t ds', f_law_table.run ds [.int h, .int w] = some (.ok (tbD t), ds') ∧ Dc ds' ∧ Siz h w t ∧ TB 3 t := by
  rw [fr_law_table]
  -- an inner row
  have inner : ∀ (d : List D) (sm s4 : S), Dc d → Sm sm → ∃ r d' sm', frzR (evE (.b1 .tup (.fr (.comp (.nm 5) (.rng1 (.var 2)) .no (.call f_law_pick (.cons (.var 0) (.cons (.var 3) .nil)))))) [.own true d, .val (.int h), .val (.int w), sm, s4, .un]) = some (.ok (rwD r), [.own true d', .val (.int h), .val (.int w), sm', s4, .un]) ∧
      (Dc d' ∧ Sm sm') ∧ r.length = w ∧ RB 3 r := fun d sm s4 hd hsm => by
    obtain ⟨es, a', s', k1, k2, k3, k4⟩ := turns_thread (α := List D × S) (I := fun a => Dc a.1 ∧ Sm a.2) (Pd := fun d => ∃ q, d = frD q ∧ FB 3 q) (tg := .nm 5) (test := fun s => evC .no s) (elt := fun s => frzR (evE (.call f_law_pick (.cons (.var 0) (.cons (.var 3) .nil))) s)) (M := fun a s => [.own true a.1, .val (.int h), .val (.int w), a.2, s4, s])
      (fun a s x => by simp [setTg, free, wipeS, Tg.slots]) (fun _ => rfl) (fun a s ha => by
        obtain ⟨x, hx, d1, h1, hd1⟩ := pick_run ha.1 (its := someL) (by unfold someL; simp) (by unfold someL; simp)
        refine ⟨x, (d1, .val (.lst someL)), ?_, ⟨hd1, .inr rfl⟩, some_fr x hx⟩
        rcases ha.2 with e | e
        · simp [exT, evX, evE, evT, evL, evC, SG.bnd, SG.ok, SG.opt, slotOf, rd, frz, frzs, frzR, opD, setS, setTg, free, truD, isiD, tyOf, callD, at_fr0, at_fr1, cm_ne_fr, cm_eq_fr, cm_ne_int, cm_gt_int, cm_lt_int, cm_eq_int, cm_ne_str, cm_eq_str, b1_repr, b1_int_bl, b1_tup_lst, b1_int_int, b1_len_tup, b1_len_lst, e, fl_law_pick, h1]
        · simp [exT, evX, evE, evT, evL, evC, SG.bnd, SG.ok, SG.opt, slotOf, rd, frz, frzs, frzR, opD, setS, setTg, free, truD, isiD, tyOf, callD, at_fr0, at_fr1, cm_ne_fr, cm_eq_fr, cm_ne_int, cm_gt_int, cm_lt_int, cm_eq_int, cm_ne_str, cm_eq_str, b1_repr, b1_int_bl, b1_tup_lst, b1_int_int, b1_len_tup, b1_len_lst, e, fl_law_pick, h1]) ((List.range w).map fun (i : Nat) => D.int i) (d, sm) .un ⟨hd, hsm⟩
    obtain ⟨qs, rfl, hqs⟩ := all_of k4
    refine ⟨qs, a'.1, a'.2, ?_, k2, by simpa using k3, hqs⟩
    have hc : evF (.comp (.nm 5) (.rng1 (.var 2)) .no (.call f_law_pick (.cons (.var 0) (.cons (.var 3) .nil)))) [.own true d, .val (.int h), .val (.int w), sm, s4, .un] = some (.ok (qs.map frD), [.own true a'.1, .val (.int h), .val (.int w), a'.2, s4, .un]) := by
      rw [evF.eq_2, rng_ev (w := w) (by simp [evE, slotOf, SG.ok]) (by omega)]
      show (if _ then _ else _) = _
      rw [if_pos (by simp [Tg.slots, plainAt]; omega), k1]
      simp [restore, Tg.slots, SG.ok]
    simp [frzR, evE, SG.bnd, SG.ok, SG.opt, rd, frz, b1_tup_lst, hc, rwD]
  obtain ⟨es, a', s', k1, k2, k3, k4⟩ := turns_thread (α := List D × S) (I := fun a => Dc a.1 ∧ Sm a.2) (Pd := fun d => ∃ r, d = rwD r ∧ (r.length = w ∧ RB 3 r)) (tg := .nm 4) (test := fun s => evC .no s) (elt := fun s => frzR (evE (.b1 .tup (.fr (.comp (.nm 5) (.rng1 (.var 2)) .no (.call f_law_pick (.cons (.var 0) (.cons (.var 3) .nil)))))) s)) (M := fun a s => [.own true a.1, .val (.int h), .val (.int w), a.2, s, .un])
    (fun a s x => by simp [setTg, free, wipeS, Tg.slots]) (fun _ => rfl) (fun a s ha => by
      obtain ⟨r, d', sm', j1, j2, j3, j4⟩ := inner a.1 a.2 s ha.1 ha.2
      exact ⟨_, (d', sm'), j1, j2, r, rfl, j3, j4⟩) ((List.range h).map fun (i : Nat) => D.int i) (ds, .own false someL) .un ⟨hd, .inl rfl⟩
  obtain ⟨t, rfl, ht⟩ := all_of k4
  have hc : evF (.comp (.nm 4) (.rng1 (.var 1)) .no (.b1 .tup (.fr (.comp (.nm 5) (.rng1 (.var 2)) .no (.call f_law_pick (.cons (.var 0) (.cons (.var 3) .nil))))))) [.own true ds, .val (.int h), .val (.int w), .own false someL, .un, .un] = some (.ok (t.map rwD), [.own true a'.1, .val (.int h), .val (.int w), a'.2, .un, .un]) := by
    rw [evF.eq_2, rng_ev (w := h) (by simp [evE, slotOf, SG.ok]) (by omega)]
    show (if _ then _ else _) = _
    rw [if_pos (by simp [Tg.slots, plainAt]; omega), k1]
    simp [restore, Tg.slots, SG.ok]
  refine ⟨t, a'.1, ?_, k2.1, ⟨by simpa using k3, fun r hr => (ht r hr).1⟩, fun r hr => (ht r hr).2⟩
  refine runL (init := [.own true ds, .val (.int h), .val (.int w), .un, .un, .un]) rfl (s1 := [.own true a'.1, .val (.int h), .val (.int w), a'.2, .un, .un]) ?_ rfl
  unfold p_law_table
  rw [exL_nx (s1 := [.own true ds, .val (.int h), .val (.int w), .own false someL, .un, .un]) (by simp [evF, exT, evX, evE, evT, evL, evC, SG.bnd, SG.ok, SG.opt, slotOf, rd, frz, frzs, frzR, opD, setS, setTg, free, truD, isiD, tyOf, callD, at_fr0, at_fr1, cm_ne_fr, cm_eq_fr, cm_ne_int, cm_gt_int, cm_lt_int, cm_eq_int, cm_ne_str, cm_eq_str, b1_repr, b1_int_bl, b1_tup_lst, b1_int_int, b1_len_tup, b1_len_lst, some_eq])]
  refine exL_rt ?_
  simp [exT, evE, SG.bnd, SG.ok, SG.opt, rd, frz, b1_tup_lst, hc, tbD]
end K24
namespace K24
open PySem SG Gn
theorem canAll {ds : List D} (h : ∀ d ∈ ds, d.toP.canLay0 = true) : PyData.canLayAll0 (D.toPs ds) = true := by
  induction ds with
  | nil => rfl
  | cons d ds ih =>
    show (d.toP.canLay0 && PyData.canLayAll0 (D.toPs ds)) = true
    rw [h d List.mem_cons_self, ih fun x hx => h x (List.mem_cons_of_mem _ hx)]
    rfl
theorem eqvAll_refl {ds : List D} (h : ∀ d ∈ ds, PyData.eqv d.toP d.toP = true) : PyData.eqvAll (D.toPs ds) (D.toPs ds) = true := by
  induction ds with
  | nil => simp [D.toPs, PyData.eqvAll]
  | cons d ds ih =>
    simp only [D.toPs, PyData.eqvAll, h d List.mem_cons_self, ih fun x hx => h x (List.mem_cons_of_mem _ hx), Bool.and_self]
theorem dep_all {n : Nat} {ds : List D} (h : ∀ d ∈ ds, d.toP.depth ≤ n) : PyData.depthAll (D.toPs ds) ≤ n := by
  induction ds with
  | nil => simp [D.toPs, PyData.depthAll]
  | cons d ds ih =>
    simp only [D.toPs, PyData.depthAll]
    exact Nat.max_le.mpr ⟨h d List.mem_cons_self, ih fun x hx => h x (List.mem_cons_of_mem _ hx)⟩
/-- data that may be compared -/
structure Cmp (d : D) (n : Nat) : Prop where
  a : d.toP.canLay0 = true
  b : PyData.eqv d.toP d.toP = true
  c : d.toP.depth ≤ n
theorem cmp_fr (q : Rat) : Cmp (frD q) 1 := by
  refine ⟨?_, ?_, ?_⟩
  · simp [frD, D.toP, D.toPs, PyData.canLay0, PyData.canLayAll0]
  · simp [frD, D.toP, D.toPs, PyData.eqv, PyData.eqvAll]
  · simp [frD, D.toP, D.toPs, PyData.depth, PyData.depthAll]
theorem cmp_tup {ds : List D} {n : Nat} (h : ∀ d ∈ ds, Cmp d n) : Cmp (.tup ds) (n + 1) := by
  refine ⟨?_, ?_, ?_⟩
  · simp only [D.toP, PyData.canLay0]
    exact canAll fun d hd => (h d hd).a
  · simp only [D.toP, PyData.eqv]
    exact eqvAll_refl fun d hd => (h d hd).b
  · simp only [D.toP, PyData.depth]
    exact Nat.succ_le_succ (dep_all fun d hd => (h d hd).c)
theorem cmp_rw (r : List Rat) : Cmp (rwD r) 2 := cmp_tup fun d hd => by
  obtain ⟨q, _, rfl⟩ := List.mem_map.mp hd
  exact cmp_fr q
theorem cmp_tb (t : List (List Rat)) : Cmp (tbD t) 3 := cmp_tup fun d hd => by
  obtain ⟨q, _, rfl⟩ := List.mem_map.mp hd
  exact cmp_rw q
theorem cm_of {d : D} {n : Nat} (h : Cmp d n) (hn : n ≤ 64) (hs : ∀ x, d ≠ .str x) : cmD .eq d d = some true ∧ cmD .ne d d = some false := by
  have s : shp d = true := by
    unfold shp SeqAt.shaped
    rw [h.a, decide_eq_true (Nat.le_trans h.c hn)]
    rfl
  have e : eqD d d = true := h.b
  cases d <;> first
    | (exact absurd rfl (hs _))
    | (simp [cmD, s, e])
theorem cm_ne_tb (t : List (List Rat)) : cmD .ne (tbD t) (tbD t) = some false := (cm_of (cmp_tb t) (by decide) fun x z => by cases z).2
theorem cm_eq_tb (t : List (List Rat)) : cmD .eq (tbD t) (tbD t) = some true := (cm_of (cmp_tb t) (by decide) fun x z => by cases z).1
theorem cm_ne_rw (t : List Rat) : cmD .ne (rwD t) (rwD t) = some false := (cm_of (cmp_rw t) (by decide) fun x z => by cases z).2
/-! ### what is shown of tables -/
structure Sw (d : D) (w n : Nat) : Prop where
  a : d.toP.showable = true
  b : d.toP.leavesShort 51 = true
  c : d.toP.weight ≤ w
  d : d.toP.depth ≤ n
theorem sw_int {i : Int} (h : Bd 50 i) : Sw (.int i) 50 0 := by
  refine ⟨?_, ?_, ?_, ?_⟩ <;> unfold D.toP
  · exact int_showable (h.mono (by decide))
  · unfold PyData.leavesShort
    refine decide_eq_true ?_
    have := int_text_length_le (k := 50) (by decide) (log_lt h (by decide))
    unfold PyData.shown
    rw [ofString_length]
    exact this
  · unfold PyData.weight
    split
    · exact Nat.zero_le _
    · have := log_lt h (by decide)
      omega
  · unfold PyData.depth
    exact Nat.zero_le _
theorem sw_tup {ds : List D} {w n k : Nat} (h : ∀ d ∈ ds, Sw d w n) (hk : ds.length ≤ k) : Sw (.tup ds) (k * (w + 1)) (n + 1) := by
  have e : PyData.weightAll (D.toPs ds) ≤ ds.length * (w + 1) := by
    clear hk
    induction ds with
    | nil => simp [D.toPs, PyData.weightAll]
    | cons d ds ih =>
      have := ih fun x hx => h x (List.mem_cons_of_mem _ hx)
      have := (h d List.mem_cons_self).c
      simp only [D.toPs, PyData.weightAll, List.length_cons, Nat.add_mul]
      omega
  refine ⟨?_, ?_, ?_, ?_⟩
  · simp only [D.toP, PyData.showable]
    clear e hk
    induction ds with
    | nil => simp [D.toPs, PyData.showableAll]
    | cons d ds ih => simp only [D.toPs, PyData.showableAll, (h d List.mem_cons_self).a, ih fun x hx => h x (List.mem_cons_of_mem _ hx), Bool.and_self]
  · simp only [D.toP, PyData.leavesShort]
    clear e hk
    induction ds with
    | nil => simp [D.toPs, PyData.leavesShortAll]
    | cons d ds ih => simp only [D.toPs, PyData.leavesShortAll, (h d List.mem_cons_self).b, ih fun x hx => h x (List.mem_cons_of_mem _ hx), Bool.and_self]
  · simp only [D.toP, PyData.weight]
    exact Nat.le_trans e (Nat.mul_le_mul_right _ hk)
  · simp only [D.toP, PyData.depth]
    exact Nat.succ_le_succ (dep_all fun d hd => (h d hd).d)
theorem sw_fr {q : Rat} (h : FB 50 q) : Sw (frD q) 102 1 := sw_tup (k := 2) (w := 50) (n := 0) (fun d hd => by
  simp only [List.mem_cons, List.not_mem_nil, or_false] at hd
  rcases hd with rfl | rfl
  · exact sw_int h.1
  · exact sw_int h.2) (Nat.le_refl _)
theorem sw_tb {t : List (List Rat)} (h : TB 50 t) (h1 : t.length ≤ 5) (h2 : ∀ r ∈ t, r.length ≤ 5) : shownOk (tbD t) = true := by
  have S : Sw (tbD t) 2580 3 := sw_tup (k := 5) (w := 515) (n := 2) (fun d hd => by
    obtain ⟨r, hr, rfl⟩ := List.mem_map.mp hd
    exact sw_tup (k := 5) (w := 102) (n := 1) (fun x hx => by
      obtain ⟨q, hq, rfl⟩ := List.mem_map.mp hx
      exact sw_fr (h r hr q hq)) (by rw [List.length_map]; exact h2 r hr)) (by rw [List.length_map]; exact h1)
  unfold shownOk
  rw [Bool.and_eq_true, Bool.and_eq_true]
  refine ⟨⟨S.a, decide_eq_true ?_⟩, decide_eq_true (Nat.le_trans S.d (by decide))⟩
  have e := PyData.shown_le 51 (by decide) (tbD t).toP S.b
  have c := S.c
  omega
/-! ### the law's turn -/
theorem FB31 : FB 3 1 := by
  unfold FB Bd
  exact ⟨by decide +kernel, by decide +kernel⟩
theorem unit_bd (n : Nat) : TB 3 (unitT n) := fun r hr q hq => by
  obtain ⟨i, _, rfl⟩ := List.mem_map.mp hr
  obtain ⟨k, _, rfl⟩ := List.mem_map.mp hq
  split
  · exact FB31
  · exact FBzero.mono (by decide)
theorem plus_siz {h w : Nat} {a b : List (List Rat)} (sa : Siz h w a) (sb : Siz h w b) : Siz h w (plusT a b) := by
  unfold plusT
  refine ⟨by rw [List.length_map, List.length_zip, sa.1, sb.1, Nat.min_self], fun r hr => ?_⟩
  obtain ⟨p, hp, rfl⟩ := List.mem_map.mp hr
  rw [addR_len (by rw [sa.2 _ (List.of_mem_zip hp).1, sb.2 _ (List.of_mem_zip hp).2]), sa.2 _ (List.of_mem_zip hp).1]
theorem plus_bd {m n : Nat} {a b : List (List Rat)} (ta : TB m a) (tb : TB n b) : TB (m + n + 1) (plusT a b) := fun r hr => by
  obtain ⟨p, hp, rfl⟩ := List.mem_map.mp hr
  exact addR_bd (ta _ (List.of_mem_zip hp).1) (tb _ (List.of_mem_zip hp).2)
theorem fold_app (l : List (List Rat × List Rat)) : ∀ acc, l.foldl (fun acc p => acc ++ [addR p.1 p.2]) acc = acc ++ l.map fun p => addR p.1 p.2 := by
  induction l with
  | nil => intro acc; simp
  | cons p l ih => intro acc; rw [List.foldl_cons, ih]; simp
theorem cmp_run {a b : E} {st : List S} {d e : D} {k : Bool} (ha : evE a st = some (.ok (.v d), st)) (hb : evE b st = some (.ok (.v e), st)) (hc : cmD .eq d e = some k) : exT (.ret (.cmp .eq a b)) st = some (.ok (.rt (.bl k)), st) := by
  simp [exT, evE, SG.bnd, SG.ok, SG.opt, rd, frz, ha, hb, hc]
theorem right_run {ds : List D} (hd : Dc ds) : ∃ ds', f_law_right.run ds [] = some (.ok (.bl true), ds') ∧ Dc ds' := by
  -- four sizes
  obtain ⟨es, ⟨d1, u1⟩, s', k1, ⟨hd1, _⟩, k3, k4⟩ := turns_thread (α := List D × Unit) (I := fun x => Dc x.1 ∧ True) (Pd := fun d => ∃ n : Nat, d = .int n ∧ n < 5) (tg := .nm 15) (test := fun s => evC .no s) (elt := fun s => frzR (evE (.call f_law_roll (.cons (.var 0) (.cons (.cst (.int 5)) .nil))) s)) (M := fun x s => [S.own true x.1, S.un, S.un, S.un, S.un, S.un, S.un, S.un, S.un, S.un, S.un, S.un, S.un, S.un, S.un, s, S.un, S.un, S.un])
    (fun a s x => by simp [setTg, free, wipeS, Tg.slots]) (fun _ => rfl) (fun a s ha => by
      obtain ⟨r, d1, h1, hd1, r0, r1⟩ := roll_run ha.1 (n := 5) (by decide) (by decide +kernel)
      exact ⟨.int r, (d1, ()), by simp [exT, evX, evE, evT, evL, evC, SG.bnd, SG.ok, SG.opt, slotOf, rd, frz, frzs, frzR, opD, setS, setTg, free, truD, isiD, tyOf, callD, at_fr0, at_fr1, cm_ne_tb, cm_eq_tb, cm_ne_rw, cm_ne_int, cm_gt_int, cm_lt_int, cm_eq_int, cm_ne_str, cm_eq_str, b1_repr, b1_int_bl, b1_tup_lst, b1_int_int, b1_len_tup, b1_len_lst, fl_law_roll, h1], ⟨hd1, trivial⟩, r.toNat, by rw [Int.toNat_of_nonneg r0], by omega⟩) (rngD 0 4) (ds, ()) .un ⟨hd, trivial⟩
  obtain ⟨ns, rfl, hns⟩ := all_of (g := fun n : Nat => D.int n) k4
  have hl4 : ns.length = 4 := by simpa [rngD] using k3
  obtain ⟨n1, n2, n3, n4, rfl⟩ : ∃ n1 n2 n3 n4, ns = [n1, n2, n3, n4] := by
    match ns, hl4 with
    | [a, b, c, d], _ => exact ⟨a, b, c, d, rfl⟩
  have b1 : n1 < 5 := hns n1 (by simp)
  have b2 : n2 < 5 := hns n2 (by simp)
  have b3 : n3 < 5 := hns n3 (by simp)
  have b4 : n4 < 5 := hns n4 (by simp)
  have hc : evF (.comp (.nm 15) (.rng1 (.cst (.int 4))) .no (.call f_law_roll (.cons (.var 0) (.cons (.cst (.int 5)) .nil)))) [S.own true ds, S.un, S.un, S.un, S.un, S.un, S.un, S.un, S.un, S.un, S.un, S.un, S.un, S.un, S.un, S.un, S.un, S.un, S.un] = some (.ok [.int n1, .int n2, .int n3, .int n4], [S.own true d1, S.un, S.un, S.un, S.un, S.un, S.un, S.un, S.un, S.un, S.un, S.un, S.un, S.un, S.un, S.un, S.un, S.un, S.un]) := by
    rw [evF.eq_2, show evI (.rng1 (.cst (.int 4))) [S.own true ds, S.un, S.un, S.un, S.un, S.un, S.un, S.un, S.un, S.un, S.un, S.un, S.un, S.un, S.un, S.un, S.un, S.un, S.un] = some (.ok (rngD 0 4), [S.own true ds, S.un, S.un, S.un, S.un, S.un, S.un, S.un, S.un, S.un, S.un, S.un, S.un, S.un, S.un, S.un, S.un, S.un, S.un]) from by simp [evI, evE, SG.bnd, SG.ok]]
    simp only [SG.bnd]
    rw [if_pos (by simp [Tg.slots, plainAt, rngD]), k1]
    simp [restore, Tg.slots, SG.ok]
  -- the tables
  obtain ⟨a, d2, h2, hd2, sa, ta⟩ := table_run hd1 (h := n1) (w := n2) (by omega) (by omega)
  obtain ⟨b, d3, h3, hd3, sb, tb⟩ := table_run hd2 (h := n2) (w := n3) (by omega) (by omega)
  obtain ⟨c, d4, h4, hd4, sc, tc⟩ := table_run hd3 (h := n3) (w := n4) (by omega) (by omega)
  obtain ⟨t1, d5, h5, hd5, s1, tt1⟩ := table_run hd4 (h := 1) (w := n3) (by omega) (by omega)
  have h5' : f_law_table.run d4 [.int 1, .int n3] = some (.ok (tbD t1), d5) := h5
  obtain ⟨r, rfl⟩ : ∃ r, t1 = [r] := by
    match t1, s1.1 with
    | [r], _ => exact ⟨r, rfl⟩
  have hr : r.length = n3 := s1.2 r (by simp)
  have rb : RB 3 r := tt1 r (by simp)
  obtain ⟨m, d6, h6, hd6, sm, tm⟩ := table_run hd5 (h := n1) (w := n2) (by omega) (by omega)
  have sab : Siz n1 n3 (behR a b n3) := beh_siz sa.1 sb.2
  have tab : TB 36 (behR a b n3) := beh_bd sa ta tb (by omega) (by decide) sb.2
  have sbc : Siz n2 n4 (behR b c n4) := beh_siz sb.1 sc.2
  have tbc : TB 36 (behR b c n4) := beh_bd sb tb tc (by omega) (by decide) sc.2
  have q1 := times_run [] sa sb ta tb (by decide) (by omega) (by omega) (by omega)
  have q2 := behone_run [] sa sb ta tb (by decide) (by decide) (by omega) (by omega) (by omega)
  have q3 := sw_tb (tab.mono (by decide)) (by rw [sab.1]; omega) (fun x hx => by rw [sab.2 x hx]; omega)
  have q4 := led_run [] sab tab (rb.mono (show 3 ≤ 36 by decide)) hr (by decide) (by omega) (by omega)
  have q5 := led_run [] sb tb rb hr (by decide) (by omega) (by omega)
  have q6 : f_led.run [] [.int n1, .int n2, tbD a, rwD (ledR b r)] = some (.ok (rwD (ledR (behR a b n3) r)), []) := by
    have := led_run [] sa (ta.mono (show 3 ≤ 36 by decide)) (led_bd sb tb rb (by rw [hr]; omega)) (by unfold ledR; rw [List.length_map, sb.1]) (by decide) (by omega) (by omega)
    rw [← led_both sb.2] at this
    exact this
  have q7 := times_run [] sab sc tab (tc.mono (show 3 ≤ 36 by decide)) (by decide) (by omega) (by omega) (by omega)
  have q8 := times_run [] sb sc tb tc (by decide) (by omega) (by omega) (by omega)
  have q9 : f_table_times.run [] [.int n1, .int n2, .int n4, tbD a, tbD (behR b c n4)] = some (.ok (tbD (behR (behR a b n3) c n4)), []) := by
    have := times_run [] sa sbc (ta.mono (show 3 ≤ 36 by decide)) tbc (by decide) (by omega) (by omega) (by omega)
    rw [← beh_assoc sb.2 sc.2] at this
    exact this
  have q10 := unit_run [] (w := n1) (by omega)
  have q11 : f_table_times.run [] [.int n1, .int n1, .int n2, tbD (unitT n1), tbD a] = some (.ok (tbD a), []) := by
    have := times_run [] (unit_siz n1) sa (unit_bd n1) ta (by decide) (by omega) (by omega) (by omega)
    rw [unit_left sa] at this
    exact this
  have q12 := unit_run [] (w := n2) (by omega)
  have q13 : f_table_times.run [] [.int n1, .int n2, .int n2, tbD a, tbD (unitT n2)] = some (.ok (tbD a), []) := by
    have := times_run [] sa (unit_siz n2) ta (unit_bd n2) (by decide) (by omega) (by omega) (by omega)
    rw [unit_right sa] at this
    exact this
  have q14 := tplus_run [] sa sm ta tm (by decide) (by omega) (by omega)
  have q15 := sw_tb ((plus_bd ta tm).mono (by decide)) (by rw [(plus_siz sa sm).1]; omega) (fun x hx => by rw [(plus_siz sa sm).2 x hx]; omega)
  have q16 := columns_run [] sa (by omega) (by omega)
  have q17 : f_columns.run [] [.int n2, .int n1, tbD (colsR a n2)] = some (.ok (tbD a), []) := by
    have := columns_run [] (cols_siz sa.1 n2) (show n2 ≤ 144 by omega) (show n1 ≤ 144 by omega)
    rw [cols_cols sa] at this
    exact this
  have q18 := unit_run [] (w := n4) (by omega)
  -- line by line
  obtain ⟨_, ⟨s8, e8, e8b⟩, _⟩ := fold_for (e := fun p : List Rat × List Rat => D.tup [rwD p.1, rwD p.2]) (P := fun p => (RB 3 p.1 ∧ p.1.length = n2) ∧ (RB 3 p.2 ∧ p.2.length = n2)) (tg := .two 13 14) (mk := fun acc p => [S.own true d6, S.val (tbD (behR (behR a b n3) c n4)), S.val (tbD m), S.own false (acc.map rwD), S.val (D.int (n1 : Nat)), S.val (D.int (n2 : Nat)), S.val (D.int (n3 : Nat)), S.val (D.int (n4 : Nat)), S.val (tbD a), S.val (tbD b), S.val (tbD c), S.val (tbD (behR a b n3)), S.val (rwD r), S.val (rwD p.1), S.val (rwD p.2), S.un, S.un, S.un, S.un]) (m0 := fun acc => [S.own true d6, S.val (tbD (behR (behR a b n3) c n4)), S.val (tbD m), S.own false (acc.map rwD), S.val (D.int (n1 : Nat)), S.val (D.int (n2 : Nat)), S.val (D.int (n3 : Nat)), S.val (D.int (n4 : Nat)), S.val (tbD a), S.val (tbD b), S.val (tbD c), S.val (tbD (behR a b n3)), S.val (rwD r), S.un, S.un, S.un, S.un, S.un, S.un])
    (body := fun s => exL (.cons (.app 3 (.b1 .tup (.fr (.comp (.two 1 17) (.zipT (.var 13) (.var 14)) .no (.call f_law_plus (.cons (.var 1) (.cons (.var 17) .nil))))))) .nil) s)
    (op := fun acc p => acc ++ [addR p.1 p.2]) (ok' := fun k acc => acc.length = k) (N := 10) (fun s p => by simp [setTg, free]) (fun s y p => by simp [setTg, free]) (fun k acc p hk ha hp => ⟨by
      have hc := comp_all2 (e := fun p : Rat × Rat => D.tup [frD p.1, frD p.2]) (a := fun p => frD p.1) (b := fun p => frD p.2) (f := fun p => frD (p.1 + p.2)) (P := fun p => FB 3 p.1 ∧ FB 3 p.2) (i := 1) (j := 17) (it := .zipT (.var 13) (.var 14)) (el := .call f_law_plus (.cons (.var 1) (.cons (.var 17) .nil))) (st := [S.own true d6, S.val (tbD (behR (behR a b n3) c n4)), S.val (tbD m), S.own false (acc.map rwD), S.val (D.int (n1 : Nat)), S.val (D.int (n2 : Nat)), S.val (D.int (n3 : Nat)), S.val (D.int (n4 : Nat)), S.val (tbD a), S.val (tbD b), S.val (tbD c), S.val (tbD (behR a b n3)), S.val (rwD r), S.val (rwD p.1), S.val (rwD p.2), S.un, S.un, S.un, S.un]) (qs := p.1.zip p.2)
        (zip_ev (by simp [evE, slotOf, SG.ok, rwD]) (by simp [evE, slotOf, SG.ok, rwD]) (by rw [hp.1.2, hp.2.2])) rfl rfl (by decide) (by rw [List.length_zip, hp.1.2, hp.2.2]; omega) (fun _ => rfl) (fun q hq => by simp [exT, evX, evE, evT, evL, evC, SG.bnd, SG.ok, SG.opt, slotOf, rd, frz, frzs, frzR, opD, setS, setTg, free, truD, isiD, tyOf, callD, at_fr0, at_fr1, cm_ne_tb, cm_eq_tb, cm_ne_rw, cm_ne_int, cm_gt_int, cm_lt_int, cm_eq_int, cm_ne_str, cm_eq_str, b1_repr, b1_int_bl, b1_tup_lst, b1_int_int, b1_len_tup, b1_len_lst, fl_law_plus, lplus_run [] (hq.1.mono (show 3 ≤ 3000 by decide)) (hq.2.mono (show 3 ≤ 3000 by decide))]) (zip_mem hp.1.1 hp.2.1) rfl rfl
      have he := tup_of hc
      rw [rw_map, show (p.1.zip p.2).map (fun q => q.1 + q.2) = addR p.1 p.2 from rfl] at he
      have hl : acc.length ≤ 100000 := by omega
      rw [exL_nx (s1 := [S.own true d6, S.val (tbD (behR (behR a b n3) c n4)), S.val (tbD m), S.own false ((acc ++ [addR p.1 p.2]).map rwD), S.val (D.int (n1 : Nat)), S.val (D.int (n2 : Nat)), S.val (D.int (n3 : Nat)), S.val (D.int (n4 : Nat)), S.val (tbD a), S.val (tbD b), S.val (tbD c), S.val (tbD (behR a b n3)), S.val (rwD r), S.val (rwD p.1), S.val (rwD p.2), S.un, S.un, S.un, S.un]) (by simp [exT, evX, SG.bnd, SG.ok, he, frz, hl]), exL_nil]
      rfl, by rw [List.length_append, ha]; rfl⟩) (a.zip m) 0 [] (by rw [List.length_zip, sa.1]; omega) rfl (fun p hp => ⟨⟨ta _ (List.of_mem_zip hp).1, sa.2 _ (List.of_mem_zip hp).1⟩, tm _ (List.of_mem_zip hp).2, sm.2 _ (List.of_mem_zip hp).2⟩)
  rw [fold_app, List.nil_append] at e8b
  obtain ⟨sl, sb', e8c⟩ : ∃ sl sb' : S, s8 = [S.own true d6, S.val (tbD (behR (behR a b n3) c n4)), S.val (tbD m), S.own false ((plusT a m).map rwD), S.val (D.int (n1 : Nat)), S.val (D.int (n2 : Nat)), S.val (D.int (n3 : Nat)), S.val (D.int (n4 : Nat)), S.val (tbD a), S.val (tbD b), S.val (tbD c), S.val (tbD (behR a b n3)), S.val (rwD r), sl, sb', S.un, S.un, S.un, S.un] := by
    rcases e8b with rfl | ⟨y, rfl⟩
    · exact ⟨_, _, rfl⟩
    · exact ⟨_, _, rfl⟩
  subst e8c
  -- the last
  have hu : evE (.b1 .tup (.fr (.comp (.nm 16) (.rng1 (.var 7)) .no (.b1 .tup (.fr (.comp (.nm 18) (.rng1 (.var 7)) .no (.tup (.cons (.b1 .int (.cmp .eq (.var 18) (.var 16))) (.cons (.cst (.int 1)) .nil))))))))) [S.own true d6, S.val (tbD (behR (behR a b n3) c n4)), S.val (tbD m), S.own false ((plusT a m).map rwD), S.val (D.int (n1 : Nat)), S.val (D.int (n2 : Nat)), S.val (D.int (n3 : Nat)), S.val (D.int (n4 : Nat)), S.val (tbD a), S.val (tbD b), S.val (tbD c), S.val (tbD (behR a b n3)), S.val (rwD r), sl, sb', S.un, S.un, S.un, S.un] = some (.ok (.v (tbD (unitT n4))), [S.own true d6, S.val (tbD (behR (behR a b n3) c n4)), S.val (tbD m), S.own false ((plusT a m).map rwD), S.val (D.int (n1 : Nat)), S.val (D.int (n2 : Nat)), S.val (D.int (n3 : Nat)), S.val (D.int (n4 : Nat)), S.val (tbD a), S.val (tbD b), S.val (tbD c), S.val (tbD (behR a b n3)), S.val (rwD r), sl, sb', S.un, S.un, S.un, S.un]) := by
    have ho := comp_all (e := fun k : Nat => D.int k) (f := fun k => rwD (unitR n4 k)) (P := fun _ => True) (i := 16) (it := .rng1 (.var 7)) (el := .b1 .tup (.fr (.comp (.nm 18) (.rng1 (.var 7)) .no (.tup (.cons (.b1 .int (.cmp .eq (.var 18) (.var 16))) (.cons (.cst (.int 1)) .nil)))))) (st := [S.own true d6, S.val (tbD (behR (behR a b n3) c n4)), S.val (tbD m), S.own false ((plusT a m).map rwD), S.val (D.int (n1 : Nat)), S.val (D.int (n2 : Nat)), S.val (D.int (n3 : Nat)), S.val (D.int (n4 : Nat)), S.val (tbD a), S.val (tbD b), S.val (tbD c), S.val (tbD (behR a b n3)), S.val (rwD r), sl, sb', S.un, S.un, S.un, S.un]) (qs := List.range n4)
      (rng_ev (by simp [evE, slotOf, SG.ok]) (by omega)) rfl (by rw [List.length_range]; omega) (fun k _ => by
        have hi := comp_all (e := fun j : Nat => D.int j) (f := fun j => frD (if j = k then 1 else 0)) (P := fun _ => True) (i := 18) (it := .rng1 (.var 7)) (el := .tup (.cons (.b1 .int (.cmp .eq (.var 18) (.var 16))) (.cons (.cst (.int 1)) .nil))) (st := [S.own true d6, S.val (tbD (behR (behR a b n3) c n4)), S.val (tbD m), S.own false ((plusT a m).map rwD), S.val (D.int (n1 : Nat)), S.val (D.int (n2 : Nat)), S.val (D.int (n3 : Nat)), S.val (D.int (n4 : Nat)), S.val (tbD a), S.val (tbD b), S.val (tbD c), S.val (tbD (behR a b n3)), S.val (rwD r), sl, sb', S.un, S.val (D.int (k : Nat)), S.un, S.un]) (qs := List.range n4)
          (rng_ev (by simp [evE, slotOf, SG.ok]) (by omega)) rfl (by rw [List.length_range]; omega) (fun j _ => by
            by_cases h : j = k
            · subst h
              simp [exT, evX, evE, evT, evL, evC, SG.bnd, SG.ok, SG.opt, slotOf, rd, frz, frzs, frzR, opD, setS, setTg, free, truD, isiD, tyOf, callD, at_fr0, at_fr1, cm_ne_tb, cm_eq_tb, cm_ne_rw, cm_ne_int, cm_gt_int, cm_lt_int, cm_eq_int, cm_ne_str, cm_eq_str, b1_repr, b1_int_bl, b1_tup_lst, b1_int_int, b1_len_tup, b1_len_lst, one_frD]
            · have h' : ¬ (j : Int) = k := by omega
              simp [exT, evX, evE, evT, evL, evC, SG.bnd, SG.ok, SG.opt, slotOf, rd, frz, frzs, frzR, opD, setS, setTg, free, truD, isiD, tyOf, callD, at_fr0, at_fr1, cm_ne_tb, cm_eq_tb, cm_ne_rw, cm_ne_int, cm_gt_int, cm_lt_int, cm_eq_int, cm_ne_str, cm_eq_str, b1_repr, b1_int_bl, b1_tup_lst, b1_int_int, b1_len_tup, b1_len_lst, zero_frD, h, h']) (fun _ _ => trivial)
        have := frz_tup hi
        rw [rw_map] at this
        exact this) (fun _ _ => trivial)
    have := tup_of ho
    rw [tb_map] at this
    exact this
  refine ⟨d6, ?_, hd6⟩
  rw [fr_law_right]
  refine runL (init := [S.own true ds, S.un, S.un, S.un, S.un, S.un, S.un, S.un, S.un, S.un, S.un, S.un, S.un, S.un, S.un, S.un, S.un, S.un, S.un]) rfl (s1 := [S.own true d6, S.val (tbD (behR (behR a b n3) c n4)), S.val (tbD m), S.own false ((plusT a m).map rwD), S.val (D.int (n1 : Nat)), S.val (D.int (n2 : Nat)), S.val (D.int (n3 : Nat)), S.val (D.int (n4 : Nat)), S.val (tbD a), S.val (tbD b), S.val (tbD c), S.val (tbD (behR a b n3)), S.val (rwD r), sl, sb', S.un, S.un, S.un, S.un]) ?_ rfl
  unfold p_law_right
  rw [exL_nx (s1 := [S.own true d1, S.un, S.un, S.un, S.val (D.int (n1 : Nat)), S.val (D.int (n2 : Nat)), S.val (D.int (n3 : Nat)), S.val (D.int (n4 : Nat)), S.un, S.un, S.un, S.un, S.un, S.un, S.un, S.un, S.un, S.un, S.un]) (by simp [exT, evE, SG.bnd, SG.ok, SG.opt, hc, setNs, free]),
    exL_nx (s1 := [S.own true d4, S.un, S.un, S.un, S.val (D.int (n1 : Nat)), S.val (D.int (n2 : Nat)), S.val (D.int (n3 : Nat)), S.val (D.int (n4 : Nat)), S.val (tbD a), S.val (tbD b), S.val (tbD c), S.un, S.un, S.un, S.un, S.un, S.un, S.un, S.un]) (by simp [exT, evX, evE, evT, evL, evC, SG.bnd, SG.ok, SG.opt, slotOf, rd, frz, frzs, frzR, opD, setS, setTg, free, truD, isiD, tyOf, callD, at_fr0, at_fr1, cm_ne_tb, cm_eq_tb, cm_ne_rw, cm_ne_int, cm_gt_int, cm_lt_int, cm_eq_int, cm_ne_str, cm_eq_str, b1_repr, b1_int_bl, b1_tup_lst, b1_int_int, b1_len_tup, b1_len_lst, fl_law_table, h2, h3, h4]),
    exL_nx (s1 := [S.own true d5, S.un, S.un, S.un, S.val (D.int (n1 : Nat)), S.val (D.int (n2 : Nat)), S.val (D.int (n3 : Nat)), S.val (D.int (n4 : Nat)), S.val (tbD a), S.val (tbD b), S.val (tbD c), S.val (tbD (behR a b n3)), S.val (rwD r), S.un, S.un, S.un, S.un, S.un, S.un]) (by simp [exT, evX, evE, evT, evL, evC, SG.bnd, SG.ok, SG.opt, slotOf, rd, frz, frzs, frzR, opD, setS, setTg, free, truD, isiD, tyOf, callD, at_fr0, at_fr1, cm_ne_tb, cm_eq_tb, cm_ne_rw, cm_ne_int, cm_gt_int, cm_lt_int, cm_eq_int, cm_ne_str, cm_eq_str, b1_repr, b1_int_bl, b1_tup_lst, b1_int_int, b1_len_tup, b1_len_lst, fl_law_table, fl_table_times, q1, h5', show tbD [r] = D.tup [rwD r] from rfl, show atD (D.tup [rwD r]) (.int 0) = some (rwD r) from at0 _ _]),
    exL_nx (s1 := [S.own true d5, S.un, S.un, S.un, S.val (D.int (n1 : Nat)), S.val (D.int (n2 : Nat)), S.val (D.int (n3 : Nat)), S.val (D.int (n4 : Nat)), S.val (tbD a), S.val (tbD b), S.val (tbD c), S.val (tbD (behR a b n3)), S.val (rwD r), S.un, S.un, S.un, S.un, S.un, S.un]) (by
      rw [exT_if (k := false) (s1 := [S.own true d5, S.un, S.un, S.un, S.val (D.int (n1 : Nat)), S.val (D.int (n2 : Nat)), S.val (D.int (n3 : Nat)), S.val (D.int (n4 : Nat)), S.val (tbD a), S.val (tbD b), S.val (tbD c), S.val (tbD (behR a b n3)), S.val (rwD r), S.un, S.un, S.un, S.un, S.un, S.un]) (by simp [exT, evX, evE, evT, evL, evC, SG.bnd, SG.ok, SG.opt, slotOf, rd, frz, frzs, frzR, opD, setS, setTg, free, truD, isiD, tyOf, callD, at_fr0, at_fr1, cm_ne_tb, cm_eq_tb, cm_ne_rw, cm_ne_int, cm_gt_int, cm_lt_int, cm_eq_int, cm_ne_str, cm_eq_str, b1_repr, b1_int_bl, b1_tup_lst, b1_int_int, b1_len_tup, b1_len_lst, fl_law_behind_one, q2, q3])]
      simp [exL, SG.ok]),
    exL_nx (s1 := [S.own true d5, S.un, S.un, S.un, S.val (D.int (n1 : Nat)), S.val (D.int (n2 : Nat)), S.val (D.int (n3 : Nat)), S.val (D.int (n4 : Nat)), S.val (tbD a), S.val (tbD b), S.val (tbD c), S.val (tbD (behR a b n3)), S.val (rwD r), S.un, S.un, S.un, S.un, S.un, S.un]) (by
      rw [exT_if (k := false) (s1 := [S.own true d5, S.un, S.un, S.un, S.val (D.int (n1 : Nat)), S.val (D.int (n2 : Nat)), S.val (D.int (n3 : Nat)), S.val (D.int (n4 : Nat)), S.val (tbD a), S.val (tbD b), S.val (tbD c), S.val (tbD (behR a b n3)), S.val (rwD r), S.un, S.un, S.un, S.un, S.un, S.un]) (by simp [exT, evX, evE, evT, evL, evC, SG.bnd, SG.ok, SG.opt, slotOf, rd, frz, frzs, frzR, opD, setS, setTg, free, truD, isiD, tyOf, callD, at_fr0, at_fr1, cm_ne_tb, cm_eq_tb, cm_ne_rw, cm_ne_int, cm_gt_int, cm_lt_int, cm_eq_int, cm_ne_str, cm_eq_str, b1_repr, b1_int_bl, b1_tup_lst, b1_int_int, b1_len_tup, b1_len_lst, fl_led, q4, q5, q6])]
      simp [exL, SG.ok]),
    exL_nx (s1 := [S.own true d5, S.val (tbD (behR (behR a b n3) c n4)), S.un, S.un, S.val (D.int (n1 : Nat)), S.val (D.int (n2 : Nat)), S.val (D.int (n3 : Nat)), S.val (D.int (n4 : Nat)), S.val (tbD a), S.val (tbD b), S.val (tbD c), S.val (tbD (behR a b n3)), S.val (rwD r), S.un, S.un, S.un, S.un, S.un, S.un]) (by simp [exT, evX, evE, evT, evL, evC, SG.bnd, SG.ok, SG.opt, slotOf, rd, frz, frzs, frzR, opD, setS, setTg, free, truD, isiD, tyOf, callD, at_fr0, at_fr1, cm_ne_tb, cm_eq_tb, cm_ne_rw, cm_ne_int, cm_gt_int, cm_lt_int, cm_eq_int, cm_ne_str, cm_eq_str, b1_repr, b1_int_bl, b1_tup_lst, b1_int_int, b1_len_tup, b1_len_lst, fl_table_times, q7]),
    exL_nx (s1 := [S.own true d5, S.val (tbD (behR (behR a b n3) c n4)), S.un, S.un, S.val (D.int (n1 : Nat)), S.val (D.int (n2 : Nat)), S.val (D.int (n3 : Nat)), S.val (D.int (n4 : Nat)), S.val (tbD a), S.val (tbD b), S.val (tbD c), S.val (tbD (behR a b n3)), S.val (rwD r), S.un, S.un, S.un, S.un, S.un, S.un]) (by
      rw [exT_if (k := false) (s1 := [S.own true d5, S.val (tbD (behR (behR a b n3) c n4)), S.un, S.un, S.val (D.int (n1 : Nat)), S.val (D.int (n2 : Nat)), S.val (D.int (n3 : Nat)), S.val (D.int (n4 : Nat)), S.val (tbD a), S.val (tbD b), S.val (tbD c), S.val (tbD (behR a b n3)), S.val (rwD r), S.un, S.un, S.un, S.un, S.un, S.un]) (by simp [exT, evX, evE, evT, evL, evC, SG.bnd, SG.ok, SG.opt, slotOf, rd, frz, frzs, frzR, opD, setS, setTg, free, truD, isiD, tyOf, callD, at_fr0, at_fr1, cm_ne_tb, cm_eq_tb, cm_ne_rw, cm_ne_int, cm_gt_int, cm_lt_int, cm_eq_int, cm_ne_str, cm_eq_str, b1_repr, b1_int_bl, b1_tup_lst, b1_int_int, b1_len_tup, b1_len_lst, fl_table_times, q8, q9])]
      simp [exL, SG.ok]),
    exL_nx (s1 := [S.own true d5, S.val (tbD (behR (behR a b n3) c n4)), S.un, S.un, S.val (D.int (n1 : Nat)), S.val (D.int (n2 : Nat)), S.val (D.int (n3 : Nat)), S.val (D.int (n4 : Nat)), S.val (tbD a), S.val (tbD b), S.val (tbD c), S.val (tbD (behR a b n3)), S.val (rwD r), S.un, S.un, S.un, S.un, S.un, S.un]) (by
      rw [exT_if (k := false) (s1 := [S.own true d5, S.val (tbD (behR (behR a b n3) c n4)), S.un, S.un, S.val (D.int (n1 : Nat)), S.val (D.int (n2 : Nat)), S.val (D.int (n3 : Nat)), S.val (D.int (n4 : Nat)), S.val (tbD a), S.val (tbD b), S.val (tbD c), S.val (tbD (behR a b n3)), S.val (rwD r), S.un, S.un, S.un, S.un, S.un, S.un]) (by simp [exT, evX, evE, evT, evL, evC, SG.bnd, SG.ok, SG.opt, slotOf, rd, frz, frzs, frzR, opD, setS, setTg, free, truD, isiD, tyOf, callD, at_fr0, at_fr1, cm_ne_tb, cm_eq_tb, cm_ne_rw, cm_ne_int, cm_gt_int, cm_lt_int, cm_eq_int, cm_ne_str, cm_eq_str, b1_repr, b1_int_bl, b1_tup_lst, b1_int_int, b1_len_tup, b1_len_lst, fl_table_times, fl_unit, q10, q11])]
      simp [exL, SG.ok]),
    exL_nx (s1 := [S.own true d5, S.val (tbD (behR (behR a b n3) c n4)), S.un, S.un, S.val (D.int (n1 : Nat)), S.val (D.int (n2 : Nat)), S.val (D.int (n3 : Nat)), S.val (D.int (n4 : Nat)), S.val (tbD a), S.val (tbD b), S.val (tbD c), S.val (tbD (behR a b n3)), S.val (rwD r), S.un, S.un, S.un, S.un, S.un, S.un]) (by
      rw [exT_if (k := false) (s1 := [S.own true d5, S.val (tbD (behR (behR a b n3) c n4)), S.un, S.un, S.val (D.int (n1 : Nat)), S.val (D.int (n2 : Nat)), S.val (D.int (n3 : Nat)), S.val (D.int (n4 : Nat)), S.val (tbD a), S.val (tbD b), S.val (tbD c), S.val (tbD (behR a b n3)), S.val (rwD r), S.un, S.un, S.un, S.un, S.un, S.un]) (by simp [exT, evX, evE, evT, evL, evC, SG.bnd, SG.ok, SG.opt, slotOf, rd, frz, frzs, frzR, opD, setS, setTg, free, truD, isiD, tyOf, callD, at_fr0, at_fr1, cm_ne_tb, cm_eq_tb, cm_ne_rw, cm_ne_int, cm_gt_int, cm_lt_int, cm_eq_int, cm_ne_str, cm_eq_str, b1_repr, b1_int_bl, b1_tup_lst, b1_int_int, b1_len_tup, b1_len_lst, fl_table_times, fl_unit, q12, q13])]
      simp [exL, SG.ok]),
    exL_nx (s1 := [S.own true d6, S.val (tbD (behR (behR a b n3) c n4)), S.val (tbD m), S.un, S.val (D.int (n1 : Nat)), S.val (D.int (n2 : Nat)), S.val (D.int (n3 : Nat)), S.val (D.int (n4 : Nat)), S.val (tbD a), S.val (tbD b), S.val (tbD c), S.val (tbD (behR a b n3)), S.val (rwD r), S.un, S.un, S.un, S.un, S.un, S.un]) (by simp [exT, evX, evE, evT, evL, evC, SG.bnd, SG.ok, SG.opt, slotOf, rd, frz, frzs, frzR, opD, setS, setTg, free, truD, isiD, tyOf, callD, at_fr0, at_fr1, cm_ne_tb, cm_eq_tb, cm_ne_rw, cm_ne_int, cm_gt_int, cm_lt_int, cm_eq_int, cm_ne_str, cm_eq_str, b1_repr, b1_int_bl, b1_tup_lst, b1_int_int, b1_len_tup, b1_len_lst, fl_law_table, h6]),
    exL_nx (s1 := [S.own true d6, S.val (tbD (behR (behR a b n3) c n4)), S.val (tbD m), S.own false [], S.val (D.int (n1 : Nat)), S.val (D.int (n2 : Nat)), S.val (D.int (n3 : Nat)), S.val (D.int (n4 : Nat)), S.val (tbD a), S.val (tbD b), S.val (tbD c), S.val (tbD (behR a b n3)), S.val (rwD r), S.un, S.un, S.un, S.un, S.un, S.un]) (by simp [evF, exT, evX, evE, evT, evL, evC, SG.bnd, SG.ok, SG.opt, slotOf, rd, frz, frzs, frzR, opD, setS, setTg, free, truD, isiD, tyOf, callD, at_fr0, at_fr1, cm_ne_tb, cm_eq_tb, cm_ne_rw, cm_ne_int, cm_gt_int, cm_lt_int, cm_eq_int, cm_ne_str, cm_eq_str, b1_repr, b1_int_bl, b1_tup_lst, b1_int_int, b1_len_tup, b1_len_lst]),
    exL_nx (s1 := [S.own true d6, S.val (tbD (behR (behR a b n3) c n4)), S.val (tbD m), S.own false ((plusT a m).map rwD), S.val (D.int (n1 : Nat)), S.val (D.int (n2 : Nat)), S.val (D.int (n3 : Nat)), S.val (D.int (n4 : Nat)), S.val (tbD a), S.val (tbD b), S.val (tbD c), S.val (tbD (behR a b n3)), S.val (rwD r), sl, sb', S.un, S.un, S.un, S.un]) (by
      rw [exT_for (items := (a.zip m).map fun p => D.tup [rwD p.1, rwD p.2]) (s1 := [S.own true d6, S.val (tbD (behR (behR a b n3) c n4)), S.val (tbD m), S.own false [], S.val (D.int (n1 : Nat)), S.val (D.int (n2 : Nat)), S.val (D.int (n3 : Nat)), S.val (D.int (n4 : Nat)), S.val (tbD a), S.val (tbD b), S.val (tbD c), S.val (tbD (behR a b n3)), S.val (rwD r), S.un, S.un, S.un, S.un, S.un, S.un]) (zip_ev (by simp [evE, slotOf, SG.ok, tbD]) (by simp [evE, slotOf, SG.ok, tbD]) (by rw [sa.1, sm.1])) (by rw [List.length_map, List.length_zip, sa.1]; omega)]
      exact e8),
    exL_nx (s1 := [S.own true d6, S.val (tbD (behR (behR a b n3) c n4)), S.val (tbD m), S.own false ((plusT a m).map rwD), S.val (D.int (n1 : Nat)), S.val (D.int (n2 : Nat)), S.val (D.int (n3 : Nat)), S.val (D.int (n4 : Nat)), S.val (tbD a), S.val (tbD b), S.val (tbD c), S.val (tbD (behR a b n3)), S.val (rwD r), sl, sb', S.un, S.un, S.un, S.un]) (by
      rw [exT_if (k := false) (s1 := [S.own true d6, S.val (tbD (behR (behR a b n3) c n4)), S.val (tbD m), S.own false ((plusT a m).map rwD), S.val (D.int (n1 : Nat)), S.val (D.int (n2 : Nat)), S.val (D.int (n3 : Nat)), S.val (D.int (n4 : Nat)), S.val (tbD a), S.val (tbD b), S.val (tbD c), S.val (tbD (behR a b n3)), S.val (rwD r), sl, sb', S.un, S.un, S.un, S.un]) (by simp [exT, evX, evE, evT, evL, evC, SG.bnd, SG.ok, SG.opt, slotOf, rd, frz, frzs, frzR, opD, setS, setTg, free, truD, isiD, tyOf, callD, at_fr0, at_fr1, cm_ne_tb, cm_eq_tb, cm_ne_rw, cm_ne_int, cm_gt_int, cm_lt_int, cm_eq_int, cm_ne_str, cm_eq_str, b1_repr, b1_int_bl, b1_tup_lst, b1_int_int, b1_len_tup, b1_len_lst, fl_table_plus, q14, show D.tup ((plusT a m).map rwD) = tbD (plusT a m) from rfl, q15])]
      simp [exL, SG.ok]),
    exL_nx (s1 := [S.own true d6, S.val (tbD (behR (behR a b n3) c n4)), S.val (tbD m), S.own false ((plusT a m).map rwD), S.val (D.int (n1 : Nat)), S.val (D.int (n2 : Nat)), S.val (D.int (n3 : Nat)), S.val (D.int (n4 : Nat)), S.val (tbD a), S.val (tbD b), S.val (tbD c), S.val (tbD (behR a b n3)), S.val (rwD r), sl, sb', S.un, S.un, S.un, S.un]) (by
      rw [exT_if (k := false) (s1 := [S.own true d6, S.val (tbD (behR (behR a b n3) c n4)), S.val (tbD m), S.own false ((plusT a m).map rwD), S.val (D.int (n1 : Nat)), S.val (D.int (n2 : Nat)), S.val (D.int (n3 : Nat)), S.val (D.int (n4 : Nat)), S.val (tbD a), S.val (tbD b), S.val (tbD c), S.val (tbD (behR a b n3)), S.val (rwD r), sl, sb', S.un, S.un, S.un, S.un]) (by simp [exT, evX, evE, evT, evL, evC, SG.bnd, SG.ok, SG.opt, slotOf, rd, frz, frzs, frzR, opD, setS, setTg, free, truD, isiD, tyOf, callD, at_fr0, at_fr1, cm_ne_tb, cm_eq_tb, cm_ne_rw, cm_ne_int, cm_gt_int, cm_lt_int, cm_eq_int, cm_ne_str, cm_eq_str, b1_repr, b1_int_bl, b1_tup_lst, b1_int_int, b1_len_tup, b1_len_lst, fl_columns, q16, q17])]
      simp [exL, SG.ok])]
  refine exL_rt ?_
  exact cmp_run (by simp [exT, evX, evE, evT, evL, evC, SG.bnd, SG.ok, SG.opt, slotOf, rd, frz, frzs, frzR, opD, setS, setTg, free, truD, isiD, tyOf, callD, at_fr0, at_fr1, cm_ne_tb, cm_eq_tb, cm_ne_rw, cm_ne_int, cm_gt_int, cm_lt_int, cm_eq_int, cm_ne_str, cm_eq_str, b1_repr, b1_int_bl, b1_tup_lst, b1_int_int, b1_len_tup, b1_len_lst, fl_unit, q18]) hu (cm_eq_tb _)
end K24
namespace K24
open PySem SG Gn
def tailL : TL → TL
  | .cons _ r => r
  | .nil => .nil
/-! ### the law -/
def headL : TL → T
  | .cons t _ => t
  | .nil => .pas
theorem t1_run (sc : D) (s1 s3 s4 : S) : exT (headL (tailL p_law)) [.val sc, s1, .un, s3, s4] = some (.ok .nx, [.val sc, s1, .own false [.tup [], .tup [.tup [.tup [.int 0, .int 1]], .tup [.tup [.int 0, .int 1]]], .tup []], s3, s4]) := by
  have z : ∀ n : Nat, TB 3 ([] : List (List Rat)) := fun _ r h => by cases h
  have u0 : f_unit.run [] [.int 0] = some (.ok (.tup []), []) := unit_run [] (w := 0) (by decide)
  have u1 : f_table_times.run [] [.int 2, .int 0, .int 1, .tup [.tup [], .tup []], .tup []] = some (.ok (.tup [.tup [.tup [.int 0, .int 1]], .tup [.tup [.int 0, .int 1]]]), []) :=
    times_run [] (h := 2) (m := 0) (w := 1) (n := 3) (a := [[], []]) (b := []) ⟨rfl, by simp⟩ ⟨rfl, by simp⟩ (fun r hr q hq => by
      simp at hr
      subst hr
      cases hq) (z 0) (by decide) (by decide) (by decide) (by decide)
  have u2 : f_table_times.run [] [.int 0, .int 3, .int 2, .tup [], .tup [.tup [.tup [.int 1, .int 1], .tup [.int 0, .int 1]], .tup [.tup [.int 1, .int 1], .tup [.int 0, .int 1]], .tup [.tup [.int 1, .int 1], .tup [.int 0, .int 1]]]] = some (.ok (.tup []), []) :=
    times_run [] (h := 0) (m := 3) (w := 2) (n := 3) (a := []) (b := [[1, 0], [1, 0], [1, 0]]) ⟨rfl, by simp⟩ ⟨rfl, by simp⟩ (z 0) (fun r hr q hq => by
      simp at hr
      subst hr
      simp at hq
      rcases hq with rfl | rfl
      · exact FB31
      · exact FBzero.mono (by decide)) (by decide) (by decide) (by decide) (by decide)
  have u3 := u2
  rw [show ([.tup [.tup [.int 1, .int 1], .tup [.int 0, .int 1]], .tup [.tup [.int 1, .int 1], .tup [.int 0, .int 1]], .tup [.tup [.int 1, .int 1], .tup [.int 0, .int 1]]] : List D) = List.replicate 3 (.tup [.tup [.int 1, .int 1], .tup [.int 0, .int 1]]) from rfl] at u3
  simp [headL, tailL, p_law, exT, evX, evF, evL, evE, SG.bnd, SG.ok, SG.opt, rd, frz, frzs, callD, opD, setS, free, fl_unit, fl_table_times, u0, u1, u2, u3]
theorem len_tb {t : List (List Rat)} {n : Nat} (h : t.length = n) : b1D .len (tbD t) = some (.int n) := by
  subst h
  unfold tbD
  rw [b1_len_tup, List.length_map]
theorem app_len {f : Fn} {k : Int} {d : D} (hf : f.fresh = false) (hl : f.lend = false) (hm : f.many = 1) (hr : f.run [] [.int k] = some (.ok d, [])) (hd : b1D .len d = some (.int k)) (sc : D) (s1 s3 s4 : S) (x y z : D) :
    exT (.app 2 (.b1 .len (.call f (.cons (.cst (.int k)) .nil)))) [.val sc, s1, .own false [x, y, z], s3, s4] = some (.ok .nx, [.val sc, s1, .own false [x, y, z, .int k], s3, s4]) := by
  simp [exT, evX, evE, evL, SG.bnd, SG.ok, SG.opt, rd, frz, frzs, callD, hf, hl, hm, hr, hd]
theorem u144 : ∃ d, f_unit.run [] [.int 144] = some (.ok d, []) ∧ b1D .len d = some (.int 144) := by
  obtain ⟨w, hw⟩ : ∃ w : Nat, w = 144 := ⟨_, rfl⟩
  have u := unit_run [] (w := w) (by omega)
  have l := len_tb (unit_siz w).1
  have e : (w : Int) = 144 := by omega
  rw [e] at u l
  exact ⟨_, u, l⟩
theorem t2_run (sc : D) (s1 s3 s4 : S) : exT (.app 2 (.b1 .len (.call f_unit (.cons (.cst (.int 144)) .nil)))) [.val sc, s1, .own false [.tup [], .tup [.tup [.tup [.int 0, .int 1]], .tup [.tup [.int 0, .int 1]]], .tup []], s3, s4] =
    some (.ok .nx, [.val sc, s1, .own false [.tup [], .tup [.tup [.tup [.int 0, .int 1]], .tup [.tup [.int 0, .int 1]]], .tup [], .int 144], s3, s4]) := by
  obtain ⟨d, u, l⟩ := u144
  exact app_len fl_unit.1 fl_unit.2.1 fl_unit.2.2 u l sc s1 s3 s4 _ _ _
theorem Sw.mono {d : D} {w n w' n' : Nat} (h : Sw d w n) (hw : w ≤ w') (hn : n ≤ n') : Sw d w' n' := ⟨h.a, h.b, Nat.le_trans h.c hw, Nat.le_trans h.d hn⟩
theorem sw_four {a b c d : D} (A : Sw a 2580 5) (B : Sw b 2580 5) (C : Sw c 2580 5) (E : Sw d 2580 5) : shownOk (.lst [a, b, c, d]) = true := by
  have e2 : (D.lst [a, b, c, d]).toP.leavesShort 51 = true := by simp only [D.toP, D.toPs, PyData.leavesShort, PyData.leavesShortAll, A.b, B.b, C.b, E.b, Bool.and_self]
  have e3 : (D.lst [a, b, c, d]).toP.weight ≤ 10400 := by
    simp only [D.toP, D.toPs, PyData.weight, PyData.weightAll]
    have := A.c
    have := B.c
    have := C.c
    have := E.c
    omega
  unfold shownOk
  rw [Bool.and_eq_true, Bool.and_eq_true]
  refine ⟨⟨?_, decide_eq_true ?_⟩, decide_eq_true ?_⟩
  · simp only [D.toP, D.toPs, PyData.showable, PyData.showableAll, A.a, B.a, C.a, E.a, Bool.and_self]
  · have e := PyData.shown_le 51 (by decide) _ e2
    omega
  · simp only [D.toP, D.toPs, PyData.depth, PyData.depthAll]
    have := A.d
    have := B.d
    have := C.d
    have := E.d
    omega
theorem shL : shownOk (.lst [.tup [], .tup [.tup [.tup [.int 0, .int 1]], .tup [.tup [.int 0, .int 1]]], .tup [], .int 144]) = true := by
  have A : Sw (.tup []) 0 1 := sw_tup (k := 0) (w := 0) (n := 0) (fun d hd => by cases hd) (Nat.le_refl _)
  have Z : Sw (.tup [.int 0, .int 1]) 102 1 := sw_fr (FBzero.mono (by decide))
  have R : Sw (.tup [.tup [.int 0, .int 1]]) 103 2 := sw_tup (k := 1) (w := 102) (n := 1) (fun d hd => by
    rw [List.mem_singleton] at hd
    subst hd
    exact Z) (Nat.le_refl _)
  have B : Sw (.tup [.tup [.tup [.int 0, .int 1]], .tup [.tup [.int 0, .int 1]]]) 208 3 := sw_tup (k := 2) (w := 103) (n := 2) (fun d hd => by
    rcases List.mem_cons.mp hd with rfl | hd
    · exact R
    · rw [List.mem_singleton] at hd
      subst hd
      exact R) (Nat.le_refl _)
  exact sw_four (A.mono (by decide) (by decide)) (B.mono (by decide) (by decide)) (A.mono (by decide) (by decide)) ((sw_int (i := 144) (by unfold Bd; decide +kernel)).mono (by decide) (by decide))
theorem t3_run (sc : D) (s1 s3 s4 : S) : exL (tailL (tailL (tailL p_law))) [.val sc, s1, .own false [.tup [], .tup [.tup [.tup [.int 0, .int 1]], .tup [.tup [.int 0, .int 1]]], .tup [], .int 144], s3, s4] = some (.ok (.rt (.bl true)), [.val sc, s1, .own false [.tup [], .tup [.tup [.tup [.int 0, .int 1]], .tup [.tup [.int 0, .int 1]]], .tup [], .int 144], s3, s4]) := by
  refine exL_rt (cmp_run (d := .str (D.lst [.tup [], .tup [.tup [.tup [.int 0, .int 1]], .tup [.tup [.int 0, .int 1]]], .tup [], .int 144]).toP.shown) (e := .str (D.lst [.tup [], .tup [.tup [.tup [.int 0, .int 1]], .tup [.tup [.int 0, .int 1]]], .tup [], .int 144]).toP.shown) ?_ ?_ (cm_eq_str _))
  · rw [evE.eq_19]
    show SG.bnd (SG.ok (W.o 2) _) _ = _
    rw [bnd_ok]
    show SG.bnd (SG.opt (b1D .repr (D.lst _)) _) _ = _
    rw [b1_repr, shL]
    rfl
  · rw [evE.eq_19]
    have e0 : evE (.fr (.disp (.cons (.tup .nil) (.cons (.tup (.cons (.tup (.cons (.tup (.cons (.cst (.int 0)) (.cons (.cst (.int 1)) .nil))) .nil)) (.cons (.tup (.cons (.tup (.cons (.cst (.int 0)) (.cons (.cst (.int 1)) .nil))) .nil)) .nil))) (.cons (.tup .nil) (.cons (.cst (.int 144)) .nil)))))) ([.val sc, s1, .own false [.tup [], .tup [.tup [.tup [.int 0, .int 1]], .tup [.tup [.int 0, .int 1]]], .tup [], .int 144], s3, s4] : List S) = SG.ok (W.v (.lst [.tup [], .tup [.tup [.tup [.int 0, .int 1]], .tup [.tup [.int 0, .int 1]]], .tup [], .int 144])) ([.val sc, s1, .own false [.tup [], .tup [.tup [.tup [.int 0, .int 1]], .tup [.tup [.int 0, .int 1]]], .tup [], .int 144], s3, s4] : List S) := by
      simp [evE, evF, evL, SG.bnd, SG.ok, frz, frzs]
    rw [e0, bnd_ok]
    show SG.bnd (SG.opt (b1D .repr (D.lst _)) _) _ = _
    rw [b1_repr, shL]
    rfl
theorem tail_run (sc : D) (s1 s3 s4 : S) : ∃ st', exL (tailL p_law) [.val sc, s1, .un, s3, s4] = some (.ok (.rt (.bl true)), st') ∧ (match (st'[0]? : Option S) with | some (S.own true zs) => zs | _ => []) = [] := by
  refine ⟨[.val sc, s1, .own false [.tup [], .tup [.tup [.tup [.int 0, .int 1]], .tup [.tup [.int 0, .int 1]]], .tup [], .int 144], s3, s4], ?_, rfl⟩
  · rw [show tailL p_law = .cons (headL (tailL p_law)) (.cons (.app 2 (.b1 .len (.call f_unit (.cons (.cst (.int 144)) .nil)))) (tailL (tailL (tailL p_law)))) from rfl]
    rw [exL_nx (t1_run sc s1 s3 s4), exL_nx (t2_run sc s1 s3 s4)]
    exact t3_run sc s1 s3 s4
theorem inner_loop (sc : D) (sp : D) : ∀ (its : List D) (ds : List D) (s4 : S), Dc ds → Fr s4 → ∃ ds' s4', loopT (.nm 4) (fun s => exL (.cons (.ife (.not (.call f_law_right (.cons (.var 3) .nil))) (.cons (.ret (.cst (.bl false))) .nil) (.nil)) .nil) s) its [.val sc, .val sp, .un, .own false ds, s4] =
    SG.ok .nx [.val sc, .val sp, .un, .own false ds', s4'] ∧ Dc ds' ∧ Fr s4'
  | [], ds, s4, hd, f => ⟨ds, s4, rfl, hd, f⟩
  | x :: its, ds, s4, hd, f => by
    obtain ⟨d1, h1, hd1⟩ := right_run hd
    obtain ⟨d2, s2, h2, hd2, f2⟩ := inner_loop sc sp its d1 (.val x) hd1 (.inr (.inl ⟨x, rfl⟩))
    refine ⟨d2, s2, ?_, hd2, f2⟩
    have fr4 : free [.val sc, .val sp, .un, .own false ds, s4] 4 = true := free_of rfl f
    unfold loopT
    rw [show setTg [.val sc, .val sp, .un, .own false ds, s4] (.nm 4) x = some [.val sc, .val sp, .un, .own false ds, .val x] from set_nm fr4]
    dsimp only
    rw [exL_nx (s1 := [.val sc, .val sp, .un, .own false d1, .val x]) (by
      rw [exT_if (k := false) (s1 := [.val sc, .val sp, .un, .own false d1, .val x]) (by simp [exT, evX, evE, evT, evF, evL, evI, evC, SG.bnd, SG.ok, SG.opt, slotOf, rd, frz, frzs, opD, cmD, b1D, atD, setS, setTg, free, truD, isiD, tyOf, isNon, callD, at0, at1, at2, fl_law_right, h1])]
      simp [exL, SG.ok]), exL_nil]
    exact h2
theorem outer_loop (ns : List Int) : ∀ (its : List Nat) (s1 s3 s4 : S), Fr s1 → Fr s3 → Fr s4 → ∃ s1' s3' s4', loopT (.nm 1) (fun s => exL (.cons (.asg 3 (.f (.callF f_law_dice (.cons (.var 0) (.cons (.var 1) .nil))))) (.cons (.forr (.nm 4) (.rng1 (.cst (.int 2))) (.cons (.ife (.not (.call f_law_right (.cons (.var 3) .nil))) (.cons (.ret (.cst (.bl false))) .nil) (.nil)) .nil)) .nil)) s)
    (its.map fun (i : Nat) => D.int (0 + (i : Int))) [.val (.lst (ns.map D.int)), s1, .un, s3, s4] = SG.ok .nx [.val (.lst (ns.map D.int)), s1', .un, s3', s4'] ∧ Fr s1' ∧ Fr s3' ∧ Fr s4'
  | [], s1, s3, s4, f1, f3, f4 => ⟨s1, s3, s4, rfl, f1, f3, f4⟩
  | k :: its, s1, s3, s4, f1, f3, f4 => by
    obtain ⟨ds, h1, hd⟩ := dice_run ns k
    obtain ⟨d2, t4, h2, hd2, g4⟩ := inner_loop (.lst (ns.map D.int)) (.int k) (rngD 0 2) ds s4 hd f4
    obtain ⟨u1, u3, u4, h3, k1, k3, k4⟩ := outer_loop ns its (.val (.int k)) (.own false d2) t4 (.inr (.inl ⟨_, rfl⟩)) (.inr (.inr ⟨_, rfl⟩)) g4
    refine ⟨u1, u3, u4, ?_, k1, k3, k4⟩
    have fr1 : free [.val (.lst (ns.map D.int)), s1, .un, s3, s4] 1 = true := free_of rfl f1
    have fr3 : free [.val (.lst (ns.map D.int)), .val (.int (k : Int)), .un, s3, s4] 3 = true := free_of rfl f3
    rw [List.map_cons]
    unfold loopT
    rw [show setTg [.val (.lst (ns.map D.int)), s1, .un, s3, s4] (.nm 1) (.int (0 + (k : Int))) = some [.val (.lst (ns.map D.int)), .val (.int (k : Int)), .un, s3, s4] from by rw [set_nm fr1, Int.zero_add]; rfl]
    dsimp only
    rw [exL_nx (s1 := [.val (.lst (ns.map D.int)), .val (.int (k : Int)), .un, .own false ds, s4]) (by
        have e0 : evX (.f (.callF f_law_dice (.cons (.var 0) (.cons (.var 1) .nil)))) [.val (.lst (ns.map D.int)), .val (.int (k : Int)), .un, s3, s4] = some (.ok (.own false ds), [.val (.lst (ns.map D.int)), .val (.int (k : Int)), .un, s3, s4]) := by
          simp [exT, evX, evE, evT, evF, evL, evI, evC, SG.bnd, SG.ok, SG.opt, slotOf, rd, frz, frzs, opD, cmD, b1D, atD, setS, setTg, free, truD, isiD, tyOf, isNon, callD, at0, at1, at2, fl_law_dice, h1]
        rw [exT, e0]
        show SG.bnd (SG.opt (setS _ 3 _) _) _ = _
        unfold setS
        rw [if_pos fr3]
        rfl),
      exL_nx (s1 := [.val (.lst (ns.map D.int)), .val (.int (k : Int)), .un, .own false d2, t4]) (by
        rw [exT_for (items := rngD 0 2) (s1 := [.val (.lst (ns.map D.int)), .val (.int (k : Int)), .un, .own false ds, s4]) (by simp [exT, evX, evE, evT, evF, evL, evI, evC, SG.bnd, SG.ok, SG.opt, slotOf, rd, frz, frzs, opD, cmD, b1D, atD, setS, setTg, free, truD, isiD, tyOf, isNon, callD, at0, at1, at2]) (by decide)]
        exact h2), exL_nil]
    exact h3
theorem law_run (ns : List Int) (hl : ns.length ≤ 63) : ∃ zs, f_law.run [] [.lst (ns.map D.int)] = some (.ok (.bl true), zs) := by
  obtain ⟨m, hm0, hm1, hm⟩ : ∃ m : Nat, 0 < m ∧ m ≤ 6 ∧ evI (.rng1 (.max2 (.cst (.int 1)) (.min2 (.cst (.int 6)) (.b1 .len (.var 0))))) [.val (.lst (ns.map D.int)), .un, .un, .un, .un] = some (.ok (rngD 0 m), [.val (.lst (ns.map D.int)), .un, .un, .un, .un]) := by
    obtain ⟨v, hv⟩ : ∃ v : Int, v = (if (if (ns.length : Int) < 6 then (ns.length : Int) else 6) > 1 then (if (ns.length : Int) < 6 then (ns.length : Int) else 6) else 1) := ⟨_, rfl⟩
    have v0 : 1 ≤ v ∧ v ≤ 6 := by rw [hv]; split <;> split <;> omega
    refine ⟨v.toNat, by omega, by omega, ?_⟩
    have e1 : (-100000 : Int) ≤ v ∧ v ≤ 100000 := by omega
    have e2 : evE (.max2 (.cst (.int 1)) (.min2 (.cst (.int 6)) (.b1 .len (.var 0)))) [.val (.lst (ns.map D.int)), .un, .un, .un, .un] = some (.ok (.v (.int v)), [.val (.lst (ns.map D.int)), .un, .un, .un, .un]) := by
      rw [hv]
      simp [evE, SG.bnd, SG.ok, SG.opt, slotOf, rd, b1D]
    rw [evI.eq_1, e2]
    show (if _ then _ else _) = _
    rw [if_pos e1]
    rfl
  obtain ⟨s1, s3, s4, h1, _⟩ := outer_loop ns (List.range m) .un .un .un (.inl rfl) (.inl rfl) (.inl rfl)
  obtain ⟨st', t1, t2⟩ := tail_run (.lst (ns.map D.int)) s1 s3 s4
  refine ⟨[], ?_⟩
  rw [fr_law]
  refine run0 (init := [.val (.lst (ns.map D.int)), .un, .un, .un, .un]) rfl (s1 := st') (Eq.trans ?_ t1) t2
  show exL p_law _ = _
  unfold p_law
  rw [exL_nx (s1 := [.val (.lst (ns.map D.int)), s1, .un, s3, s4]) (by
    rw [exT_for (items := rngD 0 m) (s1 := [.val (.lst (ns.map D.int)), .un, .un, .un, .un]) hm (by rw [rngD, List.length_map, List.length_range]; omega)]
    exact h1)]
  rfl
end K24
open PyProof.Rows PySem.W PySem
theorem PySem.Challenge.cw_stillgauge_k24_whole_tables_led_one_behi_holds : PySem.Challenge.rw_stillgauge_k24_whole_tables_led_one_behi.Holds := by
  w_on; o_law; k_head; (case hw => w_witness2)
  k_fill
  refine Att.attach_call (n := 63) ?most rfl fun w s₀ s₁ mg mb fa o pm cd doc a vs ns G Y ho hd hcd hmg hobj hints hlen hg => ?_
  case most => rfl
  have X1 := kIn_of Y
  have hrun := K24.law_run ns hlen
  refine' (have TT := K24.top_mk X1 G.T.g ?a_is_integer ?l_is_integer ?c_is_integer ?k_is_integer ?a_common_divisor ?l_common_divisor ?c_common_divisor ?k_common_divisor ?a_is_number ?l_is_number ?c_is_number ?k_is_number ?a_reduced ?l_reduced ?c_reduced ?k_reduced ?a_require_count ?l_require_count ?c_require_count ?k_require_count ?t_require_count ?a_added ?l_added ?c_added ?k_added ?a_multiplied ?l_multiplied ?c_multiplied ?k_multiplied ?a_is_plain_row ?l_is_plain_row ?c_is_plain_row ?k_is_plain_row ?a_is_plain_table ?l_is_plain_table ?c_is_plain_table ?k_is_plain_table ?a_rest_row ?l_rest_row ?c_rest_row ?k_rest_row ?a_unit_row ?l_unit_row ?c_unit_row ?k_unit_row ?a_unit_table ?l_unit_table ?c_unit_table ?k_unit_table ?a_sum_of_rows ?l_sum_of_rows ?c_sum_of_rows ?k_sum_of_rows ?a_times_row ?l_times_row ?c_times_row ?k_times_row ?a_product_of ?l_product_of ?c_product_of ?k_product_of ?a_led_row ?l_led_row ?c_led_row ?k_led_row ?a_led_told ?l_led_told ?c_led_told ?k_led_told ?a_columns_of ?l_columns_of ?c_columns_of ?k_columns_of ?a_table_behind ?l_table_behind ?c_table_behind ?k_table_behind ?a_require_width ?l_require_width ?c_require_width ?k_require_width ?a_require_row ?l_require_row ?c_require_row ?k_require_row ?a_require_table ?l_require_table ?c_require_table ?k_require_table ?a_require_sized ?l_require_sized ?c_require_sized ?k_require_sized ?a_led ?l_led ?c_led ?k_led ?a_columns ?l_columns ?c_columns ?k_columns ?a_unit ?l_unit ?c_unit ?k_unit ?a_table_plus ?l_table_plus ?c_table_plus ?k_table_plus ?a_table_times ?l_table_times ?c_table_times ?k_table_times ?a_law_dice ?l_law_dice ?c_law_dice ?k_law_dice ?a_law_roll ?l_law_roll ?c_law_roll ?k_law_roll ?a_law_pick ?l_law_pick ?c_law_pick ?k_law_pick ?a_law_fr ?l_law_fr ?c_law_fr ?k_law_fr ?a_law_plus ?l_law_plus ?c_law_plus ?k_law_plus ?a_law_times ?l_law_times ?c_law_times ?k_law_times ?a_law_dot ?l_law_dot ?c_law_dot ?k_law_dot ?a_law_columns ?l_law_columns ?c_law_columns ?k_law_columns ?a_law_table ?l_law_table ?c_law_table ?k_law_table ?a_law_behind_one ?l_law_behind_one ?c_law_behind_one ?k_law_behind_one ?a_law_right ?l_law_right ?c_law_right ?k_law_right ?a_law ?l_law ?c_law ?k_law ?a_NOUGHT ?l_NOUGHT ?a_ONE ?l_ONE (SG.gloInt (PySem.W.mg_of X1 G.T.g ?q_MAX_WIDTH)) ?z_len ?z_abs ?z_int ?z_repr ?z_tuple ?z_all ?z_any ?z_str ?z_isinstance ?z_bool ?z_list ?z_dict ?z_max ?z_min ?z_range ?z_zip ?z_enumerate; ?main)
  (case a_is_integer => k_is)
  (case l_is_integer => k_is)
  (case c_is_integer => k_is)
  (case k_is_integer => k_is)
  (case a_common_divisor => k_is)
  (case l_common_divisor => k_is)
  (case c_common_divisor => k_is)
  (case k_common_divisor => k_is)
  (case a_is_number => k_is)
  (case l_is_number => k_is)
  (case c_is_number => k_is)
  (case k_is_number => k_is)
  (case a_reduced => k_is)
  (case l_reduced => k_is)
  (case c_reduced => k_is)
  (case k_reduced => k_is)
  (case a_require_count => k_is)
  (case l_require_count => k_is)
  (case c_require_count => k_is)
  (case k_require_count => k_is)
  (case t_require_count => k_is)
  (case a_added => k_is)
  (case l_added => k_is)
  (case c_added => k_is)
  (case k_added => k_is)
  (case a_multiplied => k_is)
  (case l_multiplied => k_is)
  (case c_multiplied => k_is)
  (case k_multiplied => k_is)
  (case a_is_plain_row => k_is)
  (case l_is_plain_row => k_is)
  (case c_is_plain_row => k_is)
  (case k_is_plain_row => k_is)
  (case a_is_plain_table => k_is)
  (case l_is_plain_table => k_is)
  (case c_is_plain_table => k_is)
  (case k_is_plain_table => k_is)
  (case a_rest_row => k_is)
  (case l_rest_row => k_is)
  (case c_rest_row => k_is)
  (case k_rest_row => k_is)
  (case a_unit_row => k_is)
  (case l_unit_row => k_is)
  (case c_unit_row => k_is)
  (case k_unit_row => k_is)
  (case a_unit_table => k_is)
  (case l_unit_table => k_is)
  (case c_unit_table => k_is)
  (case k_unit_table => k_is)
  (case a_sum_of_rows => k_is)
  (case l_sum_of_rows => k_is)
  (case c_sum_of_rows => k_is)
  (case k_sum_of_rows => k_is)
  (case a_times_row => k_is)
  (case l_times_row => k_is)
  (case c_times_row => k_is)
  (case k_times_row => k_is)
  (case a_product_of => k_is)
  (case l_product_of => k_is)
  (case c_product_of => k_is)
  (case k_product_of => k_is)
  (case a_led_row => k_is)
  (case l_led_row => k_is)
  (case c_led_row => k_is)
  (case k_led_row => k_is)
  (case a_led_told => k_is)
  (case l_led_told => k_is)
  (case c_led_told => k_is)
  (case k_led_told => k_is)
  (case a_columns_of => k_is)
  (case l_columns_of => k_is)
  (case c_columns_of => k_is)
  (case k_columns_of => k_is)
  (case a_table_behind => k_is)
  (case l_table_behind => k_is)
  (case c_table_behind => k_is)
  (case k_table_behind => k_is)
  (case a_require_width => k_is)
  (case l_require_width => k_is)
  (case c_require_width => k_is)
  (case k_require_width => k_is)
  (case a_require_row => k_is)
  (case l_require_row => k_is)
  (case c_require_row => k_is)
  (case k_require_row => k_is)
  (case a_require_table => k_is)
  (case l_require_table => k_is)
  (case c_require_table => k_is)
  (case k_require_table => k_is)
  (case a_require_sized => k_is)
  (case l_require_sized => k_is)
  (case c_require_sized => k_is)
  (case k_require_sized => k_is)
  (case a_led => k_is)
  (case l_led => k_is)
  (case c_led => k_is)
  (case k_led => k_is)
  (case a_columns => k_is)
  (case l_columns => k_is)
  (case c_columns => k_is)
  (case k_columns => k_is)
  (case a_unit => k_is)
  (case l_unit => k_is)
  (case c_unit => k_is)
  (case k_unit => k_is)
  (case a_table_plus => k_is)
  (case l_table_plus => k_is)
  (case c_table_plus => k_is)
  (case k_table_plus => k_is)
  (case a_table_times => k_is)
  (case l_table_times => k_is)
  (case c_table_times => k_is)
  (case k_table_times => k_is)
  (case a_law_dice => k_is)
  (case l_law_dice => k_is)
  (case c_law_dice => k_is)
  (case k_law_dice => k_is)
  (case a_law_roll => k_is)
  (case l_law_roll => k_is)
  (case c_law_roll => k_is)
  (case k_law_roll => k_is)
  (case a_law_pick => k_is)
  (case l_law_pick => k_is)
  (case c_law_pick => k_is)
  (case k_law_pick => k_is)
  (case a_law_fr => k_is)
  (case l_law_fr => k_is)
  (case c_law_fr => k_is)
  (case k_law_fr => k_is)
  (case a_law_plus => k_is)
  (case l_law_plus => k_is)
  (case c_law_plus => k_is)
  (case k_law_plus => k_is)
  (case a_law_times => k_is)
  (case l_law_times => k_is)
  (case c_law_times => k_is)
  (case k_law_times => k_is)
  (case a_law_dot => k_is)
  (case l_law_dot => k_is)
  (case c_law_dot => k_is)
  (case k_law_dot => k_is)
  (case a_law_columns => k_is)
  (case l_law_columns => k_is)
  (case c_law_columns => k_is)
  (case k_law_columns => k_is)
  (case a_law_table => k_is)
  (case l_law_table => k_is)
  (case c_law_table => k_is)
  (case k_law_table => k_is)
  (case a_law_behind_one => k_is)
  (case l_law_behind_one => k_is)
  (case c_law_behind_one => k_is)
  (case k_law_behind_one => k_is)
  (case a_law_right => k_is)
  (case l_law_right => k_is)
  (case c_law_right => k_is)
  (case k_law_right => k_is)
  (case a_law => k_is)
  (case l_law => k_is)
  (case c_law => k_is)
  (case k_law => k_is)
  (case a_NOUGHT => k_is)
  (case l_NOUGHT => k_is)
  (case a_ONE => k_is)
  (case l_ONE => k_is)
  (case q_MAX_WIDTH => k_is)
  (case z_len => k_is)
  (case z_abs => k_is)
  (case z_int => k_is)
  (case z_repr => k_is)
  (case z_tuple => k_is)
  (case z_all => k_is)
  (case z_any => k_is)
  (case z_str => k_is)
  (case z_isinstance => k_is)
  (case z_bool => k_is)
  (case z_list => k_is)
  (case z_dict => k_is)
  (case z_max => k_is)
  (case z_min => k_is)
  (case z_range => k_is)
  (case z_zip => k_is)
  (case z_enumerate => k_is)
  case main =>
    exact SG.top_call (f := K24.f_law) X1 G.T.g G.T.b G.T.builtins G.T.nolimit hg hobj hints (Nat.le_trans hlen (by decide)) ⟨rfl, by decide, by decide⟩ rfl hmg (fun base => K24.s_law TT) rfl rfl rfl hrun
