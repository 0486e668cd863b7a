import PyProof.Rows.All
import Wide.All
import OpenK.AllK
import Wide.FinOn
import HandS.ForMost
import HandS.IsInst
import HandS.TupAny
import HandS.TupMul
import HandS.Strs
import HandS.Style
import HandS.Conv
import HandS.More
import HandS.Text
import PySem.Challenge.RW_turnsfit_k56_effects_of_forests
set_option Elab.async false
set_option linter.all false
set_option maxRecDepth 100000
set_option maxHeartbeats 4000000
/-! DL, part a: data values and cells over the hand layer's abstract heap. -/
namespace D2
open PySem PySem.Spec PyProof.Rows L2

/-- a value as data: a tuple, a list that nobody changes any more, an object that never changes, a cell -/
inductive Dv where
  | non | bl (b : Bool) | int (i : Int) | str (s : Str)
  | tup (xs : List Dv) | tux (xs : List Dv) | rol (xs : List Dv) | fro (xs : List Dv) | obj (C : Addr) (ns : List Str) (xs : List Dv) | ref (n : Nat)
/-- what stands in a cell -/
inductive Co where
  | lst (xs : List Dv)
abbrev Sto := List Co
abbrev En := List (Option Dv)

/-- a list of the written part -/
def KL (K : PySem.W.Frag) (a : Addr) (xs : List V) : Prop := ∃ (o : Obj) (its : Array Value) (n : Nat), K.lookup a = some o ∧ o.cls = .type "list" ∧ o.dict = none ∧ o.data = .seq its n ∧ its.size ≤ sizeLine ∧ Vals xs its.toList
mutual
inductive RD (K : PySem.W.Frag) (ex : Addr → Prop) (f : Nat → Addr) (k : Nat) (H : Hp) : Dv → V → Prop
  | non : RD K ex f k H .non .non
  | bl (b : Bool) : RD K ex f k H (.bl b) (.bl b)
  | int (i : Int) : RD K ex f k H (.int i) (.int i)
  | str (s : Str) : RD K ex f k H (.str s) (.str s)
  | tup {xs : List Dv} {a : Addr} {vs : List V} : SqT K H a vs → RDs K ex f k H xs vs → RD K ex f k H (.tup xs) (.ref a)
  | tux {xs : List Dv} {a : Addr} {vs : List V} : (∃ o, H a = some (.frz o (.tup vs)) ∧ o.dict = none) → RDs K ex f k H xs vs → RD K ex f k H (.tux xs) (.ref a)
  | rol {xs : List Dv} {a : Addr} {vs : List V} : H a = some (.lst vs) → ¬ ex a → (∀ n, n < k → f n ≠ a) → RDs K ex f k H xs vs → RD K ex f k H (.rol xs) (.ref a)
  | fro {xs : List Dv} {a : Addr} {vs : List V} : (Rd H a (.lst vs) ∧ ¬ ex a ∧ ∀ n, n < k → f n ≠ a) ∨ KL K a vs → RDs K ex f k H xs vs → RD K ex f k H (.fro xs) (.ref a)
  | obj {C a dx : Addr} {ns : List Str} {xs : List Dv} {fs : List (Str × V)} : H a = some (.ins C dx fs) → fs.map (·.1) = ns → RDs K ex f k H xs (fs.map (·.2)) → RD K ex f k H (.obj C ns xs) (.ref a)
  | ref (n : Nat) : n < k → RD K ex f k H (.ref n) (.ref (f n))
inductive RDs (K : PySem.W.Frag) (ex : Addr → Prop) (f : Nat → Addr) (k : Nat) (H : Hp) : List Dv → List V → Prop
  | nil : RDs K ex f k H [] []
  | cons {x : Dv} {xs : List Dv} {v : V} {vs : List V} : RD K ex f k H x v → RDs K ex f k H xs vs → RDs K ex f k H (x :: xs) (v :: vs)
end

/-- a cell's content stands at an address -/
inductive CoR (K : PySem.W.Frag) (ex : Addr → Prop) (f : Nat → Addr) (k : Nat) (H : Hp) : Co → Addr → Prop
  | lst {xs : List Dv} {a : Addr} {vs : List V} : H a = some (.lst vs) → RDs K ex f k H xs vs → CoR K ex f k H (.lst xs) a

structure RS (K : PySem.W.Frag) (ex : Addr → Prop) (f : Nat → Addr) (st : Sto) (H : Hp) : Prop where
  inj : ∀ m n, m < st.length → n < st.length → f m = f n → m = n
  obj : ∀ n c, st[n]? = some c → CoR K ex f st.length H c (f n)
  exs : ∀ a, ex a → H a ≠ none
  exc : ∀ n, n < st.length → ¬ ex (f n)

/-- from one world to a later one -/
structure Stp (f : Nat → Addr) (k : Nat) (H : Hp) (f' : Nat → Addr) (k' : Nat) (H' : Hp) : Prop where
  len : k ≤ k'
  agree : ∀ n, n < k → f' n = f n
  fresh : ∀ n, k ≤ n → n < k' → H (f' n) = none
  keep : ∀ b o, (∀ n, n < k → f n ≠ b) → H b = some o → H' b = some o
  there : ∀ b, H' b = none → H b = none

/-- what a heap must have of the cells: lists -/
def Cel (f : Nat → Addr) (k : Nat) (H : Hp) : Prop := ∀ n, n < k → ∃ vs, H (f n) = some (.lst vs)
theorem RS.cel {K : PySem.W.Frag} {ex : Addr → Prop} {f : Nat → Addr} {st : Sto} {H : Hp} (r : RS K ex f st H) : Cel f st.length H := fun n hn => by
  have h := r.obj n st[n] (by simp [hn])
  cases h2 : st[n] with
  | lst xs =>
    rw [h2] at h
    cases h with
    | lst a b => exact ⟨_, a⟩

theorem Stp.refl {f : Nat → Addr} {k : Nat} {H : Hp} : Stp f k H f k H := ⟨Nat.le_refl _, fun _ _ => rfl, fun n h1 h2 => by omega, fun _ _ _ h => h, fun _ h => h⟩
theorem Stp.trans {f f1 f2 : Nat → Addr} {k k1 k2 : Nat} {H H1 H2 : Hp} (a : Stp f k H f1 k1 H1) (b : Stp f1 k1 H1 f2 k2 H2) : Stp f k H f2 k2 H2 := by
  refine ⟨Nat.le_trans a.len b.len, fun n hn => ?_, fun n h1 h2 => ?_, fun c o hc ho => ?_, fun c h => a.there _ (b.there _ h)⟩
  · rw [b.agree n (Nat.lt_of_lt_of_le hn a.len), a.agree n hn]
  · by_cases h : n < k1
    · rw [b.agree n h]
      exact a.fresh n h1 h
    · exact a.there _ (b.fresh n (by omega) h2)
  · refine b.keep c o (fun n hn => ?_) (a.keep c o hc ho)
    by_cases h : n < k
    · rw [a.agree n h]
      exact hc n h
    · intro e
      have := a.fresh n (by omega) hn
      rw [e, ho] at this
      cases this
/-- something new that is no cell -/
theorem Stp.new {f : Nat → Addr} {k : Nat} {H : Hp} {p : Addr} {o : HO} (h : H p = none) : Stp f k H f k (upd H p o) := by
  refine ⟨Nat.le_refl _, fun _ _ => rfl, fun n h1 h2 => by omega, fun b u _ e => ?_, fun b e => ?_⟩
  · rw [upd_ne (ne_of_none e h)]
    exact e
  · by_cases hb : b = p
    · rw [hb]; exact h
    · rw [upd_ne hb] at e; exact e

section
variable {K : PySem.W.Frag} {ex : Addr → Prop} {f f' : Nat → Addr} {k k' : Nat} {H H' : Hp}
mutual
theorem RD.mono2 {ex2 : Addr → Prop} (s : Stp f k H f' k' H') (c : Cel f k H) (hx : ∀ a, ex2 a → ex a ∨ H a = none) : ∀ {d : Dv} {v : V}, RD K ex f k H d v → RD K ex2 f' k' H' d v
  | _, _, .non => .non
  | _, _, .bl b => .bl b
  | _, _, .int i => .int i
  | _, _, .str x => .str x
  | _, _, .tup (a := a) (vs := vs) h hs => by
    refine .tup ?_ (RDs.mono2 s c hx hs)
    have ne : ∀ {u : HO}, (∀ ws, u ≠ .lst ws) → H a = some u → H' a = some u := fun {u} hu e => s.keep a _ (fun n hn z => by
      obtain ⟨ws, e2⟩ := c n hn
      rw [z, e] at e2
      exact hu ws (Option.some.inj e2)) e
    rcases h with (h | ⟨o, h⟩) | h
    · exact .inl (.inl (ne (fun ws z => by cases z) h))
    · exact .inl (.inr ⟨o, ne (fun ws z => by cases z) h⟩)
    · exact .inr h
  | _, _, .tux (a := a) ⟨o, h, hd⟩ hs => by
    refine .tux ⟨o, s.keep a _ (fun n hn z => ?_) h, hd⟩ (RDs.mono2 s c hx hs)
    obtain ⟨ws, e2⟩ := c n hn
    rw [z, h] at e2
    cases e2
  | _, _, .rol (a := a) (vs := vs) h he hn hs => by
    refine .rol (s.keep a _ hn h) (fun q => (hx a q).elim he fun z => by rw [h] at z; cases z) ?_ (RDs.mono2 s c hx hs)
    intro n hn' e
    by_cases h1 : n < k
    · rw [s.agree n h1] at e
      exact hn n h1 e
    · have h2 := s.fresh n (by omega) hn'
      rw [e, h] at h2
      cases h2
  | _, _, .fro (a := a) (vs := vs) h hs => by
    rcases h with ⟨h, h1, h2⟩ | h
    · have nn : H a ≠ none := fun z => by
        rcases h with h | ⟨o, h⟩
        · rw [h] at z; cases z
        · rw [h] at z; cases z
      refine .fro (.inl ⟨?_, fun q => (hx a q).elim h1 nn, fun n hn' e => ?_⟩) (RDs.mono2 s c hx hs)
      · rcases h with h | ⟨o, h⟩
        · exact .inl (s.keep a _ h2 h)
        · exact .inr ⟨o, s.keep a _ h2 h⟩
      · by_cases h3 : n < k
        · rw [s.agree n h3] at e
          exact h2 n h3 e
        · have h4 := s.fresh n (by omega) hn'
          rw [e] at h4
          rcases h with h | ⟨o, h⟩
          · rw [h] at h4; cases h4
          · rw [h] at h4; cases h4
    · exact .fro (.inr h) (RDs.mono2 s c hx hs)
  | _, _, .obj (a := a) h hn hs => by
    refine .obj (s.keep a _ (fun n hn z => ?_) h) hn (RDs.mono2 s c hx hs)
    obtain ⟨ws, e2⟩ := c n hn
    rw [z, h] at e2
    cases e2
  | _, _, .ref n h => by
    rw [← s.agree n h]
    exact .ref n (Nat.lt_of_lt_of_le h s.len)
theorem RDs.mono2 {ex2 : Addr → Prop} (s : Stp f k H f' k' H') (c : Cel f k H) (hx : ∀ a, ex2 a → ex a ∨ H a = none) : ∀ {ds : List Dv} {vs : List V}, RDs K ex f k H ds vs → RDs K ex2 f' k' H' ds vs
  | _, _, .nil => .nil
  | _, _, .cons h hs => .cons (RD.mono2 s c hx h) (RDs.mono2 s c hx hs)
end
theorem RD.mono (s : Stp f k H f' k' H') (c : Cel f k H) {d : Dv} {v : V} (h : RD K ex f k H d v) : RD K ex f' k' H' d v := RD.mono2 s c (fun _ q => .inl q) h
theorem RDs.mono (s : Stp f k H f' k' H') (c : Cel f k H) {ds : List Dv} {vs : List V} (h : RDs K ex f k H ds vs) : RDs K ex f' k' H' ds vs := RDs.mono2 s c (fun _ q => .inl q) h
mutual
/-- an excluded list is written: no data changes -/
theorem RD.wr {D : Addr} {vs0 vs1 : List V} (hD : ex D) (e0 : H D = some (.lst vs0)) : ∀ {d : Dv} {v : V}, RD K ex f k H d v → RD K ex f k (upd H D (.lst vs1)) d v
  | _, _, .non => .non
  | _, _, .bl b => .bl b
  | _, _, .int i => .int i
  | _, _, .str x => .str x
  | _, _, .tup (a := a) h hs => by
    refine .tup ?_ (RDs.wr hD e0 hs)
    rcases h with (h | ⟨o, h⟩) | h
    · exact .inl (.inl (by rw [upd_ne (ne_of h e0 (by intro z; cases z))]; exact h))
    · exact .inl (.inr ⟨o, by rw [upd_ne (ne_of h e0 (by intro z; cases z))]; exact h⟩)
    · exact .inr h
  | _, _, .tux (a := a) ⟨o, h, hd⟩ hs => .tux ⟨o, by rw [upd_ne (ne_of h e0 (by intro z; cases z))]; exact h, hd⟩ (RDs.wr hD e0 hs)
  | _, _, .rol (a := a) h he hn hs => by
    refine .rol ?_ he hn (RDs.wr hD e0 hs)
    rw [upd_ne (fun q => he (by rw [q]; exact hD))]
    exact h
  | _, _, .fro (a := a) h hs => by
    rcases h with ⟨h, h1, h2⟩ | h
    · refine .fro (.inl ⟨?_, h1, h2⟩) (RDs.wr hD e0 hs)
      have ne : a ≠ D := fun q => h1 (by rw [q]; exact hD)
      rcases h with h | ⟨o, h⟩
      · exact .inl (by rw [upd_ne ne]; exact h)
      · exact .inr ⟨o, by rw [upd_ne ne]; exact h⟩
    · exact .fro (.inr h) (RDs.wr hD e0 hs)
  | _, _, .obj (a := a) h hn hs => .obj (by rw [upd_ne (ne_of h e0 (by intro z; cases z))]; exact h) hn (RDs.wr hD e0 hs)
  | _, _, .ref n h => .ref n h
theorem RDs.wr {D : Addr} {vs0 vs1 : List V} (hD : ex D) (e0 : H D = some (.lst vs0)) : ∀ {ds : List Dv} {vs : List V}, RDs K ex f k H ds vs → RDs K ex f k (upd H D (.lst vs1)) ds vs
  | _, _, .nil => .nil
  | _, _, .cons h hs => .cons (RD.wr hD e0 h) (RDs.wr hD e0 hs)
end
theorem RDs.length : ∀ {ds : List Dv} {vs : List V}, RDs K ex f k H ds vs → ds.length = vs.length
  | _, _, .nil => rfl
  | _, _, .cons _ h => by simp [RDs.length h]
theorem RDs.get : ∀ {ds : List Dv} {vs : List V} {i : Nat} {d : Dv}, RDs K ex f k H ds vs → ds[i]? = some d → ∃ v, vs[i]? = some v ∧ RD K ex f k H d v
  | _, _, _, _, .nil, e => by simp at e
  | _, _, 0, _, .cons h _, e => by simp at e; subst e; exact ⟨_, rfl, h⟩
  | _, _, i + 1, d, .cons _ hs, e => by
    obtain ⟨v, h1, h2⟩ := RDs.get (i := i) (d := d) hs (by simpa using e)
    exact ⟨v, by simpa using h1, h2⟩
theorem RDs.get' : ∀ {ds : List Dv} {vs : List V} {i : Nat} {v : V}, RDs K ex f k H ds vs → vs[i]? = some v → ∃ d, ds[i]? = some d ∧ RD K ex f k H d v
  | _, _, _, _, .nil, e => by simp at e
  | _, _, 0, _, .cons h _, e => by simp at e; subst e; exact ⟨_, rfl, h⟩
  | _, _, i + 1, v, .cons _ hs, e => by
    obtain ⟨d, h1, h2⟩ := RDs.get' (i := i) (v := v) hs (by simpa using e)
    exact ⟨d, by simpa using h1, h2⟩
theorem RDs.append : ∀ {ds es : List Dv} {vs ws : List V}, RDs K ex f k H ds vs → RDs K ex f k H es ws → RDs K ex f k H (ds ++ es) (vs ++ ws)
  | _, _, _, _, .nil, h => h
  | _, _, _, _, .cons h hs, h2 => .cons h (RDs.append hs h2)
theorem RDs.take : ∀ {ds : List Dv} {vs : List V} (n : Nat), RDs K ex f k H ds vs → RDs K ex f k H (ds.take n) (vs.take n)
  | _, _, 0, _ => .nil
  | _, _, _ + 1, .nil => .nil
  | _, _, n + 1, .cons h hs => .cons h (RDs.take n hs)
theorem RDs.drop : ∀ {ds : List Dv} {vs : List V} (n : Nat), RDs K ex f k H ds vs → RDs K ex f k H (ds.drop n) (vs.drop n)
  | _, _, 0, h => h
  | _, _, _ + 1, .nil => .nil
  | _, _, n + 1, .cons _ hs => RDs.drop n hs
theorem RDs.reverse : ∀ {ds : List Dv} {vs : List V}, RDs K ex f k H ds vs → RDs K ex f k H ds.reverse vs.reverse
  | _, _, .nil => .nil
  | _, _, .cons h hs => by
    rw [List.reverse_cons, List.reverse_cons]
    exact RDs.append (RDs.reverse hs) (.cons h .nil)
theorem RDs.set {d : Dv} {v : V} (h : RD K ex f k H d v) : ∀ {ds : List Dv} {vs : List V} (i : Nat), RDs K ex f k H ds vs → RDs K ex f k H (ds.set i d) (vs.set i v)
  | _, _, _, .nil => .nil
  | _, _, 0, .cons _ t => .cons h t
  | _, _, i + 1, .cons q t => .cons q (RDs.set h i t)
theorem RDs.ints : ∀ (ns : List Int), RDs K ex f k H (ns.map Dv.int) (ns.map V.int)
  | [] => .nil
  | n :: r => .cons (.int n) (RDs.ints r)
theorem RDs.ints_inv : ∀ {ns : List Int} {vs : List V}, RDs K ex f k H (ns.map Dv.int) vs → vs = ns.map V.int
  | [], _, .nil => rfl
  | n :: r, _, .cons h hs => by
    cases h
    rw [RDs.ints_inv hs]
    rfl
theorem RDs.strs_inv : ∀ {ns : List Str} {vs : List V}, RDs K ex f k H (ns.map Dv.str) vs → vs = ns.map V.str
  | [], _, .nil => rfl
  | n :: r, _, .cons h hs => by
    cases h
    rw [RDs.strs_inv hs]
    rfl
theorem RDs.strs : ∀ (ns : List Str), RDs K ex f k H (ns.map Dv.str) (ns.map V.str)
  | [] => .nil
  | n :: r => .cons (.str n) (RDs.strs r)

theorem Cel.mono {st : Sto} {st' : Sto} (r : RS K ex f' st' H') : Cel f' st'.length H' := r.cel
/-- cells read later -/
theorem CoR.mono (s : Stp f k H f' k' H') (c : Cel f k H) {co : Co} {a b : Addr} (h : CoR K ex f k H co a) (hb : ∀ vs, H a = some (.lst vs) → H' b = some (.lst vs)) : CoR K ex f' k' H' co b := by
  cases h with
  | lst e r => exact .lst (hb _ e) (RDs.mono s c r)
/-- something new that is no cell: the cells stand -/
theorem RS.new {st : Sto} (r : RS K ex f st H) {p : Addr} {o : HO} (h : H p = none) : RS K ex f st (upd H p o) :=
  ⟨r.inj, fun n c e => (r.obj n c e).mono (Stp.new h) r.cel fun vs e2 => by rw [upd_ne (ne_of_none e2 h)]; exact e2, fun a q z => r.exs a q ((Stp.new (f := f) (k := st.length) (o := o) h).there a z), r.exc⟩
/-- the numbers of cells beyond do not matter -/
def put (f : Nat → Addr) (n : Nat) (p : Addr) : Nat → Addr := fun m => if m = n then p else f m
theorem put_at {n : Nat} {p : Addr} : put f n p n = p := by simp [put]
theorem put_ne {n m : Nat} {p : Addr} (h : m ≠ n) : put f n p m = f m := by simp [put, h]
/-- a new cell -/
theorem Stp.cell {p : Addr} {o : HO} (h : H p = none) : Stp f k H (put f k p) (k + 1) (upd H p o) := by
  refine ⟨by omega, fun n hn => put_ne (by omega), fun n h1 h2 => ?_, (Stp.new (f := f) (k := k) (o := o) h).keep, (Stp.new (f := f) (k := k) (o := o) h).there⟩
  have : n = k := by omega
  rw [this, put_at]
  exact h
theorem RS.cell {st : Sto} (r : RS K ex f st H) {p : Addr} {xs : List Dv} {vs : List V} (h : H p = none) (hx : RDs K ex f st.length H xs vs) : RS K ex (put f st.length p) (st ++ [.lst xs]) (upd H p (.lst vs)) := by
  have S : Stp f st.length H (put f st.length p) (st ++ [Co.lst xs]).length (upd H p (.lst vs)) := by
    rw [List.length_append]
    exact Stp.cell h
  refine ⟨fun m n hm hn e => ?_, fun n c e => ?_, fun a q z => r.exs a q (S.there a z), fun n hn q => ?_⟩
  · rw [List.length_append] at hm hn
    have nf : ∀ j, j < st.length → f j ≠ p := fun j hj z => by
      obtain ⟨ws, e2⟩ := r.cel j hj
      rw [z, h] at e2
      cases e2
    by_cases h1 : m = st.length
    · by_cases h2 : n = st.length
      · omega
      · rw [h1, put_at, put_ne h2] at e
        exact absurd e.symm (nf n (by simp at hn; omega))
    · by_cases h2 : n = st.length
      · rw [h2, put_at, put_ne h1] at e
        exact absurd e (nf m (by simp at hm; omega))
      · rw [put_ne h1, put_ne h2] at e
        exact r.inj m n (by simp at hm; omega) (by simp at hn; omega) e
  · by_cases h1 : n < st.length
    · rw [List.getElem?_append_left h1] at e
      rw [put_ne (by omega)]
      exact (r.obj n c e).mono S r.cel fun ws e2 => by rw [upd_ne (ne_of_none e2 h)]; exact e2
    · have h2 : n = st.length := by
        have := (List.getElem?_eq_some_iff.mp e).1
        rw [List.length_append] at this
        simp at this
        omega
      subst h2
      rw [List.getElem?_append_right (Nat.le_refl _)] at e
      simp at e
      subst e
      rw [put_at]
      exact .lst upd_same (RDs.mono S r.cel hx)
  · rw [List.length_append] at hn
    by_cases h2 : n = st.length
    · rw [h2, put_at] at q
      exact r.exs p q h
    · rw [put_ne h2] at q
      exact r.exc n (by simp at hn; omega) q
/-- a cell is written -/
theorem Stp.write {n : Nat} {o : HO} (hn : n < k) : Stp f k H f k (upd H (f n) o) := by
  refine ⟨Nat.le_refl _, fun _ _ => rfl, fun n h1 h2 => by omega, fun b u hb e => ?_, fun b e => ?_⟩
  · rw [upd_ne (Ne.symm (hb n hn))]
    exact e
  · by_cases h : b = f n
    · rw [h, upd_same] at e; cases e
    · rw [upd_ne h] at e; exact e
theorem RS.write {st : Sto} (r : RS K ex f st H) {n : Nat} {xs : List Dv} {vs : List V} (hn : n < st.length) (hx : RDs K ex f st.length H xs vs) : RS K ex f (st.set n (.lst xs)) (upd H (f n) (.lst vs)) := by
  have S : Stp f st.length H f st.length (upd H (f n) (.lst vs)) := Stp.write hn
  refine ⟨fun m j hm hj e => r.inj m j (by simpa using hm) (by simpa using hj) e, fun m c e => ?_, fun a q z => r.exs a q (S.there a z), fun m hm => r.exc m (by simpa using hm)⟩
  rw [List.length_set]
  by_cases h : m = n
  · subst h
    rw [List.getElem?_set_self hn] at e
    cases e
    exact .lst upd_same (RDs.mono S r.cel hx)
  · rw [List.getElem?_set_ne (Ne.symm h)] at e
    have hm := (List.getElem?_eq_some_iff.mp e).1
    exact (r.obj m c e).mono S r.cel fun ws e2 => by
      rw [upd_ne (fun z => h (r.inj m n hm hn z))]
      exact e2

theorem CoR.mono2 {ex2 : Addr → Prop} (s : Stp f k H f' k' H') (c : Cel f k H) (hx : ∀ a, ex2 a → ex a ∨ H a = none) {co : Co} {a b : Addr} (h : CoR K ex f k H co a) (hb : ∀ vs, H a = some (.lst vs) → H' b = some (.lst vs)) : CoR K ex2 f' k' H' co b := by
  cases h with
  | lst e r => exact .lst (hb _ e) (RDs.mono2 s c hx r)
/-- less is excluded -/
theorem RS.less {ex2 : Addr → Prop} {st : Sto} (r : RS K ex f st H) (hx : ∀ a, ex2 a → ex a) : RS K ex2 f st H :=
  ⟨r.inj, fun n c e => (r.obj n c e).mono2 Stp.refl r.cel (fun a q => .inl (hx a q)) fun _ z => z, fun a q => r.exs a (hx a q), fun n hn q => r.exc n hn (hx _ q)⟩
/-- a new list is excluded -/
theorem RS.more {st : Sto} (r : RS K ex f st H) {D : Addr} {o : HO} (hD : H D = none) : RS K (fun a => ex a ∨ a = D) f st (upd H D o) := by
  have S : Stp f st.length H f st.length (upd H D o) := Stp.new hD
  refine ⟨r.inj, fun n c e => (r.obj n c e).mono2 S r.cel (fun a q => q.imp id fun z => by rw [z]; exact hD) fun vs e2 => by rw [upd_ne (ne_of_none e2 hD)]; exact e2, fun a q z => ?_, fun n hn q => ?_⟩
  · rcases q with q | q
    · exact r.exs a q (S.there a z)
    · rw [q, upd_same] at z
      cases z
  · rcases q with q | q
    · exact r.exc n hn q
    · obtain ⟨ws, e⟩ := r.cel n hn
      rw [q, hD] at e
      cases e
/-- it is written -/
theorem RS.wr {st : Sto} (r : RS K ex f st H) {D : Addr} {vs0 vs1 : List V} (hD : ex D) (e0 : H D = some (.lst vs0)) : RS K ex f st (upd H D (.lst vs1)) := by
  refine ⟨r.inj, fun n c e => ?_, fun a q z => ?_, r.exc⟩
  · have hn := (List.getElem?_eq_some_iff.mp e).1
    cases r.obj n c e with
    | lst e1 hs => exact .lst (by rw [upd_ne (fun q => r.exc n hn (by rw [q]; exact hD))]; exact e1) (RDs.wr hD e0 hs)
  · by_cases q2 : a = D
    · rw [q2, upd_same] at z
      cases z
    · rw [upd_ne q2] at z
      exact r.exs a q z

/-! ### cells forgotten: those from k on are no longer named; their contents are lists that nobody changes -/
mutual
inductive Fz (st : Sto) (k : Nat) : Dv → Dv → Prop
  | non : Fz st k .non .non
  | bl (b : Bool) : Fz st k (.bl b) (.bl b)
  | int (i : Int) : Fz st k (.int i) (.int i)
  | str (s : Str) : Fz st k (.str s) (.str s)
  | tup {xs ys : List Dv} : Fzs st k xs ys → Fz st k (.tup xs) (.tup ys)
  | tux {xs ys : List Dv} : Fzs st k xs ys → Fz st k (.tux xs) (.tux ys)
  | rol {xs ys : List Dv} : Fzs st k xs ys → Fz st k (.rol xs) (.rol ys)
  | fro {xs ys : List Dv} : Fzs st k xs ys → Fz st k (.fro xs) (.fro ys)
  | obj {C : Addr} {ns : List Str} {xs ys : List Dv} : Fzs st k xs ys → Fz st k (.obj C ns xs) (.obj C ns ys)
  | ref (n : Nat) : n < k → Fz st k (.ref n) (.ref n)
  | cell {n : Nat} {xs ys : List Dv} : k ≤ n → st[n]? = some (.lst xs) → Fzs st k xs ys → Fz st k (.ref n) (.rol ys)
inductive Fzs (st : Sto) (k : Nat) : List Dv → List Dv → Prop
  | nil : Fzs st k [] []
  | cons {x y : Dv} {xs ys : List Dv} : Fz st k x y → Fzs st k xs ys → Fzs st k (x :: xs) (y :: ys)
end
mutual
theorem RD.fz {st : Sto} (r : RS K ex f st H) (hk : k ≤ st.length) : ∀ {d e : Dv} {v : V}, Fz st k d e → RD K ex f st.length H d v → RD K ex f k H e v
  | _, _, _, .non, .non => .non
  | _, _, _, .bl b, .bl _ => .bl b
  | _, _, _, .int i, .int _ => .int i
  | _, _, _, .str s, .str _ => .str s
  | _, _, _, .tup z, .tup h hs => .tup h (RDs.fz r hk z hs)
  | _, _, _, .tux z, .tux h hs => .tux h (RDs.fz r hk z hs)
  | _, _, _, .rol z, .rol h hx hn hs => .rol h hx (fun n h1 => hn n (by omega)) (RDs.fz r hk z hs)
  | _, _, _, .fro z, .fro h hs => .fro (h.imp (fun q => ⟨q.1, q.2.1, fun n h1 => q.2.2 n (by omega)⟩) id) (RDs.fz r hk z hs)
  | _, _, _, .obj z, .obj h hn hs => .obj h hn (RDs.fz r hk z hs)
  | _, _, _, .ref n h, .ref _ _ => .ref n h
  | _, _, _, .cell (n := n) (xs := xs) h1 h2 z, .ref _ h3 => by
    have q := r.obj n _ h2
    cases q with
    | lst e hs =>
      have hne : ∀ m, m < k → f m ≠ f n := fun m hm e2 => by
        have := r.inj m n (by omega) h3 e2
        omega
      exact .rol e (r.exc n h3) hne (RDs.fz r hk z hs)
theorem RDs.fz {st : Sto} (r : RS K ex f st H) (hk : k ≤ st.length) : ∀ {ds es : List Dv} {vs : List V}, Fzs st k ds es → RDs K ex f st.length H ds vs → RDs K ex f k H es vs
  | _, _, _, .nil, .nil => .nil
  | _, _, _, .cons z zs, .cons h hs => .cons (RD.fz r hk z h) (RDs.fz r hk zs hs)
end
/-- (st, d) with the cells from st2.length on forgotten -/
structure Fg (st : Sto) (d : Dv) (st2 : Sto) (d2 : Dv) : Prop where
  len : st2.length ≤ st.length
  cel : ∀ n xs, n < st2.length → st[n]? = some (.lst xs) → ∃ ys, st2[n]? = some (.lst ys) ∧ Fzs st st2.length xs ys
  val : Fz st st2.length d d2
theorem RS.fg {st st2 : Sto} (r : RS K ex f st H) (hl : st2.length ≤ st.length) (hc : ∀ n xs, n < st2.length → st[n]? = some (.lst xs) → ∃ ys, st2[n]? = some (.lst ys) ∧ Fzs st st2.length xs ys) : RS K ex f st2 H := by
  refine ⟨fun m n hm hn e => r.inj m n (by omega) (by omega) e, fun n c e => ?_, r.exs, fun n hn => r.exc n (by omega)⟩
  have hn := (List.getElem?_eq_some_iff.mp e).1
  have h1 : st[n]? = some st[n] := by simp
  have h2 := r.obj n _ h1
  cases h3 : st[n] with
  | lst xs =>
    rw [h3] at h1 h2
    obtain ⟨ys, e2, z⟩ := hc n xs hn h1
    rw [e] at e2
    cases e2
    cases h2 with
    | lst e3 hs => exact .lst e3 (RDs.fz r hl z hs)
theorem Stp.fg {f1 : Nat → Addr} {k0 k1 k2 : Nat} (s : Stp f k0 H f1 k1 H') (h : k0 ≤ k2) (h2 : k2 ≤ k1) : Stp f k0 H f1 k2 H' :=
  ⟨h, s.agree, fun n a b => s.fresh n a (by omega), s.keep, s.there⟩
/-! no cell is named -/
mutual
inductive Nr : Dv → Prop
  | non : Nr .non
  | bl (b : Bool) : Nr (.bl b)
  | int (i : Int) : Nr (.int i)
  | str (s : Str) : Nr (.str s)
  | tup {xs : List Dv} : Nrs xs → Nr (.tup xs)
  | tux {xs : List Dv} : Nrs xs → Nr (.tux xs)
  | rol {xs : List Dv} : Nrs xs → Nr (.rol xs)
  | fro {xs : List Dv} : Nrs xs → Nr (.fro xs)
  | obj {C : Addr} {ns : List Str} {xs : List Dv} : Nrs xs → Nr (.obj C ns xs)
inductive Nrs : List Dv → Prop
  | nil : Nrs []
  | cons {x : Dv} {xs : List Dv} : Nr x → Nrs xs → Nrs (x :: xs)
end
mutual
theorem Nr.fz {st : Sto} : ∀ {d : Dv}, Nr d → Fz st k d d
  | _, .non => .non
  | _, .bl b => .bl b
  | _, .int i => .int i
  | _, .str s => .str s
  | _, .tup h => .tup (Nrs.fz h)
  | _, .tux h => .tux (Nrs.fz h)
  | _, .rol h => .rol (Nrs.fz h)
  | _, .fro h => .fro (Nrs.fz h)
  | _, .obj h => .obj (Nrs.fz h)
theorem Nrs.fz {st : Sto} : ∀ {ds : List Dv}, Nrs ds → Fzs st k ds ds
  | _, .nil => .nil
  | _, .cons h hs => .cons (Nr.fz h) (Nrs.fz hs)
end
theorem Nrs.of : ∀ {ds : List Dv}, (∀ d ∈ ds, Nr d) → Nrs ds
  | [], _ => .nil
  | d :: r, h => .cons (h d (by simp)) (Nrs.of fun x hx => h x (by simp [hx]))
theorem Nrs.mem : ∀ {ds : List Dv}, Nrs ds → ∀ d ∈ ds, Nr d
  | _, .nil, _, h => by simp at h
  | _, .cons h hs, d, hd => by
    rcases List.mem_cons.mp hd with rfl | hd
    · exact h
    · exact Nrs.mem hs d hd
mutual
/-- without cells: whatever the numbers are -/
theorem RD.nr {f2 : Nat → Addr} {k2 : Nat} {ex2 : Addr → Prop} (hx : ∀ a, (ex2 a ∨ ∃ n, n < k2 ∧ f2 n = a) → (ex a ∨ ∃ n, n < k ∧ f n = a)) : ∀ {d : Dv} {v : V}, Nr d → RD K ex f k H d v → RD K ex2 f2 k2 H d v
  | _, _, .non, .non => .non
  | _, _, .bl b, .bl _ => .bl b
  | _, _, .int i, .int _ => .int i
  | _, _, .str s, .str _ => .str s
  | _, _, .tup z, .tup h hs => .tup h (RDs.nr hx z hs)
  | _, _, .tux z, .tux h hs => .tux h (RDs.nr hx z hs)
  | _, _, .rol z, .rol h he hn hs => by
    refine .rol h (fun q => ?_) (fun n h1 q => ?_) (RDs.nr hx z hs)
    · rcases hx _ (.inl q) with y | ⟨m, h1, h2⟩
      · exact he y
      · exact hn m h1 h2
    · rcases hx _ (.inr ⟨n, h1, q⟩) with y | ⟨m, h1, h2⟩
      · exact he y
      · exact hn m h1 h2
  | _, _, .fro z, .fro h hs => by
    refine .fro (h.imp (fun q => ⟨q.1, fun y => ?_, fun n h1 y => ?_⟩) id) (RDs.nr hx z hs)
    · rcases hx _ (.inl y) with y | ⟨m, h1, h2⟩
      · exact q.2.1 y
      · exact q.2.2 m h1 h2
    · rcases hx _ (.inr ⟨n, h1, y⟩) with y | ⟨m, h1, h2⟩
      · exact q.2.1 y
      · exact q.2.2 m h1 h2
  | _, _, .obj z, .obj h hn hs => .obj h hn (RDs.nr hx z hs)
theorem RDs.nr {f2 : Nat → Addr} {k2 : Nat} {ex2 : Addr → Prop} (hx : ∀ a, (ex2 a ∨ ∃ n, n < k2 ∧ f2 n = a) → (ex a ∨ ∃ n, n < k ∧ f n = a)) : ∀ {ds : List Dv} {vs : List V}, Nrs ds → RDs K ex f k H ds vs → RDs K ex2 f2 k2 H ds vs
  | _, _, .nil, .nil => .nil
  | _, _, .cons z zs, .cons h hs => .cons (RD.nr hx z h) (RDs.nr hx zs hs)
end
end
end D2

/-! DL, part b: readings over data (De ..), lifted to the hand layer's readings. -/
namespace D2
open PySem PySem.Spec PyProof.Rows L2

/-- the slots -/
structure ER (K : PySem.W.Frag) (ex : Addr → Prop) (f : Nat → Addr) (k : Nat) (H : Hp) (σ : En) (τ : L2.St) : Prop where
  len : σ.length = τ.length
  at_ : ∀ (i : Nat) (d : Dv), σ[i]? = some (some d) → ∃ v, τ[i]? = some (some v) ∧ RD K ex f k H d v
abbrev DK := Dv → Sto → Prop
abbrev DTE := En → Sto → DK → Prop
abbrev DTT := En → Sto → (Bool → Sto → Prop) → Prop
abbrev DTA := En → Sto → (List Dv → Sto → Prop) → Prop
structure DEnds where
  nx : En → Sto → Prop
  rt : DK
  bk : En → Sto → Prop := fun _ _ => False
  ct : En → Sto → Prop := fun _ _ => False
abbrev DTS := DEnds → En → Sto → Prop
structure DEnds.le (a b : DEnds) : Prop where
  nx : ∀ σ s, a.nx σ s → b.nx σ s
  rt : ∀ d s, a.rt d s → b.rt d s
  bk : ∀ σ s, a.bk σ s → b.bk σ s
  ct : ∀ σ s, a.ct σ s → b.ct σ s

section
variable {K : PySem.W.Frag} {ex : Addr → Prop} {f f1 f' : Nat → Addr} {k k1 k' : Nat} {H H1 H' : Hp} {σ σ' : En} {τ τ' : L2.St} {st st1 st' : Sto}
theorem ER.mono (e : ER K ex f k H σ τ) (s : Stp f k H f' k' H') (c : Cel f k H) : ER K ex f' k' H' σ τ :=
  ⟨e.len, fun i d h => let ⟨v, h1, h2⟩ := e.at_ i d h; ⟨v, h1, h2.mono s c⟩⟩
theorem ER.set (e : ER K ex f k H σ τ) {i : Nat} {d : Dv} {v : V} (r : RD K ex f k H d v) : ER K ex f k H (σ.set i (some d)) (τ.set i (some v)) := by
  refine ⟨by simp [e.len], fun j c h => ?_⟩
  by_cases hj : i = j
  · subst hj
    by_cases hi : i < σ.length
    · rw [List.getElem?_set_self hi] at h
      cases h
      exact ⟨v, by rw [List.getElem?_set_self (by rw [← e.len]; exact hi)], r⟩
    · rw [List.getElem?_eq_none (by simpa using hi)] at h
      cases h
  · rw [List.getElem?_set_ne hj] at h
    obtain ⟨u, h1, h2⟩ := e.at_ j c h
    exact ⟨u, by rw [List.getElem?_set_ne hj]; exact h1, h2⟩

/-- behind an expression: for any later world of the hand layer -/
def Af (K : PySem.W.Frag) (ex : Addr → Prop) (f : Nat → Addr) (k : Nat) (H : Hp) (Q : VK) : DK := fun d st' => ∀ f' H' v, Stp f k H f' st'.length H' → RS K ex f' st' H' → RD K ex f' st'.length H' d v → Q v H'
def AfB (K : PySem.W.Frag) (ex : Addr → Prop) (f : Nat → Addr) (k : Nat) (H : Hp) (Q : Bool → Hp → Prop) : Bool → Sto → Prop := fun b st' => ∀ f' H', Stp f k H f' st'.length H' → RS K ex f' st' H' → Q b H'
def AfA (K : PySem.W.Frag) (ex : Addr → Prop) (f : Nat → Addr) (k : Nat) (H : Hp) (Q : List V → Hp → Prop) : List Dv → Sto → Prop := fun ds st' => ∀ f' H' vs, Stp f k H f' st'.length H' → RS K ex f' st' H' → RDs K ex f' st'.length H' ds vs → Q vs H'
def AfS (K : PySem.W.Frag) (ex : Addr → Prop) (f : Nat → Addr) (k : Nat) (H : Hp) (P : L2.St → Hp → Prop) : En → Sto → Prop := fun σ' st' => ∀ f' H' τ', Stp f k H f' st'.length H' → RS K ex f' st' H' → ER K ex f' st'.length H' σ' τ' → P τ' H'
def AfE (K : PySem.W.Frag) (ex : Addr → Prop) (f : Nat → Addr) (k : Nat) (H : Hp) (D : Ends) : DEnds := ⟨AfS K ex f k H D.nx, Af K ex f k H D.rt, AfS K ex f k H D.bk, AfS K ex f k H D.ct⟩
theorem Af.self {Q : VK} {d : Dv} {v : V} (h : Af K ex f st.length H Q d st) (r : RS K ex f st H) (rd : RD K ex f st.length H d v) : Q v H := h f H v Stp.refl r rd
theorem Af.later {Q : VK} {d : Dv} (h : Af K ex f k H Q d st') (s : Stp f k H f1 k1 H1) : Af K ex f1 k1 H1 Q d st' := fun f' H' v s' r rd => h f' H' v (s.trans s') r rd
theorem AfS.later {P : L2.St → Hp → Prop} (h : AfS K ex f k H P σ' st') (s : Stp f k H f1 k1 H1) : AfS K ex f1 k1 H1 P σ' st' := fun f' H' v s' r rd => h f' H' v (s.trans s') r rd
theorem AfE.later {D : Ends} (s : Stp f k H f1 k1 H1) : (AfE K ex f k H D).le (AfE K ex f1 k1 H1 D) :=
  ⟨fun _ _ h => AfS.later h s, fun _ _ h => Af.later h s, fun _ _ h => AfS.later h s, fun _ _ h => AfS.later h s⟩

def lE (K : PySem.W.Frag) (w : DTE) : TE := fun τ H Q => ∃ ex f σ st, RS K ex f st H ∧ ER K ex f st.length H σ τ ∧ w σ st (Af K ex f st.length H Q)
def lT (K : PySem.W.Frag) (w : DTT) : TT := fun τ H Q => ∃ ex f σ st, RS K ex f st H ∧ ER K ex f st.length H σ τ ∧ w σ st (AfB K ex f st.length H Q)
def lA (K : PySem.W.Frag) (w : DTA) : TA := fun τ H Q => ∃ ex f σ st, RS K ex f st H ∧ ER K ex f st.length H σ τ ∧ w σ st (AfA K ex f st.length H Q)
def lS (K : PySem.W.Frag) (w : DTS) : TS := fun D τ H => ∃ ex f σ st, RS K ex f st H ∧ ER K ex f st.length H σ τ ∧ w (AfE K ex f st.length H D) σ st
end

def MonoE (w : DTE) : Prop := ∀ σ st (Q Q' : DK), (∀ d s, Q d s → Q' d s) → w σ st Q → w σ st Q'
def MonoT (w : DTT) : Prop := ∀ σ st (Q Q' : Bool → Sto → Prop), (∀ d s, Q d s → Q' d s) → w σ st Q → w σ st Q'
def MonoA (w : DTA) : Prop := ∀ σ st (Q Q' : List Dv → Sto → Prop), (∀ d s, Q d s → Q' d s) → w σ st Q → w σ st Q'
def MonoS (w : DTS) : Prop := ∀ σ st (D D' : DEnds), D.le D' → w D σ st → w D' σ st
structure DE (X : Cx) (e : Expr) (w : DTE) : Prop where
  pe : PE X e (lE X.K w)
  mono : MonoE w
structure DT (X : Cx) (e : Expr) (w : DTT) : Prop where
  pt : PT X e (lT X.K w)
  mono : MonoT w
structure DW (X : Cx) (e : Expr) (w : DTT) : Prop where
  pw : PW X e (lT X.K w)
  mono : MonoT w
structure DA (X : Cx) (es : List Expr) (w : DTA) : Prop where
  pa : PA X es (lA X.K w)
  mono : MonoA w
structure DS (X : Cx) (s : Stmt) (w : DTS) : Prop where
  ps : PS X s (lS X.K w)
  mono : MonoS w
structure DSs (X : Cx) (s : List Stmt) (w : DTS) : Prop where
  ps : PSs X s (lS X.K w)
  mono : MonoS w

section
variable {X : Cx} {K : PySem.W.Frag}
/-! ### from the hand layer's readings -/
theorem _root_.L2.PE.imp {e : Expr} {t u : TE} (h : PE X e t) (i : ∀ τ H Q, u τ H Q → t τ H Q) : PE X e u := ⟨fun pins s τ H Q I hw => h.run pins s τ H Q I (i τ H Q hw)⟩
theorem _root_.L2.PT.imp {e : Expr} {t u : TT} (h : PT X e t) (i : ∀ τ H Q, u τ H Q → t τ H Q) : PT X e u := ⟨fun pins s τ H Q I hw => h.run pins s τ H Q I (i τ H Q hw)⟩
theorem _root_.L2.PW.imp {e : Expr} {t u : TT} (h : PW X e t) (i : ∀ τ H Q, u τ H Q → t τ H Q) : PW X e u := ⟨fun wh pins s τ H Q I hw => h.run wh pins s τ H Q I (i τ H Q hw)⟩
theorem _root_.L2.PA.imp {e : List Expr} {t u : TA} (h : PA X e t) (i : ∀ τ H Q, u τ H Q → t τ H Q) : PA X e u := ⟨fun pos pins s τ H Q I hw => h.run pos pins s τ H Q I (i τ H Q hw)⟩
theorem _root_.L2.PS.imp {e : Stmt} {t u : TS} (h : PS X e t) (i : ∀ D τ H, u D τ H → t D τ H) : PS X e u := ⟨fun pins s τ H D I hw => h.run pins s τ H D I (i D τ H hw)⟩
theorem _root_.L2.PSs.imp {e : List Stmt} {t u : TS} (h : PSs X e t) (i : ∀ D τ H, u D τ H → t D τ H) : PSs X e u := ⟨fun pins s τ H D I hw => h.run pins s τ H D I (i D τ H hw)⟩
theorem _root_.L2.PG.imp {e : Expr} {t u : TG} (h : PG X e t) (i : ∀ v τ H Q, u v τ H Q → t v τ H Q) : PG X e u := ⟨fun pins s τ H v uu Q I r hw => h.run pins s τ H v uu Q I r (i v τ H Q hw)⟩
theorem _root_.L2.PI.imp {tg e : Expr} {t u : TI} (h : PI X tg e t) (i : ∀ τ H Q, u τ H Q → t τ H Q) : PI X tg e u := ⟨fun pins s τ H Q I hw => h.run pins s τ H Q I (i τ H Q hw)⟩
theorem _root_.L2.PTs.imp {e : List Expr} {t u : TT} (h : PTs X e t) (i : ∀ τ H Q, u τ H Q → t τ H Q) : PTs X e u := ⟨fun pins s τ H Q I hw => h.run pins s τ H Q I (i τ H Q hw)⟩

variable {ex : Addr → Prop} {f : Nat → Addr} {H : Hp} {σ : En} {τ : L2.St} {st : Sto}
/-- a lifted reading, used within a world -/
theorem lE.use {w : DTE} (m : MonoE w) (r : RS K ex f st H) (er : ER K ex f st.length H σ τ) {R : DK} (h : w σ st R) {P : VK}
    (q : ∀ f1 H1 d st1 v, Stp f st.length H f1 st1.length H1 → RS K ex f1 st1 H1 → ER K ex f1 st1.length H1 σ τ → RD K ex f1 st1.length H1 d v → R d st1 → P v H1) : lE K w τ H P :=
  ⟨ex, f, σ, st, r, er, m σ st _ _ (fun d st1 hr f1 H1 v s r1 rd => q f1 H1 d st1 v s r1 (er.mono s r.cel) rd hr) h⟩
theorem lT.use {w : DTT} (m : MonoT w) (r : RS K ex f st H) (er : ER K ex f st.length H σ τ) {R : Bool → Sto → Prop} (h : w σ st R) {P : Bool → Hp → Prop}
    (q : ∀ f1 H1 b st1, Stp f st.length H f1 st1.length H1 → RS K ex f1 st1 H1 → ER K ex f1 st1.length H1 σ τ → R b st1 → P b H1) : lT K w τ H P :=
  ⟨ex, f, σ, st, r, er, m σ st _ _ (fun d st1 hr f1 H1 s r1 => q f1 H1 d st1 s r1 (er.mono s r.cel) hr) h⟩
theorem lA.use {w : DTA} (m : MonoA w) (r : RS K ex f st H) (er : ER K ex f st.length H σ τ) {R : List Dv → Sto → Prop} (h : w σ st R) {P : List V → Hp → Prop}
    (q : ∀ f1 H1 d st1 v, Stp f st.length H f1 st1.length H1 → RS K ex f1 st1 H1 → ER K ex f1 st1.length H1 σ τ → RDs K ex f1 st1.length H1 d v → R d st1 → P v H1) : lA K w τ H P :=
  ⟨ex, f, σ, st, r, er, m σ st _ _ (fun d st1 hr f1 H1 v s r1 rd => q f1 H1 d st1 v s r1 (er.mono s r.cel) rd hr) h⟩
theorem lS.use {w : DTS} (m : MonoS w) (r : RS K ex f st H) (er : ER K ex f st.length H σ τ) {D : DEnds} (h : w D σ st) {E : Ends} (le : D.le (AfE K ex f st.length H E)) : lS K w E τ H :=
  ⟨ex, f, σ, st, r, er, m σ st _ _ le h⟩

/-! ### names and constants -/
abbrev wVar (i : Nat) : DTE := fun σ st Q => match σ[i]? with | some (some d) => Q d st | _ => False
theorem de_var (i : Nat) {x : Str} {pos : Pos} (hN : X.N[i]? = some x := by rfl) (hv : Vis X.env.scope x := by first | exact Or.inl rfl | exact Or.inr (Or.inl rfl) | exact Or.inr (Or.inr rfl)) (hd : (x == ("__debug__" : Str)) = false := by decide)
    (hcd : (x == ("__classdict__" : Str)) = false := by decide) : DE X (.Name x pos) (wVar i) := by
  refine ⟨(pe_var hN hv hd hcd).imp fun τ H Q h => ?_, fun σ st Q Q' q h => ?_⟩
  · obtain ⟨ex, f, σ, st, r, er, h⟩ := h
    unfold wVar at h
    split at h
    · rename_i d hd
      obtain ⟨v, h1, h2⟩ := er.at_ i d hd
      exact ⟨v, h1, h.self r h2⟩
    · exact h.elim
  · unfold wVar at *
    split at h
    · exact q _ _ h
    · exact h.elim
/-- a constant -/
inductive CV : Dv → V → Prop
  | non : CV .non .non
  | bl (b : Bool) : CV (.bl b) (.bl b)
  | int (i : Int) : CV (.int i) (.int i)
  | str (s : Str) : CV (.str s) (.str s)
theorem CV.rd {d : Dv} {v : V} {k : Nat} (c : CV d v) : RD K ex f k H d v := by
  cases c with
  | non => exact .non
  | bl b => exact .bl b
  | int i => exact .int i
  | str s => exact .str s
abbrev wC (d : Dv) : DTE := fun _ st Q => Q d st
theorem de_c {e : Expr} {d : Dv} {v : V} (h : PE X e (tC v)) (c : CV d v) : DE X e (wC d) :=
  ⟨h.imp fun τ H Q ⟨ex, f, σ, st, r, er, h⟩ => Af.self h r c.rd, fun σ st Q Q' q h => q _ _ h⟩
theorem de_int {i : Int} {j pos} : DE X (.Constant (.int i) j pos) (wC (.int i)) := de_c pe_int (.int i)
theorem de_bl {b : Bool} {j pos} : DE X (.Constant (.bool b) j pos) (wC (.bl b)) := de_c pe_bl (.bl b)
theorem de_non {j pos} : DE X (.Constant .none j pos) (wC .non) := de_c pe_non .non
theorem de_str {x : Str} {j pos} : DE X (.Constant (.str x) j pos) (wC (.str x)) := de_c pe_str (.str x)
theorem de_glob {x : Str} {d : Dv} {v : V} {u : Value} {pos : Pos} (c : CV d v) (hg : Gl X x) (hm : X.mg x = some u) (r : RelV v u) (hd : (x == ("__debug__" : Str)) = false := by decide) : DE X (.Name x pos) (wC d) := de_c (pe_glob hg hm r hd) c

/-! ### operators by values -/
abbrev G2 := Dv → Dv → Sto → DK → Prop
def Mono2 (g : G2) : Prop := ∀ x y st (Q Q' : DK), (∀ d s, Q d s → Q' d s) → g x y st Q → g x y st Q'
/-- what a two-place operation on values does to data -/
structure OpD (X : Cx) (F : Value → Value → Sem Value) (g : G2) : Prop where
  mono : Mono2 g
  ok : ∃ r : R2, OpR X F r ∧ ∀ ex f st H x y vx vy Q, RS X.K ex f st H → RD X.K ex f st.length H x vx → RD X.K ex f st.length H y vy → g x y st (Af X.K ex f st.length H Q) → r vx vy H Q
theorem OpD.or {F : Value → Value → Sem Value} {g g' : G2} (a : OpD X F g) (b : OpD X F g') : OpD X F (fun x y st Q => g x y st Q ∨ g' x y st Q) := by
  obtain ⟨m1, r1, h1, q1⟩ := a
  obtain ⟨m2, r2, h2, q2⟩ := b
  refine ⟨fun x y st Q Q' q h => h.imp (m1 x y st Q Q' q) (m2 x y st Q Q' q), _, h1.or h2, fun ex f st H x y vx vy Q r rx ry h => ?_⟩
  exact h.imp (q1 ex f st H x y vx vy Q r rx ry) (q2 ex f st H x y vx vy Q r rx ry)
theorem OpD.imp {F : Value → Value → Sem Value} {g g' : G2} (a : OpD X F g) (m : Mono2 g') (i : ∀ x y st Q, g' x y st Q → g x y st Q) : OpD X F g' := by
  obtain ⟨m1, r1, h1, q1⟩ := a
  exact ⟨m, r1, h1, fun ex f st H x y vx vy Q r rx ry h => q1 ex f st H x y vx vy Q r rx ry (i x y st _ h)⟩
abbrev w2 (g : G2) (wa wb : DTE) : DTE := fun σ st Q => wa σ st fun x st1 => wb σ st1 fun y st2 => g x y st2 Q
theorem w2_mono {g : G2} {wa wb : DTE} (mg : Mono2 g) (ma : MonoE wa) (mb : MonoE wb) : MonoE (w2 g wa wb) := fun σ st Q Q' q h =>
  ma _ _ _ _ (fun x st1 h1 => mb _ _ _ _ (fun y st2 h2 => mg _ _ _ _ _ q h2) h1) h
theorem w2_lift {F : Value → Value → Sem Value} {g : G2} {wa wb : DTE} {r : R2} {X : Cx} (q : ∀ ex f st H x y vx vy Q, RS X.K ex f st H → RD X.K ex f st.length H x vx → RD X.K ex f st.length H y vy → g x y st (Af X.K ex f st.length H Q) → r vx vy H Q)
    (mg : Mono2 g) (ma : MonoE wa) (mb : MonoE wb) (τ : L2.St) (H : Hp) (Q : VK) (h : lE X.K (w2 g wa wb) τ H Q) : tOp r (lE X.K wa) (lE X.K wb) τ H Q := by
  obtain ⟨ex, f, σ, st, rs, er, h⟩ := h
  refine lE.use ma rs er h fun f1 H1 x st1 vx s1 r1 e1 rx h1 => ?_
  refine lE.use mb r1 e1 h1 fun f2 H2 y st2 vy s2 r2 e2 ry h2 => ?_
  exact q ex f2 st2 H2 x y vx vy Q r2 (rx.mono s2 r1.cel) ry (mg _ _ _ _ _ (fun d s hd => hd.later (s1.trans s2)) h2)
theorem de_op {op : Operator} {g : G2} {a b : Expr} {wa wb : DTE} {pos : Pos} (o : OpD X (binaryOp op) g) (ha : DE X a wa) (hb : DE X b wb) : DE X (.BinOp a op b pos) (w2 g wa wb) := by
  obtain ⟨mg, r, ho, q⟩ := o
  exact ⟨(pe_op ho ha.pe hb.pe).imp (w2_lift (F := binaryOp op) q mg ha.mono hb.mono), w2_mono mg ha.mono hb.mono⟩
theorem de_cmp {op : CmpOp} {g : G2} {a b : Expr} {wa wb : DTE} {pos : Pos} (o : OpD X (compareOp op) g) (ha : DE X a wa) (hb : DE X b wb) (hm : behindInMarks op b = false) : DE X (.Compare a [op] [b] pos) (w2 g wa wb) := by
  obtain ⟨mg, r, ho, q⟩ := o
  exact ⟨(pe_cmpR ho ha.pe hb.pe hm).imp (w2_lift (F := compareOp op) q mg ha.mono hb.mono), w2_mono mg ha.mono hb.mono⟩
/-- a value that is a bool, as a test -/
abbrev wB (w : DTE) : DTT := fun σ st Q => w σ st fun d st1 => match d with | .bl b => Q b st1 | _ => False
theorem wB_mono {w : DTE} (m : MonoE w) : MonoT (wB w) := fun σ st Q Q' q h => m _ _ _ _ (fun d s h1 => by
  split at h1
  · exact q _ _ h1
  · exact h1.elim) h
theorem dt_cmp {op : CmpOp} {g : G2} {a b : Expr} {wa wb : DTE} {pos : Pos} (o : OpD X (compareOp op) g) (ha : DE X a wa) (hb : DE X b wb) (hm : behindInMarks op b = false) : DT X (.Compare a [op] [b] pos) (wB (w2 g wa wb)) := by
  obtain ⟨mg, r, ho, q⟩ := o
  refine ⟨(pt_cmpR ho ha.pe hb.pe hm).imp fun τ H Q h => ?_, wB_mono (w2_mono mg ha.mono hb.mono)⟩
  obtain ⟨ex, f, σ, st, rs, er, h⟩ := h
  refine w2_lift (F := compareOp op) (X := X) q mg ha.mono hb.mono τ H (fun x H' => ∃ k, x = .bl k ∧ Q k H') ⟨ex, f, σ, st, rs, er, w2_mono mg ha.mono hb.mono _ _ _ _ (fun d s h1 f' H' v s' r' rd => ?_) h⟩
  split at h1
  · cases rd
    exact ⟨_, rfl, h1 f' H' s' r'⟩
  · exact h1.elim
/-- by truth -/
def truD (d : Dv) (st : Sto) : Option Bool := match d with
  | .non => some false
  | .bl b => some b
  | .int i => some (i != 0)
  | .tup xs => some (!xs.isEmpty)
  | .tux xs => some (!xs.isEmpty)
  | .rol xs => some (!xs.isEmpty)
  | .fro xs => some (!xs.isEmpty)
  | .ref n => match st[n]? with | some (.lst xs) => some (!xs.isEmpty) | none => none
  | _ => none
abbrev wTru (w : DTE) : DTT := fun σ st Q => w σ st fun d st1 => match truD d st1 with | some b => Q b st1 | none => (match d with | .str s => s.length ≤ sizeLine ∧ Q ((s.length : Int) != 0) st1 | _ => False)
theorem wTru_mono {w : DTE} (m : MonoE w) : MonoT (wTru w) := fun σ st Q Q' q h => m _ _ _ _ (fun d s h1 => by
  split at h1
  · exact q _ _ h1
  · split at h1
    · exact ⟨h1.1, q _ _ h1.2⟩
    · exact h1.elim) h
theorem isEmpty_rds {ds : List Dv} {vs : List V} {k : Nat} (h : RDs K ex f k H ds vs) : ds.isEmpty = vs.isEmpty := by cases h <;> rfl
theorem dt_tru {e : Expr} {w : DTE} (h : DE X e w) (he : ∀ whole, isTrue e X.env whole = (do let v ← whole; standAt e.pos; holding [v] (truthy v)) := by intro _; rfl) : DT X e (wTru w) := by
  refine ⟨(pt_truth h.pe he).imp fun τ H Q hh => ?_, wTru_mono h.mono⟩
  obtain ⟨ex, f, σ, st, r, er, hh⟩ := hh
  refine lE.use h.mono r er hh fun f1 H1 d st1 v s1 r1 e1 rd h1 => ?_
  cases rd with
  | non => exact ⟨false, rfl, h1 f1 H1 s1 r1⟩
  | bl b => exact ⟨b, rfl, h1 f1 H1 s1 r1⟩
  | int i => exact ⟨_, rfl, h1 f1 H1 s1 r1⟩
  | str s => exact ⟨_, ⟨h1.1, rfl⟩, h1.2 f1 H1 s1 r1⟩
  | tup h2 hs => exact ⟨_, .inr (.inl ⟨_, h2, rfl⟩), by rw [← isEmpty_rds hs]; exact h1 f1 H1 s1 r1⟩
  | tux h2 hs => exact ⟨_, .inr (.inl ⟨_, .inl (.inr (h2.imp fun _ q => q.1)), rfl⟩), by rw [← isEmpty_rds hs]; exact h1 f1 H1 s1 r1⟩
  | rol h2 hx hn hs => exact ⟨_, .inl ⟨_, .inl (.inl h2), rfl⟩, by rw [← isEmpty_rds hs]; exact h1 f1 H1 s1 r1⟩
  | fro h2 hs => exact ⟨_, .inl ⟨_, h2.imp (fun q => q.1) id, rfl⟩, by rw [← isEmpty_rds hs]; exact h1 f1 H1 s1 r1⟩
  | obj h2 hn hs => exact h1.elim
  | ref n hn =>
    have h2 : st1[n]? = some st1[n] := by simp
    have h3 := r1.obj n _ h2
    cases h4 : st1[n] with
    | lst xs =>
      rw [h4] at h2 h3
      cases h3 with
      | lst e hs =>
        simp only [truD, h2] at h1
        exact ⟨_, .inl ⟨_, .inl (.inl e), rfl⟩, by rw [← isEmpty_rds hs]; exact h1 f1 H1 s1 r1⟩

/-! ### and, or, not, if -/
abbrev wAnd (a b : DTT) : DTT := fun σ st Q => a σ st fun c st1 => if c = true then b σ st1 Q else Q false st1
abbrev wOr (a b : DTT) : DTT := fun σ st Q => a σ st fun c st1 => if c = true then Q true st1 else b σ st1 Q
abbrev wNot (a : DTT) : DTT := fun σ st Q => a σ st fun c st1 => Q (!c) st1
theorem wAnd_mono {a b : DTT} (ma : MonoT a) (mb : MonoT b) : MonoT (wAnd a b) := fun σ st Q Q' q h => ma _ _ _ _ (fun c s h1 => by
  cases c with
  | true => exact mb _ _ _ _ q h1
  | false => exact q _ _ h1) h
theorem wOr_mono {a b : DTT} (ma : MonoT a) (mb : MonoT b) : MonoT (wOr a b) := fun σ st Q Q' q h => ma _ _ _ _ (fun c s h1 => by
  cases c with
  | false => exact mb _ _ _ _ q h1
  | true => exact q _ _ h1) h
theorem wNot_mono {a : DTT} (ma : MonoT a) : MonoT (wNot a) := fun σ st Q Q' q h => ma _ _ _ _ (fun c s h1 => q _ _ h1) h
theorem AfB.later {f1 : Nat → Addr} {k k1 : Nat} {H1 : Hp} {Q : Bool → Hp → Prop} {b : Bool} {st' : Sto} (h : AfB K ex f k H Q b st') (s : Stp f k H f1 k1 H1) : AfB K ex f1 k1 H1 Q b st' := fun f' H' s' r => h f' H' (s.trans s') r
theorem AfA.later {f1 : Nat → Addr} {k k1 : Nat} {H1 : Hp} {Q : List V → Hp → Prop} {b : List Dv} {st' : Sto} (h : AfA K ex f k H Q b st') (s : Stp f k H f1 k1 H1) : AfA K ex f1 k1 H1 Q b st' := fun f' H' v s' r => h f' H' v (s.trans s') r
theorem dw_one {op : BoolOp} {a : Expr} {wa : DTT} {pos : Pos} (ha : DT X a wa) : DW X (.BoolOp op [a] pos) wa := by
  cases op with
  | And => exact ⟨pw_and1 ha.pt, ha.mono⟩
  | Or => exact ⟨pw_or1 ha.pt, ha.mono⟩
theorem dw_and {a b : Expr} {rest : List Expr} {wa wb : DTT} {pos : Pos} (ha : DT X a wa) (hb : DW X (.BoolOp .And (b :: rest) pos) wb) : DW X (.BoolOp .And (a :: b :: rest) pos) (wAnd wa wb) := by
  refine ⟨(pw_and ha.pt hb.pw).imp fun τ H Q h => ?_, wAnd_mono ha.mono hb.mono⟩
  obtain ⟨ex, f, σ, st, r, er, h⟩ := h
  refine lT.use ha.mono r er h fun f1 H1 c st1 s1 r1 e1 h1 => ?_
  cases c with
  | true => exact lT.use hb.mono r1 e1 h1 fun f2 H2 c st2 s2 r2 e2 h2 => h2 f2 H2 (s1.trans s2) r2
  | false => exact h1 f1 H1 s1 r1
theorem dw_or {a b : Expr} {rest : List Expr} {wa wb : DTT} {pos : Pos} (ha : DT X a wa) (hb : DW X (.BoolOp .Or (b :: rest) pos) wb) : DW X (.BoolOp .Or (a :: b :: rest) pos) (wOr wa wb) := by
  refine ⟨(pw_or ha.pt hb.pw).imp fun τ H Q h => ?_, wOr_mono ha.mono hb.mono⟩
  obtain ⟨ex, f, σ, st, r, er, h⟩ := h
  refine lT.use ha.mono r er h fun f1 H1 c st1 s1 r1 e1 h1 => ?_
  cases c with
  | false => exact lT.use hb.mono r1 e1 h1 fun f2 H2 c st2 s2 r2 e2 h2 => h2 f2 H2 (s1.trans s2) r2
  | true => exact h1 f1 H1 s1 r1
theorem DW.dt {e : Expr} {w : DTT} (h : DW X e w) : DT X e w := ⟨h.pw.pt, h.mono⟩
theorem dt_not {a : Expr} {wa : DTT} {pos : Pos} (ha : DT X a wa) : DT X (.UnaryOp .Not a pos) (wNot wa) := by
  refine ⟨(pt_not ha.pt).imp fun τ H Q h => ?_, wNot_mono ha.mono⟩
  obtain ⟨ex, f, σ, st, r, er, h⟩ := h
  exact lT.use ha.mono r er h fun f1 H1 c st1 s1 r1 e1 h1 => h1 f1 H1 s1 r1
/-- .. as values, all but the last a bool -/
abbrev wAndV (a b : DTE) : DTE := fun σ st Q => a σ st fun d st1 => match d with | .bl true => b σ st1 Q | .bl false => Q (.bl false) st1 | _ => False
abbrev wOrV (a b : DTE) : DTE := fun σ st Q => a σ st fun d st1 => match d with | .bl true => Q (.bl true) st1 | .bl false => b σ st1 Q | _ => False
abbrev wNotV (a : DTE) : DTE := fun σ st Q => a σ st fun d st1 => match d with | .bl c => Q (.bl (!c)) st1 | _ => False
theorem wAndV_mono {a b : DTE} (ma : MonoE a) (mb : MonoE b) : MonoE (wAndV a b) := fun σ st Q Q' q h => ma _ _ _ _ (fun c s h1 => by
  split at h1
  · exact mb _ _ _ _ q h1
  · exact q _ _ h1
  · exact h1.elim) h
theorem wOrV_mono {a b : DTE} (ma : MonoE a) (mb : MonoE b) : MonoE (wOrV a b) := fun σ st Q Q' q h => ma _ _ _ _ (fun c s h1 => by
  split at h1
  · exact q _ _ h1
  · exact mb _ _ _ _ q h1
  · exact h1.elim) h
theorem wNotV_mono {a : DTE} (ma : MonoE a) : MonoE (wNotV a) := fun σ st Q Q' q h => ma _ _ _ _ (fun c s h1 => by
  split at h1
  · exact q _ _ h1
  · exact h1.elim) h
theorem de_one {op : BoolOp} {a : Expr} {wa : DTE} {pos : Pos} (ha : DE X a wa) : DE X (.BoolOp op [a] pos) wa := ⟨pe_one ha.pe, ha.mono⟩
theorem de_and {a b : Expr} {rest : List Expr} {wa wb : DTE} {pos : Pos} (ha : DE X a wa) (hb : DE X (.BoolOp .And (b :: rest) pos) wb) : DE X (.BoolOp .And (a :: b :: rest) pos) (wAndV wa wb) := by
  refine ⟨(pe_and ha.pe hb.pe).imp fun τ H Q h => ?_, wAndV_mono ha.mono hb.mono⟩
  obtain ⟨ex, f, σ, st, r, er, h⟩ := h
  refine lE.use ha.mono r er h fun f1 H1 d st1 v s1 r1 e1 rd h1 => ?_
  split at h1
  · cases rd
    exact ⟨true, rfl, lE.use hb.mono r1 e1 h1 fun f2 H2 d st2 v s2 r2 e2 rd2 h2 => h2 f2 H2 v (s1.trans s2) r2 rd2⟩
  · cases rd
    exact ⟨false, rfl, h1 f1 H1 _ s1 r1 (.bl false)⟩
  · exact h1.elim
theorem de_or {a b : Expr} {rest : List Expr} {wa wb : DTE} {pos : Pos} (ha : DE X a wa) (hb : DE X (.BoolOp .Or (b :: rest) pos) wb) : DE X (.BoolOp .Or (a :: b :: rest) pos) (wOrV wa wb) := by
  refine ⟨(pe_or ha.pe hb.pe).imp fun τ H Q h => ?_, wOrV_mono ha.mono hb.mono⟩
  obtain ⟨ex, f, σ, st, r, er, h⟩ := h
  refine lE.use ha.mono r er h fun f1 H1 d st1 v s1 r1 e1 rd h1 => ?_
  split at h1
  · cases rd
    exact ⟨true, rfl, h1 f1 H1 _ s1 r1 (.bl true)⟩
  · cases rd
    exact ⟨false, rfl, lE.use hb.mono r1 e1 h1 fun f2 H2 d st2 v s2 r2 e2 rd2 h2 => h2 f2 H2 v (s1.trans s2) r2 rd2⟩
  · exact h1.elim
theorem de_not {a : Expr} {wa : DTE} {pos : Pos} (ha : DE X a wa) : DE X (.UnaryOp .Not a pos) (wNotV wa) := by
  refine ⟨(pe_not ha.pe).imp fun τ H Q h => ?_, wNotV_mono ha.mono⟩
  obtain ⟨ex, f, σ, st, r, er, h⟩ := h
  refine lE.use ha.mono r er h fun f1 H1 d st1 v s1 r1 e1 rd h1 => ?_
  split at h1
  · cases rd
    exact ⟨_, rfl, h1 f1 H1 _ s1 r1 (.bl _)⟩
  · exact h1.elim
abbrev wIfE (t : DTT) (a b : DTE) : DTE := fun σ st Q => t σ st fun c st1 => if c = true then a σ st1 Q else b σ st1 Q
theorem de_if {c a b : Expr} {wc : DTT} {wa wb : DTE} {pos : Pos} (hc : DT X c wc) (ha : DE X a wa) (hb : DE X b wb) : DE X (.IfExp c a b pos) (wIfE wc wa wb) := by
  refine ⟨(pe_ifExp hc.pt ha.pe hb.pe).imp fun τ H Q h => ?_, fun σ st Q Q' q h => hc.mono _ _ _ _ (fun c s h1 => ?_) h⟩
  · obtain ⟨ex, f, σ, st, r, er, h⟩ := h
    refine lT.use hc.mono r er h fun f1 H1 c st1 s1 r1 e1 h1 => ?_
    cases c with
    | true => exact lE.use ha.mono r1 e1 h1 fun f2 H2 d st2 v s2 r2 e2 rd2 h2 => h2 f2 H2 v (s1.trans s2) r2 rd2
    | false => exact lE.use hb.mono r1 e1 h1 fun f2 H2 d st2 v s2 r2 e2 rd2 h2 => h2 f2 H2 v (s1.trans s2) r2 rd2
  · cases c with
    | true => exact ha.mono _ _ _ _ q h1
    | false => exact hb.mono _ _ _ _ q h1

/-! ### arguments, displays -/
abbrev wNil : DTA := fun _ st Q => Q [] st
abbrev wCons (a : DTE) (b : DTA) : DTA := fun σ st Q => a σ st fun x st1 => b σ st1 fun xs st2 => Q (x :: xs) st2
theorem da_nil : DA X [] wNil := ⟨pa_nil.imp fun τ H Q ⟨ex, f, σ, st, r, er, h⟩ => h f H [] Stp.refl r .nil, fun σ st Q Q' q h => q _ _ h⟩
theorem da_cons {e : Expr} {es : List Expr} {wa : DTE} {wb : DTA} (ha : DE X e wa) (hb : DA X es wb) (hs : starEach (e :: es) X.env = (false, eval e X.env) :: starEach es X.env := by rfl) : DA X (e :: es) (wCons wa wb) := by
  refine ⟨(pa_cons ha.pe hb.pa hs).imp fun τ H Q h => ?_, fun σ st Q Q' q h => ha.mono _ _ _ _ (fun x s h1 => hb.mono _ _ _ _ (fun xs s2 h2 => q _ _ h2) h1) h⟩
  obtain ⟨ex, f, σ, st, r, er, h⟩ := h
  refine lE.use ha.mono r er h fun f1 H1 d st1 v s1 r1 e1 rd h1 => ?_
  exact lA.use hb.mono r1 e1 h1 fun f2 H2 ds st2 vs s2 r2 e2 rds h2 => h2 f2 H2 (v :: vs) (s1.trans s2) r2 (.cons (rd.mono s2 r1.cel) rds)
abbrev wTup (a : DTA) : DTE := fun σ st Q => a σ st fun xs st1 => xs.length ≤ sizeLine ∧ Q (.tup xs) st1
/-- a list display that stays as it is | a cell -/
abbrev wRol (a : DTA) : DTE := fun σ st Q => a σ st fun xs st1 => xs.length ≤ sizeLine ∧ Q (.rol xs) st1
abbrev wCel (a : DTA) : DTE := fun σ st Q => a σ st fun xs st1 => xs.length ≤ sizeLine ∧ Q (.ref st1.length) (st1 ++ [.lst xs])
theorem RS.newTup {st : Sto} {xs : List Dv} {vs : List V} {p : Addr} (r : RS K ex f st H) (h : H p = none) (hx : RDs K ex f st.length H xs vs) : RD K ex f st.length (upd H p (.tup vs)) (.tup xs) (.ref p) :=
  .tup (.inl (.inl upd_same)) (hx.mono (Stp.new h) r.cel)
theorem RS.newRol {st : Sto} {xs : List Dv} {vs : List V} {p : Addr} (r : RS K ex f st H) (h : H p = none) (hx : RDs K ex f st.length H xs vs) : RD K ex f st.length (upd H p (.lst vs)) (.rol xs) (.ref p) :=
  .rol upd_same (fun q => r.exs p q h) (fun n hn e => by
    obtain ⟨ws, e2⟩ := r.cel n hn
    rw [e, h] at e2
    cases e2) (hx.mono (Stp.new h) r.cel)
/-- ways to end: a new tuple, a new list, a new cell -/
theorem Af.newTup {st : Sto} {xs : List Dv} {vs : List V} {p : Addr} {Q : VK} (h : Af K ex f st.length H Q (.tup xs) st) (r : RS K ex f st H) (hp : H p = none) (hx : RDs K ex f st.length H xs vs) : Q (.ref p) (upd H p (.tup vs)) :=
  h f _ _ (Stp.new hp) (r.new hp) (r.newTup hp hx)
theorem Af.newRol {st : Sto} {xs : List Dv} {vs : List V} {p : Addr} {Q : VK} (h : Af K ex f st.length H Q (.rol xs) st) (r : RS K ex f st H) (hp : H p = none) (hx : RDs K ex f st.length H xs vs) : Q (.ref p) (upd H p (.lst vs)) :=
  h f _ _ (Stp.new hp) (r.new hp) (r.newRol hp hx)
theorem Af.newCel {st : Sto} {xs : List Dv} {vs : List V} {p : Addr} {Q : VK} (h : Af K ex f st.length H Q (.ref st.length) (st ++ [.lst xs])) (r : RS K ex f st H) (hp : H p = none) (hx : RDs K ex f st.length H xs vs) : Q (.ref p) (upd H p (.lst vs)) := by
  have e : (st ++ [Co.lst xs]).length = st.length + 1 := by simp
  refine h (put f st.length p) _ _ (by rw [e]; exact Stp.cell hp) (r.cell hp hx) ?_
  have q := RD.ref (K := K) (ex := ex) (f := put f st.length p) (k := (st ++ [Co.lst xs]).length) (H := upd H p (.lst vs)) st.length (by rw [e]; omega)
  rw [put_at] at q
  exact q
theorem de_tup {es : List Expr} {w : DTA} {pos : Pos} {x1} (h : DA X es w) : DE X (.Tuple es x1 pos) (wTup w) := by
  refine ⟨(pe_tup h.pa).imp fun τ H Q hh => ?_, fun σ st Q Q' q hh => h.mono _ _ _ _ (fun x s h1 => ⟨h1.1, q _ _ h1.2⟩) hh⟩
  obtain ⟨ex, f, σ, st, r, er, hh⟩ := hh
  refine lA.use h.mono r er hh fun f1 H1 xs st1 vs s1 r1 e1 rd h1 => ⟨by rw [← rd.length]; exact h1.1, fun p hp => ?_⟩
  exact (h1.2.later s1).newTup r1 hp rd
theorem de_rol {es : List Expr} {w : DTA} {pos : Pos} (h : DA X es w) : DE X (.List es pos) (wRol w) := by
  refine ⟨(pe_lst h.pa).imp fun τ H Q hh => ?_, fun σ st Q Q' q hh => h.mono _ _ _ _ (fun x s h1 => ⟨h1.1, q _ _ h1.2⟩) hh⟩
  obtain ⟨ex, f, σ, st, r, er, hh⟩ := hh
  refine lA.use h.mono r er hh fun f1 H1 xs st1 vs s1 r1 e1 rd h1 => ⟨by rw [← rd.length]; exact h1.1, fun p hp => ?_⟩
  exact (h1.2.later s1).newRol r1 hp rd
theorem de_cel {es : List Expr} {w : DTA} {pos : Pos} (h : DA X es w) : DE X (.List es pos) (wCel w) := by
  refine ⟨(pe_lst h.pa).imp fun τ H Q hh => ?_, fun σ st Q Q' q hh => h.mono _ _ _ _ (fun x s h1 => ⟨h1.1, q _ _ h1.2⟩) hh⟩
  obtain ⟨ex, f, σ, st, r, er, hh⟩ := hh
  refine lA.use h.mono r er hh fun f1 H1 xs st1 vs s1 r1 e1 rd h1 => ⟨by rw [← rd.length]; exact h1.1, fun p hp => ?_⟩
  exact (h1.2.later s1).newCel r1 hp rd

/-! ### blocks, small statements -/
abbrev wNext : DTS := fun D σ st => D.nx σ st
abbrev wSeq (a b : DTS) : DTS := fun D σ st => a { D with nx := b D } σ st
theorem dss_nil : DSs X [] wNext := ⟨pss_nil.imp fun D τ H ⟨ex, f, σ, st, r, er, h⟩ => h f H τ Stp.refl r er, fun σ st D D' l h => l.nx _ _ h⟩
theorem dss_cons {s : Stmt} {rest : List Stmt} {w u : DTS} (h1 : DS X s w) (h2 : DSs X rest u) : DSs X (s :: rest) (wSeq w u) := by
  refine ⟨(pss_cons h1.ps h2.ps).imp fun D τ H h => ?_, fun σ st D D' l h => h1.mono σ st { D with nx := u D } { D' with nx := u D' } ⟨fun σ s => h2.mono σ s D D' l, l.rt, l.bk, l.ct⟩ h⟩
  obtain ⟨ex, f, σ, st, r, er, h⟩ := h
  refine lS.use h1.mono r er h ⟨fun σ' st' q f' H' τ' s' r' er' => ?_, fun _ _ q => q, fun _ _ q => q, fun _ _ q => q⟩
  exact lS.use h2.mono r' er' q (AfE.later s')
theorem dss_one {s : Stmt} {w : DTS} (h1 : DS X s w) : DSs X [s] w := ⟨pss_one h1.ps, h1.mono⟩
abbrev wDrop (a : DTE) : DTS := fun D σ st => a σ st fun _ st1 => D.nx σ st1
theorem ds_expr {e : Expr} {w : DTE} {pos : Pos} (he : DE X e w) (hs : swapsWith e none pos.line X.env = pure false := by rfl) : DS X (.Expr e pos) (wDrop w) := by
  refine ⟨(ps_expr he.pe hs).imp fun D τ H h => ?_, fun σ st D D' l h => he.mono _ _ _ _ (fun d s => l.nx _ _) h⟩
  obtain ⟨ex, f, σ, st, r, er, h⟩ := h
  exact lE.use he.mono r er h fun f1 H1 d st1 v s1 r1 e1 rd h1 => h1 f1 H1 τ s1 r1 e1
abbrev wRet (a : DTE) : DTS := fun D σ st => a σ st D.rt
theorem ds_ret {e : Expr} {w : DTE} {pos : Pos} (he : DE X e w) : DS X (.Return (some e) pos) (wRet w) := by
  refine ⟨(ps_ret he.pe).imp fun D τ H h => ?_, fun σ st D D' l h => he.mono _ _ _ _ (fun d s => l.rt _ _) h⟩
  obtain ⟨ex, f, σ, st, r, er, h⟩ := h
  exact lE.use he.mono r er h fun f1 H1 d st1 v s1 r1 e1 rd h1 => h1 f1 H1 v s1 r1 rd
abbrev wIf (c : DTT) (a b : DTS) : DTS := fun D σ st => c σ st fun k st1 => if k = true then a D σ st1 else b D σ st1
theorem ds_if {c : Expr} {a b : List Stmt} {wc : DTT} {wa wb : DTS} {pos : Pos} (hc : DT X c wc) (ha : DSs X a wa) (hb : DSs X b wb) : DS X (.If c a b pos) (wIf wc wa wb) := by
  refine ⟨(ps_if hc.pt ha.ps hb.ps).imp fun D τ H h => ?_, fun σ st D D' l h => hc.mono _ _ _ _ (fun k s h1 => ?_) h⟩
  · obtain ⟨ex, f, σ, st, r, er, h⟩ := h
    refine lT.use hc.mono r er h fun f1 H1 k st1 s1 r1 e1 h1 => ?_
    cases k with
    | true => exact lS.use ha.mono r1 e1 h1 (AfE.later s1)
    | false => exact lS.use hb.mono r1 e1 h1 (AfE.later s1)
  · cases k with
    | true => exact ha.mono _ _ _ _ l h1
    | false => exact hb.mono _ _ _ _ l h1
abbrev wSet (i : Nat) (a : DTE) : DTS := fun D σ st => a σ st fun d st1 => D.nx (σ.set i (some d)) st1
theorem ds_of_asg {s : Stmt} {w : DTE} {i : Nat} (h : PS X s (tAsg (lE X.K w) (gName i))) (m : MonoE w) : DS X s (wSet i w) := by
  refine ⟨h.imp fun D τ H h => ?_, fun σ st D D' l h => m _ _ _ _ (fun d s => l.nx _ _) h⟩
  obtain ⟨ex, f, σ, st, r, er, h⟩ := h
  exact lE.use m r er h fun f1 H1 d st1 v s1 r1 e1 rd h1 => h1 f1 H1 _ s1 r1 (e1.set rd)
theorem ds_set {i : Nat} {x : Str} {e : Expr} {w : DTE} {pos pos' : Pos} (hN : X.N.Nodup) (hi : X.N[i]? = some x) (hx : Loc X.env.scope x) (he : DE X e w) (hs : swapsWith e (some (.Name x pos')) pos.line X.env = pure false := by rfl)
    (hf : X.fn x = true ∨ X.env.scope.names.lookup x = some .local := by first | exact .inl rfl | exact .inr rfl | assumption) : DS X (.Assign [.Name x pos'] e pos) (wSet i w) :=
  ds_of_asg (ps_set hN hi hx he.pe hs hf) he.mono
abbrev wPar (i j : Nat) (a b : DTE) : DTS := fun D σ st => a σ st fun d st1 => b σ st1 fun e st2 => D.nx ((σ.set i (some d)).set j (some e)) st2
theorem ds_par {i j : Nat} {x y : Str} {a b : Expr} {wa wb : DTE} {px py pt pos : Pos} {kt k2 pt2} (hc : X.calm = true) (hN : X.N.Nodup) (hi : X.N[i]? = some x) (hj : X.N[j]? = some y) (hij : i ≠ j)
    (hx : X.env.scope.names.lookup x = some .local) (hy : X.env.scope.names.lookup y = some .local) (ha : DE X a wa) (hb : DE X b wb)
    (hw : swappedStores [.Tuple [.Name x px, .Name y py] kt pt] (.Tuple [a, b] k2 pt2) X.env = pure (some [x, y]))
    (hs : swapsWithSole [.Tuple [.Name x px, .Name y py] kt pt] (.Tuple [a, b] k2 pt2) pos.line X.env = pure false := by rfl)
    (h1 : starEach [a, b] X.env = (false, eval a X.env) :: starEach [b] X.env := by rfl) (h2 : starEach [b] X.env = (false, eval b X.env) :: starEach [] X.env := by rfl) :
    DS X (.Assign [.Tuple [.Name x px, .Name y py] kt pt] (.Tuple [a, b] k2 pt2) pos) (wPar i j wa wb) := by
  refine ⟨(ps_par hc hN hi hj hij hx hy (pa_cons ha.pe (pa_cons hb.pe pa_nil h2) h1) hw hs).imp fun D τ H h => ?_, fun σ st D D' l h => ha.mono _ _ _ _ (fun d s h1 => hb.mono _ _ _ _ (fun e s2 => l.nx _ _) h1) h⟩
  obtain ⟨ex, f, σ, st, r, er, h⟩ := h
  refine lE.use ha.mono r er h fun f1 H1 d st1 v s1 r1 e1 rd h1 => ?_
  refine lE.use hb.mono r1 e1 h1 fun f2 H2 e st2 u s2 r2 e2 re h2 => ?_
  exact ⟨v, u, rfl, h2 f2 H2 _ (s1.trans s2) r2 ((e2.set (rd.mono s2 r1.cel)).set re)⟩
end
end D2

/-! DL, part c: defs whose surroundings show no object (repr is exact there), their promises over data, calls, the law's end. -/
namespace D2
open PySem PySem.Spec PyProof.Rows L2

/-- a def's promise where no repr is under way -/
structure FnG (P : Program) (w : World) (K : PySem.W.Frag) (mg : Str → Option Value) (base : Heap) (CX : CXT) (k : Nat) (f : Addr) (fd : FuncData) (ps : List Str) (sp : Sp) : Prop where
  len : ∀ vs H Q E, sp vs H Q E → vs.length = ps.length
  run : ∀ (A : Around) (outer : List Env) (s : Shared) (H : Hp) (args : Args) (us : List Value) (vs : List V) (Q : VK) (E : XK), A.guards = some [] → Room k A → Env0 P w K mg base A outer s H → BindsTo s fd args (ps.zip us) → Vals vs us → sp vs H Q E →
    codeAny (model P w) A (.call (.ref f) args) (CR CX outer P w H s Q E) s
section
variable {P : Program} {w : World} {K : PySem.W.Frag} {mg : Str → Option Value} {base : Heap} {CX : CXT} {k j : Nat} {f : Addr} {fd : FuncData} {ps : List Str} {sp sp' : Sp}
theorem FnG.mono (F : FnG P w K mg base CX j f fd ps sp) (h : j ≤ k) : FnG P w K mg base CX k f fd ps sp :=
  ⟨F.len, fun A outer s H args us vs Q E hg hr => F.run A outer s H args us vs Q E hg (hr.mono h)⟩
theorem FnG.imp (F : FnG P w K mg base CX k f fd ps sp) (h : ∀ vs H Q E, sp' vs H Q E → sp vs H Q E) : FnG P w K mg base CX k f fd ps sp' :=
  ⟨fun vs H Q E q => F.len vs H Q E (h _ _ _ _ q), fun A outer s H args us vs Q E hg hr he hb hv hs => F.run A outer s H args us vs Q E hg hr he hb hv (h _ _ _ _ hs)⟩
/-- a def by its body -/
theorem fnG_of {x qual : Str} {st : Stmt} {N : List Str} (F : Fun K x qual st f fd) (S : FnScope N ps (defScope st)) (len : ∀ vs H Q E, sp vs H Q E → vs.length = ps.length)
    (hbody : ∀ (cdv : Value) (A : Around) (outer : List Env) (s : Shared) (H : Hp) (vs : List V) (Q : VK) (E : XK), A.guards = some [] → Room k (A.deeper (envOfC qual (defScope st) s.heap.objs.size f cdv)) → sp vs H Q E →
      ∃ t, PSs (cxOf CX P w K mg base N qual (defScope st) f cdv A outer s H E) (defBody st) t ∧ t { nx := fun _ H' => Q .non H', rt := Q } (start N vs) H) : FnG P w K mg base CX (k + 1) f fd ps sp := by
  obtain ⟨oc, od, kV, doc, pm, an, cdv, ct, osl, rfl, lk, hcd⟩ := F.ex
  refine ⟨len, fun A outer s H args us vs Q E hg hr e0 hb r hsp => ?_⟩
  have stay : ∀ b o, base.get? b = some o → s.heap.get? b = some o := fun b o e => (e0.bs b o e).1
  have kin : K.In s.heap := e0.mod.kin.keeps stay
  refine codeAny_call_function hr.depth (kin _ _ lk) rfl S.co S.gen rfl (PySem.W.codeRec_of kin hcd) (hb _ _ _ _ ?_)
  refine wpAny_newFunctionEnv_cells S.kind (fun y hy => ?_) fun env he s1 x => ?_
  · exact (S.par y.1 (List.of_mem_zip (show (y.1, y.2) ∈ _ from hy)).1).imp id fun q => ⟨q, PySem.W.cellsFrom_some _ _ _ (.inl q)⟩
  subst he
  refine ⟨(e0.mod.nolimit.keeps stay).keeps x.toInCall.keep, codeAny_func ?_⟩
  obtain ⟨t, ht, hq⟩ := hbody cdv A outer s H vs Q E hg (hr.deeper _) hsp
  refine wpAny_mono (ht.run [] s1 (start N vs) H _ (inv_start S hr.hd e0 (len _ _ _ _ hsp) r x) hq) (fun fl s' hs => ?_) fun _ _ z => z
  cases fl with
  | ret u =>
    obtain ⟨v, _, H', J, rv, q⟩ := hs
    exact ⟨v, H', J.os, J.bare, J.base, J.hok, rv, q⟩
  | next =>
    obtain ⟨_, H', J, q⟩ := hs
    exact ⟨V.non, H', J.os, J.bare, J.base, J.hok, rfl, q⟩
  | brk => exact hs.elim fun _ z => z.elim fun _ z => z.2.elim
  | cont => exact hs.elim fun _ z => z.elim fun _ z => z.2.elim
end

section
variable {X : Cx} {CX : CXT} {k : Nat} {f : Addr} {fd : FuncData} {ps ks : List Str} {sp : Sp} {E : XK} {x : Str} {p pos : Pos} {e : Expr} {es : List Expr} {kws : List Keyword} {t tk : TA}
theorem gEnd {pins : List (Addr × Obj)} {τ : L2.St} {H : Hp} {s s' : Shared} {Q : VK} {r : Result} (hx : Passes CX X E) (I : Inv X pins τ H s) (h : CR CX X.stack X.prog X.w H s Q E r s') :
    match r with | .ok (.ret u) => EP X pins τ Q u s' | .ok _ => False | .error e => X.xe e s' := by
  cases r with
  | error e => exact hx pins τ H s e s' I h
  | ok fl => cases fl with
    | ret u => exact I.after h
    | _ => exact h
theorem runG {pins : List (Addr × Obj)} {τ : L2.St} {H : Hp} {s : Shared} {Q : VK} {args : Args} {us : List Value} {vs : List V} (F : FnG X.prog X.w X.K X.mg X.base CX k f fd ps sp) (hgu : X.A.guards = some []) (hr : Room k X.A)
    (hb : BindsTo s fd args (ps.zip us)) (hx : Passes CX X E) (I : Inv X pins τ H s) (r : Vals vs us) (h : sp vs H Q E) : wpAny (model X.prog X.w) X.A (call (.ref f) args.pos args.kw) (EP X pins τ Q) X.xe s := by
  refine wpAny_call (codeAny_mono (F.run X.A X.stack s H ⟨args.pos, args.kw⟩ us vs Q E hgu hr I.env0 hb r h) fun r s' hq => ?_)
  have z := gEnd hx I hq
  cases r with
  | error e => exact z
  | ok fl => cases fl with
    | ret u => exact z
    | _ => exact z.elim
/-- f(e, ..) -/
theorem pe_callG (F : FnG X.prog X.w X.K X.mg X.base CX k f fd ps sp) (hgu : X.A.guards = some []) (hr : Room k X.A) (hg : Gl X x) (hm : X.mg x = some (.ref f)) (hk : PySem.W.keepIn X.K (.ref f) = true) (hb : Binds X.K fd ps []) (hx : Passes CX X E)
    (ha : PA X (e :: es) t) (hdb : (x == ("__debug__" : Str)) = false := by decide) (he : starEach (e :: es) X.env = (false, eval e X.env) :: starEach es X.env := by rfl) (hpl : (backTo pos (starEach es X.env)).any (·.1) = false := by rfl) :
    PE X (.Call (.Name x p) (e :: es) [] pos) (tCall sp [] E t) := by
  refine ⟨fun pins s τ H Q I h => wpAny_Call_Name_kw (ld_glob I hg hm ?_ hdb)⟩
  refine PySem.W.callWith_K (h₀ := X.base) I.ok.mod.kin hk (thn (ha.run pos pins s τ H _ I h) fun us s1 z => ?_) he hpl
  obtain ⟨vs, H1, I1, r, q⟩ := z
  rw [List.append_nil] at q
  have hl : us.length = ps.length := by rw [← r.length]; exact F.len _ _ _ _ q
  refine ⟨I1.kIn, runG (args := ⟨us, []⟩) (us := us) F hgu hr ?_ hx I1 r q⟩
  have b := hb s1 us I1.kIn (by simpa using hl)
  rwa [List.append_nil] at b
/-- how keywords come to parameters -/
structure KB (fd : FuncData) (ps ks : List Str) (n : Nat) (g : List Value → List Value → List Value) (gV : List V → List V → List V) : Prop where
  to : ∀ (s : Shared) (us ws : List Value), us.length = n → ws.length = ks.length → BindsTo s fd ⟨us, ks.zip ws⟩ (ps.zip (g us ws))
  rel : ∀ {vs : List V} {us : List Value} {zs : List V} {ws : List Value}, vs.length = n → zs.length = ks.length → Vals vs us → Vals zs ws → Vals (gV vs zs) (g us ws)
def tCallG (n m : Nat) (sp : Sp) (gV : List V → List V → List V) (E : XK) (t tk : TA) : TE := fun τ H Q => t τ H fun vs H1 => tk τ H1 fun zs H2 => vs.length = n ∧ zs.length = m ∧ sp (gV vs zs) H2 Q E
variable {g : List Value → List Value → List Value} {gV : List V → List V → List V} {n : Nat}
/-- f(k = v, ..) -/
theorem pe_callG0 (F : FnG X.prog X.w X.K X.mg X.base CX k f fd ps sp) (hgu : X.A.guards = some []) (hr : Room k X.A) (hg : Gl X x) (hm : X.mg x = some (.ref f)) (hk : PySem.W.keepIn X.K (.ref f) = true) (hb : KB fd ps ks 0 g gV) (hx : Passes CX X E)
    (hkw : PK X kws tk) (hall : (backToKw pos (keywordEach kws X.env)).all (·.1.isSome) = true := by rfl) (hks : (backToKw pos (keywordEach kws X.env)).filterMap (·.1) = ks := by rfl)
    (hdb : (x == ("__debug__" : Str)) = false := by decide) (hpl : ((backTo pos (starEach [] X.env)).any (·.1) || (backToKw pos (keywordEach kws X.env)).any (·.1.isNone)) = false := by rfl) :
    PE X (.Call (.Name x p) [] kws pos) (tCallG 0 ks.length sp gV E tNil tk) := by
  refine ⟨fun pins s τ H Q I h => wpAny_Call_Name_kw (ld_glob I hg hm ?_ hdb)⟩
  refine PySem.W.callWith_KW0 (h₀ := X.base) I.ok.mod.kin hk hall (thn (hkw.run pos pins s τ H _ I h) fun ws s2 z => ?_) hpl
  obtain ⟨zs, H2, I2, rz, _, l2, q⟩ := z
  rw [hks]
  refine ⟨I2.kIn, runG (args := ⟨[], ks.zip ws⟩) (us := g [] ws) F hgu hr (hb.to _ _ _ rfl (by rw [← rz.length]; exact l2)) hx I2 (hb.rel (vs := []) (us := []) rfl l2 .nil rz) q⟩
/-- f(e, .., k = v, ..) -/
theorem pe_callGK (F : FnG X.prog X.w X.K X.mg X.base CX k f fd ps sp) (hgu : X.A.guards = some []) (hr : Room k X.A) (hg : Gl X x) (hm : X.mg x = some (.ref f)) (hk : PySem.W.keepIn X.K (.ref f) = true) (hb : KB fd ps ks n g gV) (hx : Passes CX X E)
    (ha : PA X (e :: es) t) (hkw : PK X kws tk) (hall : (backToKw pos (keywordEach kws X.env)).all (·.1.isSome) = true := by rfl) (hks : (backToKw pos (keywordEach kws X.env)).filterMap (·.1) = ks := by rfl)
    (hdb : (x == ("__debug__" : Str)) = false := by decide) (he : starEach (e :: es) X.env = (false, eval e X.env) :: starEach es X.env := by rfl)
    (hpl : ((backTo pos (starEach (e :: es) X.env)).any (·.1) || (backToKw pos (keywordEach kws X.env)).any (·.1.isNone)) = false := by rfl) :
    PE X (.Call (.Name x p) (e :: es) kws pos) (tCallG n ks.length sp gV E t tk) := by
  refine ⟨fun pins s τ H Q I h => wpAny_Call_Name_kw (ld_glob I hg hm ?_ hdb)⟩
  refine PySem.W.callWith_KW (h₀ := X.base) I.ok.mod.kin hk hall (thn (ha.run pos pins s τ H _ I h) fun us s1 z1 => ?_) hpl he
  obtain ⟨vs, H1, I1, r, q1⟩ := z1
  refine thn (hkw.run pos pins s1 τ H1 _ I1 q1) fun ws s2 z => ?_
  obtain ⟨zs, H2, I2, rz, l1, l2, q⟩ := z
  rw [hks]
  exact ⟨I2.kIn, runG (args := ⟨us, ks.zip ws⟩) (us := g us ws) F hgu hr (hb.to _ _ _ (by rw [← r.length]; exact l1) (by rw [← rz.length]; exact l2)) hx I2 (hb.rel l1 l2 r rz) q⟩
end

/-! ### promises over data -/
structure Spec where
  I : Type
  args : I → List Dv
  st : I → Sto
  pre : I → Prop
  post : I → Dv → Sto → Prop
def lSp (K : PySem.W.Frag) (S : Spec) : Sp := fun vs H Q _ => ∃ ex f i, RS K ex f (S.st i) H ∧ RDs K ex f (S.st i).length H (S.args i) vs ∧ S.pre i ∧
  ∀ d st' f' H' v, S.post i d st' → Stp f (S.st i).length H f' st'.length H' → RS K ex f' st' H' → RD K ex f' st'.length H' d v → Q v H'
abbrev DFn (P : Program) (w : World) (K : PySem.W.Frag) (mg : Str → Option Value) (base : Heap) (k : Nat) (f : Addr) (fd : FuncData) (ps : List Str) (S : Spec) : Prop := FnG P w K mg base CX0 k f fd ps (lSp K S)
/-- another reading of the promise -/
theorem lSp.imp {K : PySem.W.Frag} {S T : Spec} (h : ∀ i, T.pre i → ∃ j, S.args j = T.args i ∧ S.st j = T.st i ∧ S.pre j ∧ ∀ d st', S.post j d st' → T.post i d st') : ∀ vs H Q E, lSp K T vs H Q E → lSp K S vs H Q E := by
  rintro vs H Q E ⟨ex, f, i, r, rs, p, q⟩
  obtain ⟨j, e1, e2, p2, q2⟩ := h i p
  refine ⟨ex, f, j, by rw [e2]; exact r, by rw [e1, e2]; exact rs, p2, fun d st' f' H' v hp hs => ?_⟩
  rw [e2] at hs
  exact q d st' f' H' v (q2 d st' hp) hs

/-- the slots at the start -/
def startD (N : List Str) (ds : List Dv) : En := ds.map some ++ List.replicate (N.length - ds.length) none
theorem er_start {K : PySem.W.Frag} {ex : Addr → Prop} {f : Nat → Addr} {k : Nat} {H : Hp} {N : List Str} {ds : List Dv} {vs : List V} (h : RDs K ex f k H ds vs) : ER K ex f k H (startD N ds) (start N vs) := by
  have hl := h.length
  refine ⟨by simp [startD, L2.start, hl], fun i d e => ?_⟩
  unfold startD at e
  by_cases hi : i < ds.length
  · rw [List.getElem?_append_left (by simpa using hi), List.getElem?_map] at e
    cases e2 : ds[i]? with
    | none => rw [e2] at e; cases e
    | some c =>
      rw [e2] at e
      cases e
      obtain ⟨v, h1, h2⟩ := h.get e2
      refine ⟨v, ?_, h2⟩
      unfold L2.start
      rw [List.getElem?_append_left (by simp; omega), List.getElem?_map, h1]
      rfl
  · rw [List.getElem?_append_right (by simpa using hi), List.getElem?_replicate] at e
    split at e <;> cases e

/-- what a body must reach: the value and the cells, some of them forgotten, fulfil the promise -/
def Back (k0 : Nat) (P : Dv → Sto → Prop) : DK := fun d st => P d st ∧ k0 ≤ st.length ∨ ∃ st2 d2, Fg st d st2 d2 ∧ k0 ≤ st2.length ∧ P d2 st2
section
variable {P : Program} {w : World} {K : PySem.W.Frag} {mg : Str → Option Value} {base : Heap} {k : Nat} {f : Addr} {fd : FuncData} {ps : List Str}
theorem dfn_of {x qual : Str} {st : Stmt} {N : List Str} {S : Spec} (F : Fun K x qual st f fd) (sc : FnScope N ps (defScope st)) (len : ∀ i, S.pre i → (S.args i).length = ps.length)
    (hbody : ∀ (cdv : Value) (A : Around) (outer : List Env) (s : Shared) (H : Hp) (E : XK), A.guards = some [] → Room k (A.deeper (envOfC qual (defScope st) s.heap.objs.size f cdv)) →
      ∃ W, DSs (cxOf CX0 P w K mg base N qual (defScope st) f cdv A outer s H E).nox (defBody st) W ∧
        ∀ i, S.pre i → W { nx := fun _ st' => Back (S.st i).length (S.post i) .non st', rt := Back (S.st i).length (S.post i) } (startD N (S.args i)) (S.st i)) : DFn P w K mg base (k + 1) f fd ps S := by
  refine fnG_of F sc (fun vs H Q E h => ?_) fun cdv A outer s H vs Q E hg hr h => ?_
  · obtain ⟨ex, f, i, r, rs, p, q⟩ := h
    rw [← rs.length]
    exact len i p
  · obtain ⟨W, hW, hb⟩ := hbody cdv A outer s H E hg hr
    obtain ⟨ex, g, i, r, rs, p, q⟩ := h
    refine ⟨_, hW.ps.nox, ?_⟩
    have fin : ∀ {d : Dv} {st' : Sto} {f' : Nat → Addr} {H' : Hp} {v : V}, Back (S.st i).length (S.post i) d st' → Stp g (S.st i).length H f' st'.length H' → RS K ex f' st' H' → RD K ex f' st'.length H' d v → Q v H' := by
      intro d st' f' H' v hb s' r' rd
      rcases hb with hb | ⟨st2, d2, fg, hk, hp⟩
      · exact q d st' f' H' v hb.1 s' r' rd
      · exact q d2 st2 f' H' v hp (s'.fg hk fg.len) (r'.fg fg.len fg.cel) (RD.fz r' fg.len fg.val rd)
    refine lS.use hW.mono r (er_start rs) (hb i p) ⟨fun σ' st' hb f' H' τ' s' r' er' => fin hb s' r' .non, fun d st' hb f' H' v s' r' rd => fin hb s' r' rd, fun _ _ z => z.elim, fun _ _ z => z.elim⟩
end

/-! ### calls over data -/
abbrev wCall (S : Spec) (a : DTA) : DTE := fun σ st Q => a σ st fun ds st1 => ∃ i, ds = S.args i ∧ st1 = S.st i ∧ S.pre i ∧ ∀ d st2, S.post i d st2 → Q d st2
/-- a promise that names no cells -/
abbrev wPure (S : Spec) (a : DTA) : DTE := fun σ st Q => a σ st fun ds st1 => ∃ i, ds = S.args i ∧ Nrs ds ∧ S.st i = [] ∧ S.pre i ∧ ∀ d st2, S.post i d st2 → st2 = [] ∧ Nr d ∧ Q d st1
section
variable {X : Cx} {K : PySem.W.Frag} {ex : Addr → Prop} {f : Nat → Addr} {H : Hp} {st : Sto}
theorem wCall_mono {S : Spec} {a : DTA} (m : MonoA a) : MonoE (wCall S a) := fun σ st Q Q' q h => m _ _ _ _ (fun ds s1 ⟨i, h1, h2, h3, h4⟩ => ⟨i, h1, h2, h3, fun d s2 hp => q _ _ (h4 d s2 hp)⟩) h
theorem wPure_mono {S : Spec} {a : DTA} (m : MonoA a) : MonoE (wPure S a) := fun σ st Q Q' q h => m _ _ _ _ (fun ds s1 ⟨i, h1, h2, h3, h4, h5⟩ => ⟨i, h1, h2, h3, h4, fun d s2 hp => ⟨(h5 d s2 hp).1, (h5 d s2 hp).2.1, q _ _ (h5 d s2 hp).2.2⟩⟩) h
/-- the promise with the cells -/
theorem sp_call {S : Spec} {ds : List Dv} {vs : List V} {Q : VK} {E : XK} (r : RS K ex f st H) (rds : RDs K ex f st.length H ds vs)
    (h : ∃ i, ds = S.args i ∧ st = S.st i ∧ S.pre i ∧ ∀ d st2, S.post i d st2 → Af K ex f st.length H Q d st2) : lSp K S vs H Q E := by
  obtain ⟨i, rfl, rfl, p, h⟩ := h
  exact ⟨ex, f, i, r, rds, p, fun d st' f' H' v hp s r' rd => h d st' hp f' H' v s r' rd⟩
/-- the promise without -/
theorem sp_pure {S : Spec} {ds : List Dv} {vs : List V} {Q : VK} {E : XK} (r : RS K ex f st H) (rds : RDs K ex f st.length H ds vs)
    (h : ∃ i, ds = S.args i ∧ Nrs ds ∧ S.st i = [] ∧ S.pre i ∧ ∀ d st2, S.post i d st2 → st2 = [] ∧ Nr d ∧ Af K ex f st.length H Q d st) : lSp K S vs H Q E := by
  obtain ⟨i, rfl, nr, e0, p, h⟩ := h
  refine ⟨fun a => ex a ∨ ∃ n, n < st.length ∧ f n = a, f, i, ?_, ?_, p, fun d st' f' H' v hp s r' rd => ?_⟩
  · rw [e0]
    refine ⟨fun m n hm => absurd hm (Nat.not_lt_zero _), fun n c e => by simp at e, fun a q z => ?_, fun n hn => absurd hn (Nat.not_lt_zero _)⟩
    rcases q with q | ⟨n, hn, rfl⟩
    · exact r.exs a q z
    · obtain ⟨ws, e⟩ := r.cel n hn
      rw [e] at z
      cases z
  · rw [e0]
    exact RDs.nr (fun a q => q.elim id fun ⟨n, hn, _⟩ => absurd hn (Nat.not_lt_zero _)) nr rds
  · obtain ⟨rfl, nd, hq⟩ := h d st' hp
    rw [e0] at s
    have S2 : Stp f st.length H f st.length H' := ⟨Nat.le_refl _, fun _ _ => rfl, fun n h1 h2 => by omega, fun b o _ e => s.keep b o (fun n hn => absurd hn (Nat.not_lt_zero _)) e, s.there⟩
    refine hq f H' v S2 ⟨r.inj, fun n c e => (r.obj n c e).mono S2 r.cel fun ws e2 => s.keep _ _ (fun n hn => absurd hn (Nat.not_lt_zero _)) e2, fun a q z => r.exs a q (s.there a z), r.exc⟩ ?_
    exact RD.nr (fun a q => .inl (q.elim (fun q => .inl q) fun q => .inr q)) nd rd
variable {k : Nat} {fa : Addr} {fd : FuncData} {ps ks : List Str} {S : Spec} {x : Str} {p pos : Pos} {e : Expr} {es : List Expr} {kws : List Keyword} {wa wk : DTA}
theorem de_callA {t : TA} (h : PE X (.Call (.Name x p) (e :: es) [] pos) (tCall (lSp X.K S) [] E0 (lA X.K wa))) (m : MonoA wa) : DE X (.Call (.Name x p) (e :: es) [] pos) (wCall S wa) := by
  refine ⟨h.imp fun τ H Q hh => ?_, wCall_mono m⟩
  obtain ⟨ex, f, σ, st, r, er, hh⟩ := hh
  refine lA.use m r er hh fun f1 H1 ds st1 vs s1 r1 e1 rd ⟨i, h1, h2, h3, h4⟩ => ?_
  rw [List.append_nil]
  exact sp_call r1 rd ⟨i, h1, h2, h3, fun d st2 hp => (h4 d st2 hp).later s1⟩
theorem de_call (F : DFn X.prog X.w X.K X.mg X.base k fa fd ps S) (hgu : X.A.guards = some []) (hr : Room k X.A) (hg : Gl X x) (hm : X.mg x = some (.ref fa)) (hk : PySem.W.keepIn X.K (.ref fa) = true) (hb : Binds X.K fd ps [])
    (ha : DA X (e :: es) wa) (hdb : (x == ("__debug__" : Str)) = false := by decide) (he : starEach (e :: es) X.env = (false, eval e X.env) :: starEach es X.env := by rfl) (hpl : (backTo pos (starEach es X.env)).any (·.1) = false := by rfl) :
    DE X (.Call (.Name x p) (e :: es) [] pos) (wCall S wa) := de_callA (t := lA X.K wa) (pe_callG F hgu hr hg hm hk hb pass0 ha.pa hdb he hpl) ha.mono
theorem de_pure (F : DFn X.prog X.w X.K X.mg X.base k fa fd ps S) (hgu : X.A.guards = some []) (hr : Room k X.A) (hg : Gl X x) (hm : X.mg x = some (.ref fa)) (hk : PySem.W.keepIn X.K (.ref fa) = true) (hb : Binds X.K fd ps [])
    (ha : DA X (e :: es) wa) (hdb : (x == ("__debug__" : Str)) = false := by decide) (he : starEach (e :: es) X.env = (false, eval e X.env) :: starEach es X.env := by rfl) (hpl : (backTo pos (starEach es X.env)).any (·.1) = false := by rfl) :
    DE X (.Call (.Name x p) (e :: es) [] pos) (wPure S wa) := by
  refine ⟨(pe_callG F hgu hr hg hm hk hb pass0 ha.pa hdb he hpl).imp fun τ H Q hh => ?_, wPure_mono ha.mono⟩
  obtain ⟨ex, f, σ, st, r, er, hh⟩ := hh
  refine lA.use ha.mono r er hh fun f1 H1 ds st1 vs s1 r1 e1 rd ⟨i, h1, h2, h3, h4, h5⟩ => ?_
  rw [List.append_nil]
  exact sp_pure r1 rd ⟨i, h1, h2, h3, h4, fun d st2 hp => ⟨(h5 d st2 hp).1, (h5 d st2 hp).2.1, (h5 d st2 hp).2.2.later s1⟩⟩
/-- keywords: gD puts them in order -/
structure DK1 (X : Cx) (kws : List Keyword) (w : DTA) : Prop where
  pk : PK X kws (lA X.K w)
  mono : MonoA w
theorem _root_.L2.PK.imp {e : List Keyword} {t u : TA} (h : PK X e t) (i : ∀ τ H Q, u τ H Q → t τ H Q) : PK X e u := ⟨fun pos pins s τ H Q I hw => h.run pos pins s τ H Q I (i τ H Q hw)⟩
theorem dk_nil : DK1 X [] wNil := ⟨pk_nil.imp fun τ H Q ⟨ex, f, σ, st, r, er, h⟩ => h f H [] Stp.refl r .nil, fun σ st Q Q' q h => q _ _ h⟩
theorem dk_cons {nm : Option Str} {kpos : Pos} {wb : DTE} (ha : DE X e wb) (hb : DK1 X kws wa) : DK1 X (⟨nm, e, kpos⟩ :: kws) (wCons wb wa) := by
  refine ⟨(pk_cons ha.pe hb.pk).imp fun τ H Q h => ?_, fun σ st Q Q' q h => ha.mono _ _ _ _ (fun x s h1 => hb.mono _ _ _ _ (fun xs s2 h2 => q _ _ h2) h1) h⟩
  obtain ⟨ex, f, σ, st, r, er, h⟩ := h
  refine lE.use ha.mono r er h fun f1 H1 d st1 v s1 r1 e1 rd h1 => ?_
  exact lA.use hb.mono r1 e1 h1 fun f2 H2 ds st2 vs s2 r2 e2 rds h2 => h2 f2 H2 (v :: vs) (s1.trans s2) r2 (.cons (rd.mono s2 r1.cel) rds)
/-- the positional ones, then the keywords, in the parameters' order -/
abbrev wOrd (n m : Nat) (gD : List Dv → List Dv → List Dv) (a b : DTA) : DTA := fun σ st Q => a σ st fun xs st1 => b σ st1 fun ys st2 => xs.length = n ∧ ys.length = m ∧ Q (gD xs ys) st2
theorem wOrd_mono {n m : Nat} {gD : List Dv → List Dv → List Dv} {a b : DTA} (ma : MonoA a) (mb : MonoA b) : MonoA (wOrd n m gD a b) := fun σ st Q Q' q h => ma _ _ _ _ (fun x s h1 => mb _ _ _ _ (fun xs s2 h2 => ⟨h2.1, h2.2.1, q _ _ h2.2.2⟩) h1) h
variable {g : List Value → List Value → List Value} {gV : List V → List V → List V} {gD : List Dv → List Dv → List Dv} {n : Nat}
abbrev GRel (n m : Nat) (gD : List Dv → List Dv → List Dv) (gV : List V → List V → List V) : Prop := ∀ (K : PySem.W.Frag) (ex : Addr → Prop) (f : Nat → Addr) (k : Nat) (H : Hp) (xs ys : List Dv) (vs zs : List V), xs.length = n → ys.length = m → RDs K ex f k H xs vs → RDs K ex f k H ys zs → RDs K ex f k H (gD xs ys) (gV vs zs)
theorem de_pure0 (F : DFn X.prog X.w X.K X.mg X.base k fa fd ps S) (hgu : X.A.guards = some []) (hr : Room k X.A) (hg : Gl X x) (hm : X.mg x = some (.ref fa)) (hk : PySem.W.keepIn X.K (.ref fa) = true) (hb : KB fd ps ks 0 g gV) (hG : GRel 0 ks.length gD gV)
    (hkw : DK1 X kws wk) (hall : (backToKw pos (keywordEach kws X.env)).all (·.1.isSome) = true := by rfl) (hks : (backToKw pos (keywordEach kws X.env)).filterMap (·.1) = ks := by rfl)
    (hdb : (x == ("__debug__" : Str)) = false := by decide) (hpl : ((backTo pos (starEach [] X.env)).any (·.1) || (backToKw pos (keywordEach kws X.env)).any (·.1.isNone)) = false := by rfl) :
    DE X (.Call (.Name x p) [] kws pos) (wPure S (wOrd 0 ks.length gD wNil wk)) := by
  refine ⟨(pe_callG0 F hgu hr hg hm hk hb pass0 hkw.pk hall hks hdb hpl).imp fun τ H Q hh => ?_, wPure_mono (wOrd_mono (da_nil (X := X)).mono hkw.mono)⟩
  obtain ⟨ex, f, σ, st, r, er, hh⟩ := hh
  refine lA.use hkw.mono r er hh fun f1 H1 ys st1 zs s1 r1 e1 rd ⟨l1, l2, i, h1, h2, h3, h4, h5⟩ => ?_
  exact ⟨rfl, by rw [← rd.length]; exact l2, sp_pure r1 (hG _ _ _ _ _ [] ys [] zs rfl l2 .nil rd) ⟨i, h1, h2, h3, h4, fun d st2 hp => ⟨(h5 d st2 hp).1, (h5 d st2 hp).2.1, (h5 d st2 hp).2.2.later s1⟩⟩⟩
theorem de_pureK (F : DFn X.prog X.w X.K X.mg X.base k fa fd ps S) (hgu : X.A.guards = some []) (hr : Room k X.A) (hg : Gl X x) (hm : X.mg x = some (.ref fa)) (hk : PySem.W.keepIn X.K (.ref fa) = true) (hb : KB fd ps ks n g gV) (hG : GRel n ks.length gD gV)
    (ha : DA X (e :: es) wa) (hkw : DK1 X kws wk) (hall : (backToKw pos (keywordEach kws X.env)).all (·.1.isSome) = true := by rfl) (hks : (backToKw pos (keywordEach kws X.env)).filterMap (·.1) = ks := by rfl)
    (hdb : (x == ("__debug__" : Str)) = false := by decide) (he : starEach (e :: es) X.env = (false, eval e X.env) :: starEach es X.env := by rfl)
    (hpl : ((backTo pos (starEach (e :: es) X.env)).any (·.1) || (backToKw pos (keywordEach kws X.env)).any (·.1.isNone)) = false := by rfl) :
    DE X (.Call (.Name x p) (e :: es) kws pos) (wPure S (wOrd n ks.length gD wa wk)) := by
  refine ⟨(pe_callGK F hgu hr hg hm hk hb pass0 ha.pa hkw.pk hall hks hdb he hpl).imp fun τ H Q hh => ?_, wPure_mono (wOrd_mono ha.mono hkw.mono)⟩
  obtain ⟨ex, f, σ, st, r, er, hh⟩ := hh
  refine lA.use ha.mono r er hh fun f1 H1 xs st1 vs s1 r1 e1 rd1 hh1 => ?_
  refine lA.use hkw.mono r1 e1 hh1 fun f2 H2 ys st2 zs s2 r2 e2 rd2 ⟨l1, l2, i, h1, h2, h3, h4, h5⟩ => ?_
  exact ⟨by rw [← rd1.length]; exact l1, by rw [← rd2.length]; exact l2, sp_pure r2 (hG _ _ _ _ _ xs ys vs zs l1 l2 (rd1.mono s2 r1.cel) rd2) ⟨i, h1, h2, h3, h4, fun d st2 hp => ⟨(h5 d st2 hp).1, (h5 d st2 hp).2.1, (h5 d st2 hp).2.2.later (s1.trans s2)⟩⟩⟩
end
end D2

/-! DL, part d: targets, what is walked, loops, comprehensions. -/
namespace D2
open PySem PySem.Spec PyProof.Rows L2

/-! ### targets -/
inductive Tg where
  | one (i : Nat) | many (is : List Nat)
def setAll : En → List Nat → List Dv → En
  | σ, i :: is, d :: ds => setAll (σ.set i (some d)) is ds
  | σ, _, _ => σ
def setAllV : L2.St → List Nat → List V → L2.St
  | τ, i :: is, d :: ds => setAllV (τ.set i (some d)) is ds
  | τ, _, _ => τ
def tgD : Tg → Dv → En → Option En
  | .one i, d, σ => some (σ.set i (some d))
  | .many is, .tup ds, σ => if ds.length = is.length then some (setAll σ is ds) else none
  | .many is, .tux ds, σ => if ds.length = is.length then some (setAll σ is ds) else none
  | .many _, _, _ => none
def gl : List Nat → TGs
  | [] => gNil
  | i :: is => gCons (gName i) (gl is)
def tgV (K : PySem.W.Frag) : Tg → TG
  | .one i => gName i
  | .many is => gTup K is.length (gl is)
def Tg.slots : Tg → List Nat
  | .one i => [i]
  | .many is => is
theorem gl_ok : ∀ (is : List Nat) (vs : List V) (τ : L2.St) (H : Hp) (Q : L2.St → Hp → Prop), vs.length = is.length → Q (setAllV τ is vs) H → gl is vs τ H Q
  | [], [], _, _, _, _, q => ⟨rfl, q⟩
  | i :: is, v :: vs, τ, H, Q, hl, q => ⟨v, vs, rfl, gl_ok is vs (τ.set i (some v)) H Q (by simpa using hl) q⟩
  | [], _ :: _, _, _, _, hl, _ => by simp at hl
  | _ :: _, [], _, _, _, hl, _ => by simp at hl
theorem wipe_get (τ : L2.St) (j : Nat) : ∀ vs : List Nat, (wipe τ vs)[j]? = if j ∈ vs then τ[j]?.map (fun _ => none) else τ[j]?
  | [] => by simp [wipe]
  | v :: vs => by
    have ih := wipe_get τ j vs
    unfold wipe
    by_cases h : v = j
    · subst h
      rw [if_pos (by simp)]
      by_cases hv : v < τ.length
      · rw [List.getElem?_set_self (by rw [wipe_length]; exact hv)]
        simp [hv]
      · rw [List.getElem?_eq_none (by rw [List.length_set, wipe_length]; omega), List.getElem?_eq_none (by omega)]
        rfl
    · rw [List.getElem?_set_ne h, ih]
      by_cases hm : j ∈ vs
      · rw [if_pos hm, if_pos (by simp [hm])]
      · rw [if_neg hm, if_neg (by simp only [List.mem_cons, not_or]; exact ⟨fun e => h e.symm, hm⟩)]
theorem wipe_set {τ : L2.St} {i : Nat} {x : Option V} {vs : List Nat} (h : i ∈ vs) : wipe (τ.set i x) vs = wipe τ vs := by
  refine List.ext_getElem? fun j => ?_
  rw [wipe_get, wipe_get]
  by_cases hj : j ∈ vs
  · rw [if_pos hj, if_pos hj]
    by_cases e : i = j
    · subst e
      by_cases hi : i < τ.length
      · simp [hi]
      · rw [List.getElem?_eq_none (by simpa using hi), List.getElem?_eq_none (by simpa using hi)]
    · rw [List.getElem?_set_ne e]
  · rw [if_neg hj, if_neg hj, List.getElem?_set_ne]
    rintro rfl
    exact hj h
theorem wipe_setAll {vs : List Nat} : ∀ {is : List Nat} {xs : List V} {τ : L2.St}, (∀ i ∈ is, i ∈ vs) → wipe (setAllV τ is xs) vs = wipe τ vs
  | i :: is, x :: xs, τ, h => by
    unfold setAllV
    rw [wipe_setAll fun j hj => h j (by simp [hj]), wipe_set (h i (by simp))]
  | [], _, _, _ => by simp [setAllV]
  | _ :: _, [], _, _ => by simp [setAllV]
theorem wipe_wipe {τ : L2.St} {vs : List Nat} : wipe (wipe τ vs) vs = wipe τ vs := by
  refine List.ext_getElem? fun j => ?_
  rw [wipe_get]
  by_cases hj : j ∈ vs
  · rw [if_pos hj, wipe_get, if_pos hj, Option.map_map]
    rfl
  · rw [if_neg hj]
def wipeD : En → List Nat → En
  | σ, [] => σ
  | σ, v :: vs => (wipeD σ vs).set v none
section
variable {K : PySem.W.Frag} {ex : Addr → Prop} {f : Nat → Addr} {k : Nat} {H : Hp} {σ σ' : En} {τ : L2.St}
theorem ER.none (e : ER K ex f k H σ τ) (i : Nat) : ER K ex f k H (σ.set i none) (τ.set i none) := by
  refine ⟨by simp [e.len], fun j c h => ?_⟩
  by_cases hj : i = j
  · subst hj
    by_cases hi : i < σ.length
    · rw [List.getElem?_set_self hi] at h
      cases h
    · rw [List.getElem?_eq_none (by simpa using hi)] at h
      cases h
  · rw [List.getElem?_set_ne hj] at h
    obtain ⟨u, h1, h2⟩ := e.at_ j c h
    exact ⟨u, by rw [List.getElem?_set_ne hj]; exact h1, h2⟩
theorem ER.wipe (e : ER K ex f k H σ τ) : ∀ vs : List Nat, ER K ex f k H (wipeD σ vs) (L2.wipe τ vs)
  | [] => e
  | v :: vs => (ER.wipe e vs).none v
theorem ER.setAll : ∀ {is : List Nat} {ds : List Dv} {xs : List V} {σ : En} {τ : L2.St}, ER K ex f k H σ τ → RDs K ex f k H ds xs → ER K ex f k H (setAll σ is ds) (setAllV τ is xs)
  | i :: is, _, _, _, _, e, .cons h hs => ER.setAll (is := is) (e.set (i := i) h) hs
  | [], _, _, _, _, e, h => by
    cases h <;> exact e
  | _ :: _, _, _, _, _, e, .nil => e
/-- a target stored -/
theorem tg_ok {t : Tg} {d : Dv} {v : V} {Q : L2.St → Hp → Prop} (er : ER K ex f k H σ τ) (rd : RD K ex f k H d v) (h : tgD t d σ = some σ')
    (q : ∀ τ', ER K ex f k H σ' τ' → (∀ vs, (∀ i ∈ t.slots, i ∈ vs) → L2.wipe τ' vs = L2.wipe τ vs) → Q τ' H) : tgV K t v τ H Q := by
  cases t with
  | one i =>
    cases h
    exact q _ (er.set rd) fun vs hv => wipe_set (hv i (by simp [Tg.slots]))
  | many is =>
    cases rd with
    | tup hq hs =>
      rename_i ds a ws
      simp only [tgD] at h
      split at h
      · rename_i hl
        cases h
        exact ⟨a, ws, rfl, hq, by rw [← hs.length]; exact hl, gl_ok is ws τ H Q (by rw [← hs.length]; exact hl) (q _ (ER.setAll er hs) fun vs hv => wipe_setAll hv)⟩
      · cases h
    | tux hq hs =>
      rename_i ds a ws
      simp only [tgD] at h
      split at h
      · rename_i hl
        cases h
        exact ⟨a, ws, rfl, .inl (.inr (hq.imp fun _ q => q.1)), by rw [← hs.length]; exact hl, gl_ok is ws τ H Q (by rw [← hs.length]; exact hl) (q _ (ER.setAll er hs) fun vs hv => wipe_setAll hv)⟩
      · cases h
    | _ => simp [tgD] at h
end

/-! ### what is walked -/
def SrcOk (src : Option Nat) (xs : List Dv) (st : Sto) : Prop := ∀ n, src = some n → st[n]? = some (.lst xs)
structure WkD (K : PySem.W.Frag) (ex : Addr → Prop) (J : It) (xs : List Dv) (src : Option Nat) (f : Nat → Addr) (k : Nat) (H : Hp) : Prop where
  go : ∀ (ex2 : Addr → Prop) i f2 (st2 : Sto) H2, (∀ a, ex2 a → ex a ∨ H a = none) → i < xs.length → Stp f k H f2 st2.length H2 → RS K ex2 f2 st2 H2 → SrcOk src xs st2 → J.go i H2
  stop : ∀ (ex2 : Addr → Prop) f2 (st2 : Sto) H2, (∀ a, ex2 a → ex a ∨ H a = none) → Stp f k H f2 st2.length H2 → RS K ex2 f2 st2 H2 → SrcOk src xs st2 → J.stop xs.length H2
  yld : ∀ (ex2 : Addr → Prop) i f2 (st2 : Sto) H2 x H3, (∀ a, ex2 a → ex a ∨ H a = none) → i < xs.length → Stp f k H f2 st2.length H2 → RS K ex2 f2 st2 H2 → SrcOk src xs st2 → J.yld i H2 x H3 →
    ∃ d, xs[i]? = some d ∧ Stp f2 st2.length H2 f2 st2.length H3 ∧ RS K ex2 f2 st2 H3 ∧ RD K ex2 f2 st2.length H3 d x
abbrev DTI := En → Sto → (List Dv → Option Nat → Sto → Prop) → Prop
def AfI (K : PySem.W.Frag) (ex : Addr → Prop) (f : Nat → Addr) (k : Nat) (H : Hp) (R : It → Hp → Prop) : List Dv → Option Nat → Sto → Prop := fun xs src st' =>
  ∀ f' H' J, Stp f k H f' st'.length H' → RS K ex f' st' H' → SrcOk src xs st' → WkD K ex J xs src f' st'.length H' → R J H'
def lI (K : PySem.W.Frag) (w : DTI) : TI := fun τ H R => ∃ ex f σ st, RS K ex f st H ∧ ER K ex f st.length H σ τ ∧ w σ st (AfI K ex f st.length H R)
def MonoI (w : DTI) : Prop := ∀ σ st (Q Q' : List Dv → Option Nat → Sto → Prop), (∀ d n s, Q d n s → Q' d n s) → w σ st Q → w σ st Q'
structure DI (X : Cx) (tg e : Expr) (w : DTI) : Prop where
  pi : PI X tg e (lI X.K w)
  mono : MonoI w
section
variable {X : Cx} {K : PySem.W.Frag} {ex : Addr → Prop} {f : Nat → Addr} {H : Hp} {σ : En} {τ : L2.St} {st : Sto}
theorem lI.use {w : DTI} (m : MonoI w) (r : RS K ex f st H) (er : ER K ex f st.length H σ τ) {R : List Dv → Option Nat → Sto → Prop} (h : w σ st R) {P : It → Hp → Prop}
    (q : ∀ f1 H1 J xs src st1, Stp f st.length H f1 st1.length H1 → RS K ex f1 st1 H1 → ER K ex f1 st1.length H1 σ τ → SrcOk src xs st1 → WkD K ex J xs src f1 st1.length H1 → R xs src st1 → P J H1) : lI K w τ H P :=
  ⟨ex, f, σ, st, r, er, m σ st _ _ (fun xs src st1 hr f1 H1 J s r1 so wk => q f1 H1 J xs src st1 s r1 (er.mono s r.cel) so wk hr) h⟩

/-- a list, a tuple, a text -/
def iAny (K : PySem.W.Frag) (tl : TE) : TI := fun τ H R => tl τ H fun x H1 => (∃ a, x = .ref a ∧ (∃ xs, SqL K H1 a xs) ∧ R (Itl K a) H1) ∨ (∃ a, x = .ref a ∧ (∃ xs, SqT K H1 a xs) ∧ R (Itt K a) H1) ∨ ∃ z, x = .str z ∧ R (Its z) H1
/-- the value that an expression stands for, as its reading -/
theorem pi_any {tg l : Expr} {tl : TE} (hl : PE X l tl) : PI X tg l (iAny X.K tl) := by
  refine ⟨fun pins s τ H R I h => ?_⟩
  -- one run of the expression; then the iterator by the value's kind
  refine thn (hl.run pins s τ H _ I h) fun v s1 z => ?_
  obtain ⟨x, H1, I1, r1, q⟩ := z
  rcases q with ⟨a, rfl, ⟨xs, hq⟩, q⟩ | ⟨a, rfl, ⟨xs, hq⟩, q⟩ | ⟨z, rfl, q⟩
  · obtain rfl : v = Value.ref a := r1
    obtain ⟨its, rv, p, _⟩ := I1.list hq
    exact wpAny_pyIter_list p.isList (pi_one (tk := s1.toks) I1 _ (turn_list a _) ⟨_, Heap.get?_push_size _ rfl, rfl, rfl⟩ q)
  · obtain rfl : v = Value.ref a := r1
    obtain ⟨its, rv, p, _⟩ := I1.tuple hq
    exact wpAny_pyIter_tuple (show s1.heap.IsTuple a its.toArray from p) (pi_one (tk := s1.toks) I1 _ (turn_tuple a _) ⟨_, Heap.get?_push_size _ rfl, rfl, rfl⟩ q)
  · obtain ⟨t, rfl⟩ := r1
    cases hz : z.cps.all (· < 128) with
    | false => exact wpAny_pyIter_wide hz (pi_one (tk := s1.toks) I1 _ (turn_str _ z t "str_iterator" (.inr rfl)) ⟨_, Heap.get?_push_size _ rfl, rfl, rfl⟩ q)
    | true => exact wpAny_pyIter_ascii hz (pi_one (tk := s1.toks) I1 _ (turn_str _ z t "str_ascii_iterator" (.inl rfl)) ⟨_, Heap.get?_push_size _ rfl, rfl, rfl⟩ q)

def signs (z : Str) : List Dv := z.cps.toList.map fun c => .str ⟨#[c]⟩
def iterD (d : Dv) (st : Sto) : Option (List Dv × Option Nat) := match d with
  | .tup xs => some (xs, none)
  | .tux xs => some (xs, none)
  | .rol xs => some (xs, none)
  | .fro xs => some (xs, none)
  | .str z => some (signs z, none)
  | .ref n => match st[n]? with | some (.lst xs) => some (xs, some n) | none => none
  | _ => none
abbrev wIt (w : DTE) : DTI := fun σ st Q => w σ st fun d st1 => match iterD d st1 with | some p => Q p.1 p.2 st1 | none => False
theorem wIt_mono {w : DTE} (m : MonoE w) : MonoI (wIt w) := fun σ st Q Q' q h => m _ _ _ _ (fun d s h1 => by
  split at h1
  · exact q _ _ _ h1
  · exact h1.elim) h
theorem wk_fixL {a : Addr} {xs : List Dv} {k : Nat} {f : Nat → Addr} {H : Hp} (hq : ∀ (ex2 : Addr → Prop) f2 (st2 : Sto) H2, (∀ a, ex2 a → ex a ∨ H a = none) → Stp f k H f2 st2.length H2 → ∃ ws, SqL K H2 a ws ∧ RDs K ex2 f2 st2.length H2 xs ws) : WkD K ex (Itl K a) xs none f k H := by
  refine ⟨fun ex2 i f2 st2 H2 hx hi s r _ => ?_, fun ex2 f2 st2 H2 hx s r _ => ?_, fun ex2 i f2 st2 H2 x H3 hx hi s r _ y => ?_⟩
  · obtain ⟨ws, h1, h2⟩ := hq ex2 f2 st2 H2 hx s
    have hl := h2.length
    exact ⟨ws, ws[i]'(by omega), h1, by simp⟩
  · obtain ⟨ws, h1, h2⟩ := hq ex2 f2 st2 H2 hx s
    exact ⟨ws, h1, by rw [h2.length]; exact Nat.le_refl _⟩
  · obtain ⟨ws, h1, h2⟩ := hq ex2 f2 st2 H2 hx s
    obtain ⟨rfl, y⟩ := y
    obtain ⟨d, e1, e2⟩ := h2.get' (y ws h1)
    exact ⟨d, e1, Stp.refl, r, e2⟩
theorem wk_fixT {a : Addr} {xs : List Dv} {k : Nat} {f : Nat → Addr} {H : Hp} (hq : ∀ (ex2 : Addr → Prop) f2 (st2 : Sto) H2, (∀ a, ex2 a → ex a ∨ H a = none) → Stp f k H f2 st2.length H2 → ∃ ws, SqT K H2 a ws ∧ RDs K ex2 f2 st2.length H2 xs ws) : WkD K ex (Itt K a) xs none f k H := by
  refine ⟨fun ex2 i f2 st2 H2 hx hi s r _ => ?_, fun ex2 f2 st2 H2 hx s r _ => ?_, fun ex2 i f2 st2 H2 x H3 hx hi s r _ y => ?_⟩
  · obtain ⟨ws, h1, h2⟩ := hq ex2 f2 st2 H2 hx s
    have hl := h2.length
    exact ⟨ws, ws[i]'(by omega), h1, by simp⟩
  · obtain ⟨ws, h1, h2⟩ := hq ex2 f2 st2 H2 hx s
    exact ⟨ws, h1, by rw [h2.length]; exact Nat.le_refl _⟩
  · obtain ⟨ws, h1, h2⟩ := hq ex2 f2 st2 H2 hx s
    obtain ⟨rfl, y⟩ := y
    obtain ⟨d, e1, e2⟩ := h2.get' (y ws h1)
    exact ⟨d, e1, Stp.refl, r, e2⟩
theorem wk_cel {n : Nat} {xs : List Dv} {k : Nat} {f : Nat → Addr} {H : Hp} (hn : n < k) : WkD K ex (Itl K (f n)) xs (some n) f k H := by
  have key : ∀ (ex2 : Addr → Prop) f2 (st2 : Sto) H2, Stp f k H f2 st2.length H2 → RS K ex2 f2 st2 H2 → SrcOk (some n) xs st2 → ∃ ws, SqL K H2 (f n) ws ∧ RDs K ex2 f2 st2.length H2 xs ws := fun ex2 f2 st2 H2 s r so => by
    have h1 := r.obj n _ (so n rfl)
    rw [s.agree n hn] at h1
    cases h1 with
    | lst e hs => exact ⟨_, .inl (.inl e), hs⟩
  refine ⟨fun ex2 i f2 st2 H2 hx hi s r so => ?_, fun ex2 f2 st2 H2 hx s r so => ?_, fun ex2 i f2 st2 H2 x H3 hx hi s r so y => ?_⟩
  · obtain ⟨ws, h1, h2⟩ := key ex2 f2 st2 H2 s r so
    have hl := h2.length
    exact ⟨ws, ws[i]'(by omega), h1, by simp⟩
  · obtain ⟨ws, h1, h2⟩ := key ex2 f2 st2 H2 s r so
    exact ⟨ws, h1, by rw [h2.length]; exact Nat.le_refl _⟩
  · obtain ⟨ws, h1, h2⟩ := key ex2 f2 st2 H2 s r so
    obtain ⟨rfl, y⟩ := y
    obtain ⟨d, e1, e2⟩ := h2.get' (y ws h1)
    exact ⟨d, e1, Stp.refl, r, e2⟩
theorem wk_str {z : Str} {k : Nat} {f : Nat → Addr} {H : Hp} : WkD K ex (Its z) (signs z) none f k H := by
  have e : (signs z).length = z.cps.size := by simp [signs]
  refine ⟨fun ex2 i f2 st2 H2 hx hi s r _ => ?_, fun ex2 f2 st2 H2 hx s r _ => ?_, fun ex2 i f2 st2 H2 x H3 hx hi s r _ y => ?_⟩
  · show i < z.cps.size
    omega
  · show z.cps.size ≤ (signs z).length
    omega
  · obtain ⟨rfl, c, e1, rfl⟩ := y
    refine ⟨.str ⟨#[c]⟩, ?_, Stp.refl, r, .str _⟩
    unfold signs
    rw [List.getElem?_map, Array.getElem?_toList, e1]
    rfl
theorem di_any {tg l : Expr} {w : DTE} (h : DE X l w) : DI X tg l (wIt w) := by
  refine ⟨(pi_any h.pe).imp fun τ H R hh => ?_, wIt_mono h.mono⟩
  obtain ⟨ex, f, σ, st, r, er, hh⟩ := hh
  refine lE.use h.mono r er hh fun f1 H1 d st1 v s1 r1 e1 rd h1 => ?_
  cases rd with
  | non => exact h1.elim
  | bl b => exact h1.elim
  | int i => exact h1.elim
  | str z => exact .inr (.inr ⟨z, rfl, h1 f1 H1 _ s1 r1 (fun n e => nomatch e) wk_str⟩)
  | tup hq hs => 
    refine .inr (.inl ⟨_, rfl, ⟨_, hq⟩, h1 f1 H1 _ s1 r1 (fun n e => nomatch e) (wk_fixT fun ex2 f2 st2 H2 hx s => ?_)⟩)
    have z := RD.mono2 s r1.cel hx (RD.tup hq hs)
    cases z with
    | tup a b => exact ⟨_, a, b⟩
  | tux hq hs =>
    refine .inr (.inl ⟨_, rfl, ⟨_, .inl (.inr (hq.imp fun _ q => q.1))⟩, h1 f1 H1 _ s1 r1 (fun n e => nomatch e) (wk_fixT fun ex2 f2 st2 H2 hx2 s => ?_)⟩)
    have z := RD.mono2 s r1.cel hx2 (RD.tux hq hs)
    cases z with
    | tux a b => exact ⟨_, .inl (.inr (a.imp fun _ q => q.1)), b⟩
  | rol hq hx hn hs =>
    refine .inl ⟨_, rfl, ⟨_, .inl (.inl hq)⟩, h1 f1 H1 _ s1 r1 (fun n e => nomatch e) (wk_fixL fun ex2 f2 st2 H2 hx2 s => ?_)⟩
    have z := RD.mono2 s r1.cel hx2 (RD.rol hq hx hn hs)
    cases z with
    | rol a _ _ b => exact ⟨_, .inl (.inl a), b⟩
  | fro hq hs =>
    refine .inl ⟨_, rfl, ⟨_, hq.imp (fun q => q.1) id⟩, h1 f1 H1 _ s1 r1 (fun n e => nomatch e) (wk_fixL fun ex2 f2 st2 H2 hx s => ?_)⟩
    have z := RD.mono2 s r1.cel hx (RD.fro hq hs)
    cases z with
    | fro a b => exact ⟨_, a.imp (fun q => q.1) id, b⟩
  | obj a b c => exact h1.elim
  | ref n hn =>
    have h2 : st1[n]? = some st1[n] := by simp
    have h3 := r1.obj n _ h2
    cases h4 : st1[n] with
    | lst xs =>
      rw [h4] at h2 h3
      cases h3 with
      | lst e hs =>
        simp only [iterD, h2] at h1
        exact .inl ⟨_, rfl, ⟨_, .inl (.inl e)⟩, h1 f1 H1 _ s1 r1 (fun m e => by cases e; exact h2) (wk_cel hn)⟩
/-- range -/
def rng (lo : Int) (n : Nat) : List Dv := (List.range n).map fun (i : Nat) => Dv.int (lo + (i : Int))
theorem rng_length {lo : Int} {n : Nat} : (rng lo n).length = n := by simp [rng]
theorem rng_get {lo : Int} {n i : Nat} (h : i < n) : (rng lo n)[i]? = some (.int (lo + (i : Int))) := by simp [rng, h]
theorem wk_rng {lo : Int} {n : Nat} {k : Nat} {f : Nat → Addr} {H : Hp} : WkD K ex (Itr lo n) (rng lo n) none f k H := by
  refine ⟨fun ex2 i f2 st2 H2 hx hi s r _ => by rw [rng_length] at hi; exact hi, fun ex2 f2 st2 H2 hx s r _ => by rw [rng_length]; exact Nat.le_refl _, fun ex2 i f2 st2 H2 x H3 hx hi s r _ y => ?_⟩
  obtain ⟨rfl, rfl⟩ := y
  rw [rng_length] at hi
  exact ⟨_, rng_get hi, Stp.refl, r, .int _⟩
abbrev wRng1 (a : DTA) : DTI := fun σ st Q => a σ st fun ds st1 => match ds with | [.int j] => (-(2 ^ 62) ≤ j ∧ j < 2 ^ 62) ∧ Q (rng 0 j.toNat) none st1 | _ => False
theorem di_range1 {tg a : Expr} {w : DTA} {p pos : Pos} (hg : Gl X "range") (hm : X.mg "range" = none) (ha : DA X [a] w) (hs : starEach [a] X.env = [(false, eval a X.env)] := by rfl) : DI X tg (.Call (.Name "range" p) [a] [] pos) (wRng1 w) := by
  refine ⟨(pi_range1 hg hm ha.pa hs).imp fun τ H R hh => ?_, fun σ st Q Q' q h => ha.mono _ _ _ _ (fun ds s h1 => ?_) h⟩
  · obtain ⟨ex, f, σ, st, r, er, hh⟩ := hh
    refine lA.use ha.mono r er hh fun f1 H1 ds st1 vs s1 r1 e1 rd h1 => ?_
    split at h1
    · rename_i j
      cases rd with
      | cons h2 h3 =>
        cases h2
        cases h3
        exact ⟨j, rfl, h1.1.1, h1.1.2, h1.2 f1 H1 _ s1 r1 (fun n e => nomatch e) wk_rng⟩
    · exact h1.elim
  · split at h1
    · exact ⟨h1.1, q _ _ _ h1.2⟩
    · exact h1.elim
abbrev wRng2 (a : DTA) : DTI := fun σ st Q => a σ st fun ds st1 => match ds with | [.int i, .int j] => (-(2 ^ 62) ≤ i ∧ i < 2 ^ 62 ∧ -(2 ^ 62) ≤ j ∧ j < 2 ^ 62) ∧ Q (rng i (j - i).toNat) none st1 | _ => False
theorem di_range2 {tg a b : Expr} {w : DTA} {p pos : Pos} (hg : Gl X "range") (hm : X.mg "range" = none) (ha : DA X [a, b] w) (hs : starEach [a, b] X.env = [(false, eval a X.env), (false, eval b X.env)] := by rfl) (hs2 : starEach [b] X.env = [(false, eval b X.env)] := by rfl) :
    DI X tg (.Call (.Name "range" p) [a, b] [] pos) (wRng2 w) := by
  refine ⟨(pi_range2 hg hm ha.pa hs hs2).imp fun τ H R hh => ?_, fun σ st Q Q' q h => ha.mono _ _ _ _ (fun ds s h1 => ?_) h⟩
  · obtain ⟨ex, f, σ, st, r, er, hh⟩ := hh
    refine lA.use ha.mono r er hh fun f1 H1 ds st1 vs s1 r1 e1 rd h1 => ?_
    split at h1
    · rename_i i j
      cases rd with
      | cons h2 h3 =>
        cases h2
        cases h3 with
        | cons h2 h3 =>
          cases h2
          cases h3
          exact ⟨i, j, rfl, h1.1, h1.2 f1 H1 _ s1 r1 (fun n e => nomatch e) wk_rng⟩
    · exact h1.elim
  · split at h1
    · exact ⟨h1.1, q _ _ _ h1.2⟩
    · exact h1.elim

/-! ### for -/
abbrev wFor (wi : DTI) (t : Tg) (wb : DTS) : DTS := fun D σ st => wi σ st fun xs src st1 => ∃ I : Nat → En → Sto → Prop, I 0 σ st1 ∧ (∀ i σ' st', I i σ' st' → SrcOk src xs st') ∧
  (∀ i x σ' st', xs[i]? = some x → I i σ' st' → ∃ σ2, tgD t x σ' = some σ2 ∧ wb { D with nx := I (i + 1), ct := I (i + 1), bk := D.nx } σ2 st') ∧ ∀ σ' st', I xs.length σ' st' → D.nx σ' st'
theorem ds_for {tg iter : Expr} {body : List Stmt} {wi : DTI} {t : Tg} {wb : DTS} {pos : Pos} (hp : PassesOwn (model X.prog X.w) X.A X.env X.xe) (hc : X.calm = true) (hi : DI X tg iter wi) (hg : PG X tg (tgV X.K t)) (hb : DSs X body wb)
    (hs : ∀ x, foldedSetIterable iter X.env x = pure x := by intro _; rfl) : DS X (.For tg iter body [] pos) (wFor wi t wb) := by
  refine ⟨(ps_for hp hc hi.pi hg hb.ps hs).imp fun D τ H h => ?_, fun σ st D D' l h => hi.mono _ _ _ _ (fun xs src s ⟨I, h1, h2, h3, h4⟩ => ⟨I, h1, h2, fun i x σ' st' e hI => ?_, fun σ' st' hI => l.nx _ _ (h4 σ' st' hI)⟩) h⟩
  · obtain ⟨ex, f, σ, st, r, er, h⟩ := h
    refine lI.use hi.mono r er h fun f1 H1 J xs src st1 s1 r1 e1 so wk ⟨I, i0, isrc, iturn, iend⟩ => ?_
    refine ⟨fun i m τ2 H2 => m = xs.length - i ∧ i ≤ xs.length ∧ ∃ f2 σ2 st2, Stp f1 st1.length H1 f2 st2.length H2 ∧ RS X.K ex f2 st2 H2 ∧ ER X.K ex f2 st2.length H2 σ2 τ2 ∧ I i σ2 st2, ⟨xs.length, by simp, Nat.zero_le _, f1, σ, st1, Stp.refl, r1, e1, i0⟩, ?_⟩
    rintro i m τ2 H2 ⟨rfl, hle, f2, σ2, st2, s2, r2, e2, hI⟩
    by_cases hlt : i < xs.length
    · refine .inr ⟨wk.go _ i f2 st2 H2 (fun _ q => .inl q) hlt s2 r2 (isrc _ _ _ hI), fun τ3 H3 => i + 1 ≤ xs.length ∧ ∃ f3 σ3 st3, Stp f1 st1.length H1 f3 st3.length H3 ∧ RS X.K ex f3 st3 H3 ∧ ER X.K ex f3 st3.length H3 σ3 τ3 ∧ I (i + 1) σ3 st3, fun τ3 H3 z => ⟨xs.length - (i + 1), by omega, rfl, z.1, z.2⟩, fun x H3 hy => ?_⟩
      obtain ⟨d, hd, s3, r3, rd⟩ := wk.yld _ i f2 st2 H2 x H3 (fun _ q => .inl q) hlt s2 r2 (isrc _ _ _ hI) hy
      obtain ⟨σ3, ht, hbd⟩ := iturn i d σ2 st2 hd hI
      refine tg_ok (e2.mono s3 r2.cel) rd ht fun τ4 e4 _ => ?_
      refine lS.use hb.mono r3 e4 hbd ⟨fun σ' st' q f' H' τ' s' r' er' => ⟨hlt, f', σ', st', (s2.trans s3).trans s', r', er', q⟩, fun d st' q => Af.later q ((s1.trans s2).trans s3), fun σ' st' q => AfS.later q ((s1.trans s2).trans s3), fun σ' st' q f' H' τ' s' r' er' => ⟨hlt, f', σ', st', (s2.trans s3).trans s', r', er', q⟩⟩
    · have e : i = xs.length := by omega
      subst e
      exact .inl ⟨wk.stop _ f2 st2 H2 (fun _ q => .inl q) s2 r2 (isrc _ _ _ hI), iend _ _ hI f2 H2 τ2 (s1.trans s2) r2 e2⟩
  · obtain ⟨σ2, ht, hbd⟩ := h3 i x σ' st' e hI
    exact ⟨σ2, ht, hb.mono σ2 st' { D with nx := I (i + 1), ct := I (i + 1), bk := D.nx } { D' with nx := I (i + 1), ct := I (i + 1), bk := D'.nx } ⟨fun _ _ z => z, l.rt, l.nx, fun _ _ z => z⟩ hbd⟩
/-! ### while -/
abbrev wWhile (wc : DTT) (wb : DTS) : DTS := fun D σ st => ∃ W : Nat → En → Sto → Prop, (∃ m, W m σ st) ∧ ∀ m σ st, W m σ st →
  wc σ st fun b st1 => if b = true then wb { D with nx := fun σ' st' => ∃ m', m' < m ∧ W m' σ' st', ct := fun σ' st' => ∃ m', m' < m ∧ W m' σ' st', bk := D.nx } σ st1 else D.nx σ st1
theorem ds_while {c : Expr} {body : List Stmt} {wc : DTT} {wb : DTS} {pos : Pos} (hp : PassesOwn (model X.prog X.w) X.A X.env X.xe) (hc : DT X c wc) (hb : DSs X body wb) : DS X (.While c body [] pos) (wWhile wc wb) := by
  refine ⟨(ps_while hp hc.pt hb.ps).imp fun D τ H h => ?_, fun σ st D D' l ⟨W, h1, h2⟩ => ⟨W, h1, fun m σ st hW => hc.mono _ _ _ _ (fun b s h3 => ?_) (h2 m σ st hW)⟩⟩
  · obtain ⟨ex, f, σ, st, r, er, W, ⟨m0, w0⟩, turn⟩ := h
    refine ⟨fun m τ2 H2 => ∃ f2 σ2 st2, Stp f st.length H f2 st2.length H2 ∧ RS X.K ex f2 st2 H2 ∧ ER X.K ex f2 st2.length H2 σ2 τ2 ∧ W m σ2 st2, ⟨m0, f, σ, st, Stp.refl, r, er, w0⟩, ?_⟩
    rintro m τ2 H2 ⟨f2, σ2, st2, s2, r2, e2, hW⟩
    refine lT.use hc.mono r2 e2 (turn m σ2 st2 hW) fun f3 H3 b st3 s3 r3 e3 h3 => ?_
    cases b with
    | true =>
      refine ⟨_, fun _ _ z => z, lS.use hb.mono r3 e3 h3 ⟨fun σ' st' q f' H' τ' s' r' er' => ?_, fun d st' q => Af.later q (s2.trans s3), fun σ' st' q => AfS.later q (s2.trans s3), fun σ' st' q f' H' τ' s' r' er' => ?_⟩⟩
      · obtain ⟨m', hm, hW'⟩ := q
        exact ⟨m', hm, f', σ', st', (s2.trans s3).trans s', r', er', hW'⟩
      · obtain ⟨m', hm, hW'⟩ := q
        exact ⟨m', hm, f', σ', st', (s2.trans s3).trans s', r', er', hW'⟩
    | false => exact h3 f3 H3 τ2 (s2.trans s3) r3 e3
  · cases b with
    | true => exact hb.mono σ s { D with nx := fun σ' st' => ∃ m', m' < m ∧ W m' σ' st', ct := fun σ' st' => ∃ m', m' < m ∧ W m' σ' st', bk := D.nx } { D' with nx := fun σ' st' => ∃ m', m' < m ∧ W m' σ' st', ct := fun σ' st' => ∃ m', m' < m ∧ W m' σ' st', bk := D'.nx } ⟨fun _ _ z => z, l.rt, l.nx, fun _ _ z => z⟩ h3
    | false => exact l.nx _ _ h3

/-! ### a new list: as a value, as a cell -/
mutual
theorem RD.adopt {k : Nat} {p : Addr} : ∀ {d : Dv} {v : V}, RD K (fun a => ex a ∨ a = p) f k H d v → RD K ex (put f k p) (k + 1) H d v
  | _, _, .non => .non
  | _, _, .bl b => .bl b
  | _, _, .int i => .int i
  | _, _, .str x => .str x
  | _, _, .tup h hs => .tup h (RDs.adopt hs)
  | _, _, .tux h hs => .tux h (RDs.adopt hs)
  | _, _, .rol (a := a) h he hn hs => .rol h (fun q => he (.inl q)) (fun n h1 q => by
      by_cases h2 : n = k
      · rw [h2, put_at] at q
        exact he (.inr q.symm)
      · rw [put_ne h2] at q
        exact hn n (by omega) q) (RDs.adopt hs)
  | _, _, .fro (a := a) h hs => .fro (h.imp (fun z => ⟨z.1, fun q => z.2.1 (.inl q), fun n h1 q => by
      by_cases h2 : n = k
      · rw [h2, put_at] at q
        exact z.2.1 (.inr q.symm)
      · rw [put_ne h2] at q
        exact z.2.2 n (by omega) q⟩) id) (RDs.adopt hs)
  | _, _, .obj h hn hs => .obj h hn (RDs.adopt hs)
  | _, _, .ref n h => by
    have q := RD.ref (K := K) (ex := ex) (f := put f k p) (k := k + 1) (H := H) n (by omega)
    rwa [put_ne (by omega)] at q
theorem RDs.adopt {k : Nat} {p : Addr} : ∀ {ds : List Dv} {vs : List V}, RDs K (fun a => ex a ∨ a = p) f k H ds vs → RDs K ex (put f k p) (k + 1) H ds vs
  | _, _, .nil => .nil
  | _, _, .cons h hs => .cons (RD.adopt h) (RDs.adopt hs)
end
theorem RS.adopt {st : Sto} {p : Addr} {xs : List Dv} {vs : List V} (r : RS K (fun a => ex a ∨ a = p) f st H) (hp : ¬ ex p) (e : H p = some (.lst vs)) (hx : RDs K (fun a => ex a ∨ a = p) f st.length H xs vs) : RS K ex (put f st.length p) (st ++ [.lst xs]) H := by
  have nf : ∀ j, j < st.length → f j ≠ p := fun j hj z => r.exc j hj (.inr z)
  have el : (st ++ [Co.lst xs]).length = st.length + 1 := by simp
  refine ⟨fun m n hm hn q => ?_, fun n c q => ?_, fun a q => r.exs a (.inl q), fun n hn q => ?_⟩
  · rw [el] at hm hn
    by_cases h1 : m = st.length
    · by_cases h2 : n = st.length
      · omega
      · rw [h1, put_at, put_ne h2] at q
        exact absurd q.symm (nf n (by omega))
    · by_cases h2 : n = st.length
      · rw [h2, put_at, put_ne h1] at q
        exact absurd q (nf m (by omega))
      · rw [put_ne h1, put_ne h2] at q
        exact r.inj m n (by omega) (by omega) q
  · rw [el]
    by_cases h1 : n < st.length
    · rw [List.getElem?_append_left h1] at q
      rw [put_ne (by omega)]
      cases r.obj n c q with
      | lst e1 hs => exact .lst e1 (RDs.adopt hs)
    · have h2 : n = st.length := by
        have := (List.getElem?_eq_some_iff.mp q).1
        rw [el] at this
        omega
      subst h2
      rw [List.getElem?_append_right (Nat.le_refl _)] at q
      simp at q
      subst q
      rw [put_at]
      exact .lst e (RDs.adopt hx)
  · rw [el] at hn
    by_cases h2 : n = st.length
    · rw [h2, put_at] at q
      exact hp q
    · rw [put_ne h2] at q
      exact r.exc n (by omega) (.inl q)
theorem Stp.adopt {f1 : Nat → Addr} {k k1 : Nat} {H1 : Hp} {p : Addr} (s : Stp f k H f1 k1 H1) (hp : H p = none) : Stp f k H (put f1 k1 p) (k1 + 1) H1 := by
  refine ⟨Nat.le_succ_of_le s.len, fun n hn => ?_, fun n h1 h2 => ?_, s.keep, s.there⟩
  · rw [put_ne (by have := s.len; omega)]
    exact s.agree n hn
  · by_cases h : n = k1
    · rw [h, put_at]
      exact hp
    · rw [put_ne h]
      exact s.fresh n h1 (by omega)
def AfN (K : PySem.W.Frag) (ex : Addr → Prop) (f : Nat → Addr) (k : Nat) (H : Hp) (Q : VK) : List Dv → Sto → Prop := fun xs st' =>
  ∀ f' H' p vs, Stp f k H f' st'.length H' → H p = none → RS K (fun a => ex a ∨ a = p) f' st' H' → H' p = some (.lst vs) → RDs K (fun a => ex a ∨ a = p) f' st'.length H' xs vs → Q (.ref p) H'
theorem AfN.later {f1 : Nat → Addr} {k k1 : Nat} {H1 : Hp} {Q : VK} {xs : List Dv} {st' : Sto} (h : AfN K ex f k H Q xs st') (s : Stp f k H f1 k1 H1) : AfN K ex f1 k1 H1 Q xs st' := fun f' H' p vs s' hp => h f' H' p vs (s.trans s') (s.there _ hp)
/-- a list just laid -/
theorem AfN.laid {xs : List Dv} {vs : List V} {Q : VK} {p : Addr} (h : AfN K ex f st.length H Q xs st) (r : RS K ex f st H) (hp : H p = none) (hx : RDs K ex f st.length H xs vs) : Q (.ref p) (upd H p (.lst vs)) :=
  h f _ p vs (Stp.new hp) hp (r.more hp) upd_same (hx.mono2 (Stp.new hp) r.cel fun a q => q.imp id fun z => by rw [z]; exact hp)
def lN (K : PySem.W.Frag) (w : DTA) : TE := fun τ H Q => ∃ ex f σ st, RS K ex f st H ∧ ER K ex f st.length H σ τ ∧ w σ st (AfN K ex f st.length H Q)
/-- e makes a new list -/
structure DN (X : Cx) (e : Expr) (w : DTA) : Prop where
  pe : PE X e (lN X.K w)
  mono : MonoA w
abbrev wRl (w : DTA) : DTE := fun σ st Q => w σ st fun xs st' => Q (.rol xs) st'
abbrev wCl (w : DTA) : DTE := fun σ st Q => w σ st fun xs st' => Q (.ref st'.length) (st' ++ [.lst xs])
theorem wRl_mono {w : DTA} (m : MonoA w) : MonoE (wRl w) := fun σ st Q Q' q h => m _ _ _ _ (fun xs s h1 => q _ _ h1) h
theorem wCl_mono {w : DTA} (m : MonoA w) : MonoE (wCl w) := fun σ st Q Q' q h => m _ _ _ _ (fun xs s h1 => q _ _ h1) h
theorem rl_lift {w : DTA} (m : MonoA w) (τ : L2.St) (H : Hp) (Q : VK) (h : lE K (wRl w) τ H Q) : lN K w τ H Q := by
  obtain ⟨ex, f, σ, st, r, er, h⟩ := h
  refine ⟨ex, f, σ, st, r, er, m _ _ _ _ (fun xs st' h1 f' H' p vs s hp r' e rx => ?_) h⟩
  exact h1 f' H' _ s (r'.less fun _ q => .inl q) (.rol e (fun q => r.exs p q hp) (fun n hn q => r'.exc n hn (.inr q)) (RDs.mono2 Stp.refl r'.cel (fun _ q => .inl (.inl q)) rx))
theorem cl_lift {w : DTA} (m : MonoA w) (τ : L2.St) (H : Hp) (Q : VK) (h : lE K (wCl w) τ H Q) : lN K w τ H Q := by
  obtain ⟨ex, f, σ, st, r, er, h⟩ := h
  refine ⟨ex, f, σ, st, r, er, m _ _ _ _ (fun xs st' h1 f' H' p vs s hp r' e rx => ?_) h⟩
  have el : (st' ++ [Co.lst xs]).length = st'.length + 1 := by simp
  refine h1 (put f' st'.length p) H' _ (by rw [el]; exact s.adopt hp) (r'.adopt (fun q => r.exs p q hp) e rx) ?_
  have q := RD.ref (K := K) (ex := ex) (f := put f' st'.length p) (k := (st' ++ [Co.lst xs]).length) (H := H') st'.length (by rw [el]; omega)
  rwa [put_at] at q
theorem DN.rol {e : Expr} {w : DTA} (h : DN X e w) : DE X e (wRl w) := ⟨h.pe.imp (rl_lift h.mono), wRl_mono h.mono⟩
theorem DN.cel {e : Expr} {w : DTA} (h : DN X e w) : DE X e (wCl w) := ⟨h.pe.imp (cl_lift h.mono), wCl_mono h.mono⟩

/-! ### comprehensions -/
@[irreducible] def lcIn (t : Tg) (wt : DTT) (we : DTE) (vs : List Nat) (σ : En) (Q : List Dv → Sto → Prop) (xs : List Dv) (src : Option Nat) (st1 : Sto) : Prop := ∃ I : Nat → List Dv → Sto → Prop, I 0 [] st1 ∧ (∀ i acc st', I i acc st' → SrcOk src xs st') ∧
  (∀ i x acc st', xs[i]? = some x → I i acc st' → acc.length < sizeLine ∧ ∃ σ2, tgD t x (wipeD σ vs) = some σ2 ∧ wt σ2 st' fun b st2 => if b = true then we σ2 st2 fun y st3 => I (i + 1) (acc ++ [y]) st3 else I (i + 1) acc st2) ∧
  ∀ acc st', I xs.length acc st' → Q acc st'
abbrev wLc (wi : DTI) (t : Tg) (wt : DTT) (we : DTE) (vs : List Nat) : DTA := fun σ st Q => wi σ st (lcIn t wt we vs σ Q)
theorem wLc_mono {wi : DTI} {t : Tg} {wt : DTT} {we : DTE} {vs : List Nat} (m : MonoI wi) : MonoA (wLc wi t wt we vs) := fun σ st Q Q' q h =>
  m _ _ _ _ (fun xs src s h1 => by
    unfold lcIn at *
    obtain ⟨I, h1, h2, h3, h4⟩ := h1
    exact ⟨I, h1, h2, h3, fun acc st' hI => q _ _ (h4 acc st' hI)⟩) h
structure DTs (X : Cx) (ifs : List Expr) (w : DTT) : Prop where
  pt : PTs X ifs (lT X.K w)
  mono : MonoT w
abbrev wYes : DTT := fun _ st Q => Q true st
theorem dts_nil : DTs X [] wYes := ⟨pts_nil.imp fun τ H Q ⟨ex, f, σ, st, r, er, h⟩ => h f H Stp.refl r, fun σ st Q Q' q h => q _ _ h⟩
theorem dts_one {c : Expr} {w : DTT} (h : DT X c w) : DTs X [c] w := ⟨pts_one h.pt, h.mono⟩
theorem lc_lift {wi : DTI} {t : Tg} {wt : DTT} {we : DTE} {vs : List Nat} (mi : MonoI wi) (mt : MonoT wt) (me : MonoE we) (hv : ∀ i ∈ t.slots, i ∈ vs) (τ : L2.St) (H : Hp) (Q : VK) (h : lN K (wLc wi t wt we vs) τ H Q) :
    tLc (lI K wi) (tgV K t) (lT K wt) (lE K we) vs τ H Q := by
  obtain ⟨ex, f, σ, st, r, er, h⟩ := h
  refine lI.use mi r er h fun f1 H1 J xs src st1 s1 r1 e1 so wk hI D hD => ?_
  unfold lcIn at hI
  obtain ⟨I, i0, isrc, iturn, iend⟩ := hI
  have hx : ∀ a, (ex a ∨ a = D) → ex a ∨ H1 a = none := fun a q => q.imp id fun z => by rw [z]; exact hD
  have xD : ¬ ex D := fun q => r1.exs D q hD
  -- within, the list that grows at D is excluded
  refine ⟨fun i m H2 => m = xs.length - i ∧ i ≤ xs.length ∧ ∃ f2 st2 ac av, Stp f1 st1.length H1 f2 st2.length H2 ∧ RS K (fun a => ex a ∨ a = D) f2 st2 H2 ∧ H2 D = some (.lst av) ∧ RDs K (fun a => ex a ∨ a = D) f2 st2.length H2 ac av ∧ I i ac st2,
    ⟨xs.length, by simp, Nat.zero_le _, f1, st1, [], [], Stp.new hD, r1.more hD, upd_same, .nil, i0⟩, ?_⟩
  rintro i m H2 ⟨rfl, hle, f2, st2, ac, av, s2, r2, eD, ra, hI⟩
  have n2 : ∀ n, n < st2.length → f2 n ≠ D := fun n hn e => r2.exc n hn (.inr e)
  by_cases hlt : i < xs.length
  · refine .inr ⟨wk.go _ i f2 st2 H2 hx hlt s2 r2 (isrc _ _ _ hI), fun H3 => i + 1 ≤ xs.length ∧ ∃ f3 st3 ac av, Stp f1 st1.length H1 f3 st3.length H3 ∧ RS K (fun a => ex a ∨ a = D) f3 st3 H3 ∧ H3 D = some (.lst av) ∧ RDs K (fun a => ex a ∨ a = D) f3 st3.length H3 ac av ∧ I (i + 1) ac st3, fun H3 z => ⟨xs.length - (i + 1), by omega, rfl, z.1, z.2⟩, fun x H3 hy => ?_⟩
    obtain ⟨d, hd, s3, r3, rd⟩ := wk.yld _ i f2 st2 H2 x H3 hx hlt s2 r2 (isrc _ _ _ hI) hy
    obtain ⟨hz, σ3, ht, hb⟩ := iturn i d ac st2 hd hI
    have e3 : ER K (fun a => ex a ∨ a = D) f2 st2.length H3 (wipeD σ vs) (wipe τ vs) := ER.wipe ⟨e1.len, fun i d h => let ⟨v, h1, h2⟩ := e1.at_ i d h; ⟨v, h1, h2.mono2 (s2.trans s3) r1.cel hx⟩⟩ vs
    have eD3 : H3 D = some (.lst av) := s3.keep D _ n2 eD
    refine tg_ok e3 rd ht fun τ4 e4 hw => ⟨by rw [hw vs hv, wipe_wipe], ?_⟩
    refine lT.use mt r3 e4 hb fun f5 H5 b st5 s5 r5 e5 h5 => ?_
    have n5 : ∀ n, n < st5.length → f5 n ≠ D := fun n hn e => r5.exc n hn (.inr e)
    have eD5 : H5 D = some (.lst av) := s5.keep D _ n2 eD3
    have ra5 := ra.mono (s3.trans s5) r2.cel
    cases b with
    | true =>
      refine lE.use me r5 e5 h5 fun f6 H6 y st6 v s6 r6 e6 ry hI6 => ?_
      have eD6 : H6 D = some (.lst av) := s6.keep D _ n5 eD5
      have ra6 := (ra5.mono s6 r5.cel).append (.cons ry .nil)
      have t := ((s2.trans s3).trans s5).trans s6
      refine ⟨av, eD6, by rw [← ra.length]; exact hz, hlt, f6, st6, ac ++ [y], av ++ [v], ⟨t.len, t.agree, t.fresh, fun b o hb e => ?_, fun b e => ?_⟩, r6.wr (.inr rfl) eD6, upd_same, RDs.wr (.inr rfl) eD6 ra6, hI6⟩
      · rw [upd_ne (ne_of_none e hD)]
        exact t.keep b o hb e
      · by_cases q : b = D
        · rw [q]
          exact hD
        · rw [upd_ne q] at e
          exact t.there b e
    | false => exact ⟨hlt, f5, st5, ac, av, (s2.trans s3).trans s5, r5, eD5, ra5, h5⟩
  · have e : i = xs.length := by omega
    subst e
    exact .inl ⟨wk.stop _ f2 st2 H2 hx s2 r2 (isrc _ _ _ hI), iend _ _ hI f2 H2 D av (s1.trans s2) (s1.there D hD) r2 eD ra⟩
/-- a comprehension -/
theorem dn_lc {elt tg iter : Expr} {ifs : List Expr} {scope : Scope} {own : List (Str × Nat)} {pos : Pos} {wi : DTI} {t : Tg} {wt : DTT} {we : DTE} (hc : X.calm = true) (hN : X.N.Nodup) (hi : DI X tg iter wi) (ok : BlkOk X.N X.env.scope scope own)
    (hg : ∀ (s : Shared) (H : Hp) (C : Addr) (cl : List (Str × Addr)) (fp : List Addr), PG (X.blk s H scope (compEnvC scope cl C X.env) fp) tg (tgV X.K t)) (ht : ∀ (s : Shared) (H : Hp) (C : Addr) (cl : List (Str × Addr)) (fp : List Addr), DTs (X.blk s H scope (compEnvC scope cl C X.env) fp) ifs wt)
    (he : ∀ (s : Shared) (H : Hp) (C : Addr) (cl : List (Str × Addr)) (fp : List Addr), DE (X.blk s H scope (compEnvC scope cl C X.env) fp) elt we) (hv : ∀ i ∈ t.slots, i ∈ own.map (·.2)) (hs : ∀ x, foldedSetIterable iter X.env x = pure x := by intro _; rfl) :
    DN X (.ListComp elt [⟨tg, iter, ifs, 0⟩] scope pos) (wLc wi t wt we (own.map (·.2))) :=
  ⟨⟨fun pins s τ H Q I h => ((pe_lc (g := tgV X.K t) (tt := lT X.K wt) (te := lE X.K we) hc hN hi.pi ok hg (fun s H C cl fp => (ht s H C cl fp).pt) (fun s H C cl fp => (he s H C cl fp).pe) hs).imp (lc_lift hi.mono (ht s H 0 [] []).mono (he s H 0 [] []).mono hv)).run pins s τ H Q I h⟩, wLc_mono hi.mono⟩
/-- name = comprehension, on one line -/
theorem ds_setLc {i : Nat} {y : Str} {py : Pos} {elt tg iter : Expr} {ifs : List Expr} {scope : Scope} {own : List (Str × Nat)} {pos spos : Pos} {wi : DTI} {t : Tg} {wt : DTT} {we : DTE} (hc : X.calm = true) (hN : X.N.Nodup) (hy : X.N[i]? = some y) (hyl : X.env.scope.names.lookup y = some .local)
    (hsw : swapsWith (.ListComp elt [⟨tg, iter, ifs, 0⟩] scope pos) (some (.Name y py)) spos.line X.env = pure true) (hi : DI X tg iter wi) (ok : BlkOk X.N X.env.scope scope own)
    (hg : ∀ (s : Shared) (H : Hp) (C : Addr) (cl : List (Str × Addr)) (fp : List Addr), PG (X.blk s H scope (compEnvC scope cl C X.env) fp) tg (tgV X.K t)) (ht : ∀ (s : Shared) (H : Hp) (C : Addr) (cl : List (Str × Addr)) (fp : List Addr), DTs (X.blk s H scope (compEnvC scope cl C X.env) fp) ifs wt)
    (he : ∀ (s : Shared) (H : Hp) (C : Addr) (cl : List (Str × Addr)) (fp : List Addr), DE (X.blk s H scope (compEnvC scope cl C X.env) fp) elt we) (hv : ∀ i ∈ t.slots, i ∈ own.map (·.2)) (hs : ∀ x, foldedSetIterable iter X.env x = pure x := by intro _; rfl) :
    DS X (.Assign [.Name y py] (.ListComp elt [⟨tg, iter, ifs, 0⟩] scope pos) spos) (wSet i (wRl (wLc wi t wt we (own.map (·.2))))) := by
  have h := ps_setLc (tt := lT X.K wt) (te := lE X.K we) hc hN hy hyl hsw hi.pi ok hg (fun s H C cl fp => (ht s H C cl fp).pt) (fun s H C cl fp => (he s H C cl fp).pe) hs
  refine ds_of_asg ⟨fun pins s τ H D I hw => (h.imp fun D τ H' q => ?_).run pins s τ H D I hw⟩ (wRl_mono (wLc_mono hi.mono))
  exact lc_lift hi.mono (ht s H 0 [] []).mono (he s H 0 [] []).mono hv τ H' _ (rl_lift (wLc_mono hi.mono) τ H' _ q)
end
end D2

/-! DL, part e: operators, built-ins, subscripts, slices, methods over data. -/
namespace D2
open PySem PySem.Spec PyProof.Rows L2
section
variable {X : Cx} {K : PySem.W.Frag} {ex : Addr → Prop} {f : Nat → Addr} {k : Nat} {H : Hp} {σ : En} {τ : L2.St} {st : Sto}

/-! ### lists and tuples of data -/
def lstD (st : Sto) (d : Dv) : Option (List Dv) := match d with
  | .rol xs => some xs
  | .fro xs => some xs
  | .ref n => match st[n]? with | some (.lst xs) => some xs | none => none
  | _ => none
def tupD (d : Dv) : Option (List Dv) := match d with
  | .tup xs => some xs
  | .tux xs => some xs
  | _ => none
theorem lst_of {d : Dv} {v : V} {xs : List Dv} (r : RS K ex f st H) (rd : RD K ex f st.length H d v) (h : lstD st d = some xs) : ∃ a vs, v = .ref a ∧ SqL K H a vs ∧ RDs K ex f st.length H xs vs := by
  cases rd with
  | rol e he hn hs => cases h; exact ⟨_, _, rfl, .inl (.inl e), hs⟩
  | fro e hs => cases h; exact ⟨_, _, rfl, e.imp (fun q => q.1) id, hs⟩
  | ref n hn =>
    simp only [lstD] at h
    split at h
    · rename_i ys e
      cases h
      cases r.obj n _ e with
      | lst e1 hs => exact ⟨_, _, rfl, .inl (.inl e1), hs⟩
    · cases h
  | _ => simp [lstD] at h
/-- a list that is no frozen one -/
def lsuD (st : Sto) (d : Dv) : Option (List Dv) := match d with
  | .rol xs => some xs
  | .ref n => match st[n]? with | some (.lst xs) => some xs | none => none
  | _ => none
theorem lsu_of {d : Dv} {v : V} {xs : List Dv} (r : RS K ex f st H) (rd : RD K ex f st.length H d v) (h : lsuD st d = some xs) : ∃ a vs, v = .ref a ∧ H a = some (.lst vs) ∧ RDs K ex f st.length H xs vs := by
  cases rd with
  | rol e he hn hs => cases h; exact ⟨_, _, rfl, e, hs⟩
  | ref n hn =>
    simp only [lsuD] at h
    split at h
    · rename_i ys e
      cases h
      cases r.obj n _ e with
      | lst e1 hs => exact ⟨_, _, rfl, e1, hs⟩
    · cases h
  | _ => simp [lsuD] at h
theorem tup_of {d : Dv} {v : V} {xs : List Dv} (rd : RD K ex f k H d v) (h : tupD d = some xs) : ∃ a vs, v = .ref a ∧ SqT K H a vs ∧ RDs K ex f k H xs vs := by
  cases rd with
  | tup e hs => cases h; exact ⟨_, _, rfl, e, hs⟩
  | tux e hs => cases h; exact ⟨_, _, rfl, .inl (.inr (e.imp fun _ q => q.1)), hs⟩
  | _ => simp [tupD] at h

/-! ### arithmetic -/
/-- by a function on two ints -/
@[irreducible] def gI (C : Int → Int → Prop) (g : Int → Int → Int) : G2 := fun x y st Q => match x, y with | .int a, .int b => C a b ∧ Q (.int (g a b)) st | _, _ => False
theorem gI_mono {C : Int → Int → Prop} {g : Int → Int → Int} : Mono2 (gI C g) := fun x y st Q Q' q h => by
  unfold gI at *
  split at h
  · exact ⟨h.1, q _ _ h.2⟩
  · exact h.elim
theorem opI_d {F : Value → Value → Sem Value} {C : Int → Int → Prop} {g : Int → Int → Int} (o : OpR X F (rI C fun i j => .int (g i j))) : OpD X F (gI C g) := by
  refine ⟨gI_mono, _, o, fun ex f st H x y vx vy Q r rx ry h => ?_⟩
  unfold gI at h
  split at h
  · cases rx
    cases ry
    exact ⟨_, _, rfl, rfl, h.1, h.2.self r (.int _)⟩
  · exact h.elim
@[irreducible] def gB (g : Int → Int → Bool) : G2 := fun x y st Q => match x, y with | .int a, .int b => Q (.bl (g a b)) st | _, _ => False
theorem gB_mono {g : Int → Int → Bool} : Mono2 (gB g) := fun x y st Q Q' q h => by
  unfold gB at *
  split at h
  · exact q _ _ h
  · exact h.elim
theorem opB_d {F : Value → Value → Sem Value} {g : Int → Int → Bool} (o : OpR X F (rI0 fun i j => .bl (g i j))) : OpD X F (gB g) := by
  refine ⟨gB_mono, _, o, fun ex f st H x y vx vy Q r rx ry h => ?_⟩
  unfold gB at h
  split at h
  · cases rx
    cases ry
    exact ⟨_, _, rfl, rfl, h.self r (.bl _)⟩
  · exact h.elim
@[irreducible] def gAdd : G2 := fun x y st Q => match x, y with
  | .int a, .int b => Q (.int (a + b)) st
  | .str a, .str b => a.length + b.length ≤ sizeLine ∧ Q (.str (a ++ b)) st
  | .tup a, .tup b => a.length + b.length ≤ sizeLine ∧ Q (.tup (a ++ b)) st
  | x, y => ∃ a b, lsuD st x = some a ∧ lsuD st y = some b ∧ a.length + b.length ≤ sizeLine ∧ Q (.rol (a ++ b)) st
theorem gAdd_mono : Mono2 gAdd := fun x y st Q Q' q h => by
  unfold gAdd at *
  split at h
  · exact q _ _ h
  · exact ⟨h.1, q _ _ h.2⟩
  · exact ⟨h.1, q _ _ h.2⟩
  · obtain ⟨a, b, h1, h2, h3, h4⟩ := h
    exact ⟨a, b, h1, h2, h3, q _ _ h4⟩
theorem od_add : OpD X (binaryOp .Add) gAdd := by
  refine ⟨gAdd_mono, _, (op_add.or op_add_str).or (op_catA.or op_cat), fun ex f st H x y vx vy Q r rx ry h => ?_⟩
  unfold gAdd at h
  split at h
  · cases rx
    cases ry
    exact .inl (.inl ⟨_, _, rfl, rfl, h.self r (.int _)⟩)
  · cases rx
    cases ry
    exact .inl (.inr ⟨_, _, rfl, rfl, h.1, h.2.self r (.str _)⟩)
  · cases rx with
    | tup ha hsa =>
      cases ry with
      | tup hb hsb =>
        refine .inr (.inl ⟨_, _, _, _, rfl, rfl, ha, hb, by rw [← hsa.length, ← hsb.length]; exact h.1, fun e => ?_, fun e1 e2 => ?_, fun e1 e2 p hp => ?_⟩)
        · subst e
          cases hsa
          exact h.2.self r (.tup hb hsb)
        · subst e2
          cases hsb
          rw [List.append_nil] at h
          exact h.2.self r (.tup ha hsa)
        · exact h.2.newTup r hp (hsa.append hsb)
  · obtain ⟨a, b, h1, h2, h3, h4⟩ := h
    obtain ⟨p, vs, rfl, e1, hs1⟩ := lsu_of r rx h1
    obtain ⟨q, ws, rfl, e2, hs2⟩ := lsu_of r ry h2
    exact .inr (.inr ⟨_, _, _, _, rfl, rfl, e1, e2, by rw [← hs1.length, ← hs2.length]; exact h3, fun p hp => h4.newRol r hp (hs1.append hs2)⟩)
@[irreducible] def gMul : G2 := fun x y st Q => match x, y with
  | .int a, .int b => CMul a b ∧ Q (.int (a * b)) st
  | .tup xs, .int n => (xs ≠ [] ∧ 2 ≤ n ∧ n ≤ 1000 ∧ xs.length ≤ 1000) ∧ Q (.tup (List.replicate n.toNat xs).flatten) st
  | _, _ => False
theorem RDs.rep {ds : List Dv} {vs : List V} (h : RDs K ex f k H ds vs) : ∀ n : Nat, RDs K ex f k H (List.replicate n ds).flatten (List.replicate n vs).flatten
  | 0 => .nil
  | n + 1 => by
    rw [List.replicate_succ, List.replicate_succ, List.flatten_cons, List.flatten_cons]
    exact h.append (RDs.rep h n)
theorem od_mul : OpD X (binaryOp .Mult) gMul := by
  refine ⟨fun x y st Q Q' q h => ?_, _, op_mul.or op_repT, fun ex f st H x y vx vy Q r rx ry h => ?_⟩
  · unfold gMul at *
    split at h
    · exact ⟨h.1, q _ _ h.2⟩
    · exact ⟨h.1, q _ _ h.2⟩
    · exact h.elim
  · unfold gMul at h
    split at h
    · cases rx
      cases ry
      exact .inl ⟨_, _, rfl, rfl, h.1, h.2.self r (.int _)⟩
    · cases ry
      cases rx with
      | tup ha hs =>
        obtain ⟨⟨h1, h2, h3, h4⟩, h5⟩ := h
        refine .inr ⟨_, _, _, rfl, rfl, ha, fun e => h1 ?_, h2, h3, by rw [← hs.length]; exact h4, fun p hp => h5.newTup r hp (hs.rep _)⟩
        rw [e] at hs
        cases hs
        rfl
    · exact h.elim
theorem od_sub : OpD X (binaryOp .Sub) (gI (fun _ _ => True) fun a b => a - b) := opI_d fun pins s σ H x y v u Q I rx ry ⟨i, j, h1, h2, _, q⟩ => op_sub pins s σ H x y v u Q I rx ry ⟨i, j, h1, h2, q⟩
theorem od_mod : OpD X (binaryOp .Mod) (gI (fun _ j => 0 < j) fun a b => a % b) := opI_d op_mod
theorem od_fdiv : OpD X (binaryOp .FloorDiv) (gI CDiv fun a b => a / b) := opI_d op_fdiv
theorem od_pow : OpD X (binaryOp .Pow) (gI CPow fun a b => a ^ b.toNat) := opI_d op_pow
theorem od_lt : OpD X (compareOp .Lt) (gB fun a b => decide (a < b)) := opB_d op_lt
theorem od_le : OpD X (compareOp .LtE) (gB fun a b => decide (a ≤ b)) := opB_d op_le
theorem od_gt : OpD X (compareOp .Gt) (gB fun a b => decide (b < a)) := opB_d op_gt
theorem od_ge : OpD X (compareOp .GtE) (gB fun a b => decide (b ≤ a)) := opB_d op_ge
/-- -a -/
abbrev wNeg (a : DTE) : DTE := fun σ st Q => a σ st fun d st1 => match d with | .int i => Q (.int (-i)) st1 | _ => False
theorem de_neg {a : Expr} {wa : DTE} {pos : Pos} (ha : DE X a wa) : DE X (.UnaryOp .USub a pos) (wNeg wa) := by
  refine ⟨(pe_un un_neg ha.pe).imp fun τ H Q h => ?_, fun σ st Q Q' q h => ha.mono _ _ _ _ (fun d s h1 => ?_) h⟩
  · obtain ⟨ex, f, σ, st, r, er, h⟩ := h
    refine lE.use ha.mono r er h fun f1 H1 d st1 v s1 r1 e1 rd h1 => ?_
    split at h1
    · cases rd
      exact ⟨_, rfl, h1 f1 H1 _ s1 r1 (.int _)⟩
    · exact h1.elim
  · split at h1
    · exact q _ _ h1
    · exact h1.elim

/-! ### is None -/
@[irreducible] def gIs (neg : Bool) : G2 := fun x y st Q => match y with | .non => Q (.bl (match x with | .non => !neg | _ => neg)) st | _ => False
theorem od_is (neg : Bool) : OpD X (compareOp (if neg then .IsNot else .Is)) (gIs neg) := by
  have m : Mono2 (gIs neg) := fun x y st Q Q' q h => by
    unfold gIs at *
    cases y <;> first | exact h.elim | skip
    exact q _ _ h
  have key : ∀ ex f st H x y vx vy Q, RS X.K ex f st H → RD X.K ex f st.length H x vx → RD X.K ex f st.length H y vy → gIs neg x y st (Af X.K ex f st.length H Q) → vy = .non ∧ Q (.bl (if neg then !decide (vx = .non) else decide (vx = .non))) H := by
    intro ex f st H x y vx vy Q r rx ry h
    unfold gIs at h
    cases ry <;> first | exact h.elim | skip
    refine ⟨rfl, ?_⟩
    cases rx <;> cases neg <;> exact h.self r (.bl _)
  cases neg with
  | false => exact ⟨m, _, op_isN, fun ex f st H x y vx vy Q r rx ry h => key ex f st H x y vx vy Q r rx ry h⟩
  | true => exact ⟨m, _, op_notN, fun ex f st H x y vx vy Q r rx ry h => key ex f st H x y vx vy Q r rx ry h⟩

/-! ### data as such: ==, repr -/
mutual
inductive DP (st : Sto) : Dv → PyData → Prop
  | non : DP st .non .none
  | bl (b : Bool) : DP st (.bl b) (.bool b)
  | int (i : Int) : DP st (.int i) (.int i)
  | str (s : Str) : DP st (.str s) (.str s)
  | tup {d : Dv} {xs : List Dv} {ps : List PyData} : tupD d = some xs → DPs st xs ps → DP st d (.tuple ps)
  | lst {d : Dv} {xs : List Dv} {ps : List PyData} : lstD st d = some xs → DPs st xs ps → DP st d (.list ps)
inductive DPs (st : Sto) : List Dv → List PyData → Prop
  | nil : DPs st [] []
  | cons {x : Dv} {xs : List Dv} {p : PyData} {ps : List PyData} : DP st x p → DPs st xs ps → DPs st (x :: xs) (p :: ps)
end
mutual
theorem DP.dp (r : RS K ex f st H) : ∀ {d : Dv} {p : PyData} {v : V}, DP st d p → RD K ex f st.length H d v → Dp K H v p
  | _, _, _, .non, rd => by cases rd; exact .non
  | _, _, _, .bl b, rd => by cases rd; exact .bl b
  | _, _, _, .int b, rd => by cases rd; exact .int b
  | _, _, _, .str b, rd => by cases rd; exact .str b
  | _, _, _, .tup e hs, rd => by
    obtain ⟨a, vs, rfl, q, hs2⟩ := tup_of rd e
    exact .tup q (DPs.dp r hs hs2)
  | _, _, _, .lst e hs, rd => by
    obtain ⟨a, vs, rfl, q, hs2⟩ := lst_of r rd e
    exact .lst q (DPs.dp r hs hs2)
theorem DPs.dp (r : RS K ex f st H) : ∀ {ds : List Dv} {ps : List PyData} {vs : List V}, DPs st ds ps → RDs K ex f st.length H ds vs → DpAll K H vs ps
  | _, _, _, .nil, .nil => .nil
  | _, _, _, .cons h hs, .cons q qs => .cons (DP.dp r h q) (DPs.dp r hs qs)
end
@[irreducible] def gEq (neg : Bool) : G2 := fun x y st Q => match x, y with
  | .int a, .int b => Q (.bl (if neg then !decide (a = b) else decide (a = b))) st
  | .str a, .str b => Q (.bl (if neg then !decide (a = b) else decide (a = b))) st
  | .bl a, .bl b => Q (.bl (if neg then !decide (a = b) else decide (a = b))) st
  | x, y => ∃ p q, DP st x p ∧ DP st y q ∧ SeqAt.shaped p = true ∧ SeqAt.shaped q = true ∧ Q (.bl (if neg then !PyData.eqv p q else PyData.eqv p q)) st
theorem gEq_mono (neg : Bool) : Mono2 (gEq neg) := fun x y st Q Q' q h => by
  unfold gEq at *
  split at h
  · exact q _ _ h
  · exact q _ _ h
  · exact q _ _ h
  · obtain ⟨p, z, h1, h2, h3, h4, h5⟩ := h
    exact ⟨p, z, h1, h2, h3, h4, q _ _ h5⟩
theorem od_eq (hu : X.A.units + 64 < cLine) : OpD X (compareOp .Eq) (gEq false) := by
  refine ⟨gEq_mono _, _, op_eq.or (op_eqD hu), fun ex f st H x y vx vy Q r rx ry h => ?_⟩
  unfold gEq at h
  split at h
  · cases rx
    cases ry
    rename_i a b
    refine .inl ⟨rfl, ?_⟩
    have e : decide (V.int a = V.int b) = decide (a = b) := by rw [decide_eq_decide]; exact ⟨fun z => V.int.inj z, fun z => by rw [z]⟩
    rw [e]
    exact h.self r (.bl _)
  · cases rx
    cases ry
    rename_i a b
    refine .inl ⟨rfl, ?_⟩
    have e : decide (V.str a = V.str b) = decide (a = b) := by rw [decide_eq_decide]; exact ⟨fun z => V.str.inj z, fun z => by rw [z]⟩
    rw [e]
    exact h.self r (.bl _)
  · cases rx
    cases ry
    rename_i a b
    refine .inl ⟨rfl, ?_⟩
    have e : decide (V.bl a = V.bl b) = decide (a = b) := by rw [decide_eq_decide]; exact ⟨fun z => V.bl.inj z, fun z => by rw [z]⟩
    rw [e]
    exact h.self r (.bl _)
  · obtain ⟨p, z, h1, h2, h3, h4, h5⟩ := h
    exact .inr ⟨p, z, h1.dp r rx, h2.dp r ry, h3, h4, h5.self r (.bl _)⟩
theorem od_ne (hu : X.A.units + 64 < cLine) : OpD X (compareOp .NotEq) (gEq true) := by
  refine ⟨gEq_mono _, _, op_ne.or (op_neD hu), fun ex f st H x y vx vy Q r rx ry h => ?_⟩
  unfold gEq at h
  split at h
  · cases rx
    cases ry
    rename_i a b
    refine .inl ⟨rfl, ?_⟩
    have e : decide (V.int a = V.int b) = decide (a = b) := by rw [decide_eq_decide]; exact ⟨fun z => V.int.inj z, fun z => by rw [z]⟩
    rw [e]
    exact h.self r (.bl _)
  · cases rx
    cases ry
    rename_i a b
    refine .inl ⟨rfl, ?_⟩
    have e : decide (V.str a = V.str b) = decide (a = b) := by rw [decide_eq_decide]; exact ⟨fun z => V.str.inj z, fun z => by rw [z]⟩
    rw [e]
    exact h.self r (.bl _)
  · cases rx
    cases ry
    rename_i a b
    refine .inl ⟨rfl, ?_⟩
    have e : decide (V.bl a = V.bl b) = decide (a = b) := by rw [decide_eq_decide]; exact ⟨fun z => V.bl.inj z, fun z => by rw [z]⟩
    rw [e]
    exact h.self r (.bl _)
  · obtain ⟨p, z, h1, h2, h3, h4, h5⟩ := h
    exact .inr ⟨p, z, h1.dp r rx, h2.dp r ry, h3, h4, h5.self r (.bl _)⟩

/-! ### in -/
def seqD (st : Sto) (d : Dv) : Option (List Dv) := match tupD d with | some xs => some xs | none => lstD st d
theorem seq_of {d : Dv} {v : V} {xs : List Dv} (r : RS K ex f st H) (rd : RD K ex f st.length H d v) (h : seqD st d = some xs) : ∃ a vs, v = .ref a ∧ (SqL K H a vs ∨ SqT K H a vs) ∧ RDs K ex f st.length H xs vs := by
  unfold seqD at h
  split at h
  · rename_i e
    cases h
    obtain ⟨a, vs, h1, h2, h3⟩ := tup_of rd e
    exact ⟨a, vs, h1, .inr h2, h3⟩
  · obtain ⟨a, vs, h1, h2, h3⟩ := lst_of r rd h
    exact ⟨a, vs, h1, .inl h2, h3⟩
@[irreducible] def gIn (neg : Bool) : G2 := fun x y st Q => match x, y with
  | .str a, .str z => ∃ c, a = ⟨#[c]⟩ ∧ Q (.bl (if neg then !decide (c ∈ z.cps.toList) else decide (c ∈ z.cps.toList))) st
  | .str a, y => ∃ ys : List Str, seqD st y = some (ys.map Dv.str) ∧ Q (.bl (if neg then !decide (a ∈ ys) else decide (a ∈ ys))) st
  | .int a, y => ∃ ys : List Int, seqD st y = some (ys.map Dv.int) ∧ Q (.bl (if neg then !decide (a ∈ ys) else decide (a ∈ ys))) st
  | _, _ => False
theorem gIn_mono (neg : Bool) : Mono2 (gIn neg) := fun x y st Q Q' q h => by
  unfold gIn at *
  split at h
  · obtain ⟨c, h1, h2⟩ := h
    exact ⟨c, h1, q _ _ h2⟩
  · obtain ⟨c, h1, h2⟩ := h
    exact ⟨c, h1, q _ _ h2⟩
  · obtain ⟨c, h1, h2⟩ := h
    exact ⟨c, h1, q _ _ h2⟩
  · exact h.elim
theorem inV_str (a : Str) (ys : List Str) : inV (.str a) (ys.map V.str) = decide (a ∈ ys) := by
  unfold inV
  rw [List.any_map, Bool.eq_iff_iff, List.any_eq_true, decide_eq_true_eq]
  constructor
  · rintro ⟨y, hy, e⟩
    have e2 : y = a := by simpa [eqV] using e
    rw [← e2]
    exact hy
  · intro h
    exact ⟨a, h, by simp [eqV]⟩
theorem inV_int (a : Int) (ys : List Int) : inV (.int a) (ys.map V.int) = decide (a ∈ ys) := by
  unfold inV
  rw [List.any_map, Bool.eq_iff_iff, List.any_eq_true, decide_eq_true_eq]
  constructor
  · rintro ⟨y, hy, e⟩
    have e2 : y = a := by simpa [eqV] using e
    rw [← e2]
    exact hy
  · intro h
    exact ⟨a, h, by simp [eqV]⟩
theorem od_in (neg : Bool) : OpD X (compareOp (if neg then .NotIn else .In)) (gIn neg) := by
  have key : ∀ ex f st H x y vx vy Q, RS X.K ex f st H → RD X.K ex f st.length H x vx → RD X.K ex f st.length H y vy → gIn neg x y st (Af X.K ex f st.length H Q) →
      (∃ (c : Nat) (z : Str), vx = .str ⟨#[c]⟩ ∧ vy = .str z ∧ Q (.bl (if neg then !decide (c ∈ z.cps.toList) else decide (c ∈ z.cps.toList))) H) ∨ rIn X.K neg vx vy H Q := by
    intro ex f st H x y vx vy Q r rx ry h
    unfold gIn at h
    split at h
    · cases rx
      cases ry
      obtain ⟨c, rfl, h⟩ := h
      exact .inl ⟨c, _, rfl, rfl, h.self r (.bl _)⟩
    · cases rx
      obtain ⟨ys, h1, h2⟩ := h
      obtain ⟨p, vs, rfl, q, hs⟩ := seq_of r ry h1
      have e := RDs.strs_inv hs
      subst e
      refine .inr ⟨p, _, rfl, q, rfl, by simp [flatV], ?_⟩
      rw [inV_str]
      exact h2.self r (.bl _)
    · cases rx
      obtain ⟨ys, h1, h2⟩ := h
      obtain ⟨p, vs, rfl, q, hs⟩ := seq_of r ry h1
      have e := RDs.ints_inv hs
      subst e
      refine .inr ⟨p, _, rfl, q, rfl, by simp [flatV], ?_⟩
      rw [inV_int]
      exact h2.self r (.bl _)
    · exact h.elim
  cases neg with
  | false => exact ⟨gIn_mono _, _, op_in_sign.or op_in_seq, fun ex f st H x y vx vy Q r rx ry h => key ex f st H x y vx vy Q r rx ry h⟩
  | true => exact ⟨gIn_mono _, _, op_notIn_sign.or op_notIn_seq, fun ex f st H x y vx vy Q r rx ry h => key ex f st H x y vx vy Q r rx ry h⟩

/-! ### subscripts -/
@[irreducible] def gIx : G2 := fun x y st Q => match y with
  | .int i => (match x with
    | .str z => z.length ≤ sizeLine ∧ ∃ c, atI z.cps.toList i = some c ∧ Q (.str ⟨#[c]⟩) st
    | x => ∃ xs d, seqD st x = some xs ∧ atI xs i = some d ∧ Q d st)
  | _ => False
theorem gIx_mono : Mono2 gIx := fun x y st Q Q' q h => by
  unfold gIx at *
  split at h
  · split at h
    · obtain ⟨h1, c, h2, h3⟩ := h
      exact ⟨h1, c, h2, q _ _ h3⟩
    · obtain ⟨xs, d, h1, h2, h3⟩ := h
      exact ⟨xs, d, h1, h2, q _ _ h3⟩
  · exact h.elim
theorem RDs.atI {ds : List Dv} {vs : List V} {i : Int} {d : Dv} (h : RDs K ex f k H ds vs) (e : L2.atI ds i = some d) : ∃ v, L2.atI vs i = some v ∧ RD K ex f k H d v := by
  unfold L2.atI at *
  rw [← h.length]
  cases e2 : ixN ds.length i with
  | none => rw [e2] at e; cases e
  | some j =>
    rw [e2] at e
    exact h.get e
theorem de_ix {a b : Expr} {wa wb : DTE} {pos : Pos} (ha : DE X a wa) (hb : DE X b wb) (hs : PlainIx b := by exact fun _ _ => rfl) : DE X (.Subscript a b pos) (w2 gIx wa wb) := by
  refine ⟨(pe_ix ix_seq ha.pe hb.pe hs).imp (w2_lift (F := fun _ _ => pure .none) ?_ gIx_mono ha.mono hb.mono), w2_mono gIx_mono ha.mono hb.mono⟩
  intro ex f st H x y vx vy Q r rx ry h
  unfold gIx at h
  split at h
  · cases ry
    split at h
    · cases rx
      obtain ⟨h1, c, h2, h3⟩ := h
      exact .inr (.inr ⟨_, _, c, rfl, rfl, h1, h2, h3.self r (.str _)⟩)
    · obtain ⟨xs, d, h1, h2, h3⟩ := h
      obtain ⟨p, vs, rfl, q, hs⟩ := seq_of r rx h1
      obtain ⟨v, e, rv⟩ := hs.atI h2
      rcases q with q | q
      · exact .inl ⟨p, vs, _, v, rfl, rfl, q, e, h3.self r rv⟩
      · exact .inr (.inl ⟨p, vs, _, v, rfl, rfl, q, e, h3.self r rv⟩)
  · exact h.elim

/-! ### slices -/
def cutD (xs : List Dv) (lo hi : Option Int) : List Dv := (xs.drop (HT.sIx xs.length 0 lo)).take (HT.sIx xs.length xs.length hi - HT.sIx xs.length 0 lo)
theorem RDs.cut {ds : List Dv} {vs : List V} {lo hi : Option Int} (h : RDs K ex f k H ds vs) : RDs K ex f k H (cutD ds lo hi) (cutV vs lo hi) := by
  unfold cutD cutV
  rw [← h.length]
  exact (h.drop _).take _
structure DO (X : Cx) (e : Option Expr) (w : En → Sto → (Option Int → Sto → Prop) → Prop) : Prop where
  po : PO X e (fun τ H Q => ∃ ex f σ st, RS X.K ex f st H ∧ ER X.K ex f st.length H σ τ ∧ w σ st fun o st' => ∀ f' H', Stp f st.length H f' st'.length H' → RS X.K ex f' st' H' → Q o H')
  mono : ∀ σ st (Q Q' : Option Int → Sto → Prop), (∀ o s, Q o s → Q' o s) → w σ st Q → w σ st Q'
theorem _root_.L2.PO.imp {e : Option Expr} {t u : TO} (h : PO X e t) (i : ∀ τ H Q, u τ H Q → t τ H Q) : PO X e u := ⟨fun pins s τ H Q I hw => h.run pins s τ H Q I (i τ H Q hw)⟩
abbrev wNo : En → Sto → (Option Int → Sto → Prop) → Prop := fun _ st Q => Q none st
abbrev wPt (a : DTE) : En → Sto → (Option Int → Sto → Prop) → Prop := fun σ st Q => a σ st fun d st1 => match d with | .int i => Q (some i) st1 | _ => False
theorem do_no : DO X none wNo := ⟨po_none.imp fun τ H Q ⟨ex, f, σ, st, r, er, h⟩ => h f H Stp.refl r, fun σ st Q Q' q h => q _ _ h⟩
theorem do_some {e : Expr} {w : DTE} (h : DE X e w) : DO X (some e) (wPt w) := by
  refine ⟨(po_some h.pe).imp fun τ H Q hh => ?_, fun σ st Q Q' q hh => h.mono _ _ _ _ (fun d s h1 => ?_) hh⟩
  · obtain ⟨ex, f, σ, st, r, er, hh⟩ := hh
    refine lE.use h.mono r er hh fun f1 H1 d st1 v s1 r1 e1 rd h1 => ?_
    split at h1
    · cases rd
      exact ⟨_, rfl, h1 f1 H1 s1 r1⟩
    · exact h1.elim
  · split at h1
    · exact q _ _ h1
    · exact h1.elim
/-- of a text, a tuple (as values) -/
@[irreducible] def gSl (x : Dv) (lo hi : Option Int) (st : Sto) (Q : DK) : Prop := match x with
  | .str z => z.length ≤ sizeLine ∧ Q (.str (cutS z lo hi)) st
  | .tup xs => Q (.tup (cutD xs lo hi)) st
  | _ => False
abbrev wSl (a : DTE) (l h : En → Sto → (Option Int → Sto → Prop) → Prop) : DTE := fun σ st Q => a σ st fun x st1 => l σ st1 fun lo st2 => h σ st2 fun hi st3 => gSl x lo hi st3 Q
theorem de_sl {e : Expr} {lo hi : Option Expr} {w : DTE} {wl wh : En → Sto → (Option Int → Sto → Prop) → Prop} {pos p2 : Pos} (he : DE X e w) (hl : DO X lo wl) (hh : DO X hi wh) : DE X (.Subscript e (.Slice lo hi none p2) pos) (wSl w wl wh) := by
  have mg : ∀ x lo hi st (Q Q' : DK), (∀ d s, Q d s → Q' d s) → gSl x lo hi st Q → gSl x lo hi st Q' := fun x lo hi st Q Q' q h => by
    unfold gSl at *
    split at h
    · exact ⟨h.1, q _ _ h.2⟩
    · exact q _ _ h
    · exact h.elim
  refine ⟨(pe_slice (sl_str.or sl_tupA) he.pe hl.po hh.po).imp fun τ H Q h => ?_, fun σ st Q Q' q h => he.mono _ _ _ _ (fun x s h1 => hl.mono _ _ _ _ (fun l s2 h2 => hh.mono _ _ _ _ (fun u s3 h3 => mg _ _ _ _ _ _ q h3) h2) h1) h⟩
  obtain ⟨ex, f, σ, st, r, er, h⟩ := h
  refine lE.use he.mono r er h fun f1 H1 d st1 v s1 r1 e1 rd h1 => ?_
  refine ⟨ex, f1, σ, st1, r1, e1, hl.mono _ _ _ _ (fun lo st2 h2 f2 H2 s2 r2 => ?_) h1⟩
  have e2 := e1.mono s2 r1.cel
  refine ⟨ex, f2, σ, st2, r2, e2, hh.mono _ _ _ _ (fun hi st3 h3 f3 H3 s3 r3 => ?_) h2⟩
  have rd3 := (rd.mono s2 r1.cel).mono s3 r2.cel
  unfold gSl at h3
  split at h3
  · cases rd3
    exact .inl ⟨_, rfl, h3.1, h3.2 f3 H3 _ ((s1.trans s2).trans s3) r3 (.str _)⟩
  · cases rd3 with
    | tup ha hs =>
      refine .inr ⟨_, _, rfl, ha, fun q => ?_, fun _ p hp => ?_⟩
      · refine h3 f3 H3 _ ((s1.trans s2).trans s3) r3 ?_
        have hl := hs.length
        rename_i xs a vs
        have e : cutD xs lo hi = xs := by
          unfold cutD
          rw [hl, q.1, q.2, List.drop_zero, Nat.sub_zero, ← hl, List.take_length]
        rw [e]
        exact .tup ha hs
      · exact (Af.later h3 ((s1.trans s2).trans s3)).newTup r3 hp hs.cut
  · exact h3.elim
/-- of a list: a new one -/
abbrev wSlN (a : DTE) (l h : En → Sto → (Option Int → Sto → Prop) → Prop) : DTA := fun σ st Q => a σ st fun x st1 => l σ st1 fun lo st2 => h σ st2 fun hi st3 => ∃ xs, lstD st3 x = some xs ∧ Q (cutD xs lo hi) st3
theorem dn_sl {e : Expr} {lo hi : Option Expr} {w : DTE} {wl wh : En → Sto → (Option Int → Sto → Prop) → Prop} {pos p2 : Pos} (he : DE X e w) (hl : DO X lo wl) (hh : DO X hi wh) : DN X (.Subscript e (.Slice lo hi none p2) pos) (wSlN w wl wh) := by
  refine ⟨(pe_slice sl_list he.pe hl.po hh.po).imp fun τ H Q h => ?_, fun σ st Q Q' q h => he.mono _ _ _ _ (fun x s h1 => hl.mono _ _ _ _ (fun l s2 h2 => hh.mono _ _ _ _ (fun u s3 ⟨xs, h3, h4⟩ => ⟨xs, h3, q _ _ h4⟩) h2) h1) h⟩
  obtain ⟨ex, f, σ, st, r, er, h⟩ := h
  refine lE.use he.mono r er h fun f1 H1 d st1 v s1 r1 e1 rd h1 => ?_
  refine ⟨ex, f1, σ, st1, r1, e1, hl.mono _ _ _ _ (fun lo st2 h2 f2 H2 s2 r2 => ?_) h1⟩
  have e2 := e1.mono s2 r1.cel
  refine ⟨ex, f2, σ, st2, r2, e2, hh.mono _ _ _ _ (fun hi st3 ⟨xs, h3, h4⟩ f3 H3 s3 r3 => ?_) h2⟩
  obtain ⟨a, vs, rfl, q, hs⟩ := lst_of r3 ((rd.mono s2 r1.cel).mono s3 r2.cel) h3
  exact ⟨a, vs, rfl, q, fun p hp => (AfN.later h4 ((s1.trans s2).trans s3)).laid r3 hp hs.cut⟩
/-- xs[::-1] -/
abbrev wRevN (a : DTE) : DTA := fun σ st Q => a σ st fun x st1 => ∃ xs, lstD st1 x = some xs ∧ Q xs.reverse st1
theorem dn_rev {e : Expr} {w : DTE} {k : Nat} {p1 p2 p3 pos : Pos} (he : DE X e w) : DN X (.Subscript e (.Slice none none (some (.UnaryOp .USub (.Constant (.int 1) k p1) p2)) p3) pos) (wRevN w) := by
  refine ⟨(pe_revL he.pe).imp fun τ H Q h => ?_, fun σ st Q Q' q h => he.mono _ _ _ _ (fun x s ⟨xs, h3, h4⟩ => ⟨xs, h3, q _ _ h4⟩) h⟩
  obtain ⟨ex, f, σ, st, r, er, h⟩ := h
  refine lE.use he.mono r er h fun f1 H1 d st1 v s1 r1 e1 rd ⟨xs, h3, h4⟩ => ?_
  obtain ⟨a, vs, rfl, q, hs⟩ := lst_of r1 rd h3
  exact ⟨a, vs, rfl, q, fun p hp => (AfN.later h4 s1).laid r1 hp hs.reverse⟩
/-- displays as new lists -/
abbrev wDisp (a : DTA) : DTA := fun σ st Q => a σ st fun xs st1 => xs.length ≤ sizeLine ∧ Q xs st1

/-! ### built-ins by values -/
abbrev GC := List Dv → Sto → DK → Prop
structure CallD (X : Cx) (F : Value) (g : GC) : Prop where
  mono : ∀ xs st (Q Q' : DK), (∀ d s, Q d s → Q' d s) → g xs st Q → g xs st Q'
  ok : ∃ r, CallR X F r ∧ ∀ ex f st H xs vs Q, RS X.K ex f st H → RDs X.K ex f st.length H xs vs → g xs st (Af X.K ex f st.length H Q) → r vs H Q
abbrev wCB (g : GC) (a : DTA) : DTE := fun σ st Q => a σ st fun xs st1 => g xs st1 Q
theorem cb_lift {r : List V → Hp → VK → Prop} {g : GC} {a : DTA} {X : Cx} (ma : MonoA a) (q : ∀ ex f st H xs vs Q, RS X.K ex f st H → RDs X.K ex f st.length H xs vs → g xs st (Af X.K ex f st.length H Q) → r vs H Q)
    (mg : ∀ xs st (Q Q' : DK), (∀ d s, Q d s → Q' d s) → g xs st Q → g xs st Q') (τ : L2.St) (H : Hp) (Q : VK) (h : lE X.K (wCB g a) τ H Q) : tCB r (lA X.K a) τ H Q := by
  obtain ⟨ex, f, σ, st, rs, er, h⟩ := h
  refine lA.use ma rs er h fun f1 H1 xs st1 vs s1 r1 e1 rd h1 => ?_
  exact q ex f1 st1 H1 xs vs Q r1 rd (mg _ _ _ _ (fun d s hd => hd.later s1) h1)
theorem de_callB {x : Str} {p pos : Pos} {e : Expr} {es : List Expr} {a : DTA} {id : String} {g : GC} (c : CallD X (.builtin id) g) (hg : Gl X x) (hm : X.mg x = none) (hv : bootBuiltins x = some (.builtin id)) (ha : DA X (e :: es) a) (hn : x ≠ "__name__" := by decide) (hdb : (x == ("__debug__" : Str)) = false := by decide)
    (he : starEach (e :: es) X.env = (false, eval e X.env) :: starEach es X.env := by rfl) (hpl : (backTo pos (starEach es X.env)).any (·.1) = false := by rfl) : DE X (.Call (.Name x p) (e :: es) [] pos) (wCB g a) := by
  obtain ⟨mg, r, hr, q⟩ := c
  exact ⟨(pe_callB hr hg hm hv ha.pa hn hdb he hpl).imp (cb_lift ha.mono q mg), fun σ st Q Q' z h => ha.mono _ _ _ _ (fun xs s h1 => mg _ _ _ _ z h1) h⟩
theorem de_callTy {x : Str} {p pos : Pos} {e : Expr} {es : List Expr} {a : DTA} {T : String} {g : GC} (c : CallD X (.type T) g) (hg : Gl X x) (hm : X.mg x = none) (hv : bootBuiltins x = some (.type T)) (ha : DA X (e :: es) a) (hn : x ≠ "__name__" := by decide) (hdb : (x == ("__debug__" : Str)) = false := by decide)
    (he : starEach (e :: es) X.env = (false, eval e X.env) :: starEach es X.env := by rfl) (hpl : (backTo pos (starEach es X.env)).any (·.1) = false := by rfl) : DE X (.Call (.Name x p) (e :: es) [] pos) (wCB g a) := by
  obtain ⟨mg, r, hr, q⟩ := c
  exact ⟨(pe_callTy hr hg hm hv ha.pa hn hdb he hpl).imp (cb_lift ha.mono q mg), fun σ st Q Q' z h => ha.mono _ _ _ _ (fun xs s h1 => mg _ _ _ _ z h1) h⟩
/-- those that make a list -/
structure CallN (X : Cx) (F : Value) (g : List Dv → Sto → (List Dv → Sto → Prop) → Prop) : Prop where
  mono : ∀ xs st (Q Q' : List Dv → Sto → Prop), (∀ d s, Q d s → Q' d s) → g xs st Q → g xs st Q'
  ok : ∃ r, CallR X F r ∧ ∀ ex f st H xs vs Q, RS X.K ex f st H → RDs X.K ex f st.length H xs vs → g xs st (AfN X.K ex f st.length H Q) → r vs H Q
abbrev wCN (g : List Dv → Sto → (List Dv → Sto → Prop) → Prop) (a : DTA) : DTA := fun σ st Q => a σ st fun xs st1 => g xs st1 Q
theorem dn_callTy {x : Str} {p pos : Pos} {e : Expr} {es : List Expr} {a : DTA} {T : String} {g : List Dv → Sto → (List Dv → Sto → Prop) → Prop} (c : CallN X (.type T) g) (hg : Gl X x) (hm : X.mg x = none) (hv : bootBuiltins x = some (.type T)) (ha : DA X (e :: es) a) (hn : x ≠ "__name__" := by decide) (hdb : (x == ("__debug__" : Str)) = false := by decide)
    (he : starEach (e :: es) X.env = (false, eval e X.env) :: starEach es X.env := by rfl) (hpl : (backTo pos (starEach es X.env)).any (·.1) = false := by rfl) : DN X (.Call (.Name x p) (e :: es) [] pos) (wCN g a) := by
  obtain ⟨mg, r, hr, q⟩ := c
  refine ⟨(pe_callTy hr hg hm hv ha.pa hn hdb he hpl).imp fun τ H Q h => ?_, fun σ st Q Q' z h => ha.mono _ _ _ _ (fun xs s h1 => mg _ _ _ _ z h1) h⟩
  obtain ⟨ex, f, σ, st, rs, er, h⟩ := h
  refine lA.use ha.mono rs er h fun f1 H1 xs st1 vs s1 r1 e1 rd h1 => ?_
  exact q ex f1 st1 H1 xs vs Q r1 rd (mg _ _ _ _ (fun d s hd => hd.later s1) h1)
/-- one argument -/
abbrev g1 (g : Dv → Sto → DK → Prop) : GC := fun xs st Q => match xs with | [x] => g x st Q | _ => False
theorem cd1 {F : Value} {g : Dv → Sto → DK → Prop} {r : List V → Hp → VK → Prop} (hr : CallR X F r) (m : ∀ x st (Q Q' : DK), (∀ d s, Q d s → Q' d s) → g x st Q → g x st Q')
    (q : ∀ ex f st H x v Q, RS X.K ex f st H → RD X.K ex f st.length H x v → g x st (Af X.K ex f st.length H Q) → r [v] H Q) : CallD X F (g1 g) := by
  refine ⟨fun xs st Q Q' z h => ?_, r, hr, fun ex f st H xs vs Q rs rd h => ?_⟩
  · unfold g1 at *
    split at h
    · exact m _ _ _ _ z h
    · exact h.elim
  · unfold g1 at h
    split at h
    · cases rd with
      | cons h1 h2 =>
        cases h2
        exact q ex f st H _ _ Q rs h1 h
    · exact h.elim
@[irreducible] def gLen : Dv → Sto → DK → Prop := fun x st Q => match x with
  | .str s => s.length ≤ sizeLine ∧ Q (.int s.length) st
  | x => ∃ xs, seqD st x = some xs ∧ Q (.int xs.length) st
theorem cd_len : CallD X (.builtin "len") (g1 gLen) := cd1 call_len (fun x st Q Q' q h => by
    unfold gLen at *
    split at h
    · exact ⟨h.1, q _ _ h.2⟩
    · obtain ⟨xs, h1, h2⟩ := h
      exact ⟨xs, h1, q _ _ h2⟩) (fun ex f st H x v Q r rd h => by
    unfold gLen at h
    split at h
    · cases rd
      exact ⟨_, _, rfl, ⟨h.1, rfl⟩, h.2.self r (.int _)⟩
    · obtain ⟨xs, h1, h2⟩ := h
      obtain ⟨a, vs, rfl, q, hs⟩ := seq_of r rd h1
      refine ⟨_, vs.length, rfl, q.imp (fun q => ⟨vs, q, rfl⟩) (fun q => ⟨vs, q, rfl⟩), ?_⟩
      rw [← hs.length]
      exact h2.self r (.int _))
def gInt : Dv → Sto → DK → Prop := fun x st Q => match x with
  | .int i => Q (.int i) st
  | .bl b => Q (.int (if b then 1 else 0)) st
  | _ => False
theorem cd_int : CallD X (.type "int") (g1 gInt) := cd1 call_int1 (fun x st Q Q' q h => by
    unfold gInt at *
    split at h
    · exact q _ _ h
    · exact q _ _ h
    · exact h.elim) (fun ex f st H x v Q r rd h => by
    unfold gInt at h
    split at h
    · cases rd
      exact .inl ⟨_, rfl, h.self r (.int _)⟩
    · cases rd
      exact .inr ⟨_, rfl, h.self r (.int _)⟩
    · exact h.elim)
def gAbs : Dv → Sto → DK → Prop := fun x st Q => match x with
  | .int i => Q (.int (if i < 0 then -i else i)) st
  | _ => False
theorem cd_abs : CallD X (.builtin "abs") (g1 gAbs) := cd1 call_abs (fun x st Q Q' q h => by
    unfold gAbs at *
    split at h
    · exact q _ _ h
    · exact h.elim) (fun ex f st H x v Q r rd h => by
    unfold gAbs at h
    split at h
    · cases rd
      exact ⟨_, rfl, h.self r (.int _)⟩
    · exact h.elim)
@[irreducible] def gTuple : Dv → Sto → DK → Prop := fun x st Q => match x with
  | .tup xs => Q (.tup xs) st
  | .tux xs => Q (.tux xs) st
  | x => ∃ xs, lstD st x = some xs ∧ Q (.tup xs) st
theorem cd_tuple : CallD X (.type "tuple") (g1 gTuple) := cd1 call_tuple_of (fun x st Q Q' q h => by
    unfold gTuple at *
    split at h
    · exact q _ _ h
    · exact q _ _ h
    · obtain ⟨xs, h1, h2⟩ := h
      exact ⟨xs, h1, q _ _ h2⟩) (fun ex f st H x v Q r rd h => by
    unfold gTuple at h
    split at h
    · cases rd with
      | tup ha hs => exact ⟨_, _, rfl, .inr ⟨ha, h.self r (.tup ha hs)⟩⟩
    · cases rd with
      | tux ha hs => exact ⟨_, _, rfl, .inr ⟨.inl (.inr (ha.imp fun _ q => q.1)), h.self r (.tux ha hs)⟩⟩
    · obtain ⟨xs, h1, h2⟩ := h
      obtain ⟨a, vs, rfl, q, hs⟩ := lst_of r rd h1
      exact ⟨a, vs, rfl, .inl ⟨q, fun p hp => h2.newTup r hp hs⟩⟩)
/-- a tuple of a list, its object known -/
def rTupX (K : PySem.W.Frag) : List V → Hp → VK → Prop := fun xs H Q => ∃ p ys, xs = [.ref p] ∧ SqL K H p ys ∧ ∀ l o, H l = none → o.dict = none → Q (.ref l) (upd H l (.frz o (.tup ys)))
theorem call_tupX : CallR X (.type "tuple") (rTupX X.K) := by
  intro pins s σ H xs us Q I r h
  obtain ⟨p, ys, rfl, hq, q⟩ := h
  obtain ⟨u, rfl, rx⟩ := vals1 r
  obtain rfl : u = Value.ref p := rx
  obtain ⟨its, r', pl, hz⟩ := I.list hq
  have hlen := r'.length
  refine call_tuple_list pl.isList (fun h' kp => ?_) (by simp only [List.size_toArray] <;> omega)
  have I1 : Inv X pins σ H { s with heap := h' } := I.kept (t' := s.toks) kp
  exact ⟨.ref h'.objs.size, _, I1.laid (o := .frz { cls := .type "tuple", data := .seq its.toArray } (.tup ys)) (t' := s.toks) (fun b o e => Heap.get?_push_of_some _ e) (Nat.le_refl _) ⟨Heap.get?_push_size _ rfl, hz, its, r', IsTup.new _ _⟩, rfl, q _ _ (I1.hok.fresh (Nat.le_refl _)) rfl⟩
def gTupX : Dv → Sto → DK → Prop := fun x st Q => ∃ xs, lstD st x = some xs ∧ Q (.tux xs) st
theorem cd_tupX : CallD X (.type "tuple") (g1 gTupX) := cd1 call_tupX (fun x st Q Q' q ⟨xs, h1, h2⟩ => ⟨xs, h1, q _ _ h2⟩) (fun ex f st H x v Q r rd ⟨xs, h1, h2⟩ => by
    obtain ⟨a, vs, rfl, q, hs⟩ := lst_of r rd h1
    exact ⟨a, vs, rfl, q, fun p o hp ho => h2 f _ _ (Stp.new hp) (r.new hp) (.tux ⟨o, upd_same, ho⟩ (hs.mono (Stp.new hp) r.cel))⟩)
abbrev n1 (g : Dv → Sto → (List Dv → Sto → Prop) → Prop) : List Dv → Sto → (List Dv → Sto → Prop) → Prop := fun xs st Q => match xs with | [x] => g x st Q | _ => False
theorem cn_list : CallN X (.type "list") (n1 fun x st Q => ∃ xs, seqD st x = some xs ∧ Q xs st) := by
  refine ⟨fun xs st Q Q' z h => ?_, _, call_list_of, fun ex f st H xs vs Q rs rd h => ?_⟩
  · unfold n1 at *
    split at h
    · obtain ⟨xs, h1, h2⟩ := h
      exact ⟨xs, h1, z _ _ h2⟩
    · exact h.elim
  · unfold n1 at h
    split at h
    · cases rd with
      | cons h1 h2 =>
        cases h2
        obtain ⟨xs, h3, h4⟩ := h
        obtain ⟨a, vs, rfl, q, hs⟩ := seq_of rs h1 h3
        exact ⟨a, vs, rfl, q, fun p hp => h4.laid rs hp hs⟩
    · exact h.elim
/-- tuple(range(n)) -/
abbrev wTupRg (a : DTE) : DTE := fun σ st Q => a σ st fun d st1 => match d with | .int n => (0 ≤ n ∧ n ≤ 100000) ∧ Q (.tup (rng 0 n.toNat)) st1 | _ => False
theorem RDs.rng {n : Int} : RDs K ex f k H (D2.rng 0 n.toNat) (rgV 0 n) := by
  have key : ∀ l : List Nat, RDs K ex f k H (l.map fun (i : Nat) => Dv.int (0 + (i : Int))) (l.map fun (i : Nat) => V.int (0 + (i : Int))) := by
    intro l
    induction l with
    | nil => exact .nil
    | cons a r ih => exact .cons (.int _) ih
  unfold D2.rng rgV
  rw [Int.sub_zero]
  exact key _
theorem de_tupRg {a : Expr} {w : DTE} {p p2 pos pos2 : Pos} (hc : X.calm = true) (hg : Gl X "tuple") (hm : X.mg "tuple" = none) (hg2 : Gl X "range") (hm2 : X.mg "range" = none) (ha : DE X a w) (na : starEach [a] X.env = (false, eval a X.env) :: starEach [] X.env := by rfl)
    (nb : starEach [Expr.Call (.Name "range" p2) [a] [] pos2] X.env = (false, eval (Expr.Call (.Name "range" p2) [a] [] pos2) X.env) :: starEach [] X.env := by rfl) : DE X (.Call (.Name "tuple" p) [.Call (.Name "range" p2) [a] [] pos2] [] pos) (wTupRg w) := by
  refine ⟨(pe_tupRg hc hg hm (prg_1 hg2 hm2 ha.pe na) nb).imp fun τ H Q h => ?_, fun σ st Q Q' q h => ha.mono _ _ _ _ (fun d s h1 => ?_) h⟩
  · obtain ⟨ex, f, σ, st, r, er, h⟩ := h
    refine lE.use ha.mono r er h fun f1 H1 d st1 v s1 r1 e1 rd h1 => ?_
    split at h1
    · rename_i n
      cases rd
      refine ⟨n, rfl, ?_, fun p hp => ?_⟩
      · exact RgOk.of_le (by decide) (by have := h1.1; omega) (by decide) h1.1.1
      · exact (Af.later h1.2 s1).newTup r1 hp RDs.rng
    · exact h1.elim
  · split at h1
    · exact ⟨h1.1, q _ _ h1.2⟩
    · exact h1.elim
end
end D2

/-! DL, part f: isinstance, repr, join, methods, stores, instances, the law's end. -/
namespace D2
open PySem PySem.Spec PyProof.Rows L2
section
variable {X : Cx} {K : PySem.W.Frag} {ex : Addr → Prop} {f : Nat → Addr} {k : Nat} {H : Hp} {σ : En} {τ : L2.St} {st : Sto}

/-! ### isinstance -/
inductive Ty where
  | str | tuple | list | int | bool
def Ty.nm : Ty → String
  | .str => "str"
  | .tuple => "tuple"
  | .list => "list"
  | .int => "int"
  | .bool => "bool"
def isD (T : Ty) (d : Dv) : Option Bool := match d, T with
  | .str _, .str => some true
  | .tup _, .tuple => some true
  | .tux _, .tuple => some true
  | .rol _, .list => some true
  | .fro _, .list => some true
  | .ref _, .list => some true
  | .int _, .int => some true
  | .bl _, .int => some true
  | .bl _, .bool => some true
  | .obj _ _ _, _ => none
  | _, _ => some false
theorem kit_all : ∀ (a : String) (T : Ty), (a = "NoneType" ∨ a = "bool" ∨ a = "int" ∨ a = "str" ∨ a = "tuple" ∨ a = "list") →
    kitB a T.nm = some (match a, T with | "str", .str => true | "tuple", .tuple => true | "list", .list => true | "int", .int => true | "bool", .int => true | "bool", .bool => true | _, _ => false) := by
  intro a T h
  rcases h with rfl | rfl | rfl | rfl | rfl | rfl <;> cases T <;> decide +kernel
theorem tyx {d : Dv} {v : V} {T : Ty} {b : Bool} (r : RS K ex f st H) (rd : RD K ex f st.length H d v) (h : isD T d = some b) : ∃ t, TyX K H v (.type t) ∧ PySem.W.kitOne K (.type t) (.type T.nm) = some b := by
  cases rd with
  | non => exact ⟨_, .base .non, kit_ty (by rw [kit_all _ T (.inl rfl)]; cases T <;> simpa [isD] using h)⟩
  | bl x => exact ⟨_, .base (.bl x), kit_ty (by rw [kit_all _ T (.inr (.inl rfl))]; cases T <;> simpa [isD] using h)⟩
  | int i => exact ⟨_, .base (.int i), kit_ty (by rw [kit_all _ T (.inr (.inr (.inl rfl)))]; cases T <;> simpa [isD] using h)⟩
  | str s => exact ⟨_, .base (.str s), kit_ty (by rw [kit_all _ T (.inr (.inr (.inr (.inl rfl))))]; cases T <;> simpa [isD] using h)⟩
  | tup e hs =>
    rename_i xs a vs
    have z : TyX K H (.ref a) (.type "tuple") := by
      rcases e with (e | ⟨o, e⟩) | ⟨o, its, n, e, c, _⟩
      · exact .base (.tup e)
      · exact .fTuple e
      · exact .kTuple e c
    exact ⟨_, z, kit_ty (by rw [kit_all _ T (.inr (.inr (.inr (.inr (.inl rfl)))))]; cases T <;> simpa [isD] using h)⟩
  | tux e hs =>
    obtain ⟨o, e, _⟩ := e
    exact ⟨_, .fTuple e, kit_ty (by rw [kit_all _ T (.inr (.inr (.inr (.inr (.inl rfl)))))]; cases T <;> simpa [isD] using h)⟩
  | rol e he hn hs => exact ⟨_, .base (.lst e), kit_ty (by rw [kit_all _ T (.inr (.inr (.inr (.inr (.inr rfl)))))]; cases T <;> simpa [isD] using h)⟩
  | fro e hs =>
    rename_i xs a vs
    have z : TyX K H (.ref a) (.type "list") := by
      rcases e with ⟨e | ⟨o, e⟩, _⟩ | ⟨o, its, n, e, c, _⟩
      · exact .base (.lst e)
      · exact .base (.frz e)
      · exact .kList e c
    exact ⟨_, z, kit_ty (by rw [kit_all _ T (.inr (.inr (.inr (.inr (.inr rfl)))))]; cases T <;> simpa [isD] using h)⟩
  | obj e hn hs => simp [isD] at h
  | ref n hn =>
    obtain ⟨vs, e⟩ := r.cel n hn
    exact ⟨_, .base (.lst e), kit_ty (by rw [kit_all _ T (.inr (.inr (.inr (.inr (.inr rfl)))))]; cases T <;> simpa [isD] using h)⟩
abbrev wIsi (T : Ty) (w : DTE) : DTE := fun σ st Q => w σ st fun d st1 => match isD T d with | some b => Q (.bl b) st1 | none => False
theorem de_isi (T : Ty) {e : Expr} {w : DTE} {x : Str} {p p2 pos : Pos} (hg : Gl X "isinstance") (hm : X.mg "isinstance" = none) (hgT : Gl X x) (hmT : X.mg x = none) (hvT : bootBuiltins x = some (.type T.nm)) (he : DE X e w)
    (hnT : x ≠ "__name__" := by decide) (hdT : (x == ("__debug__" : Str)) = false := by decide)
    (hs : starEach [e, .Name x p2] X.env = (false, eval e X.env) :: starEach [.Name x p2] X.env := by rfl) (hs2 : starEach [.Name x p2] X.env = (false, eval (.Name x p2) X.env) :: starEach [] X.env := by rfl)
    (hpl : (backTo pos (starEach [.Name x p2] X.env)).any (·.1) = false := by rfl) : DE X (.Call (.Name "isinstance" p) [e, .Name x p2] [] pos) (wIsi T w) := by
  have hb : bootBuiltins ("isinstance" : Str) = some (.builtin "isinstance") := by decide +kernel
  refine ⟨(pe_callB call_isi hg hm hb (pa_cons he.pe (pa_cons (pe_bltn (v := .ty T.nm) hgT hmT hvT rfl hnT hdT) pa_nil hs2) hs) (by decide) (by decide) hs hpl).imp fun τ H Q h => ?_, fun σ st Q Q' q h => he.mono _ _ _ _ (fun d s h1 => ?_) h⟩
  · obtain ⟨ex, f, σ, st, r, er, h⟩ := h
    refine lE.use he.mono r er h fun f1 H1 d st1 v s1 r1 e1 rd h1 => ?_
    split at h1
    · rename_i b hb
      obtain ⟨t, z1, z2⟩ := tyx r1 rd hb
      exact ⟨v, .ty T.nm, _, _, b, rfl, .ty _, z1, z2, h1 f1 H1 _ s1 r1 (.bl b)⟩
    · exact h1.elim
  · split at h1
    · exact q _ _ h1
    · exact h1.elim

/-! ### repr -/
theorem call_repr (hgu : X.A.guards = some []) : CallR X (.builtin "repr") (fun xs H Q => ∃ x d, xs = [x] ∧ Dp X.K H x d ∧ d.showable = true ∧ d.hasDict = false ∧ X.A.units + (d.depth + 1) < cLine ∧ d.shown.length ≤ sizeLine ∧ Q (.str d.shown) H) := by
  intro pins s τ H xs us Q I r h
  obtain ⟨x, d, rfl, hd, hs, hn, hu, hz, q⟩ := h
  obtain ⟨u, rfl, rx⟩ := vals1 r
  cases hd with
  | non =>
    obtain rfl : u = Value.none := rx
    exact P.repr_of_none ⟨.str _, H, I.tok _, ⟨_, rfl⟩, by simpa [PyData.shown] using q⟩
  | bl b =>
    obtain rfl : u = Value.bool b := rx
    exact P.repr_of_bool ⟨.str _, H, I.tok _, ⟨_, rfl⟩, by simpa [PyData.shown] using q⟩
  | int i =>
    obtain ⟨t, rfl⟩ := rx
    exact P.repr_of_int (by simpa [PyData.showable] using hs) ⟨.str _, H, I.tok _, ⟨_, rfl⟩, by simpa [PyData.shown] using q⟩
  | str z =>
    obtain ⟨t, rfl⟩ := rx
    exact P.repr_of_str ⟨.str _, H, I.tok _, ⟨_, rfl⟩, by simpa [PyData.shown] using q⟩ (by simpa [PyData.shown] using hz)
  | lst h1 h2 =>
    obtain ⟨as, hr⟩ := Dp.reads I _ _ u (Dp.lst h1 h2) rx
    obtain rfl : u = _ := rx
    refine repr_of_reads' hr hs (PyData.noDict_hsm hn) hgu hu (fun _ _ e => e) (fun h' t tk hk => ?_) hz
    exact ⟨.str _, H, I.kept (t' := tk) hk, ⟨_, rfl⟩, q⟩
  | tup h1 h2 =>
    obtain ⟨as, hr⟩ := Dp.reads I _ _ u (Dp.tup h1 h2) rx
    obtain rfl : u = _ := rx
    refine repr_of_reads' hr hs (PyData.noDict_hsm hn) hgu hu (fun _ _ e => e) (fun h' t tk hk => ?_) hz
    exact ⟨.str _, H, I.kept (t' := tk) hk, ⟨_, rfl⟩, q⟩
/-- depth at most 64 -/
def gRepr : Dv → Sto → DK → Prop := fun x st Q => ∃ p, DP st x p ∧ p.showable = true ∧ p.hasDict = false ∧ p.depth ≤ 60 ∧ p.shown.length ≤ sizeLine ∧ Q (.str p.shown) st
theorem cd_repr (hgu : X.A.guards = some []) (hu : X.A.units + 64 < cLine) : CallD X (.builtin "repr") (g1 gRepr) := cd1 (call_repr hgu) (fun x st Q Q' q ⟨p, h1, h2, h3, h4, h5, h6⟩ => ⟨p, h1, h2, h3, h4, h5, q _ _ h6⟩)
  (fun ex f st H x v Q r rd ⟨p, h1, h2, h3, h4, h5, h6⟩ => ⟨v, p, rfl, h1.dp r rd, h2, h3, by omega, h5, h6.self r (.str _)⟩)

/-! ### texts: join -/
abbrev wJoin (a b : DTE) : DTE := fun σ st Q => a σ st fun d st1 => match d with
  | .str s => b σ st1 fun x st2 => ∃ ys : List Str, seqD st2 x = some (ys.map Dv.str) ∧ (ys.map (·.length)).sum + ys.length * s.length ≤ 16777216 ∧ Q (.str (Txt.join s ys)) st2
  | _ => False
theorem de_join {o e : Expr} {wo we : DTE} {apos pos : Pos} (ho : DE X o wo) (he : DE X e we) (hs : starEach [e] X.env = [(false, eval e X.env)] := by rfl) (hbase : attributeBase o "join" X.env (eval o X.env) = eval o X.env := by rfl) (hline : (apos.endLine == pos.line) = true := by rfl) :
    DE X (.Call (.Attribute o "join" apos) [e] [] pos) (wJoin wo we) := by
  refine ⟨(pe_join ho.pe he.pe hs hbase hline).imp fun τ H Q h => ?_, fun σ st Q Q' q h => ho.mono _ _ _ _ (fun d s h1 => ?_) h⟩
  · obtain ⟨ex, f, σ, st, r, er, h⟩ := h
    refine lE.use ho.mono r er h fun f1 H1 d st1 v s1 r1 e1 rd h1 => ?_
    split at h1
    · cases rd
      refine ⟨⟨_, rfl⟩, lE.use he.mono r1 e1 h1 fun f2 H2 x st2 u s2 r2 e2 rx h2 => ?_⟩
      obtain ⟨ys, h3, h4, h5⟩ := h2
      obtain ⟨p, vs, rfl, q, hs⟩ := seq_of r2 rx h3
      obtain rfl := RDs.strs_inv hs
      exact ⟨_, p, ys, rfl, rfl, q, h4, h5 f2 H2 _ (s1.trans s2) r2 (.str _)⟩
    · exact h1.elim
  · split at h1
    · exact he.mono _ _ _ _ (fun x s2 ⟨ys, h3, h4, h5⟩ => ⟨ys, h3, h4, q _ _ h5⟩) h1
    · exact h1.elim

/-! ### methods of cells -/
theorem tyV_cel {n : Nat} (r : RS K ex f st H) (hn : n < st.length) : tyV K "list" (.ref (f n)) H := by
  obtain ⟨vs, e⟩ := r.cel n hn
  exact .inl ⟨rfl, vs, .inl (.inl e)⟩
theorem cel_at {n : Nat} {xs : List Dv} (r : RS K ex f st H) (h : st[n]? = some (.lst xs)) : ∃ vs, H (f n) = some (.lst vs) ∧ RDs K ex f st.length H xs vs := by
  cases r.obj n _ h with
  | lst e hs => exact ⟨_, e, hs⟩
/-- what is written to a cell -/
theorem Af.wrote {n : Nat} {xs : List Dv} {vs : List V} {d : Dv} {v : V} {Q : VK} (h : Af K ex f st.length H Q d (st.set n (.lst xs))) (r : RS K ex f st H) (hn : n < st.length) (hx : RDs K ex f st.length H xs vs) (hd : RD K ex f st.length H d v) : Q v (upd H (f n) (.lst vs)) := by
  have e : (st.set n (Co.lst xs)).length = st.length := by simp
  refine h f _ v (by rw [e]; exact Stp.write hn) (r.write hn hx) ?_
  rw [e]
  exact hd.mono (Stp.write hn) r.cel
abbrev wApp (a b : DTE) : DTE := fun σ st Q => a σ st fun d st1 => match d with
  | .ref n => b σ st1 fun y st2 => ∃ xs, st2[n]? = some (.lst xs) ∧ xs.length < sizeLine ∧ Q .non (st2.set n (.lst (xs ++ [y])))
  | _ => False
theorem de_app {o e : Expr} {wo we : DTE} {apos pos : Pos} (ho : DE X o wo) (he : DE X e we) (hs : starEach [e] X.env = (false, eval e X.env) :: starEach [] X.env := by rfl) (hbase : attributeBase o "append" X.env (eval o X.env) = eval o X.env := by rfl)
    (hfew : ((backTo pos (starEach [e] X.env)).all (fun x => !x.1) && (backToKw pos (keywordEach [] X.env)).all (fun x => x.1.isSome) && decide ([e].length + ([] : List Keyword).length + (if ([] : List Keyword).isEmpty then 0 else 1) < 30)) = true := by rfl)
    (hline : (apos.endLine == pos.line) = true := by rfl) : DE X (.Call (.Attribute o "append" apos) [e] [] pos) (wApp wo we) := by
  refine ⟨(pe_bm PySem.F.plainAttrs_list PySem.F.slot_list_append PySem.F.type_list_append mt_append ho.pe (pa_cons he.pe pa_nil hs) hbase hfew hline hs rfl).imp fun τ H Q h => ?_, fun σ st Q Q' q h => ho.mono _ _ _ _ (fun d s h1 => ?_) h⟩
  · obtain ⟨ex, f, σ, st, r, er, h⟩ := h
    refine lE.use ho.mono r er h fun f1 H1 d st1 v s1 r1 e1 rd h1 => ?_
    split at h1
    · rename_i n
      cases rd with
      | ref _ hn =>
        refine ⟨tyV_cel r1 hn, lE.use he.mono r1 e1 h1 fun f2 H2 y st2 u s2 r2 e2 ry ⟨xs, h2, h3, h4⟩ => ?_⟩
        obtain ⟨vs, e3, hs3⟩ := cel_at r2 h2
        rw [← s2.agree n hn]
        exact ⟨_, vs, u, rfl, rfl, e3, by rw [← hs3.length]; exact h3, (Af.later h4 (s1.trans s2)).wrote r2 (List.getElem?_eq_some_iff.mp h2).1 (hs3.append (.cons ry .nil)) .non⟩
    · exact h1.elim
  · split at h1
    · exact he.mono _ _ _ _ (fun x s2 ⟨xs, h3, h4, h5⟩ => ⟨xs, h3, h4, q _ _ h5⟩) h1
    · exact h1.elim
abbrev wPop (a : DTE) : DTE := fun σ st Q => a σ st fun d st1 => match d with
  | .ref n => ∃ xs y, st1[n]? = some (.lst xs) ∧ xs[xs.length - 1]? = some y ∧ Q y (st1.set n (.lst xs.dropLast))
  | _ => False
theorem RDs.dropLast {ds : List Dv} {vs : List V} (h : RDs K ex f k H ds vs) : RDs K ex f k H ds.dropLast vs.dropLast := by
  rw [List.dropLast_eq_take, List.dropLast_eq_take, ← h.length]
  exact h.take _
theorem de_pop {o : Expr} {wo : DTE} {apos pos : Pos} (ho : DE X o wo) (hbase : attributeBase o "pop" X.env (eval o X.env) = eval o X.env := by rfl) (hline : (apos.endLine == pos.line) = true := by rfl) : DE X (.Call (.Attribute o "pop" apos) [] [] pos) (wPop wo) := by
  refine ⟨(pe_bm0 PySem.F.plainAttrs_list PySem.F.slot_list_pop PySem.F.type_list_pop mt_pop ho.pe hbase hline).imp fun τ H Q h => ?_, fun σ st Q Q' q h => ho.mono _ _ _ _ (fun d s h1 => ?_) h⟩
  · obtain ⟨ex, f, σ, st, r, er, h⟩ := h
    refine lE.use ho.mono r er h fun f1 H1 d st1 v s1 r1 e1 rd h1 => ?_
    split at h1
    · rename_i n
      cases rd with
      | ref _ hn =>
        obtain ⟨xs, y, h2, h3, h4⟩ := h1
        obtain ⟨vs, e3, hs3⟩ := cel_at r1 h2
        obtain ⟨u, e4, ru⟩ := hs3.get h3
        exact ⟨tyV_cel r1 hn, _, vs, u, rfl, rfl, e3, by rw [← hs3.length]; exact e4, (Af.later h4 s1).wrote r1 hn hs3.dropLast ru⟩
    · exact h1.elim
  · split at h1
    · obtain ⟨xs, y, h3, h4, h5⟩ := h1
      exact ⟨xs, y, h3, h4, q _ _ h5⟩
    · exact h1.elim
/-- o.insert(i, e) -/
abbrev wIns (a b c : DTE) : DTE := fun σ st Q => a σ st fun d st1 => match d with
  | .ref n => b σ st1 fun i st2 => c σ st2 fun y st3 => ∃ xs j, i = .int j ∧ st3[n]? = some (.lst xs) ∧ xs.length < sizeLine ∧ 0 ≤ j ∧ j < 2 ^ 63 ∧ Q .non (st3.set n (.lst (xs.take j.toNat ++ [y] ++ xs.drop j.toNat)))
  | _ => False
theorem de_ins {o e e' : Expr} {wo we wf : DTE} {apos pos : Pos} (ho : DE X o wo) (he : DE X e we) (hf : DE X e' wf) (hs : starEach [e, e'] X.env = (false, eval e X.env) :: starEach [e'] X.env := by rfl) (hs2 : starEach [e'] X.env = (false, eval e' X.env) :: starEach [] X.env := by rfl) (hbase : attributeBase o "insert" X.env (eval o X.env) = eval o X.env := by rfl)
    (hfew : ((backTo pos (starEach [e, e'] X.env)).all (fun x => !x.1) && (backToKw pos (keywordEach [] X.env)).all (fun x => x.1.isSome) && decide ([e, e'].length + ([] : List Keyword).length + (if ([] : List Keyword).isEmpty then 0 else 1) < 30)) = true := by rfl)
    (hline : (apos.endLine == pos.line) = true := by rfl) (hpl : (backTo pos (starEach [e'] X.env)).any (·.1) = false := by rfl) : DE X (.Call (.Attribute o "insert" apos) [e, e'] [] pos) (wIns wo we wf) := by
  refine ⟨(pe_bm PySem.F.plainAttrs_list PySem.F.slot_list_insert PySem.F.type_list_insert mt_insert ho.pe (pa_cons he.pe (pa_cons hf.pe pa_nil hs2) hs) hbase hfew hline hs hpl).imp fun τ H Q h => ?_, fun σ st Q Q' q h => ho.mono _ _ _ _ (fun d s h1 => ?_) h⟩
  · obtain ⟨ex, f, σ, st, r, er, h⟩ := h
    refine lE.use ho.mono r er h fun f1 H1 d st1 v s1 r1 e1 rd h1 => ?_
    split at h1
    · rename_i n
      cases rd with
      | ref _ hn =>
        refine ⟨tyV_cel r1 hn, lE.use he.mono r1 e1 h1 fun f2 H2 i st2 u s2 r2 e2 ri h2 => ?_⟩
        refine lE.use hf.mono r2 e2 h2 fun f3 H3 y st3 z s3 r3 e3 ry ⟨xs, j, ej, h3, h4, h5, h6, h7⟩ => ?_
        subst ej
        cases ri
        obtain ⟨vs, e4, hs4⟩ := cel_at r3 h3
        rw [← s2.agree n hn, ← s3.agree n (Nat.lt_of_lt_of_le hn s2.len)]
        exact ⟨_, vs, j, z, rfl, rfl, e4, by rw [← hs4.length]; exact h4, h5, h6, (Af.later h7 ((s1.trans s2).trans s3)).wrote r3 (List.getElem?_eq_some_iff.mp h3).1 (((hs4.take _).append (.cons ry .nil)).append (hs4.drop _)) .non⟩
    · exact h1.elim
  · split at h1
    · exact he.mono _ _ _ _ (fun x s2 h2 => hf.mono _ _ _ _ (fun y s3 ⟨xs, j, h3, h4, h5, h6, h7, h8⟩ => ⟨xs, j, h3, h4, h5, h6, h7, q _ _ h8⟩) h2) h1
    · exact h1.elim
/-- o[i] = e of a cell -/
abbrev wSto (e a b : DTE) : DTS := fun D σ st => e σ st fun y st1 => a σ st1 fun d st2 => b σ st2 fun i st3 => match d, i with
  | .ref n, .int j => ∃ xs m, st3[n]? = some (.lst xs) ∧ ixN xs.length j = some m ∧ D.nx σ (st3.set n (.lst (xs.set m y)))
  | _, _ => False
theorem ds_sto {o i e : Expr} {wo wi we : DTE} {pos p2 : Pos} (he : DE X e we) (ho : DE X o wo) (hi : DE X i wi) (hs : swapsWithSole [.Subscript o i p2] e pos.line X.env = pure false := by rfl) (hw : swappedStores [.Subscript o i p2] e X.env = pure none := by rfl)
    (h1 : (assignEach [Expr.Subscript o i p2] X.env).map (·.2) = [assign (.Subscript o i p2) X.env] := by rfl)
    (ha : ∀ v, assign (.Subscript o i p2) X.env v = (do
      let ov ← holding [v] (eval o X.env)
      let iv ← holding [v, ov] (eval i X.env)
      standAt p2
      holding [v, ov, iv] (setItem ov iv v)
      release [v, ov, iv] []) := by intro _; rfl) : DS X (.Assign [.Subscript o i p2] e pos) (wSto we wo wi) := by
  refine ⟨(ps_asg he.pe (pg_sub ho.pe hi.pe set_list ha) hs hw h1).imp fun D τ H h => ?_, fun σ st D D' l h => he.mono _ _ _ _ (fun y s h1 => ho.mono _ _ _ _ (fun d s2 h2 => hi.mono _ _ _ _ (fun j s3 h3 => ?_) h2) h1) h⟩
  · obtain ⟨ex, f, σ, st, r, er, h⟩ := h
    refine lE.use he.mono r er h fun f1 H1 y st1 v s1 r1 e1 ry h1 => ?_
    refine lE.use ho.mono r1 e1 h1 fun f2 H2 d st2 u s2 r2 e2 rd h2 => ?_
    refine lE.use hi.mono r2 e2 h2 fun f3 H3 j st3 z s3 r3 e3 rj h3 => ?_
    split at h3
    · rename_i n j
      cases rd with
      | ref _ hn =>
        cases rj
        obtain ⟨xs, m, h4, h5, h6⟩ := h3
        obtain ⟨vs, e4, hs4⟩ := cel_at r3 h4
        rw [← s3.agree n hn]
        refine ⟨_, vs, _, m, rfl, rfl, e4, by rw [← hs4.length]; exact h5, ?_⟩
        have hl := (List.getElem?_eq_some_iff.mp h4).1
        have eq : (st3.set n (Co.lst (xs.set m y))).length = st3.length := by simp
        refine h6 f3 _ τ (by rw [eq]; exact ((s1.trans s2).trans s3).trans (Stp.write hl)) (r3.write hl (RDs.set ((ry.mono s2 r1.cel).mono s3 r2.cel) m hs4)) ?_
        rw [eq]
        exact e3.mono (Stp.write hl) r3.cel
    · exact h3.elim
  · split at h3
    · obtain ⟨xs, m, h4, h5, h6⟩ := h3
      exact ⟨xs, m, h4, h5, l.nx _ _ h6⟩
    · exact h3.elim

/-! ### a tuple taken apart -/
abbrev wAsgT (t : Tg) (a : DTE) : DTS := fun D σ st => a σ st fun d st1 => ∃ σ2, tgD t d σ = some σ2 ∧ D.nx σ2 st1
theorem ds_asgT {tg e : Expr} {w : DTE} {t : Tg} {pos : Pos} (he : DE X e w) (hg : PG X tg (tgV X.K t)) (hs : swapsWithSole [tg] e pos.line X.env = pure false := by rfl) (hw : swappedStores [tg] e X.env = pure none := by rfl)
    (h1 : (assignEach [tg] X.env).map (·.2) = [assign tg X.env] := by rfl) : DS X (.Assign [tg] e pos) (wAsgT t w) := by
  refine ⟨(ps_asg he.pe hg hs hw h1).imp fun D τ H h => ?_, fun σ st D D' l h => he.mono _ _ _ _ (fun d s ⟨σ2, h1, h2⟩ => ⟨σ2, h1, l.nx _ _ h2⟩) h⟩
  obtain ⟨ex, f, σ, st, r, er, h⟩ := h
  refine lE.use he.mono r er h fun f1 H1 d st1 v s1 r1 e1 rd ⟨σ2, h1, h2⟩ => ?_
  exact tg_ok e1 rd h1 fun τ' e' _ => h2 f1 H1 τ' s1 r1 e'
abbrev wPar3 (i j l : Nat) (a b c : DTE) : DTS := fun D σ st => a σ st fun d st1 => b σ st1 fun e st2 => c σ st2 fun g st3 => D.nx (((σ.set i (some d)).set j (some e)).set l (some g)) st3
theorem ds_par3 {i j l : Nat} {x y z : Str} {a b c : Expr} {wa wb wc : DTE} {px py pz pt pos : Pos} {kt k2 pt2} (h : ∀ {ta : TA}, PA X [a, b, c] ta → PS X (.Assign [.Tuple [.Name x px, .Name y py, .Name z pz] kt pt] (.Tuple [a, b, c] k2 pt2) pos) (tPar3 i j l ta)) (ha : DE X a wa) (hb : DE X b wb) (hc : DE X c wc)
    (h1 : starEach [a, b, c] X.env = (false, eval a X.env) :: starEach [b, c] X.env := by rfl) (h2 : starEach [b, c] X.env = (false, eval b X.env) :: starEach [c] X.env := by rfl) (h3 : starEach [c] X.env = (false, eval c X.env) :: starEach [] X.env := by rfl) :
    DS X (.Assign [.Tuple [.Name x px, .Name y py, .Name z pz] kt pt] (.Tuple [a, b, c] k2 pt2) pos) (wPar3 i j l wa wb wc) := by
  refine ⟨(h (pa_cons ha.pe (pa_cons hb.pe (pa_cons hc.pe pa_nil h3) h2) h1)).imp fun D τ H h => ?_, fun σ st D D' l h => ha.mono _ _ _ _ (fun d s h1 => hb.mono _ _ _ _ (fun e s2 h2 => hc.mono _ _ _ _ (fun g s3 => l.nx _ _) h2) h1) h⟩
  obtain ⟨ex, f, σ, st, r, er, h⟩ := h
  refine lE.use ha.mono r er h fun f1 H1 d st1 v s1 r1 e1 rd h1 => ?_
  refine lE.use hb.mono r1 e1 h1 fun f2 H2 e st2 u s2 r2 e2 re h2 => ?_
  refine lE.use hc.mono r2 e2 h2 fun f3 H3 g st3 t s3 r3 e3 rg h3 => ?_
  exact ⟨v, u, t, rfl, h3 f3 H3 _ ((s1.trans s2).trans s3) r3 (((e3.set ((rd.mono s2 r1.cel).mono s3 r2.cel)).set (re.mono s3 r2.cel)).set rg)⟩

/-! ### instances that never change -/
def spIni (C : Addr) (ns : List Str) : Sp := fun vs H Q _ => ∃ (p dx : Addr) (as : List V), vs = .ref p :: as ∧ as.length = ns.length ∧ H p = some (.ins C dx []) ∧ Q .non (upd H p (.ins C dx (ns.zip as)))
abbrev wMake (C : Addr) (ns : List Str) (a : DTA) : DTE := fun σ st Q => a σ st fun ds st1 => ds.length = ns.length ∧ Q (.obj C ns ds) st1
theorem de_make {C g : Addr} {kk : Nat} {fd : FuncData} {ps ns : List Str} {x : Str} {p pos : Pos} {e : Expr} {es : List Expr} {wa : DTA} (M : Mk X.K C g) (F : FnOk X.prog X.w X.K X.mg X.base CX0 kk g fd ps (spIni C ns)) (hr : Room (kk + 1) X.A) (hg : Gl X x) (hm : X.mg x = some (.ref C)) (hb : Binds X.K fd ps [])
    (ha : DA X (e :: es) wa) (hdb : (x == ("__debug__" : Str)) = false := by decide) (he : starEach (e :: es) X.env = (false, eval e X.env) :: starEach es X.env := by rfl) (hpl : (backTo pos (starEach es X.env)).any (·.1) = false := by rfl) :
    DE X (.Call (.Name x p) (e :: es) [] pos) (wMake C ns wa) := by
  refine ⟨(pe_make M F hr hg hm hb .nil pass0 ha.pa hdb he hpl).imp fun τ H Q h => ?_, fun σ st Q Q' q h => ha.mono _ _ _ _ (fun ds s h1 => ⟨h1.1, q _ _ h1.2⟩) h⟩
  obtain ⟨ex, f, σ, st, r, er, h⟩ := h
  refine lA.use ha.mono r er h fun f1 H1 ds st1 vs s1 r1 e1 rds ⟨h1, h2⟩ y dx ny ndx ne => ?_
  rw [List.append_nil]
  refine ⟨y, dx, vs, rfl, by rw [← rds.length]; exact h1, upd_same, rfl, ?_⟩
  rw [upd_upd]
  have n2 : (upd H1 dx (.own y)) y = none := by rw [upd_ne (Ne.symm ne)]; exact ny
  have S1 : Stp f1 st1.length H1 f1 st1.length (upd H1 dx (.own y)) := Stp.new ndx
  have S2 : Stp f1 st1.length (upd H1 dx (.own y)) f1 st1.length (upd (upd H1 dx (.own y)) y (.ins C dx (ns.zip vs))) := Stp.new n2
  have r2 := (r1.new (o := .own y) ndx).new (o := .ins C dx (ns.zip vs)) n2
  have hl := rds.length
  refine h2 f1 _ _ ((s1.trans S1).trans S2) r2 (.obj upd_same (List.map_fst_zip (by omega)) ?_)
  rw [List.map_snd_zip (by omega)]
  exact (rds.mono S1 r1.cel).mono S2 (r1.new (o := .own y) ndx).cel
theorem obj_lookup {fl : Str} {d : Dv} : ∀ {fs : List (Str × V)} {xs : List Dv}, RDs K ex f k H xs (fs.map (·.2)) → ((fs.map (·.1)).zip xs).lookup fl = some d → ∃ v, fs.lookup fl = some v ∧ RD K ex f k H d v
  | [], _, _, e => by simp at e
  | (g, v) :: fs, x :: xs, .cons h hs, e => by
    simp only [List.map_cons, List.zip_cons_cons, List.lookup_cons] at e ⊢
    cases hb : fl == g with
    | true =>
      rw [hb] at e
      cases e
      exact ⟨v, rfl, h⟩
    | false =>
      rw [hb] at e
      exact obj_lookup hs e
abbrev wFld (C : Addr) (fl : Str) (a : DTE) : DTE := fun σ st Q => a σ st fun d st1 => match d with
  | .obj C' ns xs => C' = C ∧ ∃ v, (ns.zip xs).lookup fl = some v ∧ Q v st1
  | _ => False
theorem de_fld {C : Addr} {fl : Str} {e : Expr} {w : DTE} {pos : Pos} (c : Cls X.K C) (n : NoAttr X.K C fl) (he : DE X e w) (hb : attributeBase e fl X.env (eval e X.env) = eval e X.env := by rfl) : DE X (.Attribute e fl pos) (wFld C fl w) := by
  refine ⟨(pe_fld he.pe hb).imp fun τ H Q h => ?_, fun σ st Q Q' q h => he.mono _ _ _ _ (fun d s h1 => ?_) h⟩
  · obtain ⟨ex, f, σ, st, r, er, h⟩ := h
    refine lE.use he.mono r er h fun f1 H1 d st1 v s1 r1 e1 rd h1 => ?_
    split at h1
    · obtain ⟨rfl, y, h2, h3⟩ := h1
      cases rd with
      | obj ea en hs =>
        subst en
        obtain ⟨u, h4, ru⟩ := obj_lookup hs h2
        exact ⟨_, _, _, _, u, rfl, ea, c, n, h4, h3 f1 H1 u s1 r1 ru⟩
    · exact h1.elim
  · split at h1
    · obtain ⟨h2, v, h3, h4⟩ := h1
      exact ⟨h2, v, h3, q _ _ h4⟩
    · exact h1.elim

/-! ### methods of a tuple whose object is known -/
theorem pe_tm {o e : Expr} {es : List Expr} {to : TE} {t : TA} {name : Str} {apos cpos : Pos} {id : String} {r : V → List V → Hp → VK → Prop} (slot : Slot "tuple" name id) (hty : typeOf (.builtin id) = pure (.type "method_descriptor")) (hm : MtR X id r) (ho : PE X o to) (ha : PA X (e :: es) t)
    (hbase : attributeBase o name X.env (eval o X.env) = eval o X.env := by rfl)
    (hfew : ((backTo cpos (starEach (e :: es) X.env)).all (fun x => !x.1) && (backToKw cpos (keywordEach [] X.env)).all (fun x => x.1.isSome) && decide ((e :: es).length + ([] : List Keyword).length + (if ([] : List Keyword).isEmpty then 0 else 1) < 30)) = true := by rfl)
    (hline : (apos.endLine == cpos.line) = true := by rfl) (hs : starEach (e :: es) X.env = (false, eval e X.env) :: starEach es X.env := by rfl) (hplain : (backTo cpos (starEach es X.env)).any (·.1) = false := by rfl) :
    PE X (.Call (.Attribute o name apos) (e :: es) [] cpos) (fun τ H Q => to τ H fun x H1 => (∃ a ob vs, x = .ref a ∧ H1 a = some (.frz ob (.tup vs)) ∧ ob.dict = none) ∧ t τ H1 fun xs H2 => r x xs H2 Q) := by
  refine ⟨fun pins s τ H Q I h => ?_⟩
  refine wpAny_Call_method_late hbase hfew hline rfl (thn (ho.run pins s τ H _ I h) fun v s1 z => ?_)
  obtain ⟨x, H1, I1, r1, ⟨a, ob, vs, rfl, eo, hd⟩, q1⟩ := z
  obtain rfl : v = Value.ref a := r1
  obtain ⟨h1, _, its, _, ob2, h2, hc, _⟩ := (show ObjOk X.prog X.w H1 s1.heap a (.frz ob (.tup vs)) from I1.hok a _ eo)
  rw [h1] at h2
  cases h2
  refine ⟨"tuple", id, PySem.F.plainAttrs_tuple, slot, hty, ⟨ob, h1, hc⟩, fun b e2 => ?_, ?_⟩
  · cases e2
    exact ⟨ob, h1, hd⟩
  · have hA := ha.run cpos pins s1 τ H1 _ I1 q1
    rw [hs] at hA ⊢
    refine Calls.callWith_builtin (by show (false || (backTo cpos (starEach es X.env)).any (·.1)) = false; rw [hplain] <;> rfl) (Calls.evalArgs_plain (thn hA fun us s2 y => ?_))
    obtain ⟨ys, H2, I2, r2, q2⟩ := y
    exact hm pins s2 τ H2 (.ref a) ys _ us Q I2 (show L2.RelV (.ref a) (Value.ref a) from rfl) r2 q2
abbrev wTix (a b : DTE) : DTE := fun σ st Q => a σ st fun d st1 => match d with
  | .tux xs => b σ st1 fun y st2 => ∃ (ys : List Str) (z : Str) (j : Nat), xs = ys.map Dv.str ∧ y = .str z ∧ ys[j]? = some z ∧ (∀ m, m < j → ys[m]? ≠ some z) ∧ Q (.int (j : Nat)) st2
  | _ => False
theorem de_tix {o e : Expr} {wo we : DTE} {apos pos : Pos} (ho : DE X o wo) (he : DE X e we) (hs : starEach [e] X.env = (false, eval e X.env) :: starEach [] X.env := by rfl) (hbase : attributeBase o "index" X.env (eval o X.env) = eval o X.env := by rfl)
    (hfew : ((backTo pos (starEach [e] X.env)).all (fun x => !x.1) && (backToKw pos (keywordEach [] X.env)).all (fun x => x.1.isSome) && decide ([e].length + ([] : List Keyword).length + (if ([] : List Keyword).isEmpty then 0 else 1) < 30)) = true := by rfl)
    (hline : (apos.endLine == pos.line) = true := by rfl) : DE X (.Call (.Attribute o "index" apos) [e] [] pos) (wTix wo we) := by
  refine ⟨(pe_tm PySem.F.slot_tuple_index PySem.F.type_tuple_index mt_tup_index ho.pe (pa_cons he.pe pa_nil hs) hbase hfew hline hs rfl).imp fun τ H Q h => ?_, fun σ st Q Q' q h => ho.mono _ _ _ _ (fun d s h1 => ?_) h⟩
  · obtain ⟨ex, f, σ, st, r, er, h⟩ := h
    refine lE.use ho.mono r er h fun f1 H1 d st1 v s1 r1 e1 rd h1 => ?_
    split at h1
    · cases rd with
      | tux ea hsx =>
        obtain ⟨ob, ea, hd⟩ := ea
        refine ⟨⟨_, ob, _, rfl, ea, hd⟩, lE.use he.mono r1 e1 h1 fun f2 H2 y st2 u s2 r2 e2 ry ⟨ys, z, j, h2, h3, h4, h5, h6⟩ => ?_⟩
        subst h2
        subst h3
        cases ry
        have rd2 := (RD.tux ⟨ob, ea, hd⟩ hsx).mono s2 r1.cel
        cases rd2 with
        | tux eb hsb =>
          obtain rfl := RDs.strs_inv hsb
          exact ⟨_, ys, z, j, rfl, rfl, .inl (.inr (eb.imp fun _ q => q.1)), h4, h5, h6 f2 H2 _ (s1.trans s2) r2 (.int _)⟩
    · exact h1.elim
  · split at h1
    · exact he.mono _ _ _ _ (fun x s2 ⟨ys, z, j, h2, h3, h4, h5, h6⟩ => ⟨ys, z, j, h2, h3, h4, h5, q _ _ h6⟩) h1
    · exact h1.elim
end

/-! ### the law's end -/
def sLawOf (Sc : List Int → Prop) : Spec := ⟨List Int, fun ns => [.fro (ns.map Dv.int)], fun _ => [], fun ns => ns.length ≤ 63 ∧ Sc ns, fun _ d st => d = .bl true⟩
abbrev sLaw0 : Spec := sLawOf fun _ => True
theorem law_end {P : Program} {w : World} {K : PySem.W.Frag} {mg mb : Str → Option Value} {k : Nat} {fa a : Addr} {fd : FuncData} {x : Str} {s₁ : Shared} {vs : List Value} {ns : List Int}
    (KX : K.In s₁.heap) (hns : s₁.heap.Ns mainGlobals mg) (hb : s₁.heap.Ns builtinsNs mb) (hbb : ∀ x : Str, x ≠ "__name__" → mb x = bootBuiltins x) (hlim : s₁.heap.NoLimit) (hg : s₁.gens = #[])
    (ha : s₁.heap.get? a = some { cls := .type "list", data := .seq vs.toArray }) (hi : IntsAre vs ns) (hl : ns.length ≤ 63) (hr : Room k callerA)
    (F : ∀ base : Heap, K.In base → base.Ns mainGlobals mg → DFn P w K mg base k fa fd [x] sLaw0) (hbind : ∀ (s : Shared) (u : Value), BindsTo s fd ⟨[u], []⟩ [(x, u)]) :
    codeAny (model P w) callerA (.call (.ref fa) ⟨[.ref a], []⟩) (fun r s' => r = .ok (.ret (.bool true)) ∧ OldK s₁.heap s'.heap ∧ s'.os = s₁.os ∧ AllBare s'.gens) s₁ := by
  have rv : Vals (ns.map V.int) vs := vals_ints hi
  have hz : ns.length ≤ sizeLine := Nat.le_trans hl (by decide)
  -- the abstract heap: the script alone (or nothing, where it is one of the written things)
  have main : ∀ H0 : Hp, (∀ b u, H0 b = some u → b = a ∧ K.lookup a = none ∧ ∃ o xs, u = .frz o (.lst xs)) → (Rd H0 a (.lst (ns.map V.int)) ∨ KL K a (ns.map V.int)) → HOk P w H0 s₁.heap →
      codeAny (model P w) callerA (.call (.ref fa) ⟨[.ref a], []⟩) (fun r s' => r = .ok (.ret (.bool true)) ∧ OldK s₁.heap s'.heap ∧ s'.os = s₁.os ∧ AllBare s'.gens) s₁ := by
    intro H0 h0 hs hok
    have free : ∀ b, b ≠ a → H0 b = none := fun b hb => by
      cases q : H0 b with
      | none => rfl
      | some u => exact absurd (h0 b u q).1 hb
    have freeD : ∀ b o es ep, s₁.heap.get? b = some o → o.data = .dict es ep → H0 b = none := fun b o es ep e d => free b fun z => by
      rw [z, ha] at e
      cases e
      cases d
    have nsB : ∀ {b : Addr} {m : Str → Option Value}, s₁.heap.Ns b m → (hidT s₁.heap H0).Ns b m := fun {b m} z => by
      obtain ⟨o, es, ep, e, d, r⟩ := z
      exact ⟨o, es, ep, hidT_get e (freeD b o es ep e d), d, r⟩
    have kB : K.In (hidT s₁.heap H0) := fun b o e => hidT_get (KX b o e) (by
      cases q : H0 b with
      | none => rfl
      | some u =>
        obtain ⟨rfl, hk, _⟩ := h0 b u q
        rw [hk] at e
        cases e)
    obtain ⟨mc, hc1, hc2⟩ := hlim
    have e0 : Env0 P w K mg (hidT s₁.heap H0) callerA [] s₁ H0 :=
      ⟨rfl, ⟨kB, nsB hns, ⟨mb, nsB hb, hbb⟩, ⟨mc, nsB hc1, hc2⟩⟩, fun b o e => of_hidT e, Nat.le_of_eq (hidT_size _ _), trivial, fun b hb => absurd hb List.not_mem_nil, hok, .of_eq hg⟩
    have hsp : lSp K sLaw0 [.ref a] H0 (fun v _ => v = .bl true) (fun _ _ _ => False) := by
      refine ⟨fun _ => False, fun _ => 0, ns, ⟨fun m n hm => absurd hm (Nat.not_lt_zero _), fun n c e => absurd (show ([] : List Co)[n]? = some c from e) (by rw [List.getElem?_nil]; exact fun z => nomatch z), fun a q => q.elim, fun n hn => absurd hn (Nat.not_lt_zero _)⟩, .cons (.fro ?_ (RDs.ints ns)) .nil, ⟨hl, trivial⟩, fun d st' f' H' v hd s r rd => ?_⟩
      · exact hs.imp (fun q => ⟨q, fun z => z, fun n hn => absurd hn (Nat.not_lt_zero _)⟩) id
      · rw [show d = .bl true from hd] at rd
        cases rd
        rfl
    refine codeAny_mono ((F _ kB (nsB hns)).run callerA [] s₁ H0 ⟨[.ref a], []⟩ [.ref a] [.ref a] _ _ rfl hr e0 (hbind s₁ (.ref a)) (.cons rfl .nil) hsp) fun r s' h => ?_
    cases r with
    | error e => exact h.elim
    | ok fl =>
      cases fl with
      | ret u =>
        obtain ⟨v, H', os, bare, un, hok', r', q⟩ := h
        obtain rfl : v = .bl true := q
        obtain rfl : u = Value.bool true := r'
        refine ⟨rfl, OldK.of_keep fun b o e => ?_, os, bare⟩
        cases q : H0 b with
        | none => exact un.keep b o e q List.not_mem_nil List.not_mem_nil
        | some u =>
          obtain ⟨_, _, ob, xs, rfl⟩ := h0 b u q
          have z1 := (hok b _ q).1
          have z2 := (hok' b _ (un.frzs b ob _ q)).1
          rw [e] at z1
          cases z1
          exact z2
      | _ => exact h.elim
  cases hk : K.lookup a with
  | some o =>
    have e := KX a o hk
    rw [ha] at e
    cases e
    exact main (fun _ => none) (fun b u z => nomatch z) (.inr ⟨_, vs.toArray, _, hk, rfl, rfl, rfl, by rw [List.size_toArray, hi.length]; exact hz, rv⟩) fun b u z => nomatch z
  | none =>
    have hat : ∀ b u, (if b = a then some (HO.frz { cls := .type "list", data := .seq vs.toArray } (.lst (ns.map V.int))) else none) = some u → b = a ∧ u = .frz { cls := .type "list", data := .seq vs.toArray } (.lst (ns.map V.int)) := fun b u z => by
      split at z
      · rename_i hb
        cases z
        exact ⟨hb, rfl⟩
      · cases z
    refine main (fun b => if b = a then some (.frz { cls := .type "list", data := .seq vs.toArray } (.lst (ns.map V.int))) else none) (fun b u z => ?_) (.inl (.inr ⟨_, if_pos rfl⟩)) fun b u z => ?_
    · obtain ⟨h1, h2⟩ := hat b u z
      exact ⟨h1, hk, _, _, h2⟩
    · obtain ⟨rfl, rfl⟩ := hat b u z
      exact ⟨ha, by rw [List.length_map]; exact hz, vs, _, rv, ha⟩
theorem walkD {l : PySem.W.OpenLaw} {k : Nat} {q : Program} {loose : List Str} {XP : (Str → Option Value) → Heap → Prop} {YP : World → Heap → Prop} {d : DefRec} {K : Params → PySem.W.Frag} {x : Str}
    (hn : l.most = some 63) (hdf : d.params.defaults = []) (hr : Room k callerA) (hY : ∀ (w : World) (h : Heap), YP w h → (K w.params).In h)
    (F : ∀ (w : World) (mg : Str → Option Value) (fa : Addr) (h : Heap), (K w.params).In h → h.Ns mainGlobals mg → mg d.name = some (.ref fa) →
      ∃ fd : FuncData, (∀ (s : Shared) (u : Value), BindsTo s fd ⟨[u], []⟩ [(x, u)]) ∧ ∀ base : Heap, (K w.params).In base → base.Ns mainGlobals mg → DFn l.prog w (K w.params) mg base k fa fd [x] sLaw0) :
    PySem.W.WalkO q loose XP YP l.row.toRowW d [] (fun f vs => PySem.call f vs) := by
  refine Att.attach_call hn hdf fun w s₀ s₁ mg mb fa o pm cd doc a vs ns G Y ho hd hcd hmg hobj hints hlen hg => ?_
  obtain ⟨fd, hb, hF⟩ := F w mg fa _ (hY w _ Y) G.T.g hmg
  exact law_end (hY w _ Y) G.T.g G.T.b G.T.builtins G.T.nolimit hg hobj hints hlen hr hF hb
end D2

/-! DL, part g: promises of two kinds (a function of its arguments; a draw), their calls; comprehensions and loops by turns. -/
namespace D2
open PySem PySem.Spec PyProof.Rows L2

/-- a def as the program's top has written it -/
structure Fn1 (K : PySem.W.Frag) (mg : Str → Option Value) (x : Str) (st : Stmt) (ps : List Str) where
  f : Addr
  fd : FuncData
  F : Fun K x x st f fd
  b : Binds K fd ps []
  m : mg x = some (.ref f)

theorem DE.imp {X : Cx} {e : Expr} {w u : DTE} (h : DE X e w) (m : MonoE u) (i : ∀ σ st Q, u σ st Q → w σ st Q) : DE X e u :=
  ⟨h.pe.imp fun τ H Q ⟨ex, f, σ, st, r, er, q⟩ => ⟨ex, f, σ, st, r, er, i _ _ _ q⟩, m⟩

/-! ### a function of its arguments -/
def Spec.fn {I : Type} (args : I → List Dv) (pre : I → Prop) (F : I → Dv → Prop) : Spec := ⟨I, args, fun _ => [], pre, fun i d st => st = [] ∧ Nr d ∧ F i d⟩
abbrev wFn {I : Type} (args : I → List Dv) (pre : I → Prop) (F : I → Dv → Prop) (a : DTA) : DTE := fun σ st Q => a σ st fun ds st1 => ∃ i, ds = args i ∧ Nrs ds ∧ pre i ∧ ∀ d, Nr d → F i d → Q d st1
theorem wFn_mono {I : Type} {args : I → List Dv} {pre : I → Prop} {F : I → Dv → Prop} {a : DTA} (m : MonoA a) : MonoE (wFn args pre F a) :=
  fun σ st Q Q' q h => m _ _ _ _ (fun ds s1 ⟨i, h1, h2, h3, h4⟩ => ⟨i, h1, h2, h3, fun d n hp => q _ _ (h4 d n hp)⟩) h
theorem DE.fn {X : Cx} {e : Expr} {I : Type} {args : I → List Dv} {pre : I → Prop} {F : I → Dv → Prop} {a : DTA} (h : DE X e (wPure (Spec.fn args pre F) a)) (m : MonoA a) : DE X e (wFn args pre F a) :=
  h.imp (wFn_mono m) fun σ st Q q => m _ _ _ _ (fun ds s1 ⟨i, h1, h2, h3, h4⟩ => ⟨i, h1, h2, rfl, h3, fun d st2 hp => ⟨hp.1, hp.2.1, h4 d hp.2.1 hp.2.2⟩⟩) q

/-! ### a draw -/
def DSt (b : Int) (cs : List Int) (rest : Sto) : Sto := .lst (cs.map Dv.int) :: .lst [.ref 0, .int b] :: rest
def okD (b : Int) (cs : List Int) : Prop := 0 ≤ b ∧ b < 2147483647 ∧ (∀ c ∈ cs, 0 ≤ c) ∧ cs.length ≤ 63
/-- a store from which one draws: its other cells are rest -/
def Dr (rest : Sto) (st : Sto) : Prop := ∃ b cs, okD b cs ∧ st = DSt b cs rest
def Spec.dr {I : Type} (args : I → List Dv) (pre : Sto → I → Prop) (F : I → Dv → Prop) : Spec :=
  ⟨Int × List Int × Sto × I, fun i => .ref 1 :: args i.2.2.2, fun i => DSt i.1 i.2.1 i.2.2.1, fun i => okD i.1 i.2.1 ∧ pre i.2.2.1 i.2.2.2, fun i d st => Dr i.2.2.1 st ∧ F i.2.2.2 d⟩
abbrev wDr {I : Type} (args : I → List Dv) (pre : Sto → I → Prop) (F : I → Dv → Prop) (a : DTA) : DTE := fun σ st Q => a σ st fun ds st1 => ∃ rest i, Dr rest st1 ∧ ds = .ref 1 :: args i ∧ pre rest i ∧ ∀ d st2, Dr rest st2 → F i d → Q d st2
theorem wDr_mono {I : Type} {args : I → List Dv} {pre : Sto → I → Prop} {F : I → Dv → Prop} {a : DTA} (m : MonoA a) : MonoE (wDr args pre F a) :=
  fun σ st Q Q' q h => m _ _ _ _ (fun ds s1 ⟨r, i, h1, h2, h3, h4⟩ => ⟨r, i, h1, h2, h3, fun d n h5 hp => q _ _ (h4 d n h5 hp)⟩) h
theorem DE.dr {X : Cx} {e : Expr} {I : Type} {args : I → List Dv} {pre : Sto → I → Prop} {F : I → Dv → Prop} {a : DTA} (h : DE X e (wCall (Spec.dr args pre F) a)) (m : MonoA a) : DE X e (wDr args pre F a) :=
  h.imp (wDr_mono m) fun σ st Q q => m _ _ _ _ (fun ds s1 ⟨r, i, ⟨b, cs, ok, e⟩, h2, h3, h4⟩ => ⟨(b, cs, r, i), h2, e, ⟨ok, h3⟩, fun d st2 hp => h4 d st2 hp.1 hp.2⟩) q

/-! ### the calls, as rules -/
section
variable {X : Cx} {k : Nat} {fa : Addr} {fd : FuncData} {ps ks : List Str} {x : Str} {p pos : Pos} {e : Expr} {es : List Expr} {kws : List Keyword} {wa wk : DTA} {I : Type} {args : I → List Dv} {pre : I → Prop} {preD : Sto → I → Prop} {R : I → Dv → Prop}
theorem de_fn (F : DFn X.prog X.w X.K X.mg X.base k fa fd ps (Spec.fn args pre R)) (hgu : X.A.guards = some []) (hr : Room k X.A) (hg : Gl X x) (hm : X.mg x = some (.ref fa)) (hk : PySem.W.keepIn X.K (.ref fa) = true) (hb : Binds X.K fd ps [])
    (ha : DA X (e :: es) wa) (hdb : (x == ("__debug__" : Str)) = false := by decide) (he : starEach (e :: es) X.env = (false, eval e X.env) :: starEach es X.env := by rfl) (hpl : (backTo pos (starEach es X.env)).any (·.1) = false := by rfl) :
    DE X (.Call (.Name x p) (e :: es) [] pos) (wFn args pre R wa) := (de_pure F hgu hr hg hm hk hb ha hdb he hpl).fn ha.mono
theorem de_dr (F : DFn X.prog X.w X.K X.mg X.base k fa fd ps (Spec.dr args preD R)) (hgu : X.A.guards = some []) (hr : Room k X.A) (hg : Gl X x) (hm : X.mg x = some (.ref fa)) (hk : PySem.W.keepIn X.K (.ref fa) = true) (hb : Binds X.K fd ps [])
    (ha : DA X (e :: es) wa) (hdb : (x == ("__debug__" : Str)) = false := by decide) (he : starEach (e :: es) X.env = (false, eval e X.env) :: starEach es X.env := by rfl) (hpl : (backTo pos (starEach es X.env)).any (·.1) = false := by rfl) :
    DE X (.Call (.Name x p) (e :: es) [] pos) (wDr args preD R wa) := (de_call F hgu hr hg hm hk hb ha hdb he hpl).dr ha.mono
variable {g : List Value → List Value → List Value} {gV : List V → List V → List V} {gD : List Dv → List Dv → List Dv}
theorem de_fn0 (F : DFn X.prog X.w X.K X.mg X.base k fa fd ps (Spec.fn args pre R)) (hgu : X.A.guards = some []) (hr : Room k X.A) (hg : Gl X x) (hm : X.mg x = some (.ref fa)) (hk : PySem.W.keepIn X.K (.ref fa) = true) (hb : KB fd ps ks 0 g gV) (hG : GRel 0 ks.length gD gV)
    (hkw : DK1 X kws wk) (hall : (backToKw pos (keywordEach kws X.env)).all (·.1.isSome) = true := by rfl) (hks : (backToKw pos (keywordEach kws X.env)).filterMap (·.1) = ks := by rfl)
    (hdb : (x == ("__debug__" : Str)) = false := by decide) (hpl : ((backTo pos (starEach [] X.env)).any (·.1) || (backToKw pos (keywordEach kws X.env)).any (·.1.isNone)) = false := by rfl) :
    DE X (.Call (.Name x p) [] kws pos) (wFn args pre R (wOrd 0 ks.length gD wNil wk)) := (de_pure0 F hgu hr hg hm hk hb hG hkw hall hks hdb hpl).fn (wOrd_mono (da_nil (X := X)).mono hkw.mono)
end

/-! ### comprehensions by turns -/
/-- each turn makes one item, the cells as in R -/
theorem lc_all {t : Tg} {we : DTE} {vs : List Nat} {σ : En} {st1 : Sto} {Q : List Dv → Sto → Prop} {xs : List Dv} {R : Sto → Prop} {P : Nat → Dv → Prop}
    (h0 : R st1) (hz : xs.length ≤ sizeLine)
    (turn : ∀ (i : Nat) (x : Dv) (st' : Sto), xs[i]? = some x → R st' → ∃ σ2, tgD t x (wipeD σ vs) = some σ2 ∧ ∀ Q' : DK, (∀ y st3, P i y → R st3 → Q' y st3) → we σ2 st' Q')
    (fin : ∀ ys st', R st' → ys.length = xs.length → (∀ i y, ys[i]? = some y → P i y) → Q ys st') : lcIn t wYes we vs σ Q xs none st1 := by
  unfold lcIn
  refine ⟨fun i acc st' => R st' ∧ acc.length = i ∧ ∀ j y, acc[j]? = some y → P j y, ⟨h0, rfl, fun j y e => by simp at e⟩, fun _ _ _ _ n e => (nomatch e), fun i x acc st' e ⟨hR, hl, hP⟩ => ?_, fun acc st' ⟨hR, hl, hP⟩ => fin acc st' hR hl hP⟩
  have hi2 : i < xs.length := (List.getElem?_eq_some_iff.mp e).1
  refine ⟨by omega, ?_⟩
  obtain ⟨σ2, h1, h2⟩ := turn i x st' e hR
  refine ⟨σ2, h1, ?_⟩
  simp only [wYes, ↓reduceIte]
  refine h2 _ (fun y st3 h3 hR3 => ⟨hR3, by simp [hl], fun j z ez => ?_⟩)
  by_cases hj : j < acc.length
  · rw [List.getElem?_append_left hj] at ez
    exact hP j z ez
  · rw [List.getElem?_append_right (by omega)] at ez
    have e0 : j - acc.length = 0 := by
      have := (List.getElem?_eq_some_iff.mp ez).1
      simp at this
      omega
    rw [e0] at ez
    cases ez
    have : j = i := by omega
    subst this
    exact h3
/-- the same, with a test: what is kept fulfils P -/
theorem lc_some {t : Tg} {wt : DTT} {we : DTE} {vs : List Nat} {σ : En} {st1 : Sto} {Q : List Dv → Sto → Prop} {xs : List Dv} {R : Sto → Prop} {P : Dv → Prop}
    (h0 : R st1) (hz : xs.length ≤ sizeLine)
    (turn : ∀ (i : Nat) (x : Dv) (st' : Sto), xs[i]? = some x → R st' → ∃ σ2, tgD t x (wipeD σ vs) = some σ2 ∧ ∀ QT : Bool → Sto → Prop, (∀ st2, R st2 → QT false st2) → (∀ st2, R st2 → (∀ Q' : DK, (∀ y st3, P y → R st3 → Q' y st3) → we σ2 st2 Q') → QT true st2) → wt σ2 st' QT)
    (fin : ∀ ys st', R st' → ys.length ≤ xs.length → (∀ y ∈ ys, P y) → Q ys st') : lcIn t wt we vs σ Q xs none st1 := by
  unfold lcIn
  refine ⟨fun i acc st' => R st' ∧ acc.length ≤ i ∧ ∀ y ∈ acc, P y, ⟨h0, Nat.le_refl _, fun y hy => by simp at hy⟩, fun _ _ _ _ n e => (nomatch e), fun i x acc st' e ⟨hR, hl, hP⟩ => ?_, fun acc st' ⟨hR, hl, hP⟩ => fin acc st' hR hl hP⟩
  have hi2 : i < xs.length := (List.getElem?_eq_some_iff.mp e).1
  refine ⟨by omega, ?_⟩
  obtain ⟨σ2, h1, h2⟩ := turn i x st' e hR
  refine ⟨σ2, h1, h2 _ (fun st2 hR2 => ?_) fun st2 hR2 hw => ?_⟩
  · rw [if_neg (by simp)]
    exact ⟨hR2, by omega, hP⟩
  · rw [if_pos rfl]
    refine hw _ (fun y st3 h3 hR3 => ⟨hR3, by simp; omega, fun z hz => ?_⟩)
    rcases List.mem_append.mp hz with q | q
    · exact hP z q
    · simp at q
      rw [q]
      exact h3

/-! ### Nr by computing -/
theorem Nr.ints (l : List Int) : Nrs (l.map Dv.int) := Nrs.of fun d hd => by
  obtain ⟨i, _, rfl⟩ := List.mem_map.mp hd
  exact .int i
theorem Nr.strs (l : List Str) : Nrs (l.map Dv.str) := Nrs.of fun d hd => by
  obtain ⟨i, _, rfl⟩ := List.mem_map.mp hd
  exact .str i
theorem Nrs.append {xs ys : List Dv} (a : Nrs xs) (b : Nrs ys) : Nrs (xs ++ ys) := Nrs.of fun d hd => (List.mem_append.mp hd).elim (a.mem d) (b.mem d)
theorem Nrs.get {xs : List Dv} {i : Nat} {d : Dv} (a : Nrs xs) (h : xs[i]? = some d) : Nr d := a.mem d (List.mem_of_getElem? h)
/-! ### keywords in the parameters' order -/
def ordL {α : Type} (ix : List Nat) : List α → List α → List α := fun xs ys => ix.filterMap fun i => (xs ++ ys)[i]?
theorem RDs.pick {K : PySem.W.Frag} {ex : Addr → Prop} {f : Nat → Addr} {k : Nat} {H : Hp} {ds : List Dv} {vs : List V} (h : RDs K ex f k H ds vs) : ∀ ix : List Nat, RDs K ex f k H (ix.filterMap fun i => ds[i]?) (ix.filterMap fun i => vs[i]?)
  | [] => .nil
  | i :: ix => by
    cases e : ds[i]? with
    | none =>
      have e2 : vs[i]? = none := by
        rw [List.getElem?_eq_none_iff] at *
        rw [← h.length]
        exact e
      rw [List.filterMap_cons_none e, List.filterMap_cons_none e2]
      exact RDs.pick h ix
    | some d =>
      obtain ⟨v, e2, r⟩ := h.get e
      rw [List.filterMap_cons_some e, List.filterMap_cons_some e2]
      exact .cons r (RDs.pick h ix)
theorem grel_ord {n m : Nat} (ix : List Nat) : GRel n m (ordL ix) (ordL ix) := fun K ex f k H xs ys vs zs _ _ h1 h2 => (h1.append h2).pick ix
theorem vals_pick {vs : List V} {us : List Value} (h : Vals vs us) : ∀ ix : List Nat, Vals (ix.filterMap fun i => vs[i]?) (ix.filterMap fun i => us[i]?)
  | [] => .nil
  | i :: ix => by
    cases e : vs[i]? with
    | none =>
      have e2 : us[i]? = none := by
        rw [List.getElem?_eq_none_iff] at *
        rw [← h.length]
        exact e
      rw [List.filterMap_cons_none e, List.filterMap_cons_none e2]
      exact vals_pick h ix
    | some v =>
      obtain ⟨u, e2, r⟩ := h.get e
      rw [List.filterMap_cons_some e, List.filterMap_cons_some e2]
      exact .cons r (vals_pick h ix)
theorem KB.ord {fd : FuncData} {ps ks : List Str} {n : Nat} {ix : List Nat} (to : ∀ (s : Shared) (us ws : List Value), us.length = n → ws.length = ks.length → BindsTo s fd ⟨us, ks.zip ws⟩ (ps.zip (ordL ix us ws))) : KB fd ps ks n (ordL ix) (ordL ix) :=
  ⟨to, fun h1 h2 h3 h4 => vals_pick (h3.append h4) ix⟩
theorem kb_by {K : PySem.W.Frag} {x qual : Str} {st : Stmt} {f : Addr} {fd : FuncData} {ps ks : List Str} {n : Nat} {ix : List Nat} (F : Fun K x qual st f fd)
    (h : ∀ (kV doc pm : Value) (an : Option Addr) (cdv ct : Value) (us ws : List Value), us.length = n → ws.length = ks.length → bindArgs (PySem.W.fnOf x qual (defArgs st) (defBody st) (defScope st) .none kV doc pm an cdv ct) ⟨us, ks.zip ws⟩ = pure (ps.zip (ordL ix us ws))) : KB fd ps ks n (ordL ix) (ordL ix) := by
  obtain ⟨oc, od, kV, doc, pm, an, cdv, ct, osl, rfl, lk, hcd⟩ := F.ex
  exact .ord fun s us ws h1 h2 => .of_eq (h kV doc pm an cdv ct us ws h1 h2)
/-- what is asked of a def's body -/
def PL (N : List Str) (W : DTS) (S : Spec) : Prop := ∀ i, S.pre i → W { nx := fun _ st' => Back (S.st i).length (S.post i) .non st', rt := Back (S.st i).length (S.post i) } (startD N (S.args i)) (S.st i)
/-- nothing is promised -/
theorem dfn_never {P : Program} {w : World} {K : PySem.W.Frag} {mg : Str → Option Value} {base : Heap} {k : Nat} {f : Addr} {fd : FuncData} {ps : List Str} {S : Spec} (h : ∀ i, ¬ S.pre i) : DFn P w K mg base k f fd ps S :=
  ⟨fun vs H Q E ⟨_, _, i, _, _, p, _⟩ => absurd p (h i), fun A outer s H args us vs Q E hg hr he hb hv ⟨_, _, i, _, _, p, _⟩ => absurd p (h i)⟩
/-- ways to end -/
theorem back_fn {I : Type} {args : I → List Dv} {pre : I → Prop} {F : I → Dv → Prop} {i : I} {d : Dv} (n : Nr d) (h : F i d) : Back ((Spec.fn args pre F).st i).length ((Spec.fn args pre F).post i) d [] := .inl ⟨⟨rfl, n, h⟩, Nat.le_refl _⟩
theorem back_dr {I : Type} {args : I → List Dv} {pre : Sto → I → Prop} {F : I → Dv → Prop} {b : Int} {cs : List Int} {rest : Sto} {i : I} {d : Dv} {st : Sto} (h : Dr rest st) (hF : F i d) : Back ((Spec.dr args pre F).st (b, cs, rest, i)).length ((Spec.dr args pre F).post (b, cs, rest, i)) d st := by
  refine .inl ⟨⟨h, hF⟩, ?_⟩
  obtain ⟨b2, cs2, _, rfl⟩ := h
  exact Nat.le_refl _
end D2

/-! DL, part h: small steps of a reading; the draws. -/
namespace D2
open PySem PySem.Spec PyProof.Rows L2
section
variable {st : Sto} {Q : DK}
theorem ix {x d : Dv} {xs : List Dv} {i : Int} (h : seqD st x = some xs) (e : atI xs i = some d) (q : Q d st) : gIx x (.int i) st Q := by
  unfold gIx
  cases x <;> first | exact ⟨xs, d, h, e, q⟩ | (simp [seqD, tupD, lstD] at h)
theorem ixS {z : Str} {i : Int} {c : Nat} (hz : z.length ≤ sizeLine) (e : atI z.cps.toList i = some c) (q : Q (.str ⟨#[c]⟩) st) : gIx (.str z) (.int i) st Q := by
  unfold gIx
  exact ⟨hz, c, e, q⟩
theorem len {x : Dv} {xs : List Dv} (h : seqD st x = some xs) (q : Q (.int xs.length) st) : gLen x st Q := by
  unfold gLen
  cases x <;> first | exact ⟨xs, h, q⟩ | (simp [seqD, tupD, lstD] at h)
theorem lenS {z : Str} (hz : z.length ≤ sizeLine) (q : Q (.int z.length) st) : gLen (.str z) st Q := by
  unfold gLen
  exact ⟨hz, q⟩
theorem eqI {a b : Int} {neg : Bool} (q : Q (.bl (if neg then !decide (a = b) else decide (a = b))) st) : gEq neg (.int a) (.int b) st Q := by
  unfold gEq
  exact q
theorem eqS {a b : Str} {neg : Bool} (q : Q (.bl (if neg then !decide (a = b) else decide (a = b))) st) : gEq neg (.str a) (.str b) st Q := by
  unfold gEq
  exact q
theorem eqB {a b : Bool} {neg : Bool} (q : Q (.bl (if neg then !decide (a = b) else decide (a = b))) st) : gEq neg (.bl a) (.bl b) st Q := by
  unfold gEq
  exact q
theorem eqT {a b : List Dv} {p q : List PyData} {neg : Bool} (h1 : DPs st a p) (h2 : DPs st b q) (s1 : SeqAt.shaped (.tuple p) = true) (s2 : SeqAt.shaped (.tuple q) = true) (k : Q (.bl (if neg then !PyData.eqv (.tuple p) (.tuple q) else PyData.eqv (.tuple p) (.tuple q))) st) : gEq neg (.tup a) (.tup b) st Q := by
  unfold gEq
  exact ⟨_, _, .tup rfl h1, .tup rfl h2, s1, s2, k⟩
theorem addI {a b : Int} (q : Q (.int (a + b)) st) : gAdd (.int a) (.int b) st Q := by
  unfold gAdd
  exact q
theorem addS {a b : Str} (h : a.length + b.length ≤ sizeLine) (q : Q (.str (a ++ b)) st) : gAdd (.str a) (.str b) st Q := by
  unfold gAdd
  exact ⟨h, q⟩
theorem addT {a b : List Dv} (h : a.length + b.length ≤ sizeLine) (q : Q (.tup (a ++ b)) st) : gAdd (.tup a) (.tup b) st Q := by
  unfold gAdd
  exact ⟨h, q⟩
theorem addL {a b : List Dv} (h : a.length + b.length ≤ sizeLine) (q : Q (.rol (a ++ b)) st) : gAdd (.rol a) (.rol b) st Q := by
  unfold gAdd
  exact ⟨a, b, rfl, rfl, h, q⟩
theorem mulI {a b : Int} (h : CMul a b) (q : Q (.int (a * b)) st) : gMul (.int a) (.int b) st Q := by
  unfold gMul
  exact ⟨h, q⟩
theorem mulT {xs : List Dv} {n : Int} (h : xs ≠ [] ∧ 2 ≤ n ∧ n ≤ 1000 ∧ xs.length ≤ 1000) (q : Q (.tup (List.replicate n.toNat xs).flatten) st) : gMul (.tup xs) (.int n) st Q := by
  unfold gMul
  exact ⟨h, q⟩
theorem opI2 {C : Int → Int → Prop} {g : Int → Int → Int} {a b : Int} (h : C a b) (q : Q (.int (g a b)) st) : gI C g (.int a) (.int b) st Q := by
  unfold gI
  exact ⟨h, q⟩
theorem modI {a b : Int} (h : 0 < b) (q : Q (.int (a % b)) st) : gI (fun _ j => 0 < j) (fun a b => a % b) (.int a) (.int b) st Q := by
  unfold gI
  exact ⟨h, q⟩
theorem divI {a b : Int} (h : CDiv a b) (q : Q (.int (a / b)) st) : gI CDiv (fun a b => a / b) (.int a) (.int b) st Q := by
  unfold gI
  exact ⟨h, q⟩
theorem subI {a b : Int} (q : Q (.int (a - b)) st) : gI (fun _ _ => True) (fun a b => a - b) (.int a) (.int b) st Q := by
  unfold gI
  exact ⟨trivial, q⟩
theorem powI {a b : Int} (h : CPow a b) (q : Q (.int (a ^ b.toNat)) st) : gI CPow (fun a b => a ^ b.toNat) (.int a) (.int b) st Q := by
  unfold gI
  exact ⟨h, q⟩
theorem opB2 {g : Int → Int → Bool} {a b : Int} (q : Q (.bl (g a b)) st) : gB g (.int a) (.int b) st Q := by
  unfold gB
  exact q
theorem inS {a : Str} {y : Dv} {ys : List Str} {neg : Bool} (h : seqD st y = some (ys.map Dv.str)) (q : Q (.bl (if neg then !decide (a ∈ ys) else decide (a ∈ ys))) st) : gIn neg (.str a) y st Q := by
  unfold gIn
  cases y <;> first | exact ⟨ys, h, q⟩ | (simp [seqD, tupD, lstD] at h)
theorem inI {a : Int} {y : Dv} {ys : List Int} {neg : Bool} (h : seqD st y = some (ys.map Dv.int)) (q : Q (.bl (if neg then !decide (a ∈ ys) else decide (a ∈ ys))) st) : gIn neg (.int a) y st Q := by
  unfold gIn
  cases y <;> first | exact ⟨ys, h, q⟩ | (simp [seqD, tupD, lstD] at h)
theorem tupL {x : Dv} {xs : List Dv} (h : lstD st x = some xs) (q : Q (.tup xs) st) : gTuple x st Q := by
  unfold gTuple
  cases x <;> first | exact ⟨xs, h, q⟩ | (simp [lstD] at h)
theorem slS {z : Str} {lo hi : Option Int} (h : z.length ≤ sizeLine) (q : Q (.str (cutS z lo hi)) st) : gSl (.str z) lo hi st Q := by
  unfold gSl
  exact ⟨h, q⟩
theorem slT {xs : List Dv} {lo hi : Option Int} (q : Q (.tup (cutD xs lo hi)) st) : gSl (.tup xs) lo hi st Q := by
  unfold gSl
  exact q
theorem eqIt {a b : Int} (h : a = b) (q : Q (.bl true) st) : gEq false (.int a) (.int b) st Q := eqI (by rw [decide_eq_true h]; exact q)
theorem eqIf {a b : Int} (h : a ≠ b) (q : Q (.bl false) st) : gEq false (.int a) (.int b) st Q := eqI (by rw [decide_eq_false h]; exact q)
theorem neS {a b : Str} (h : a = b) (q : Q (.bl false) st) : gEq true (.str a) (.str b) st Q := eqS (by rw [decide_eq_true h]; exact q)
theorem neB {a b : Bool} (h : a = b) (q : Q (.bl false) st) : gEq true (.bl a) (.bl b) st Q := eqB (by rw [decide_eq_true h]; exact q)
theorem isN {d : Dv} {neg : Bool} (h : d ≠ .non) (q : Q (.bl neg) st) : gIs neg d .non st Q := by
  unfold gIs
  cases d <;> first | exact q | exact absurd rfl h
theorem isNon {neg : Bool} (q : Q (.bl (!neg)) st) : gIs neg .non .non st Q := by
  unfold gIs
  exact q
theorem iteC {k : Bool} {A B : Prop} (h1 : k = true → A) (h2 : k = false → B) : if k = true then A else B := by
  cases k with
  | true => exact h1 rfl
  | false => exact h2 rfl
theorem iteT {k : Bool} {A B : Prop} (hk : k = true) (h : A) : if k = true then A else B := by
  rw [if_pos hk]
  exact h
theorem iteF {k : Bool} {A B : Prop} (hk : k = false) (h : B) : if k = true then A else B := by
  rw [hk]
  exact h
end
theorem mod_nat {r n : Int} (h : 0 < n) : ∃ k : Nat, (k : Int) < n ∧ r % n = k := ⟨(r % n).toNat, by have := Int.emod_lt_of_pos r h; have := Int.emod_nonneg r (Int.ne_of_gt h); omega, by have := Int.emod_nonneg r (Int.ne_of_gt h); omega⟩

/-! ### a list of ints against [] -/
theorem DPs.ints (st : Sto) : ∀ cs : List Int, DPs st (cs.map Dv.int) (cs.map PyData.int)
  | [] => .nil
  | c :: cs => .cons (.int c) (DPs.ints st cs)
theorem lay_ints : ∀ cs : List Int, PyData.canLayAll0 (cs.map PyData.int) = true
  | [] => rfl
  | c :: cs => by simp only [List.map_cons, PyData.canLayAll0, PyData.canLay0, lay_ints cs, Bool.and_self]
theorem dep_ints : ∀ cs : List Int, PyData.depthAll (cs.map PyData.int) = 0
  | [] => rfl
  | c :: cs => by simp only [List.map_cons, PyData.depthAll, PyData.depth, dep_ints cs, Nat.max_self]
theorem shp_ints (cs : List Int) : SeqAt.shaped (.list (cs.map PyData.int)) = true := by
  unfold SeqAt.shaped
  rw [PyData.canLay0, PyData.depth, lay_ints, dep_ints]
  rfl
theorem eq_cs {b : Int} {cs : List Int} {rest : Sto} {Q : DK} (q : Q (.bl (!cs.isEmpty)) (DSt b cs rest)) : gEq true (.ref 0) (.rol []) (DSt b cs rest) Q := by
  unfold gEq
  refine ⟨.list (cs.map .int), .list [], .lst rfl (DPs.ints _ cs), .lst rfl .nil, shp_ints cs, rfl, ?_⟩
  cases cs with
  | nil => exact q
  | cons c cs => exact q
theorem at_last (cs : List Int) (c : Int) : atI ((cs ++ [c]).map Dv.int) (-1) = some (.int c) := by
  rw [List.map_append]
  exact atI_last _ _
theorem okD.drop {b : Int} {cs : List Int} {c : Int} (h : okD b (cs ++ [c])) : okD b cs := ⟨h.1, h.2.1, fun x hx => h.2.2.1 x (by simp [hx]), by have := h.2.2.2; simp at this; omega⟩

/-! ### one draw: the def _law_any(draws, bound) -/
def nat (n : Nat) : Dv := .int (n : Int)
abbrev A_law_any (n : Nat) : List Dv := [nat n]
abbrev P_law_any (_ : Sto) (n : Nat) : Prop := 0 < n ∧ n < 1073741824
abbrev R_law_any (n : Nat) (d : Dv) : Prop := ∃ r : Nat, r < n ∧ d = nat r
abbrev W_law_any : DTS :=
  (wSeq (wWhile (wAnd (wB (w2 (gEq true) (w2 gIx (wVar 0) (wC (.int 0))) (wRol wNil))) (wB (w2 (gEq false) (w2 gIx (w2 gIx (wVar 0) (wC (.int 0))) (wNeg (wC (.int 1)))) (wC (.int 0))))) (wDrop (wPop (w2 gIx (wVar 0) (wC (.int 0))))))
  (wSeq (wIf (wB (w2 (gEq true) (w2 gIx (wVar 0) (wC (.int 0))) (wRol wNil))) (wSeq (wSet 2 (wCB (g1 gInt) (wCons (wPop (w2 gIx (wVar 0) (wC (.int 0)))) wNil)))
  (wSeq (wDrop (wApp (w2 gIx (wVar 0) (wC (.int 0))) (w2 (gI CDiv fun a b => a / b) (wVar 2) (wVar 1))))
  (wRet (w2 (gI (fun _ j => 0 < j) fun a b => a % b) (wVar 2) (wVar 1))))) wNext)
  (wSeq (wSto (w2 (gI (fun _ j => 0 < j) fun a b => a % b) (wCB (g1 gInt) (wCons (w2 gAdd (w2 gMul (w2 gIx (wVar 0) (wC (.int 1))) (wC (.int 48271))) (wC (.int 37))) wNil)) (wC (.int 2147483647))) (wVar 0) (wC (.int 1)))
  (wRet (w2 (gI (fun _ j => 0 < j) fun a b => a % b) (wCB (g1 gInt) (wCons (w2 (gI CDiv fun a b => a / b) (w2 gIx (wVar 0) (wC (.int 1))) (wC (.int 64))) wNil)) (wVar 1))))))
abbrev N_law_any : List Str := ["draws", "bound", "rest"]
theorem p_law_any : PL N_law_any W_law_any (D2.Spec.dr A_law_any P_law_any R_law_any) := by
  rintro ⟨b, cs, rest, n⟩ ⟨ok, hn⟩
  have hn0 : 0 < n := hn.1
  have hn1 : n < 1073741824 := hn.2
  clear hn
  show W_law_any _ [some (.ref 1), some (nat n), none] (DSt b cs rest)
  generalize hD : ({ nx := _, rt := _ } : DEnds) = D
  have fin : ∀ d st', Dr rest st' → R_law_any n d → D.rt d st' := fun d st' h1 h2 => by
    rw [← hD]
    exact back_dr h1 h2
  have D0 : ∀ (r : Int) st', Dr rest st' → D.rt (.int (r % (n : Int))) st' := fun r st' h => by
    obtain ⟨k, h1, h2⟩ := mod_nat (r := r) (n := (n : Int)) (by omega)
    exact fin _ _ h ⟨k, by omega, by rw [h2]; rfl⟩
  clear hD fin
  -- the loop takes zeros away
  refine Exists.intro (fun m σ st => σ = [some (.ref 1), some (nat n), none] ∧ ∃ cs, m = cs.length ∧ okD b cs ∧ st = DSt b cs rest) (And.intro ⟨cs.length, rfl, cs, rfl, ok, rfl⟩ ?_)
  rintro m σ st ⟨rfl, cs, rfl, ok, rfl⟩
  refine ix (xs := [.ref 0, .int b]) rfl rfl ?_
  refine And.intro (Nat.zero_le _) ?_
  refine eq_cs ?_
  -- behind the loop, no zero at its end
  have after : ∀ cs, okD b cs → (wSeq (wIf (wB (w2 (gEq true) (w2 gIx (wVar 0) (wC (.int 0))) (wRol wNil))) (wSeq (wSet 2 (wCB (g1 gInt) (wCons (wPop (w2 gIx (wVar 0) (wC (.int 0)))) wNil)))
      (wSeq (wDrop (wApp (w2 gIx (wVar 0) (wC (.int 0))) (w2 (gI CDiv fun a b => a / b) (wVar 2) (wVar 1))))
      (wRet (w2 (gI (fun _ j => 0 < j) fun a b => a % b) (wVar 2) (wVar 1))))) wNext)
      (wSeq (wSto (w2 (gI (fun _ j => 0 < j) fun a b => a % b) (wCB (g1 gInt) (wCons (w2 gAdd (w2 gMul (w2 gIx (wVar 0) (wC (.int 1))) (wC (.int 48271))) (wC (.int 37))) wNil)) (wC (.int 2147483647))) (wVar 0) (wC (.int 1)))
      (wRet (w2 (gI (fun _ j => 0 < j) fun a b => a % b) (wCB (g1 gInt) (wCons (w2 (gI CDiv fun a b => a / b) (w2 gIx (wVar 0) (wC (.int 1))) (wC (.int 64))) wNil)) (wVar 1))))) D [some (.ref 1), some (nat n), none] (DSt b cs rest) := by
    intro cs ok
    refine ix (xs := [.ref 0, .int b]) rfl rfl ?_
    refine And.intro (Nat.zero_le _) ?_
    refine eq_cs ?_
    rcases List.eq_nil_or_concat cs with rfl | ⟨cs, c, rfl⟩
    · refine iteF rfl ?_
      -- draws[1] = ..
      refine ix (xs := [.ref 0, .int b]) rfl rfl ?_
      refine mulI (.inr (show -(2 ^ 64) < (48271 : Int) ∧ (48271 : Int) < 2 ^ 64 by decide)) ?_
      refine addI ?_
      refine modI (by decide) ?_
      refine Exists.intro [.ref 0, .int b] ?_
      refine Exists.intro 1 ?_
      refine And.intro rfl ?_
      refine And.intro rfl ?_
      refine ix (xs := [.ref 0, .int ((b * 48271 + 37) % 2147483647)]) rfl rfl ?_
      refine divI ⟨by decide, by decide⟩ ?_
      refine modI (show (0 : Int) < (n : Int) by omega) ?_
      refine D0 _ _ ⟨(b * 48271 + 37) % 2147483647, [], ⟨by omega, by omega, fun c hc => by simp at hc, by simp⟩, rfl⟩
    · rw [List.concat_eq_append] at *
      refine iteT (by simp) ?_
      -- the last one: its rest by bound, what is left goes back
      refine ix (xs := [.ref 0, .int b]) rfl rfl ?_
      refine Exists.intro ((cs ++ [c]).map Dv.int) ?_
      refine Exists.intro (.int c) ?_
      refine And.intro rfl ?_
      refine And.intro (by simp) ?_
      refine ix (xs := [.ref 0, .int b]) rfl rfl ?_
      refine divI (show CDiv _ (n : Int) from ⟨by omega, by omega⟩) ?_
      have e : ((cs ++ [c]).map Dv.int).dropLast = cs.map Dv.int := by simp
      have hl := ok.2.2.2
      have hc := ok.2.2.1 c (by simp)
      refine Exists.intro (((cs ++ [c]).map Dv.int).dropLast) (And.intro rfl (And.intro ?_ ?_))
      · rw [e]
        simp at hl ⊢
        have : (64 : Nat) ≤ sizeLine := by decide
        omega
      · refine modI (show (0 : Int) < (n : Int) by omega) ?_
        refine (D0 _ _ ⟨b, cs ++ [c / (n : Int)], ⟨ok.1, ok.2.1, fun x hx => ?_, by simpa using hl⟩, ?_⟩)
        · rcases List.mem_append.mp hx with h | h
          · exact ok.2.2.1 x (by simp [h])
          · simp at h
            rw [h]
            exact Int.ediv_nonneg hc (by omega)
        · rw [e]
          simp [DSt]
  rcases List.eq_nil_or_concat cs with rfl | ⟨cs, c, rfl⟩
  · refine iteF rfl ?_
    exact iteF rfl (after [] ok)
  · rw [List.concat_eq_append] at *
    refine iteT (by simp) ?_
    refine ix (xs := [.ref 0, .int b]) rfl rfl ?_
    refine ix (xs := (cs ++ [c]).map Dv.int) rfl (at_last cs c) ?_
    refine eqI ?_
    refine iteC (fun _ => ?_) (fun _ => after _ ok)
    refine ix (xs := [.ref 0, .int b]) rfl rfl ?_
    refine Exists.intro ((cs ++ [c]).map Dv.int) ?_
    refine Exists.intro (.int c) ?_
    refine And.intro rfl ?_
    refine And.intro (by simp) ?_
    refine ⟨cs.length, by simp, rfl, cs, rfl, ok.drop, ?_⟩
    simp [DSt]

/-! ### one of them: the def _law_of(draws, some) -/
def srcL : Dv → Option (List Dv)
  | .tup xs => some xs
  | .tux xs => some xs
  | .rol xs => some xs
  | .str z => some (signs z)
  | _ => none
abbrev A_law_of (i : Dv × List Dv) : List Dv := [i.1]
abbrev P_law_of (_ : Sto) (i : Dv × List Dv) : Prop := srcL i.1 = some i.2 ∧ 0 < i.2.length ∧ i.2.length ≤ 1000
abbrev R_law_of (i : Dv × List Dv) (d : Dv) : Prop := d ∈ i.2
abbrev W_law_of : DTS :=
  (wRet (w2 gIx (wVar 1) (wDr A_law_any P_law_any R_law_any (wCons (wVar 0) (wCons (wCB (g1 gLen) (wCons (wVar 1) wNil)) wNil)))))
abbrev N_law_of : List Str := ["draws", "some"]
theorem back_dr' {I : Type} {args : I → List Dv} {pre : Sto → I → Prop} {F : I → Dv → Prop} {b : Int} {cs : List Int} {rest : Sto} {i : I} {d : Dv} {st : Sto} (h : Dr rest st) (hF : F i d) :
    { nx := fun _ st' => Back ((Spec.dr args pre F).st (b, cs, rest, i)).length ((Spec.dr args pre F).post (b, cs, rest, i)) .non st', rt := Back ((Spec.dr args pre F).st (b, cs, rest, i)).length ((Spec.dr args pre F).post (b, cs, rest, i)) : DEnds}.rt d st := back_dr h hF
theorem at_nat {α : Type} {xs : List α} {j : Nat} {v : α} (h : xs[j]? = some v) : atI xs (j : Int) = some v := atI_nat h
theorem p_law_of : PL N_law_of W_law_of (D2.Spec.dr A_law_of P_law_of R_law_of) := by
  rintro ⟨b, cs, rest, x, xs⟩ ⟨ok, h1, h2, h3⟩
  show W_law_of _ [some (.ref 1), some x] (DSt b cs rest)
  have big : (1000 : Nat) ≤ sizeLine := by decide
  have h2 : 0 < xs.length := h2
  have h3 : xs.length ≤ 1000 := h3
  -- the draw
  have key : ∀ (Q : DK), (∀ (j : Nat) st2, Dr rest st2 → j < xs.length → gIx x (.int (j : Int)) st2 Q) → gLen x (DSt b cs rest) (fun y st1 => ∃ rest2 i, Dr rest2 st1 ∧ [.ref 1, y] = .ref 1 :: A_law_any i ∧ P_law_any rest2 i ∧ ∀ d st2, Dr rest2 st2 → R_law_any i d → gIx x d st2 Q) := by
    intro Q hQ
    have go : ∀ y : Dv, y = .int xs.length → ∃ rest2 i, Dr rest2 (DSt b cs rest) ∧ [.ref 1, y] = .ref 1 :: A_law_any i ∧ P_law_any rest2 i ∧ ∀ d st2, Dr rest2 st2 → R_law_any i d → gIx x d st2 Q := by
      rintro y rfl
      refine ⟨rest, xs.length, ⟨b, cs, ok, rfl⟩, rfl, ⟨h2, by omega⟩, fun d st2 hd hr => ?_⟩
      obtain ⟨j, hj, rfl⟩ := hr
      exact hQ j st2 hd hj
    cases x with
    | str z =>
      have e : signs z = xs := Option.some.inj h1
      have el : z.length = xs.length := by
        rw [← e]
        simp [signs, Str.length]
      exact lenS (by omega) (go _ (by rw [el]))
    | tup ys => exact len (xs := xs) (by rw [← h1]; rfl) (go _ rfl)
    | tux ys => exact len (xs := xs) (by rw [← h1]; rfl) (go _ rfl)
    | rol ys => exact len (xs := xs) (by rw [← h1]; rfl) (go _ rfl)
    | _ => simp [srcL] at h1
  refine key _ fun j st2 hd hj => ?_
  have hm : xs[j]? = some xs[j] := by simp
  have fin : Back ((Spec.dr A_law_of P_law_of R_law_of).st (b, cs, rest, x, xs)).length ((Spec.dr A_law_of P_law_of R_law_of).post (b, cs, rest, x, xs)) xs[j] st2 := back_dr hd (List.getElem_mem hj)
  cases x with
  | str z =>
    have e : signs z = xs := Option.some.inj h1
    subst e
    have el : z.length = (signs z).length := by simp [signs, Str.length]
    have hc : z.cps.toList[j]? = some (z.cps.toList[j]'(by simpa [signs] using hj)) := by simp
    have e2 : (signs z)[j] = .str ⟨#[z.cps.toList[j]'(by simpa [signs] using hj)]⟩ := by simp [signs]
    rw [e2] at fin
    exact ixS (by omega) (atI_nat hc) fin
  | tup ys => exact ix (xs := xs) (by rw [← h1]; rfl) (atI_nat hm) fin
  | tux ys => exact ix (xs := xs) (by rw [← h1]; rfl) (atI_nat hm) fin
  | rol ys => exact ix (xs := xs) (by rw [← h1]; rfl) (atI_nat hm) fin
  | _ => simp [srcL] at h1
/-! ### lists of one kind -/
theorem ints_of : ∀ {ys : List Dv} {P : Int → Prop}, (∀ y ∈ ys, ∃ c : Int, P c ∧ y = .int c) → ∃ cs : List Int, ys = cs.map Dv.int ∧ ∀ c ∈ cs, P c
  | [], _, _ => ⟨[], rfl, fun c hc => by simp at hc⟩
  | y :: ys, P, h => by
    obtain ⟨c, hc, rfl⟩ := h y (by simp)
    obtain ⟨cs, e, hcs⟩ := ints_of (ys := ys) (P := P) fun y hy => h y (by simp [hy])
    exact ⟨c :: cs, by rw [e]; rfl, fun x hx => by
      rcases List.mem_cons.mp hx with rfl | hx
      · exact hc
      · exact hcs x hx⟩
theorem nats_of : ∀ {ys : List Dv} {P : Nat → Prop}, (∀ y ∈ ys, ∃ c : Nat, P c ∧ y = nat c) → ∃ cs : List Nat, ys = cs.map nat ∧ ∀ c ∈ cs, P c
  | [], _, _ => ⟨[], rfl, fun c hc => by simp at hc⟩
  | y :: ys, P, h => by
    obtain ⟨c, hc, rfl⟩ := h y (by simp)
    obtain ⟨cs, e, hcs⟩ := nats_of (ys := ys) (P := P) fun y hy => h y (by simp [hy])
    exact ⟨c :: cs, by rw [e]; rfl, fun x hx => by
      rcases List.mem_cons.mp hx with rfl | hx
      · exact hc
      · exact hcs x hx⟩
theorem strs_of : ∀ {ys : List Dv} {P : Str → Prop}, (∀ y ∈ ys, ∃ c : Str, P c ∧ y = .str c) → ∃ cs : List Str, ys = cs.map Dv.str ∧ ∀ c ∈ cs, P c
  | [], _, _ => ⟨[], rfl, fun c hc => by simp at hc⟩
  | y :: ys, P, h => by
    obtain ⟨c, hc, rfl⟩ := h y (by simp)
    obtain ⟨cs, e, hcs⟩ := strs_of (ys := ys) (P := P) fun y hy => h y (by simp [hy])
    exact ⟨c :: cs, by rw [e]; rfl, fun x hx => by
      rcases List.mem_cons.mp hx with rfl | hx
      · exact hc
      · exact hcs x hx⟩
theorem mem_at {ys : List Dv} {P : Dv → Prop} (h : ∀ (i : Nat) y, ys[i]? = some y → P y) : ∀ y ∈ ys, P y := fun y hy => by
  obtain ⟨i, e⟩ := List.getElem?_of_mem hy
  exact h i y e
theorem cutD_le (xs : List Dv) (lo hi : Option Int) : (cutD xs lo hi).length ≤ xs.length := by
  unfold cutD
  rw [List.length_take, List.length_drop]
  omega
theorem cutD_mem {xs : List Dv} {lo hi : Option Int} {y : Dv} (h : y ∈ cutD xs lo hi) : y ∈ xs := List.mem_of_mem_drop (List.mem_of_mem_take h)
theorem line64 {n : Nat} (h : n ≤ 1000) : n ≤ sizeLine := Nat.le_trans h (by decide)
theorem rng_at {n i : Nat} {x : Dv} (h : (rng 0 n)[i]? = some x) : i < n ∧ x = nat i := by
  have hi := (List.getElem?_eq_some_iff.mp h).1
  rw [rng_length] at hi
  rw [rng_get hi] at h
  cases h
  exact ⟨hi, by simp [nat]⟩
/-- texts -/
def Nm (s : Str) : Prop := s.length ≤ 100 ∧ ∀ c ∈ s.cps.toList, c < 128
def Nm1 (s : Str) : Prop := s.length = 1 ∧ ∀ c ∈ s.cps.toList, c < 128
theorem join0_len (ys : List Str) : (Txt.join "" ys).length ≤ (ys.map (·.length)).sum := by
  unfold Txt.join
  rw [StrLaws.glued_eq_join]
  have h := StrLaws.join_length_le "" ys
  have e : ("" : Str).length = 0 := rfl
  rw [e, Nat.mul_zero, Nat.add_zero] at h
  exact h
theorem join0_mem {ys : List Str} {c : Nat} (h : c ∈ (Txt.join "" ys).cps.toList) : ∃ t ∈ ys, c ∈ t.cps.toList := by
  unfold Txt.join at h
  rw [StrLaws.glued_eq_join] at h
  rcases (mem_join "" c ys).mp h with h | h
  · exact h
  · exact absurd h.2 (by have e : ("" : Str).cps.toList = [] := rfl; rw [e]; simp)
theorem sum_ones {ys : List Str} (h : ∀ s ∈ ys, s.length = 1) : (ys.map (·.length)).sum = ys.length := by
  induction ys with
  | nil => rfl
  | cons y r ih =>
    rw [List.map_cons, List.sum_cons, h y (by simp), ih fun s hs => h s (by simp [hs]), List.length_cons]
    omega

/-! ### what is shown: short data -/
-- data without dicts, texts of signs below 128, ints below a hundred
mutual
def tame : PyData → Bool
  | .none | .bool _ => true
  | .int i => decide (0 ≤ i) && decide (i < 100)
  | .str x => decide (x.length ≤ 100) && x.cps.toList.all (· < 128)
  | .list xs | .tuple xs => tames xs
  | .dict _ => false
def tames : List PyData → Bool
  | [] => true
  | x :: xs => tame x && tames xs
end
theorem tames_of : ∀ {xs : List PyData}, (∀ x ∈ xs, tame x = true) → tames xs = true
  | [], _ => rfl
  | x :: xs, h => by
    simp only [tames, Bool.and_eq_true]
    exact ⟨h x (by simp), tames_of fun y hy => h y (by simp [hy])⟩
theorem shown100 : ∀ n : Nat, n < 100 → (PyData.shown (.int n)).length ≤ 8 ∧ PyData.showable (.int n) = true := by
  decide +kernel
mutual
theorem tame_leaf : ∀ d : PyData, tame d = true → d.leavesShort 8 = true ∧ d.showable = true ∧ d.hasDict = false ∧ d.canLay0 = true
  | .none, _ => ⟨rfl, rfl, rfl, rfl⟩
  | .bool _, _ => ⟨rfl, rfl, rfl, rfl⟩
  | .int i, h => by
    simp only [tame, Bool.and_eq_true, decide_eq_true_eq] at h
    have e : i = ((i.toNat : Nat) : Int) := by omega
    obtain ⟨h1, h2⟩ := shown100 i.toNat (by omega)
    rw [← e] at h1 h2
    exact ⟨by simp only [PyData.leavesShort]; exact decide_eq_true h1, h2, rfl, rfl⟩
  | .str x, h => by
    simp only [tame, Bool.and_eq_true, decide_eq_true_eq, List.all_eq_true] at h
    refine ⟨?_, rfl, rfl, ?_⟩
    · simp only [PyData.leavesShort, List.all_eq_true, decide_eq_true_eq]
      intro c hc
      exact Nat.lt_trans (h.2 c hc) (by decide)
    · simp only [PyData.canLay0, PyData.strOk, Array.all_eq_true', decide_eq_true_eq]
      intro c hc
      exact Nat.lt_trans (h.2 c (by simpa using hc)) (by decide)
  | .list xs, h => by
    simp only [tame] at h
    have := tames_leaf xs h
    simpa only [PyData.leavesShort, PyData.showable, PyData.hasDict, PyData.canLay0] using this
  | .tuple xs, h => by
    simp only [tame] at h
    have := tames_leaf xs h
    simpa only [PyData.leavesShort, PyData.showable, PyData.hasDict, PyData.canLay0] using this
  | .dict _, h => by simp [tame] at h
theorem tames_leaf : ∀ xs : List PyData, tames xs = true → PyData.leavesShortAll 8 xs = true ∧ PyData.showableAll xs = true ∧ PyData.hasDictAll xs = false ∧ PyData.canLayAll0 xs = true
  | [], _ => ⟨rfl, rfl, rfl, rfl⟩
  | x :: xs, h => by
    simp only [tames, Bool.and_eq_true] at h
    obtain ⟨a1, a2, a3, a4⟩ := tame_leaf x h.1
    obtain ⟨b1, b2, b3, b4⟩ := tames_leaf xs h.2
    simp only [PyData.leavesShortAll, PyData.showableAll, PyData.hasDictAll, PyData.canLayAll0, a1, a2, a3, a4, b1, b2, b3, b4]
    exact ⟨rfl, rfl, rfl, rfl⟩
end
/-- repr of it -/
theorem reprT {d : Dv} {p : PyData} {st : Sto} {Q : DK} (h : DP st d p) (t : tame p = true) (hd : p.depth ≤ 60) (hw : p.weight ≤ 2 ^ 20) (q : Q (.str p.shown) st) : gRepr d st Q := by
  obtain ⟨h1, h2, h3, _⟩ := tame_leaf p t
  exact ⟨p, h, h2, h3, hd, PyData.shown_fits (B := 8) (by decide) (by decide) h1 hw, q⟩
theorem shapedT {p : PyData} (t : tame p = true) (hd : p.depth ≤ 60) : SeqAt.shaped p = true := by
  obtain ⟨_, _, _, h⟩ := tame_leaf p t
  unfold SeqAt.shaped
  rw [h, decide_eq_true (by omega : p.depth ≤ 64)]
  rfl
/-- a list of small ints -/
def pn (n : Nat) : PyData := .int (n : Int)
theorem DPs.nats (st : Sto) : ∀ l : List Nat, DPs st (l.map nat) (l.map pn)
  | [] => .nil
  | c :: cs => .cons (.int c) (DPs.nats st cs)
theorem tame_nats {l : List Nat} (h : ∀ x ∈ l, x < 100) : tames (l.map pn) = true := tames_of fun x hx => by
  obtain ⟨n, hn, rfl⟩ := List.mem_map.mp hx
  have := h n hn
  simp only [pn, tame, Bool.and_eq_true, decide_eq_true_eq]
  omega
theorem dep_nats : ∀ l : List Nat, PyData.depthAll (l.map pn) = 0
  | [] => rfl
  | c :: cs => by simp only [List.map_cons, pn, PyData.depthAll, PyData.depth, Nat.zero_max]; exact dep_nats cs
theorem log100 {n : Nat} (h : n < 100) : PyData.weight (pn n) ≤ 7 := by
  unfold pn PyData.weight
  split
  · omega
  · have : ((n : Int)).natAbs.log2 < 7 := by
      rw [Int.natAbs_natCast, Nat.log2_lt (by rename_i h0; intro e; subst e; simp at h0)]
      omega
    omega
theorem wt_nats : ∀ {l : List Nat}, (∀ x ∈ l, x < 100) → PyData.weightAll (l.map pn) ≤ 8 * l.length
  | [], _ => by simp [PyData.weightAll]
  | c :: cs, h => by
    have h1 := log100 (h c (by simp))
    have h2 := wt_nats (l := cs) fun x hx => h x (by simp [hx])
    simp only [List.map_cons, PyData.weightAll, List.length_cons]
    omega
end D2

namespace K56
open PySem PySem.Spec PyProof.Rows L2 D2
/-! ### the data -/
inductive Th where
  | txt (s : Str) | node (n : Str) (ts : List Th)
mutual
def Th.dv : Th → Dv
  | .txt s => .str s
  | .node n ts => .tup [.str n, .tup (dvs ts)]
def dvs : List Th → List Dv
  | [] => []
  | t :: ts => t.dv :: dvs ts
end
mutual
def Th.dep : Th → Nat
  | .txt _ => 0
  | .node _ ts => deps ts + 1
def deps : List Th → Nat
  | [] => 0
  | t :: ts => max t.dep (deps ts)
end
mutual
def Th.ok (ns : List Str) : Th → Prop
  | .txt s => Nm s
  | .node n ts => n ∈ ns ∧ oks ns ts
def oks (ns : List Str) : List Th → Prop
  | [] => True
  | t :: ts => t.ok ns ∧ oks ns ts
end
structure Pl where
  names : List Str
  begins : List Nat
  texts : List Nat
  steps : List (List Nat)
  ends : List Nat
def nts (l : List Nat) : Dv := .tup (l.map nat)
def Pl.many (p : Pl) : Nat := p.texts.length
def Pl.fs (p : Pl) : List Dv := [.tux (p.names.map Dv.str), nts p.begins, nts p.texts, .tup (p.steps.map nts), nts p.ends]
def Pl.dv (p : Pl) : Dv := .tup p.fs
def Pl.tb (C : Addr) (p : Pl) : Dv := .obj C ["names", "begins", "texts", "steps", "ends"] p.fs
structure WF (p : Pl) : Prop where
  n1 : p.names.length ≤ 2
  nm : ∀ s ∈ p.names, Nm s
  bl : p.begins.length = p.names.length
  b : ∀ x ∈ p.begins, x < p.many
  m1 : 1 ≤ p.many
  m6 : p.many ≤ 6
  t : ∀ x ∈ p.texts, x < p.many
  sl : p.steps.length = p.many
  sr : ∀ r ∈ p.steps, r.length = p.many ∧ ∀ x ∈ r, x < p.many
  el : p.ends.length ≤ 6
  e : ∀ x ∈ p.ends, x < p.many
def place (z : Str) : List Str → Nat
  | [] => 0
  | x :: r => if x = z then 0 else place z r + 1
-- the state behind
mutual
def stOf (p : Pl) : Th → Nat
  | .txt _ => 0
  | .node n ts => on p (p.begins.getD (place n p.names) 0) ts
def step (p : Pl) (s : Nat) : Th → Nat
  | .txt _ => p.texts.getD s 0
  | .node n ts => (p.steps.getD s []).getD (stOf p (.node n ts)) 0
def on (p : Pl) (s : Nat) : List Th → Nat
  | [] => s
  | t :: ts => on p (step p s t) ts
end
def isTxt : Th → Bool
  | .txt _ => true
  | _ => false
def noEff (p : Pl) : List Nat := List.range (p.many + 3)
def txtEff (p : Pl) : List Nat := p.texts ++ [p.many + 2, p.many + 2, p.many + 2]
def nodeEff (p : Pl) (s : Nat) : List Nat := p.steps.map (fun r => r.getD s 0) ++ [if s ∈ p.ends then p.many + 1 else p.many + 2, p.many + 2, p.many + 2]
def both (a b : List Nat) : List Nat := a.map fun s => b.getD s 0
def thEff (p : Pl) (t : Th) : List Nat := if isTxt t then txtEff p else nodeEff p (stOf p t)
def effT (p : Pl) : List Th → List Nat → List Nat
  | [], a => a
  | t :: ts, a => effT p ts (both a (thEff p t))
def one (p : Pl) : List Th → Bool
  | [t] => !isTxt t && decide (stOf p t ∈ p.ends)
  | _ => false
def effL (p : Pl) (ts : List Th) : List Nat := (List.range p.many).map (fun s => on p s ts) ++ (match ts with
  | [] => [p.many, p.many + 1, p.many + 2]
  | ts => [if one p ts then p.many + 1 else p.many + 2, p.many + 2, p.many + 2])
def Fo (ns : List Str) (ts : List Th) : Prop := oks ns ts ∧ deps ts < 12 ∧ ts.length ≤ 100
/-! ### the promises -/
abbrev S_law_source : D2.Spec := ⟨List Int, fun ns => [.fro (ns.map Dv.int), .int 56], fun _ => [], fun ns => ns.length ≤ 63, fun _ d st => d = .ref 1 ∧ Dr [] st⟩
abbrev A_law_names (n : Nat) : List Dv := [nat n]
abbrev P_law_names (_ : Sto) (n : Nat) : Prop := 1 ≤ n ∧ n ≤ 2
abbrev R_law_names (n : Nat) (d : Dv) : Prop := ∃ ns : List Str, ns.length = n ∧ (∀ s ∈ ns, Nm s) ∧ d = .rol (ns.map Dv.str)
abbrev A_law_text (_ : Unit) : List Dv := []
abbrev P_law_text (_ : Sto) (_ : Unit) : Prop := True
abbrev R_law_text (_ : Unit) (d : Dv) : Prop := ∃ s : Str, Nm s ∧ d = .str s
structure ShI where
  st : Sto
  fs : List Dv
  c : Nat
  l : Nat
  c' : Nat
  l' : Nat
  n : Str
  n' : Str
  ys : List Dv
  xs : List Dv
abbrev S_law_shut : D2.Spec := ⟨ShI, fun _ => [.ref 4], fun i => i.st, fun i => i.st[4]? = some (.lst (i.fs ++ [.ref i.c', .ref i.c])) ∧ i.st[i.c]? = some (.lst [.str i.n, .ref i.l]) ∧ i.st[i.l]? = some (.lst i.ys) ∧ i.st[i.c']? = some (.lst [.str i.n', .ref i.l']) ∧ i.st[i.l']? = some (.lst i.xs) ∧
  i.c ≠ 4 ∧ i.l ≠ 4 ∧ i.c' ≠ 4 ∧ i.l' ≠ 4 ∧ i.xs.length ≤ 1000 ∧ i.ys.length ≤ 1000, fun i d st' => d = .non ∧ st' = (i.st.set 4 (.lst (i.fs ++ [.ref i.c']))).set i.l' (.lst (i.xs ++ [.tup [.str i.n, .tup i.ys]]))⟩
abbrev A_law_forest (i : List Str × Nat) : List Dv := [.rol (i.1.map Dv.str), nat i.2]
abbrev P_law_forest (r : Sto) (i : List Str × Nat) : Prop := r = [] ∧ 0 < i.1.length ∧ i.1.length ≤ 2 ∧ i.2 ≤ 7
abbrev R_law_forest (i : List Str × Nat) (d : Dv) : Prop := ∃ ts, Fo i.1 ts ∧ deps ts < 11 ∧ d = .tup (dvs ts)
abbrev A_law_node (i : List Str × Nat) : List Dv := [.rol (i.1.map Dv.str), nat i.2]
abbrev P_law_node (r : Sto) (i : List Str × Nat) : Prop := r = [] ∧ 0 < i.1.length ∧ i.1.length ≤ 2 ∧ i.2 ≤ 7
abbrev R_law_node (i : List Str × Nat) (d : Dv) : Prop := ∃ t : Th, t.ok i.1 ∧ t.dep < 12 ∧ d = t.dv
abbrev A_law_drawn (ns : List Str) : List Dv := [.rol (ns.map Dv.str), nat 6]
abbrev P_law_drawn (r : Sto) (ns : List Str) : Prop := r = [] ∧ 0 < ns.length ∧ ns.length ≤ 2 ∧ ∀ s ∈ ns, Nm s
abbrev R_law_drawn (ns : List Str) (d : Dv) : Prop := ∃ p, WF p ∧ p.names = ns ∧ d = p.dv
abbrev A_law_on (i : Pl × Nat × List Th) : List Dv := [i.1.dv, nat i.2.1, .tup (dvs i.2.2)]
abbrev P_law_on (n : Nat) (i : Pl × Nat × List Th) : Prop := WF i.1 ∧ i.2.1 < i.1.many ∧ oks i.1.names i.2.2 ∧ deps i.2.2 < n
abbrev R_law_on (i : Pl × Nat × List Th) (d : Dv) : Prop := d = nat (on i.1 i.2.1 i.2.2)
abbrev A_law_state (i : Pl × Str × List Th) : List Dv := [i.1.dv, .tup [.str i.2.1, .tup (dvs i.2.2)]]
abbrev P_law_state (n : Nat) (i : Pl × Str × List Th) : Prop := WF i.1 ∧ i.2.1 ∈ i.1.names ∧ oks i.1.names i.2.2 ∧ deps i.2.2 < n
abbrev R_law_state (i : Pl × Str × List Th) (d : Dv) : Prop := d = nat (stOf i.1 (.node i.2.1 i.2.2))
abbrev A_state_behind (C : Addr) (i : Pl × Nat × List Th) : List Dv := [i.1.tb C, nat i.2.1, .tup (dvs i.2.2)]
abbrev A_state_of (C : Addr) (i : Pl × Str × List Th) : List Dv := [i.1.tb C, .tup [.str i.2.1, .tup (dvs i.2.2)]]
abbrev A_law_of_table (C : Addr) (p : Pl) : List Dv := [p.tb C]
abbrev P_law_of_table (p : Pl) : Prop := WF p
abbrev R_law_of_table (p : Pl) (d : Dv) : Prop := d = p.dv
abbrev A_law_of_plain (p : Pl) : List Dv := [p.dv]
abbrev P_law_of_plain (p : Pl) : Prop := WF p
abbrev R_law_of_plain (C : Addr) (p : Pl) (d : Dv) : Prop := d = p.tb C
abbrev A_no_effect (C : Addr) (p : Pl) : List Dv := [p.tb C]
abbrev P_no_effect (p : Pl) : Prop := WF p
abbrev R_no_effect (p : Pl) (d : Dv) : Prop := d = nts (noEff p)
abbrev A_text_effect (C : Addr) (p : Pl) : List Dv := [p.tb C]
abbrev P_text_effect (p : Pl) : Prop := WF p
abbrev R_text_effect (p : Pl) (d : Dv) : Prop := d = nts (txtEff p)
abbrev A_node_effect (C : Addr) (i : Pl × Nat) : List Dv := [i.1.tb C, nat i.2]
abbrev P_node_effect (i : Pl × Nat) : Prop := WF i.1 ∧ i.2 < i.1.many
abbrev R_node_effect (i : Pl × Nat) (d : Dv) : Prop := d = nts (nodeEff i.1 i.2)
abbrev A_both_effects (i : List Nat × List Nat) : List Dv := [nts i.1, nts i.2]
abbrev P_both_effects (i : List Nat × List Nat) : Prop := (∀ x ∈ i.1, x < i.2.length) ∧ i.1.length ≤ 1000
abbrev R_both_effects (i : List Nat × List Nat) (d : Dv) : Prop := d = nts (both i.1 i.2)
abbrev A_effect_of (C : Addr) (i : Pl × List Th) : List Dv := [i.1.tb C, .tup (dvs i.2)]
abbrev P_effect_of (i : Pl × List Th) : Prop := WF i.1 ∧ oks i.1.names i.2 ∧ deps i.2 < 12
abbrev R_effect_of (i : Pl × List Th) (d : Dv) : Prop := d = nts (effT i.1 i.2 (noEff i.1))
abbrev A_is_one_taken (C : Addr) (i : Pl × List Nat) : List Dv := [i.1.tb C, nts i.2]
abbrev P_is_one_taken (i : Pl × List Nat) : Prop := WF i.1 ∧ i.1.many < i.2.length
abbrev R_is_one_taken (i : Pl × List Nat) (d : Dv) : Prop := d = .bl (decide (i.2.getD i.1.many 0 = i.1.many + 1))
abbrev A_law_effect (i : Pl × List Th) : List Dv := [i.1.dv, .tup (dvs i.2)]
abbrev P_law_effect (i : Pl × List Th) : Prop := WF i.1 ∧ oks i.1.names i.2 ∧ deps i.2 < 12 ∧ i.2.length ≤ 1000
abbrev R_law_effect (i : Pl × List Th) (d : Dv) : Prop := d = nts (effL i.1 i.2)
abbrev A_law_some (ns : List Str) : List Dv := [.rol (ns.map Dv.str)]
abbrev P_law_some (r : Sto) (ns : List Str) : Prop := r = [] ∧ 0 < ns.length ∧ ns.length ≤ 2
abbrev R_law_some (ns : List Str) (d : Dv) : Prop := ∃ ts, Fo ns ts ∧ d = .tup (dvs ts)
section
variable (C : Addr) (n : Nat)
abbrev W_law_source : DTS :=
  (wSeq (wSet 2 (wRl (wLc (wIt (wRl (wSlN (wVar 0) wNo (wPt (wC (.int 63)))))) (.one 3) wYes (wCB (g1 gAbs) (wCons (wCB (g1 gInt) (wCons (wVar 3) wNil)) wNil)) [3])))
  (wSeq (wSet 4 (w2 gAdd (wC (.int 3023)) (w2 gMul (wC (.int 7907)) (wVar 1))))
  (wSeq (wFor (wIt (wVar 2)) (.one 3) (wSet 4 (w2 (gI (fun _ j => 0 < j) fun a b => a % b) (wCB (g1 gInt) (wCons (w2 gAdd (w2 gAdd (w2 gMul (wVar 4) (wC (.int 48271))) (w2 (gI (fun _ j => 0 < j) fun a b => a % b) (wVar 3) (wC (.int 2147483549)))) (wC (.int 37))) wNil)) (wC (.int 2147483647)))))
  (wRet (wCel (wCons (wCl (wRevN (wRl (wLc (wIt (wVar 2)) (.one 3) (wB (w2 (gB fun a b => decide (b ≤ a)) (wVar 3) (w2 (gI CPow fun a b => a ^ b.toNat) (wC (.int 10)) (wC (.int 18))))) (wVar 3) [3])))) (wCons (wVar 4) wNil)))))))
abbrev N_law_source : List Str := ["script", "salt", "numbers", "cell", "blend"]
abbrev W_law_names : DTS :=
  (wSeq (wSet 2 (wC (.str "abcdefghijklmnopqrstuvwxyz")))
  (wSeq (wSet 3 (wDr A_law_any P_law_any R_law_any (wCons (wVar 0) (wCons (w2 (gI (fun _ _ => True) fun a b => a - b) (wC (.int 27)) (wVar 1)) wNil))))
  (wSeq (wSet 4 (wRl (wLc (wRng1 (wCons (wVar 1) wNil)) (.one 5) wYes (w2 gIx (wVar 2) (w2 gAdd (wVar 3) (wVar 5))) [5])))
  (wSeq (wIf (wB (w2 (gEq false) (wDr A_law_any P_law_any R_law_any (wCons (wVar 0) (wCons (wC (.int 2)) wNil))) (wC (.int 0)))) (wRet (wVar 4)) wNext)
  (wSeq (wSet 6 (wRl (wLc (wRng1 (wCons (w2 gAdd (wC (.int 1)) (wDr A_law_any P_law_any R_law_any (wCons (wVar 0) (wCons (wC (.int 7)) wNil)))) wNil)) (.one 5) wYes (wDr A_law_of P_law_of R_law_of (wCons (wVar 0) (wCons (wVar 2) wNil))) [5])))
  (wSeq (wSet 7 (wDr A_law_any P_law_any R_law_any (wCons (wVar 0) (wCons (w2 gAdd (wCB (g1 gLen) (wCons (wVar 6) wNil)) (wC (.int 1))) wNil))))
  (wRet (wRl (wLc (wIt (wVar 4)) (.one 8) wYes (w2 gAdd (w2 gAdd (wJoin (wC (.str "")) (wRl (wSlN (wVar 6) wNo (wPt (wVar 7))))) (wVar 8)) (wJoin (wC (.str "")) (wRl (wSlN (wVar 6) (wPt (wVar 7)) wNo)))) [8])))))))))
abbrev N_law_names : List Str := ["draws", "many", "letters", "first", "some", "at", "base", "place", "one"]
abbrev W_law_text : DTS :=
  (wSeq (wSet 1 (wC (.str "abcdefghijklmnopqrstuvwxyz0123456789 ")))
  (wRet (wJoin (wC (.str "")) (wRl (wLc (wRng1 (wCons (wDr A_law_of P_law_of R_law_of (wCons (wVar 0) (wCons (wRol (wCons (wC (.int 0)) (wCons (wC (.int 0)) (wCons (wC (.int 0)) (wCons (wC (.int 1)) (wCons (wC (.int 2)) (wCons (wC (.int 16)) wNil))))))) wNil))) wNil)) (.one 2) wYes (wDr A_law_of P_law_of R_law_of (wCons (wVar 0) (wCons (wVar 1) wNil))) [2])))))
abbrev N_law_text : List Str := ["draws", "signs", "turn"]
abbrev W_law_shut : DTS :=
  (wSeq (wSet 1 (wPop (wVar 0)))
  (wDrop (wApp (w2 gIx (w2 gIx (wVar 0) (wNeg (wC (.int 1)))) (wC (.int 1))) (wTup (wCons (w2 gIx (wVar 1) (wC (.int 0))) (wCons (wCB (g1 gTuple) (wCons (w2 gIx (wVar 1) (wC (.int 1))) wNil)) wNil))))))
abbrev N_law_shut : List Str := ["stack", "last"]
abbrev W_law_forest : DTS :=
  (wSeq (wSet 3 (wCel (wCons (wCel (wCons (wC (.str "")) (wCons (wCel wNil) wNil))) wNil)))
  (wSeq (wFor (wRng1 (wCons (wDr A_law_any P_law_any R_law_any (wCons (wVar 0) (wCons (w2 gAdd (wVar 2) (wC (.int 1))) wNil))) wNil)) (.one 4) (wSeq (wFor (wRng1 (wCons (wDr A_law_of P_law_of R_law_of (wCons (wVar 0) (wCons (wRol (wCons (wC (.int 0)) (wCons (wC (.int 0)) (wCons (wC (.int 1)) (wCons (wC (.int 1)) (wCons (wC (.int 2)) wNil)))))) wNil))) wNil)) (.one 5) (wIf (wB (w2 (gB fun a b => decide (b < a)) (wCB (g1 gLen) (wCons (wVar 3) wNil)) (wC (.int 1)))) (wDrop (wCall S_law_shut (wCons (wVar 3) wNil))) wNext))
  (wIf (wB (w2 (gEq false) (wDr A_law_any P_law_any R_law_any (wCons (wVar 0) (wCons (wC (.int 4)) wNil))) (wC (.int 0)))) (wDrop (wApp (w2 gIx (w2 gIx (wVar 3) (wNeg (wC (.int 1)))) (wC (.int 1))) (wDr A_law_text P_law_text R_law_text (wCons (wVar 0) wNil)))) (wDrop (wApp (wVar 3) (wCel (wCons (wDr A_law_of P_law_of R_law_of (wCons (wVar 0) (wCons (wVar 1) wNil))) (wCons (wCel wNil) wNil))))))))
  (wSeq (wFor (wRng1 (wCons (wVar 2) wNil)) (.one 4) (wIf (wB (w2 (gB fun a b => decide (b < a)) (wCB (g1 gLen) (wCons (wVar 3) wNil)) (wC (.int 1)))) (wDrop (wCall S_law_shut (wCons (wVar 3) wNil))) wNext))
  (wRet (wCB (g1 gTuple) (wCons (w2 gIx (w2 gIx (wVar 3) (wC (.int 0))) (wC (.int 1))) wNil))))))
abbrev N_law_forest : List Str := ["draws", "names", "most", "stack", "turn", "back"]
abbrev W_law_node : DTS :=
  (wRet (wTup (wCons (wDr A_law_of P_law_of R_law_of (wCons (wVar 0) (wCons (wVar 1) wNil))) (wCons (wDr A_law_forest P_law_forest R_law_forest (wCons (wVar 0) (wCons (wVar 1) (wCons (wVar 2) wNil)))) wNil))))
abbrev N_law_node : List Str := ["draws", "names", "most"]
abbrev W_law_drawn_t9 : DTS :=
  (wRet (wTup (wCons (wCB (g1 gTupX) (wCons (wVar 1) wNil)) (wCons (wVar 6) (wCons (wVar 8) (wCons (wCB (g1 gTuple) (wCons (wVar 11) wNil)) (wCons (wVar 13) wNil)))))))
abbrev W_law_drawn_t8 : DTS :=
  (wSeq (wIf (wAnd (wB (w2 (gEq false) (wVar 13) (wTup wNil))) (wB (w2 (gB fun a b => decide (b < a)) (wDr A_law_any P_law_any R_law_any (wCons (wVar 0) (wCons (wC (.int 4)) wNil))) (wC (.int 0))))) (wSet 13 (wTup (wCons (wDr A_law_of P_law_of R_law_of (wCons (wVar 0) (wCons (wVar 6) wNil))) wNil))) wNext) W_law_drawn_t9)
abbrev W_law_drawn_t7 : DTS :=
  (wSeq (wSet 13 (wCB (g1 gTuple) (wCons (wRl (wLc (wRng1 (wCons (wVar 3) wNil)) (.one 9) (wB (w2 (gEq false) (wDr A_law_any P_law_any R_law_any (wCons (wVar 0) (wCons (wC (.int 3)) wNil))) (wC (.int 0)))) (wVar 9) [9])) wNil))) W_law_drawn_t8)
abbrev W_law_drawn_t6 : DTS :=
  (wSeq (wFor (wRng1 (wCons (wVar 3) wNil)) (.one 9) (wDrop (wApp (wVar 11) (wCB (g1 gTuple) (wCons (wRl (wLc (wRng1 (wCons (wVar 3) wNil)) (.one 12) wYes (wIfE (wB (w2 (gEq false) (wDr A_law_any P_law_any R_law_any (wCons (wVar 0) (wCons (wVar 10) wNil))) (wC (.int 0)))) (wDr A_law_any P_law_any R_law_any (wCons (wVar 0) (wCons (wVar 3) wNil))) (wDr A_law_of P_law_of R_law_of (wCons (wVar 0) (wCons (wVar 4) wNil)))) [12])) wNil))))) W_law_drawn_t7)
abbrev W_law_drawn_t5 : DTS :=
  (wSeq (wSet 11 (wCel wNil)) W_law_drawn_t6)
abbrev W_law_drawn_t4 : DTS :=
  (wSeq (wSet 10 (w2 gAdd (wC (.int 2)) (wDr A_law_any P_law_any R_law_any (wCons (wVar 0) (wCons (wC (.int 3)) wNil))))) W_law_drawn_t5)
abbrev W_law_drawn_t3 : DTS :=
  (wSeq (wSet 8 (wCB (g1 gTuple) (wCons (wRl (wLc (wRng1 (wCons (wVar 3) wNil)) (.one 9) wYes (wDr A_law_of P_law_of R_law_of (wCons (wVar 0) (wCons (w2 gAdd (wVar 4) (wRol (wCons (wDr A_law_any P_law_any R_law_any (wCons (wVar 0) (wCons (wVar 3) wNil))) wNil))) wNil))) [9])) wNil))) W_law_drawn_t4)
abbrev W_law_drawn_t2 : DTS :=
  (wSeq (wSet 6 (wCB (g1 gTuple) (wCons (wRl (wLc (wIt (wVar 1)) (.one 7) wYes (wDr A_law_any P_law_any R_law_any (wCons (wVar 0) (wCons (wVar 3) wNil))) [7])) wNil))) W_law_drawn_t3)
abbrev W_law_drawn_t1 : DTS :=
  (wSeq (wSet 4 (w2 gAdd (wRl (wLc (wRng1 (wCons (wC (.int 3)) wNil)) (.one 5) wYes (wDr A_law_any P_law_any R_law_any (wCons (wVar 0) (wCons (wVar 3) wNil))) [5])) (wRol (wCons (w2 (gI (fun _ _ => True) fun a b => a - b) (wVar 3) (wC (.int 1))) wNil)))) W_law_drawn_t2)
abbrev W_law_drawn : DTS :=
  (wSeq (wSet 3 (wIfE (wB (w2 (gB fun a b => decide (b < a)) (wDr A_law_any P_law_any R_law_any (wCons (wVar 0) (wCons (wC (.int 8)) wNil))) (wC (.int 0)))) (w2 gAdd (wC (.int 2)) (wDr A_law_any P_law_any R_law_any (wCons (wVar 0) (wCons (w2 (gI (fun _ _ => True) fun a b => a - b) (wVar 2) (wC (.int 1))) wNil)))) (wC (.int 1)))) W_law_drawn_t1)
abbrev N_law_drawn : List Str := ["draws", "names", "most", "many", "some", "turn", "begins", "name", "texts", "state", "free", "steps", "child", "ends"]
abbrev W_law_on : DTS :=
  (wSeq (wFor (wIt (wVar 2)) (.one 3) (wIf (wAnd (wB (w2 (gIs true) (wVar 1) (wC .non))) (wTru (wIsi .str (wVar 3)))) (wSet 1 (w2 gIx (w2 gIx (wVar 0) (wC (.int 2))) (wVar 1))) (wIf (wB (w2 (gIs true) (wVar 1) (wC .non))) (wSeq (wSet 4 (wFn A_law_state (P_law_state n) R_law_state (wCons (wVar 0) (wCons (wVar 3) wNil))))
  (wSet 1 (wIfE (wB (w2 (gIs false) (wVar 4) (wC .non))) (wC .non) (w2 gIx (w2 gIx (w2 gIx (wVar 0) (wC (.int 3))) (wVar 1)) (wVar 4))))) wNext)))
  (wRet (wVar 1)))
abbrev N_law_on : List Str := ["plain", "state", "forest", "thing", "child"]
abbrev W_law_state : DTS :=
  (wSeq (wIf (wB (w2 (gIn true) (w2 gIx (wVar 1) (wC (.int 0))) (w2 gIx (wVar 0) (wC (.int 0))))) (wRet (wC .non)) wNext)
  (wRet (wFn A_law_on (P_law_on n) R_law_on (wCons (wVar 0) (wCons (w2 gIx (w2 gIx (wVar 0) (wC (.int 1))) (wTix (w2 gIx (wVar 0) (wC (.int 0))) (w2 gIx (wVar 1) (wC (.int 0))))) (wCons (w2 gIx (wVar 1) (wC (.int 1))) wNil))))))
abbrev N_law_state : List Str := ["plain", "node"]
abbrev Wstate_behind : DTS :=
  (wSeq (wFor (wIt (wVar 2)) (.one 3) (wSeq (wSet 4 (wIfE (wTru (wIsi .str (wVar 3))) (wC .non) (wFn (A_state_of C) (P_law_state n) R_law_state (wCons (wVar 0) (wCons (wVar 3) wNil)))))
  (wIf (wTru (wIsi .str (wVar 3))) (wSet 1 (w2 gIx (wFld C "texts" (wVar 0)) (wVar 1))) (wIf (wB (w2 (gIs false) (wVar 4) (wC .non))) (wRet (wC .non)) (wSet 1 (w2 gIx (w2 gIx (wFld C "steps" (wVar 0)) (wVar 1)) (wVar 4)))))))
  (wRet (wVar 1)))
abbrev Nstate_behind : List Str := ["table", "state", "forest", "thing", "child"]
abbrev Wstate_of : DTS :=
  (wSeq (wAsgT (.many [2, 3]) (wVar 1))
  (wSeq (wIf (wB (w2 (gIn true) (wVar 2) (wFld C "names" (wVar 0)))) (wRet (wC .non)) wNext)
  (wRet (wFn (A_state_behind C) (P_law_on n) R_law_on (wCons (wVar 0) (wCons (w2 gIx (wFld C "begins" (wVar 0)) (wTix (wFld C "names" (wVar 0)) (wVar 2))) (wCons (wVar 3) wNil)))))))
abbrev Nstate_of : List Str := ["table", "node", "name", "things"]
abbrev W_law_of_table : DTS :=
  (wRet (wTup (wCons (wFld C "names" (wVar 0)) (wCons (wFld C "begins" (wVar 0)) (wCons (wFld C "texts" (wVar 0)) (wCons (wFld C "steps" (wVar 0)) (wCons (wFld C "ends" (wVar 0)) wNil)))))))
abbrev N_law_of_table : List Str := ["table"]
abbrev W_law_of_plain : DTS :=
  (wRet (wMake C ["names", "begins", "texts", "steps", "ends"] (wCons (w2 gIx (wVar 0) (wC (.int 0))) (wCons (w2 gIx (wVar 0) (wC (.int 1))) (wCons (w2 gIx (wVar 0) (wC (.int 2))) (wCons (w2 gIx (wVar 0) (wC (.int 3))) (wCons (w2 gIx (wVar 0) (wC (.int 4))) wNil)))))))
abbrev N_law_of_plain : List Str := ["plain"]
abbrev Wno_effect : DTS :=
  (wRet (wTupRg (w2 gAdd (wCB (g1 gLen) (wCons (wFld C "texts" (wVar 0)) wNil)) (wC (.int 3)))))
abbrev Nno_effect : List Str := ["table"]
abbrev Wtext_effect : DTS :=
  (wRet (w2 gAdd (wFld C "texts" (wVar 0)) (w2 gMul (wTup (wCons (w2 gAdd (wCB (g1 gLen) (wCons (wFld C "texts" (wVar 0)) wNil)) (wC (.int 2))) wNil)) (wC (.int 3)))))
abbrev Ntext_effect : List Str := ["table"]
abbrev Wnode_effect : DTS :=
  (wSeq (wSet 2 (wCB (g1 gLen) (wCons (wFld C "texts" (wVar 0)) wNil)))
  (wSeq (wSet 3 (wIfE (wB (w2 (gIn false) (wVar 1) (wFld C "ends" (wVar 0)))) (w2 gAdd (wVar 2) (wC (.int 1))) (w2 gAdd (wVar 2) (wC (.int 2)))))
  (wRet (w2 gAdd (wCB (g1 gTuple) (wCons (wRl (wLc (wIt (wFld C "steps" (wVar 0))) (.one 4) wYes (w2 gIx (wVar 4) (wVar 1)) [4])) wNil)) (wTup (wCons (wVar 3) (wCons (w2 gAdd (wVar 2) (wC (.int 2))) (wCons (w2 gAdd (wVar 2) (wC (.int 2))) wNil))))))))
abbrev Nnode_effect : List Str := ["table", "state", "many", "alone", "row"]
abbrev Wboth_effects : DTS :=
  (wRet (wCB (g1 gTuple) (wCons (wRl (wLc (wIt (wVar 0)) (.one 2) wYes (w2 gIx (wVar 1) (wVar 2)) [2])) wNil)))
abbrev Nboth_effects : List Str := ["one", "other", "state"]
abbrev Weffect_of : DTS :=
  (wSeq (wSet 2 (wFn (A_no_effect C) P_no_effect R_no_effect (wCons (wVar 0) wNil)))
  (wSeq (wFor (wIt (wVar 1)) (.one 3) (wSeq (wSet 4 (wIfE (wTru (wIsi .str (wVar 3))) (wFn (A_text_effect C) P_text_effect R_text_effect (wCons (wVar 0) wNil)) (wFn (A_node_effect C) P_node_effect R_node_effect (wCons (wVar 0) (wCons (wFn (A_state_of C) (P_law_state n) R_law_state (wCons (wVar 0) (wCons (wVar 3) wNil))) wNil)))))
  (wSet 2 (wFn (A_both_effects) P_both_effects R_both_effects (wCons (wVar 2) (wCons (wVar 4) wNil))))))
  (wRet (wVar 2))))
abbrev Neffect_of : List Str := ["table", "forest", "found", "thing", "more"]
abbrev Wis_one_taken : DTS :=
  (wRet (w2 (gEq false) (w2 gIx (wVar 1) (wCB (g1 gLen) (wCons (wFld C "texts" (wVar 0)) wNil))) (w2 gAdd (wCB (g1 gLen) (wCons (wFld C "texts" (wVar 0)) wNil)) (wC (.int 1)))))
abbrev Nis_one_taken : List Str := ["table", "effect"]
abbrev W_law_effect : DTS :=
  (wSeq (wSet 2 (wCB (g1 gLen) (wCons (w2 gIx (wVar 0) (wC (.int 2))) wNil)))
  (wSeq (wSet 3 (wRl (wLc (wRng1 (wCons (wVar 2) wNil)) (.one 4) wYes (wFn A_law_on (P_law_on n) R_law_on (wCons (wVar 0) (wCons (wVar 4) (wCons (wVar 1) wNil)))) [4])))
  (wSeq (wIf (wB (w2 (gEq false) (wVar 1) (wTup wNil))) (wRet (wCB (g1 gTuple) (wCons (w2 gAdd (wVar 3) (wRol (wCons (wVar 2) (wCons (w2 gAdd (wVar 2) (wC (.int 1))) (wCons (w2 gAdd (wVar 2) (wC (.int 2))) wNil))))) wNil))) wNext)
  (wSeq (wSet 5 (wAndV (w2 (gEq false) (wCB (g1 gLen) (wCons (wVar 1) wNil)) (wC (.int 1))) (wAndV (wNotV (wIsi .str (w2 gIx (wVar 1) (wC (.int 0))))) (w2 (gIn false) (wFn A_law_state (P_law_state n) R_law_state (wCons (wVar 0) (wCons (w2 gIx (wVar 1) (wC (.int 0))) wNil))) (w2 gIx (wVar 0) (wC (.int 4)))))))
  (wRet (wCB (g1 gTuple) (wCons (w2 gAdd (wVar 3) (wRol (wCons (wIfE (wTru (wVar 5)) (w2 gAdd (wVar 2) (wC (.int 1))) (w2 gAdd (wVar 2) (wC (.int 2)))) (wCons (w2 gAdd (wVar 2) (wC (.int 2))) (wCons (w2 gAdd (wVar 2) (wC (.int 2))) wNil))))) wNil)))))))
abbrev N_law_effect : List Str := ["plain", "forest", "many", "found", "state", "alone"]
abbrev W_law_some : DTS :=
  (wRet (wDr A_law_of P_law_of R_law_of (wCons (wVar 0) (wCons (wRol (wCons (wTup wNil) (wCons (wTup (wCons (wC (.str "")) wNil)) (wCons (wTup (wCons (wDr A_law_node P_law_node R_law_node (wCons (wVar 0) (wCons (wVar 1) (wCons (wC (.int 5)) wNil)))) wNil)) (wCons (wTup (wCons (wDr A_law_node P_law_node R_law_node (wCons (wVar 0) (wCons (wVar 1) (wCons (wC (.int 5)) wNil)))) wNil)) (wCons (wDr A_law_forest P_law_forest R_law_forest (wCons (wVar 0) (wCons (wVar 1) (wCons (wC (.int 7)) wNil)))) (wCons (wDr A_law_forest P_law_forest R_law_forest (wCons (wVar 0) (wCons (wVar 1) (wCons (wC (.int 7)) wNil)))) wNil))))))) wNil))))
abbrev N_law_some : List Str := ["draws", "names"]
abbrev Wlaw_last : DTS :=
  (wIf (wOr (wB (w2 (gEq true) (wCB (g1 gRepr) (wCons (wFn (A_is_one_taken C) P_is_one_taken R_is_one_taken (wCons (wVar 4) (wCons (wVar 9) wNil))) wNil)) (wCB (g1 gRepr) (wCons (wVar 12) wNil)))) (wB (w2 (gEq true) (wFn (A_is_one_taken C) P_is_one_taken R_is_one_taken (wOrd 0 2 (ordL [1, 0]) wNil (wCons (wVar 9) (wCons (wVar 4) wNil)))) (wVar 12)))) (wRet (wC (.bl false))) wNext)
abbrev Wlaw : DTS :=
  (wSeq (wSet 1 (wCall S_law_source (wCons (wVar 0) (wCons (wC (.int 56)) wNil))))
  (wSeq (wFor (wRng1 (wCons (wC (.int 3)) wNil)) (.one 2) (wSeq (wSet 3 (wDr A_law_drawn P_law_drawn R_law_drawn (wCons (wVar 1) (wCons (wDr A_law_names P_law_names R_law_names (wCons (wVar 1) (wCons (w2 gAdd (wC (.int 1)) (wDr A_law_any P_law_any R_law_any (wCons (wVar 1) (wCons (wC (.int 2)) wNil)))) wNil))) (wCons (wC (.int 6)) wNil)))))
  (wSeq (wPar 4 5 (wFn (A_law_of_plain) P_law_of_plain (R_law_of_plain C) (wCons (wVar 3) wNil)) (wRl (wCN (n1 fun x st Q => ∃ xs, seqD st x = some xs ∧ Q xs st) (wCons (w2 gIx (wVar 3) (wC (.int 0))) wNil))))
  (wSeq (wFor (wRng1 (wCons (wC (.int 3)) wNil)) (.one 6) (wSeq (wPar 7 8 (wDr A_law_some P_law_some R_law_some (wCons (wVar 1) (wCons (wVar 5) wNil))) (wDr A_law_some P_law_some R_law_some (wCons (wVar 1) (wCons (wVar 5) wNil))))
  (wSeq (wPar3 9 10 11 (wFn (A_law_effect) P_law_effect R_law_effect (wCons (wVar 3) (wCons (wVar 7) wNil))) (wFn (A_law_effect) P_law_effect R_law_effect (wCons (wVar 3) (wCons (wVar 8) wNil))) (wFn (A_law_effect) P_law_effect R_law_effect (wCons (wVar 3) (wCons (w2 gAdd (wVar 7) (wVar 8)) wNil))))
  (wSeq (wIf (wB (w2 (gEq true) (wCB (g1 gRepr) (wCons (wRol (wCons (wFn (A_effect_of C) P_effect_of R_effect_of (wCons (wVar 4) (wCons (wVar 7) wNil))) (wCons (wFn (A_effect_of C) P_effect_of R_effect_of (wOrd 0 2 (ordL [1, 0]) wNil (wCons (wVar 8) (wCons (wVar 4) wNil)))) wNil))) wNil)) (wCB (g1 gRepr) (wCons (wRol (wCons (wVar 9) (wCons (wVar 10) wNil))) wNil)))) (wRet (wC (.bl false))) wNext)
  (wSeq (wIf (wOr (wB (w2 (gEq true) (wCB (g1 gRepr) (wCons (wFn (A_both_effects) P_both_effects R_both_effects (wCons (wVar 9) (wCons (wVar 10) wNil))) wNil)) (wCB (g1 gRepr) (wCons (wVar 11) wNil)))) (wB (w2 (gEq true) (wCB (g1 gRepr) (wCons (wFn (A_both_effects) P_both_effects R_both_effects (wOrd 0 2 (ordL [1, 0]) wNil (wCons (wVar 10) (wCons (wVar 9) wNil)))) wNil)) (wCB (g1 gRepr) (wCons (wFn (A_effect_of C) P_effect_of R_effect_of (wCons (wVar 4) (wCons (w2 gAdd (wVar 7) (wVar 8)) wNil))) wNil))))) (wRet (wC (.bl false))) wNext)
  (wSeq (wSet 12 (wAndV (w2 (gEq false) (wCB (g1 gLen) (wCons (wVar 7) wNil)) (wC (.int 1))) (wAndV (wNotV (wIsi .str (w2 gIx (wVar 7) (wC (.int 0))))) (w2 (gIn false) (wFn A_law_state (P_law_state n) R_law_state (wCons (wVar 3) (wCons (w2 gIx (wVar 7) (wC (.int 0))) wNil))) (w2 gIx (wVar 3) (wC (.int 4)))))))
  (wIf (wOr (wB (w2 (gEq true) (wCB (g1 gRepr) (wCons (wFn (A_is_one_taken C) P_is_one_taken R_is_one_taken (wCons (wVar 4) (wCons (wVar 9) wNil))) wNil)) (wCB (g1 gRepr) (wCons (wVar 12) wNil)))) (wB (w2 (gEq true) (wFn (A_is_one_taken C) P_is_one_taken R_is_one_taken (wOrd 0 2 (ordL [1, 0]) wNil (wCons (wVar 9) (wCons (wVar 4) wNil)))) (wVar 12)))) (wRet (wC (.bl false))) wNext)))))))
  (wIf (wB (w2 (gEq true) (wCB (g1 gRepr) (wCons (wFn (A_law_of_table C) P_law_of_table R_law_of_table (wCons (wVar 4) wNil)) wNil)) (wCB (g1 gRepr) (wCons (wVar 3) wNil)))) (wRet (wC (.bl false))) wNext)))))
  (wRet (wC (.bl true)))))
abbrev Nlaw : List Str := ["script", "draws", "turn", "plain", "table", "names", "pair", "one", "other", "first", "second", "whole", "taken"]
end
end K56

namespace K56
open PySem PySem.Spec PyProof.Rows L2 D2
theorem p_law_source : PL N_law_source W_law_source S_law_source := by
  intro (ns : List Int) hl
  have hl : ns.length ≤ 63 := hl
  show W_law_source _ [some (.fro (ns.map Dv.int)), some (.int 56), none, none, none] []
  generalize hD : ({ nx := _, rt := _ } : DEnds) = D
  have fin : ∀ b cs, okD b cs → D.rt (.ref 1) (DSt b cs []) := fun b cs h => by
    rw [← hD]
    exact .inl ⟨⟨rfl, b, cs, h, rfl⟩, Nat.zero_le _⟩
  clear hD
  -- the numbers
  refine Exists.intro _ (And.intro rfl ?_)
  refine lc_all (xs := cutD (ns.map Dv.int) none (some 63)) (R := fun st => st = []) (P := fun _ y => ∃ c : Int, 0 ≤ c ∧ y = .int c) rfl (line64 (Nat.le_trans (cutD_le _ _ _) (by simp; omega))) (fun i x st' e hR => ?_) ?_
  · subst hR
    obtain ⟨c, _, rfl⟩ := List.mem_map.mp (cutD_mem (List.mem_of_getElem? e))
    exact ⟨_, rfl, fun Q' q => q _ _ ⟨_, by split <;> omega, rfl⟩ rfl⟩
  · rintro ys st' rfl hlen hP
    have hlen : ys.length ≤ 63 := by
      have := cutD_le (ns.map Dv.int) none (some 63)
      simp at this
      omega
    obtain ⟨cs, rfl, hcs⟩ := ints_of (P := fun c => 0 ≤ c) (mem_at hP)
    have hlen : cs.length ≤ 63 := by simpa using hlen
    -- the blend
    refine mulI (.inl (show -(2 ^ 64) < (7907 : Int) ∧ (7907 : Int) < 2 ^ 64 by decide)) ?_
    refine addI ?_
    refine Exists.intro (fun _ σ st => ∃ v b, σ = [some (.fro (ns.map Dv.int)), some (.int 56), some (.rol (cs.map Dv.int)), v, some (.int b)] ∧ 0 ≤ b ∧ b < 2147483647 ∧ st = []) ?_
    refine And.intro ⟨_, _, rfl, by decide, by decide, rfl⟩ ?_
    refine And.intro (fun i σ' st' _ n e => nomatch e) ?_
    refine And.intro (fun i x σ' st' e hI => ?_) ?_
    · obtain ⟨v, b, rfl, h1, h2, rfl⟩ := hI
      obtain ⟨c, hc, rfl⟩ := List.mem_map.mp (List.mem_of_getElem? e)
      refine ⟨_, rfl, ?_⟩
      refine mulI (.inr (show -(2 ^ 64) < (48271 : Int) ∧ (48271 : Int) < 2 ^ 64 by decide)) ?_
      refine modI (by decide) ?_
      refine addI ?_
      refine addI ?_
      refine modI (by decide) ?_
      exact ⟨_, _, rfl, by omega, by omega, rfl⟩
    · rintro σ' st' ⟨v, b, rfl, h1, h2, rfl⟩
      refine lc_some (xs := cs.map Dv.int) (R := fun st => st = []) (P := fun y => ∃ c : Int, 0 ≤ c ∧ y = .int c) rfl (line64 (by simp; omega)) (fun i x st' e hR => ?_) ?_
      · subst hR
        obtain ⟨c, hc, rfl⟩ := List.mem_map.mp (List.mem_of_getElem? e)
        refine ⟨_, rfl, fun QT q0 q1 => ?_⟩
        refine powI ⟨by decide, by decide, by decide⟩ ?_
        refine opB2 ?_
        cases hk : decide ((10 : Int) ^ (18 : Int).toNat ≤ c) with
        | true => exact q1 _ rfl fun Q' q => q _ _ ⟨c, hcs c hc, rfl⟩ rfl
        | false => exact q0 _ rfl
      · rintro ys st' rfl hl2 hP2
        obtain ⟨ds, rfl, hds⟩ := ints_of (P := fun c => 0 ≤ c) hP2
        have hl3 : ds.length ≤ 63 := by simp at hl2; omega
        refine Exists.intro (ds.map Dv.int) (And.intro rfl ?_)
        refine And.intro (show 2 ≤ sizeLine by decide) ?_
        have f := fin b ds.reverse ⟨h1, h2, fun c hc => hds c (by simpa using hc), by simpa using hl3⟩
        have e : DSt b ds.reverse [] = ([] : Sto) ++ [.lst (ds.map Dv.int).reverse] ++ [.lst [.ref 0, .int b]] := by simp [DSt]
        rw [e] at f
        exact f
theorem letters_at : ∀ i : Nat, i < 26 → ∃ c, ("abcdefghijklmnopqrstuvwxyz" : Str).cps.toList[i]? = some c ∧ c < 128 := by decide +kernel
theorem letters_mem : ∀ c ∈ ("abcdefghijklmnopqrstuvwxyz" : Str).cps.toList, c < 128 := by decide +kernel
theorem nm_one {c : Nat} (h : c < 128) : Nm1 ⟨#[c]⟩ := ⟨rfl, fun x hx => by
  have : x = c := by simpa using hx
  omega⟩
theorem nm_nm1 {s : Str} (h : Nm1 s) : Nm s := ⟨by rw [h.1]; decide, h.2⟩
theorem p_law_names : PL N_law_names W_law_names (D2.Spec.dr A_law_names P_law_names R_law_names) := by
  rintro ⟨b, cs, rest, n⟩ ⟨ok, h1, h2⟩
  have h1 : 1 ≤ n := h1
  have h2 : n ≤ 2 := h2
  show W_law_names _ [some (.ref 1), some (nat n), none, none, none, none, none, none, none] (DSt b cs rest)
  generalize hD : ({ nx := _, rt := _ } : DEnds) = D
  have fin : ∀ (ns : List Str) st', Dr rest st' → ns.length = n → (∀ s ∈ ns, Nm s) → D.rt (.rol (ns.map Dv.str)) st' := fun ns st' h1 h2 h3 => by
    rw [← hD]
    exact back_dr (args := A_law_names) (pre := P_law_names) (F := R_law_names) h1 ⟨ns, h2, h3, rfl⟩
  clear hD
  have one : ∀ (bd : Int) (k : Nat), bd = k → 0 < k → k < 1000 → ∀ (rest : Sto) (st : Sto) (Q : DK), Dr rest st → (∀ (r : Nat) st2, r < k → Dr rest st2 → Q (nat r) st2) → ∃ rest2 i, Dr rest2 st ∧ [.ref 1, .int bd] = .ref 1 :: A_law_any i ∧ P_law_any rest2 i ∧ ∀ d st2, Dr rest2 st2 → R_law_any i d → Q d st2 := by
    rintro bd k rfl h0 h1 rest st Q hd q
    refine ⟨rest, k, hd, rfl, ⟨h0, by omega⟩, fun d st2 hd2 hr => ?_⟩
    obtain ⟨r, hr, rfl⟩ := hr
    exact q r st2 hr hd2
  refine subI ?_
  refine one _ (27 - n) (by omega) (by omega) (by omega) rest _ _ ⟨b, cs, ok, rfl⟩ fun first st1 hf hd1 => ?_
  clear ok
  -- some
  refine And.intro ⟨by omega, by omega⟩ ?_
  rw [show ((n : Nat) : Int).toNat = n from Int.toNat_natCast n]
  refine lc_all (xs := rng 0 n) (R := Dr rest) (P := fun _ y => ∃ s : Str, Nm1 s ∧ y = .str s) hd1 (line64 (by rw [rng_length]; omega)) (fun i x st' e hR => ?_) ?_
  · obtain ⟨hi, rfl⟩ := rng_at e
    refine ⟨_, rfl, fun Q' q => ?_⟩
    refine addI ?_
    obtain ⟨c, hc, hc2⟩ := letters_at (first + i) (by omega)
    refine ixS (by decide) (c := c) ?_ (q _ _ ⟨_, nm_one hc2, rfl⟩ hR)
    have := atI_nat hc
    simpa using this
  · intro ys st2 hd2 hl hP
    obtain ⟨some_, rfl, hs⟩ := strs_of (P := Nm1) (mem_at hP)
    have hl : some_.length = n := by simpa [rng_length] using hl
    refine one 2 2 rfl (by decide) (by decide) rest _ _ hd2 fun r st3 hr hd3 => ?_
    refine eqI ?_
    refine iteC (fun _ => fin _ _ hd3 hl fun s h => nm_nm1 (hs s h)) fun _ => ?_
    -- base
    refine one 7 7 rfl (by decide) (by decide) rest _ _ hd3 fun m st4 hm hd4 => ?_
    refine addI ?_
    refine And.intro ⟨by omega, by omega⟩ ?_
    rw [show ((1 : Int) + (m : Int)).toNat = 1 + m by omega]
    refine lc_all (xs := rng 0 (1 + m)) (R := Dr rest) (P := fun _ y => ∃ s : Str, Nm1 s ∧ y = .str s) hd4 (line64 (by rw [rng_length]; omega)) (fun i x st' e hR => ?_) ?_
    · refine ⟨_, rfl, fun Q' q => ?_⟩
      refine ⟨rest, (.str "abcdefghijklmnopqrstuvwxyz", signs "abcdefghijklmnopqrstuvwxyz"), hR, rfl, ⟨rfl, by decide +kernel, by decide +kernel⟩, fun d st5 hd5 hr => ?_⟩
      obtain ⟨c, hc, rfl⟩ := List.mem_map.mp hr
      exact q _ _ ⟨_, nm_one (letters_mem c hc), rfl⟩ hd5
    · intro zs st5 hd5 hlz hPz
      obtain ⟨base, rfl, hb⟩ := strs_of (P := Nm1) (mem_at hPz)
      have hlb : base.length = 1 + m := by simpa [rng_length] using hlz
      refine len (xs := base.map Dv.str) rfl ?_
      refine addI ?_
      refine one _ (base.length + 1) (by simp) (by omega) (by omega) rest _ _ hd5 fun pl st6 hp hd6 => ?_
      refine lc_all (xs := some_.map Dv.str) (R := Dr rest) (P := fun _ y => ∃ s : Str, Nm s ∧ y = .str s) hd6 (line64 (by simp; omega)) (fun i x st' e hR => ?_) ?_
      · obtain ⟨s, hsm, rfl⟩ := List.mem_map.mp (List.mem_of_getElem? e)
        refine ⟨_, rfl, fun Q' q => ?_⟩
        have cut : ∀ lo hi, ∃ ys : List Str, cutD (base.map Dv.str) lo hi = ys.map Dv.str ∧ ys.length ≤ 7 ∧ ∀ s ∈ ys, Nm1 s := by
          intro lo hi
          obtain ⟨ys, h1, h2⟩ := strs_of (ys := cutD (base.map Dv.str) lo hi) (P := Nm1) fun y hy => by
            obtain ⟨s, hs2, rfl⟩ := List.mem_map.mp (cutD_mem hy)
            exact ⟨s, hb s hs2, rfl⟩
          refine ⟨ys, h1, ?_, h2⟩
          have h3 := cutD_le (base.map Dv.str) lo hi
          rw [h1] at h3
          simp at h3
          omega
        have jn : ∀ ys : List Str, ys.length ≤ 7 → (∀ s ∈ ys, Nm1 s) → (Txt.join "" ys).length ≤ 7 ∧ ∀ c ∈ (Txt.join "" ys).cps.toList, c < 128 := by
          intro ys hy hn
          have h3 := join0_len ys
          rw [sum_ones fun s hs => (hn s hs).1] at h3
          exact ⟨by omega, fun c hc => by
            obtain ⟨t, ht, hc⟩ := join0_mem hc
            exact (hn t ht).2 c hc⟩
        obtain ⟨y1, e1, l1, n1⟩ := cut none (some (pl : Int))
        obtain ⟨y2, e2, l2, n2⟩ := cut (some (pl : Int)) none
        obtain ⟨j1, k1⟩ := jn y1 l1 n1
        obtain ⟨j2, k2⟩ := jn y2 l2 n2
        have hs1 := hs s hsm
        refine Exists.intro (base.map Dv.str) (And.intro rfl (Exists.intro y1 (And.intro (congrArg some e1) (And.intro ?_ ?_))))
        · rw [sum_ones fun s hs => (n1 s hs).1]
          have : ("" : Str).length = 0 := rfl
          rw [this]
          omega
        · refine addS (line64 (by have := hs1.1; omega)) ?_
          refine Exists.intro (base.map Dv.str) (And.intro rfl (Exists.intro y2 (And.intro (congrArg some e2) (And.intro ?_ ?_))))
          · rw [sum_ones fun s hs => (n2 s hs).1]
            have : ("" : Str).length = 0 := rfl
            rw [this]
            omega
          · have ll : (Txt.join "" y1 ++ s).length = (Txt.join "" y1).length + s.length := Str.length_append _ _
            refine addS (line64 (by have := hs1.1; omega)) ?_
            refine q _ _ ⟨_, ⟨?_, fun c hc => ?_⟩, rfl⟩ hR
            · rw [Str.length_append, ll]
              have := hs1.1
              omega
            · rcases mem_cps_append.mp hc with h | h
              · rcases mem_cps_append.mp h with h | h
                · exact k1 c h
                · exact hs1.2 c h
              · exact k2 c h
      · intro ws st7 hd7 hlw hPw
        obtain ⟨ns, rfl, hns⟩ := strs_of (P := Nm) (mem_at hPw)
        exact fin ns st7 hd7 (by simpa [hl] using hlw) hns
end K56

namespace K56
open PySem PySem.Spec PyProof.Rows L2 D2
/-! ### mathematics -/
theorem dvs_map : ∀ ts : List Th, dvs ts = ts.map Th.dv
  | [] => by simp [dvs]
  | t :: ts => by simp [dvs, dvs_map ts]
theorem oks_mem {ns : List Str} : ∀ {ts : List Th}, oks ns ts → ∀ t ∈ ts, t.ok ns
  | [], _, t, h => by simp at h
  | a :: ts, h, t, ht => by
    unfold oks at h
    rcases List.mem_cons.mp ht with rfl | ht
    · exact h.1
    · exact oks_mem h.2 t ht
theorem oks_of {ns : List Str} : ∀ {ts : List Th}, (∀ t ∈ ts, t.ok ns) → oks ns ts
  | [], _ => by unfold oks; trivial
  | a :: ts, h => by
    unfold oks
    exact ⟨h a (by simp), oks_of fun t ht => h t (by simp [ht])⟩
theorem deps_mem {n : Nat} : ∀ {ts : List Th}, deps ts < n → ∀ t ∈ ts, t.dep < n
  | [], _, t, h => by simp at h
  | a :: ts, h, t, ht => by
    unfold deps at h
    rcases List.mem_cons.mp ht with rfl | ht
    · omega
    · exact deps_mem (by omega) t ht
theorem deps_of {n : Nat} (h0 : 0 < n) : ∀ {ts : List Th}, (∀ t ∈ ts, t.dep < n) → deps ts < n
  | [], _ => by unfold deps; exact h0
  | a :: ts, h => by
    unfold deps
    have h1 := h a (by simp)
    have h2 := deps_of h0 (ts := ts) fun t ht => h t (by simp [ht])
    omega
theorem getD_lt {l : List Nat} {m s : Nat} (h : ∀ x ∈ l, x < m) (hs : s < l.length) : l.getD s 0 < m := by
  rw [List.getD_eq_getElem?_getD, List.getElem?_eq_getElem hs, Option.getD_some]
  exact h _ (List.getElem_mem hs)
theorem place_lt {z : Str} : ∀ {ns : List Str}, z ∈ ns → place z ns < ns.length
  | [], h => by simp at h
  | x :: r, h => by
    unfold place
    split
    · simp
    · rename_i hx
      have := place_lt (ns := r) (by simpa [Ne.symm hx] using h)
      simp
      omega
theorem place_get {z : Str} : ∀ {ns : List Str}, z ∈ ns → ns[place z ns]? = some z
  | [], h => by simp at h
  | x :: r, h => by
    unfold place
    split
    · rename_i hx
      simp [hx]
    · rename_i hx
      have := place_get (ns := r) (by simpa [Ne.symm hx] using h)
      simpa using this
theorem place_min {z : Str} : ∀ {ns : List Str} {m : Nat}, m < place z ns → ns[m]? ≠ some z
  | [], m, h => by simp [place] at h
  | x :: r, m, h => by
    unfold place at h
    split at h
    · omega
    · rename_i hx
      cases m with
      | zero => simpa using hx
      | succ m =>
        have := place_min (z := z) (ns := r) (m := m) (by omega)
        simpa using this
section
variable {p : Pl} (w : WF p)
include w
theorem row_lt {s c : Nat} (hs : s < p.many) (hc : c < p.many) : (p.steps.getD s []).getD c 0 < p.many := by
  have h1 : s < p.steps.length := by rw [w.sl]; exact hs
  rw [List.getD_eq_getElem?_getD (l := p.steps), List.getElem?_eq_getElem h1, Option.getD_some]
  have h2 := w.sr _ (List.getElem_mem h1)
  exact getD_lt h2.2 (by rw [h2.1]; exact hc)
mutual
theorem stOf_lt : ∀ t : Th, t.ok p.names → stOf p t < p.many
  | .txt s, _ => by
    unfold stOf
    have := w.m1
    omega
  | .node n ts, h => by
    unfold Th.ok at h
    unfold stOf
    exact on_lt ts _ (getD_lt w.b (by rw [w.bl]; exact place_lt h.1)) h.2
theorem step_lt : ∀ (t : Th) (s : Nat), s < p.many → t.ok p.names → step p s t < p.many
  | .txt z, s, hs, _ => by
    unfold step
    exact getD_lt w.t hs
  | .node n ts, s, hs, h => by
    unfold Th.ok at h
    unfold step
    refine row_lt w hs ?_
    unfold stOf
    exact on_lt ts _ (getD_lt w.b (by rw [w.bl]; exact place_lt h.1)) h.2
theorem on_lt : ∀ (ts : List Th) (s : Nat), s < p.many → oks p.names ts → on p s ts < p.many
  | [], s, hs, _ => by
    unfold on
    exact hs
  | t :: ts, s, hs, h => by
    unfold oks at h
    unfold on
    exact on_lt ts _ (step_lt t s hs h.1) h.2
end
end
theorem on_cons {p : Pl} {t : Th} {ts : List Th} {s : Nat} : on p s (t :: ts) = on p (step p s t) ts := by rw [on]
theorem on_append (p : Pl) : ∀ (a b : List Th) (s : Nat), on p s (a ++ b) = on p (on p s a) b
  | [], b, s => by simp [on]
  | t :: a, b, s => by
    rw [List.cons_append, on_cons, on_cons, on_append p a b]
theorem on_take {p : Pl} {ts : List Th} {i : Nat} {t : Th} {s : Nat} (h : ts[i]? = some t) : on p s (ts.take (i + 1)) = step p (on p s (ts.take i)) t := by
  rw [List.take_add_one, h, Option.toList_some, on_append]
  simp [on]
theorem oks_take {ns : List Str} {ts : List Th} (h : oks ns ts) (i : Nat) : oks ns (ts.take i) := oks_of fun t ht => oks_mem h t (List.mem_of_mem_take ht)
/-! ### the effects -/
theorem both_len (a b : List Nat) : (both a b).length = a.length := by simp [both]
theorem both_lt {a b : List Nat} {m : Nat} (h : ∀ x ∈ a, x < b.length) (hb : ∀ x ∈ b, x < m) : ∀ x ∈ both a b, x < m := by
  intro x hx
  unfold both at hx
  obtain ⟨s, hs, rfl⟩ := List.mem_map.mp hx
  exact getD_lt hb (h s hs)
theorem both_assoc {a b c : List Nat} (h : ∀ x ∈ a, x < b.length) : both (both a b) c = both a (both b c) := by
  unfold both
  rw [List.map_map]
  refine List.map_congr_left fun s hs => ?_
  have := h s hs
  simp [List.getD_eq_getElem?_getD, this]
theorem map_range_getD (l : List Nat) (f : Nat → Nat) : (List.range l.length).map (fun s => f (l.getD s 0)) = l.map f := by
  refine List.ext_getElem (by simp) fun i h1 h2 => ?_
  have : i < l.length := by simpa using h2
  simp [List.getD_eq_getElem?_getD, this]
theorem both_id {a : List Nat} {k : Nat} (h : ∀ x ∈ a, x < k) : both a (List.range k) = a := by
  unfold both
  have : a.map (fun s => (List.range k).getD s 0) = a.map id := List.map_congr_left fun s hs => by
    have := h s hs
    simp [List.getD_eq_getElem?_getD, this]
  rw [this, List.map_id]
theorem both_of_id {a : List Nat} {k : Nat} (h : a.length = k) : both (List.range k) a = a := by
  unfold both
  rw [← h]
  have := map_range_getD a id
  simpa using this
theorem effL_nil (p : Pl) : effL p [] = List.range (p.many + 3) := by
  unfold effL
  have : (List.range p.many).map (fun s => on p s []) = List.range p.many := by
    have : (fun s => on p s []) = id := by funext s; simp [on]
    rw [this, List.map_id]
  rw [this]
  simp [List.range_succ]
theorem effL_cons (p : Pl) (t : Th) (ts : List Th) : effL p (t :: ts) = (List.range p.many).map (fun s => on p s (t :: ts)) ++ [if one p (t :: ts) then p.many + 1 else p.many + 2, p.many + 2, p.many + 2] := rfl
theorem effL_len (p : Pl) (ts : List Th) : (effL p ts).length = p.many + 3 := by
  cases ts with
  | nil => rw [effL_nil]; simp
  | cons t ts => rw [effL_cons]; simp
theorem effL_state {p : Pl} {ts : List Th} {s : Nat} (h : s < p.many) : (effL p ts).getD s 0 = on p s ts := by
  have : ∀ l, ((List.range p.many).map (fun s => on p s ts) ++ l).getD s 0 = on p s ts := fun l => by
    rw [List.getD_eq_getElem?_getD, List.getElem?_append_left (by simpa using h)]
    simp [h]
  cases ts with
  | nil => exact this _
  | cons t ts => exact this _
theorem effL_end {p : Pl} {ts : List Th} (i : Nat) : (effL p ts).getD (p.many + i) 0 = ((match ts with
  | [] => [p.many, p.many + 1, p.many + 2]
  | ts => [if one p ts then p.many + 1 else p.many + 2, p.many + 2, p.many + 2]) : List Nat).getD i 0 := by
  have : ∀ l : List Nat, ((List.range p.many).map (fun s => on p s ts) ++ l).getD (p.many + i) 0 = l.getD i 0 := fun l => by
    rw [List.getD_eq_getElem?_getD, List.getElem?_append_right (by simp), List.getD_eq_getElem?_getD]
    simp
  cases ts with
  | nil => exact this _
  | cons t ts => exact this _
theorem effL_end2 (p : Pl) (ts : List Th) : (effL p ts).getD (p.many + 2) 0 = p.many + 2 := by
  rw [effL_end]
  cases ts <;> rfl
theorem effL_lt {p : Pl} (w : WF p) {ts : List Th} (h : oks p.names ts) : ∀ x ∈ effL p ts, x < p.many + 3 := by
  intro x hx
  cases ts with
  | nil =>
    rw [effL_nil] at hx
    simpa using hx
  | cons t ts =>
    rw [effL_cons] at hx
    rcases List.mem_append.mp hx with hx | hx
    · obtain ⟨s, hs, rfl⟩ := List.mem_map.mp hx
      have := on_lt w (t :: ts) s (by simpa using hs) h
      omega
    · simp at hx
      rcases hx with hx | hx
      · split at hx <;> omega
      · omega
theorem thEff_len {p : Pl} (w : WF p) (t : Th) : (thEff p t).length = p.many + 3 := by
  unfold thEff
  split
  · simp [txtEff, Pl.many]
  · simp [nodeEff, w.sl]
theorem thEff_lt {p : Pl} (w : WF p) {t : Th} (h : t.ok p.names) : ∀ x ∈ thEff p t, x < p.many + 3 := by
  intro x hx
  unfold thEff at hx
  split at hx
  · rcases List.mem_append.mp hx with hx | hx
    · have := w.t x hx
      omega
    · simp at hx
      omega
  · rcases List.mem_append.mp hx with hx | hx
    · obtain ⟨r, hr, rfl⟩ := List.mem_map.mp hx
      have h2 := w.sr r hr
      have := getD_lt h2.2 (s := stOf p t) (by rw [h2.1]; exact stOf_lt w t h)
      omega
    · simp at hx
      rcases hx with hx | hx
      · split at hx <;> omega
      · omega
theorem both_append (a b c : List Nat) : both (a ++ b) c = both a c ++ both b c := by simp [both]
theorem key {p : Pl} (w : WF p) {t : Th} {ts : List Th} (h : t.ok p.names) : both (thEff p t) (effL p ts) = effL p (t :: ts) := by
  rw [effL_cons]
  cases t with
  | txt z =>
    have e : thEff p (.txt z) = p.texts ++ [p.many + 2, p.many + 2, p.many + 2] := by simp [thEff, isTxt, txtEff]
    rw [e, both_append]
    have e1 : both p.texts (effL p ts) = (List.range p.many).map fun s => on p s (.txt z :: ts) := by
      unfold both
      have : p.texts.map (fun s => (effL p ts).getD s 0) = p.texts.map fun s => on p s ts := List.map_congr_left fun s hs => effL_state (w.t s hs)
      rw [this, ← map_range_getD p.texts fun s => on p s ts]
      refine List.map_congr_left fun s _ => ?_
      rw [on, step]
    have e2 : one p (.txt z :: ts) = false := by cases ts <;> simp [one, isTxt]
    rw [e1, e2]
    have := effL_end2 p ts
    simp only [both, List.map_cons, List.map_nil, this, Bool.false_eq_true, if_false]
  | node n us =>
    have e : thEff p (.node n us) = p.steps.map (fun r => r.getD (stOf p (.node n us)) 0) ++ [if stOf p (.node n us) ∈ p.ends then p.many + 1 else p.many + 2, p.many + 2, p.many + 2] := by simp [thEff, isTxt, nodeEff]
    rw [e, both_append]
    have hc := stOf_lt w _ h
    have e1 : both (p.steps.map fun r => r.getD (stOf p (.node n us)) 0) (effL p ts) = (List.range p.many).map fun s => on p s (.node n us :: ts) := by
      unfold both
      rw [List.map_map]
      refine List.ext_getElem (by simp [w.sl]) fun i h1 h2 => ?_
      have hi : i < p.steps.length := by simpa using h1
      have h3 := w.sr _ (List.getElem_mem hi)
      have h4 := getD_lt h3.2 (s := stOf p (.node n us)) (by rw [h3.1]; exact hc)
      rw [List.getElem_map, List.getElem_map, List.getElem_range]
      rw [on, step]
      show (effL p ts).getD ((p.steps[i]).getD (stOf p (.node n us)) 0) 0 = _
      rw [effL_state h4, List.getD_eq_getElem?_getD (l := p.steps), List.getElem?_eq_getElem hi, Option.getD_some]
    rw [e1]
    have h2 := effL_end2 p ts
    have h1 := effL_end (p := p) (ts := ts) 1
    simp only [both, List.map_cons, List.map_nil, h2]
    cases ts with
    | nil =>
      by_cases hm : stOf p (.node n us) ∈ p.ends
      · rw [if_pos hm, h1]
        simp [one, isTxt, hm]
      · rw [if_neg hm, h2]
        simp [one, isTxt, hm]
    | cons u us2 =>
      by_cases hm : stOf p (.node n us) ∈ p.ends
      · rw [if_pos hm, h1]
        simp [one]
      · rw [if_neg hm, h2]
        simp [one]
theorem effT_both {p : Pl} (w : WF p) : ∀ {ts : List Th} {a : List Nat}, oks p.names ts → (∀ x ∈ a, x < p.many + 3) → effT p ts a = both a (effL p ts)
  | [], a, _, ha => by
    rw [effL_nil, both_id ha]
    rfl
  | t :: ts, a, h, ha => by
    unfold oks at h
    unfold effT
    have hl := thEff_len w t
    rw [effT_both w h.2 (both_lt (fun x hx => by rw [hl]; exact ha x hx) (thEff_lt w h.1)), both_assoc fun x hx => by rw [hl]; exact ha x hx, key w h.1]
theorem noEff_lt (p : Pl) : ∀ x ∈ noEff p, x < p.many + 3 := fun x hx => by simpa [noEff] using hx
theorem effT_L {p : Pl} (w : WF p) {ts : List Th} (h : oks p.names ts) : effT p ts (noEff p) = effL p ts := by
  rw [effT_both w h (noEff_lt p)]
  exact both_of_id (effL_len p ts)
theorem effT_append (p : Pl) : ∀ (a b : List Th) (x : List Nat), effT p (a ++ b) x = effT p b (effT p a x)
  | [], b, x => rfl
  | t :: a, b, x => by
    rw [List.cons_append]
    show effT p (a ++ b) _ = effT p b (effT p a _)
    exact effT_append p a b _
theorem oks_append {ns : List Str} {a b : List Th} (h1 : oks ns a) (h2 : oks ns b) : oks ns (a ++ b) := oks_of fun t ht => (List.mem_append.mp ht).elim (oks_mem h1 t) (oks_mem h2 t)
theorem effL_append {p : Pl} (w : WF p) {a b : List Th} (h1 : oks p.names a) (h2 : oks p.names b) : both (effL p a) (effL p b) = effL p (a ++ b) := by
  rw [← effT_both w h2 (effL_lt w h1), ← effT_L w h1, ← effT_append, effT_L w (oks_append h1 h2)]
theorem effL_one {p : Pl} (ts : List Th) : decide ((effL p ts).getD p.many 0 = p.many + 1) = one p ts := by
  have h := effL_end (p := p) (ts := ts) 0
  rw [Nat.add_zero] at h
  rw [h]
  cases ts with
  | nil => simp [one]
  | cons t ts => cases hk : one p (t :: ts) <;> simp [hk]
end K56

namespace K56
open PySem PySem.Spec PyProof.Rows L2 D2
/-! ### small steps -/
theorem fld {C : Addr} {fl : Str} {ns : List Str} {xs : List Dv} {v : Dv} {st : Sto} {Q : DK} (h : (ns.zip xs).lookup fl = some v) (q : Q v st) : C = C ∧ ∃ v, (ns.zip xs).lookup fl = some v ∧ Q v st := ⟨rfl, v, h, q⟩
abbrev fns : List Str := ["names", "begins", "texts", "steps", "ends"]
theorem fl_names (p : Pl) : (fns.zip p.fs).lookup ("names" : Str) = some (.tux (p.names.map Dv.str)) := rfl
theorem fl_begins (p : Pl) : (fns.zip p.fs).lookup ("begins" : Str) = some (nts p.begins) := rfl
theorem fl_texts (p : Pl) : (fns.zip p.fs).lookup ("texts" : Str) = some (nts p.texts) := rfl
theorem fl_steps (p : Pl) : (fns.zip p.fs).lookup ("steps" : Str) = some (.tup (p.steps.map nts)) := rfl
theorem fl_ends (p : Pl) : (fns.zip p.fs).lookup ("ends" : Str) = some (nts p.ends) := rfl
theorem nts_at {l : List Nat} {s : Nat} (h : s < l.length) : atI (l.map nat) (s : Int) = some (nat (l.getD s 0)) := by
  refine atI_nat ?_
  rw [List.getElem?_map, List.getElem?_eq_getElem h, List.getD_eq_getElem?_getD, List.getElem?_eq_getElem h]
  rfl
theorem row_at {l : List (List Nat)} {s : Nat} (h : s < l.length) : atI (l.map nts) (s : Int) = some (nts (l.getD s [])) := by
  refine atI_nat ?_
  rw [List.getElem?_map, List.getElem?_eq_getElem h, List.getD_eq_getElem?_getD, List.getElem?_eq_getElem h]
  rfl
theorem nr_nts (l : List Nat) : Nr (nts l) := .tup (Nrs.of fun d hd => by
  obtain ⟨i, _, rfl⟩ := List.mem_map.mp hd
  exact .int _)
theorem nr_fs (p : Pl) : Nrs p.fs := .cons (.tux (Nr.strs _)) (.cons (nr_nts _) (.cons (nr_nts _) (.cons (.tup (Nrs.of fun d hd => by
  obtain ⟨i, _, rfl⟩ := List.mem_map.mp hd
  exact nr_nts _)) (.cons (nr_nts _) .nil))))
theorem nr_dv (p : Pl) : Nr p.dv := .tup (nr_fs p)
theorem nr_tb (C : Addr) (p : Pl) : Nr (p.tb C) := .obj (nr_fs p)
mutual
theorem nr_th : ∀ t : Th, Nr t.dv
  | .txt s => by unfold Th.dv; exact .str s
  | .node n ts => by unfold Th.dv; exact .tup (.cons (.str n) (.cons (.tup (nr_ths ts)) .nil))
theorem nr_ths : ∀ ts : List Th, Nrs (dvs ts)
  | [] => by unfold dvs; exact .nil
  | t :: ts => by unfold dvs; exact .cons (nr_th t) (nr_ths ts)
end
theorem rng_nts (n : Nat) : Dv.tup (rng 0 n) = nts (List.range n) := by
  unfold rng nts
  congr 1
  refine List.map_congr_left fun i _ => ?_
  simp [nat]
theorem small7 {p : Pl} (w : WF p) : p.texts.length ≤ 6 := w.m6
/-! ### the table's own -/
theorem p_law_of_table (C : Addr) : PL N_law_of_table (W_law_of_table C) (D2.Spec.fn (A_law_of_table C) P_law_of_table R_law_of_table) := by
  intro (p : Pl) (w : WF p)
  show W_law_of_table C _ [some (p.tb C)] []
  refine And.intro rfl ?_
  refine Exists.intro _ (And.intro (fl_names p) ?_)
  refine And.intro rfl ?_
  refine Exists.intro _ (And.intro (fl_begins p) ?_)
  refine And.intro rfl ?_
  refine Exists.intro _ (And.intro (fl_texts p) ?_)
  refine And.intro rfl ?_
  refine Exists.intro _ (And.intro (fl_steps p) ?_)
  refine And.intro rfl ?_
  refine Exists.intro _ (And.intro (fl_ends p) ?_)
  refine And.intro (show 5 ≤ sizeLine by decide) ?_
  exact back_fn (nr_dv p) rfl
theorem p_law_of_plain (C : Addr) : PL N_law_of_plain (W_law_of_plain C) (D2.Spec.fn A_law_of_plain P_law_of_plain (R_law_of_plain C)) := by
  intro (p : Pl) (w : WF p)
  show W_law_of_plain C _ [some p.dv] []
  refine ix (xs := p.fs) rfl rfl ?_
  refine ix (xs := p.fs) rfl rfl ?_
  refine ix (xs := p.fs) rfl rfl ?_
  refine ix (xs := p.fs) rfl rfl ?_
  refine ix (xs := p.fs) rfl rfl ?_
  refine And.intro rfl ?_
  exact back_fn (nr_tb C p) rfl
theorem p_no_effect (C : Addr) : PL Nno_effect (Wno_effect C) (D2.Spec.fn (A_no_effect C) P_no_effect R_no_effect) := by
  intro (p : Pl) (w : WF p)
  have h6 := small7 w
  show Wno_effect C _ [some (p.tb C)] []
  refine And.intro rfl ?_
  refine Exists.intro _ (And.intro (fl_texts p) ?_)
  refine len (xs := p.texts.map nat) rfl ?_
  refine addI ?_
  refine And.intro ⟨by omega, by simp; omega⟩ ?_
  have e : (((p.texts.map nat).length : Int) + 3).toNat = p.many + 3 := by simp [Pl.many]; omega
  rw [e, rng_nts]
  exact back_fn (nr_nts _) rfl
theorem p_text_effect (C : Addr) : PL Ntext_effect (Wtext_effect C) (D2.Spec.fn (A_text_effect C) P_text_effect R_text_effect) := by
  intro (p : Pl) (w : WF p)
  have h6 := small7 w
  show Wtext_effect C _ [some (p.tb C)] []
  refine And.intro rfl ?_
  refine Exists.intro _ (And.intro (fl_texts p) ?_)
  refine And.intro rfl ?_
  refine Exists.intro _ (And.intro (fl_texts p) ?_)
  refine len (xs := p.texts.map nat) rfl ?_
  refine addI ?_
  refine And.intro (show 1 ≤ sizeLine by decide) ?_
  refine mulT ⟨by simp, by decide, by decide, by simp⟩ ?_
  refine addT (a := p.texts.map nat) (line64 (by simp; omega)) ?_
  have e : Dv.tup (p.texts.map nat ++ (List.replicate (3 : Int).toNat [Dv.int (((p.texts.map nat).length : Int) + 2)]).flatten) = nts (txtEff p) := by
    unfold nts txtEff
    rw [List.map_append]
    simp [List.replicate, nat, Pl.many]
  rw [e]
  exact back_fn (nr_nts _) rfl
theorem p_both_effects : PL Nboth_effects Wboth_effects (D2.Spec.fn A_both_effects P_both_effects R_both_effects) := by
  rintro ⟨a, b⟩ ⟨h1, h2⟩
  have h1 : ∀ x ∈ a, x < b.length := h1
  have h2 : a.length ≤ 1000 := h2
  show Wboth_effects _ [some (nts a), some (nts b), none] []
  refine lc_all (xs := a.map nat) (R := fun st => st = []) (P := fun i y => y = nat ((both a b).getD i 0)) rfl (line64 (by simpa using h2)) (fun i x st' e hR => ?_) ?_
  · subst hR
    have hi : i < a.length := by simpa using (List.getElem?_eq_some_iff.mp e).1
    have ex : x = nat a[i] := by
      rw [List.getElem?_map, List.getElem?_eq_getElem hi] at e
      exact (Option.some.inj e).symm
    subst ex
    refine ⟨_, rfl, fun Q' q => ?_⟩
    refine ix (xs := b.map nat) rfl (nts_at (h1 _ (List.getElem_mem hi))) ?_
    refine q _ _ ?_ rfl
    rw [List.getD_eq_getElem?_getD (l := both a b), both, List.getElem?_map, List.getElem?_eq_getElem hi]
    rfl
  · rintro ys st' rfl hl hP
    have e : ys = (both a b).map nat := by
      refine List.ext_getElem (by simpa [both] using hl) fun i h3 h4 => ?_
      have h5 := hP i _ (List.getElem?_eq_getElem h3)
      have h6 : i < (both a b).length := by simpa using h4
      rw [h5, List.getD_eq_getElem?_getD, List.getElem?_eq_getElem h6]
      simp
    subst e
    refine tupL rfl ?_
    exact back_fn (nr_nts _) rfl
theorem p_is_one_taken (C : Addr) : PL Nis_one_taken (Wis_one_taken C) (D2.Spec.fn (A_is_one_taken C) P_is_one_taken R_is_one_taken) := by
  rintro ⟨p, e⟩ ⟨w, h⟩
  have h : p.many < e.length := h
  show Wis_one_taken C _ [some (p.tb C), some (nts e)] []
  refine And.intro rfl ?_
  refine Exists.intro _ (And.intro (fl_texts p) ?_)
  refine len (xs := p.texts.map nat) rfl ?_
  rw [show (p.texts.map nat).length = p.many by simp [Pl.many]]
  refine ix (xs := e.map nat) rfl (nts_at h) ?_
  refine And.intro rfl ?_
  refine Exists.intro _ (And.intro (fl_texts p) ?_)
  refine len (xs := p.texts.map nat) rfl ?_
  refine addI ?_
  refine eqI ?_
  refine back_fn (.bl _) ?_
  show Dv.bl (decide (((e.getD p.many 0 : Nat) : Int) = ((p.texts.map nat).length : Int) + 1)) = .bl (decide (e.getD p.many 0 = p.many + 1))
  rw [show (p.texts.map nat).length = p.many by simp [Pl.many]]
  congr 1
  rw [decide_eq_decide]
  omega
theorem nat_mem {s : Nat} {l : List Nat} : decide ((s : Int) ∈ l.map fun (n : Nat) => (n : Int)) = decide (s ∈ l) := by
  rw [decide_eq_decide, List.mem_map]
  constructor
  · rintro ⟨x, hx, e⟩
    have : x = s := by omega
    rw [← this]
    exact hx
  · intro h
    exact ⟨s, h, rfl⟩
theorem nts_int (l : List Nat) : l.map nat = (l.map fun (n : Nat) => (n : Int)).map Dv.int := by
  rw [List.map_map]
  rfl
theorem p_node_effect (C : Addr) : PL Nnode_effect (Wnode_effect C) (D2.Spec.fn (A_node_effect C) P_node_effect R_node_effect) := by
  rintro ⟨p, s⟩ ⟨w, h⟩
  have w : WF p := w
  have h : s < p.many := h
  have h6 := small7 w
  show Wnode_effect C _ [some (p.tb C), some (nat s), none, none, none] []
  refine And.intro rfl ?_
  refine Exists.intro _ (And.intro (fl_texts p) ?_)
  refine len (xs := p.texts.map nat) rfl ?_
  rw [show (p.texts.map nat).length = p.many by simp [Pl.many]]
  refine And.intro rfl ?_
  refine Exists.intro _ (And.intro (fl_ends p) ?_)
  refine inI (ys := p.ends.map fun (n : Nat) => (n : Int)) (congrArg some (nts_int p.ends)) ?_
  -- behind the choice
  have go : ∀ x : Nat, x = (if s ∈ p.ends then p.many + 1 else p.many + 2) → (wSeq (wSet 3 (wC (nat x))) (wRet (w2 gAdd (wCB (g1 gTuple) (wCons (wRl (wLc (wIt (wFld C "steps" (wVar 0))) (.one 4) wYes (w2 gIx (wVar 4) (wVar 1)) [4])) wNil)) (wTup (wCons (wVar 3) (wCons (w2 gAdd (wVar 2) (wC (.int 2))) (wCons (w2 gAdd (wVar 2) (wC (.int 2))) wNil)))))))
      { nx := fun _ st' => Back ((Spec.fn (A_node_effect C) P_node_effect R_node_effect).st (p, s)).length ((Spec.fn (A_node_effect C) P_node_effect R_node_effect).post (p, s)) .non st', rt := Back ((Spec.fn (A_node_effect C) P_node_effect R_node_effect).st (p, s)).length ((Spec.fn (A_node_effect C) P_node_effect R_node_effect).post (p, s)) }
      [some (p.tb C), some (nat s), some (nat p.many), none, none] [] := by
    intro x hx
    refine And.intro rfl ?_
    refine Exists.intro _ (And.intro (fl_steps p) ?_)
    refine lc_all (xs := p.steps.map nts) (R := fun st => st = []) (P := fun i y => y = nat ((p.steps.getD i []).getD s 0)) rfl (line64 (by simp [w.sl]; have := w.m6; omega)) (fun i x st' e hR => ?_) ?_
    · subst hR
      have hi : i < p.steps.length := by simpa using (List.getElem?_eq_some_iff.mp e).1
      have ex : x = nts p.steps[i] := by
        rw [List.getElem?_map, List.getElem?_eq_getElem hi] at e
        exact (Option.some.inj e).symm
      subst ex
      refine ⟨_, rfl, fun Q' q => ?_⟩
      have hr := w.sr _ (List.getElem_mem hi)
      refine ix (xs := p.steps[i].map nat) rfl (nts_at (by rw [hr.1]; exact h)) ?_
      refine q _ _ ?_ rfl
      rw [List.getD_eq_getElem?_getD (l := p.steps), List.getElem?_eq_getElem hi]
      rfl
    · rintro ys st' rfl hl hP
      have e : ys = (p.steps.map fun r => r.getD s 0).map nat := by
        refine List.ext_getElem (by simpa using hl) fun i h3 h4 => ?_
        have h5 := hP i _ (List.getElem?_eq_getElem h3)
        have h6 : i < p.steps.length := by simpa using h4
        rw [h5, List.getD_eq_getElem?_getD (l := p.steps), List.getElem?_eq_getElem h6]
        simp
      subst e
      refine tupL rfl ?_
      refine addI ?_
      refine addI ?_
      refine And.intro (show 3 ≤ sizeLine by decide) ?_
      refine addT (a := (p.steps.map fun r => r.getD s 0).map nat) (b := [nat x, .int ((p.many : Int) + 2), .int ((p.many : Int) + 2)]) (line64 (by simp [w.sl]; have := w.m6; omega)) ?_
      have e : Dv.tup ((p.steps.map fun r => r.getD s 0).map nat ++ [nat x, .int ((p.many : Int) + 2), .int ((p.many : Int) + 2)]) = nts (nodeEff p s) := by
        unfold nts nodeEff
        rw [List.map_append, hx]
        rfl
      rw [e]
      exact back_fn (nr_nts _) rfl
  rw [nat_mem]
  refine iteC (fun hk => ?_) fun hk => ?_
  · refine addI ?_
    exact go (p.many + 1) (by rw [if_pos (by simpa using hk)])
  · refine addI ?_
    exact go (p.many + 2) (by rw [if_neg (by simpa using hk)])
end K56

namespace K56
open PySem PySem.Spec PyProof.Rows L2 D2
theorem nr_node (n : Str) (ts : List Th) : Nr (.tup [.str n, .tup (dvs ts)]) := .tup (.cons (.str n) (.cons (.tup (nr_ths ts)) .nil))
theorem dv_txt (s : Str) : (Th.txt s).dv = .str s := by simp [Th.dv]
theorem dv_node (n : Str) (ts : List Th) : (Th.node n ts).dv = .tup [.str n, .tup (dvs ts)] := by simp [Th.dv]
theorem dvs_at {ts : List Th} {i : Nat} {x : Dv} (h : (dvs ts)[i]? = some x) : ∃ t, ts[i]? = some t ∧ x = t.dv := by
  rw [dvs_map, List.getElem?_map] at h
  cases e : ts[i]? with
  | none => rw [e] at h; cases h
  | some t =>
    rw [e] at h
    exact ⟨t, rfl, (Option.some.inj h).symm⟩
theorem dvs_len (ts : List Th) : (dvs ts).length = ts.length := by rw [dvs_map]; simp
theorem ok_node {ns : List Str} {n : Str} {ts : List Th} (h : (Th.node n ts).ok ns) : n ∈ ns ∧ oks ns ts := by
  unfold Th.ok at h
  exact h
theorem dep_node (n : Str) (ts : List Th) : (Th.node n ts).dep = deps ts + 1 := by simp [Th.dep]
theorem p_law_on (n : Nat) : PL N_law_on (W_law_on n) (D2.Spec.fn A_law_on (P_law_on (n + 1)) R_law_on) := by
  rintro ⟨p, s, ts⟩ ⟨w, hs, ho, hd⟩
  have w : WF p := w
  have hs : s < p.many := hs
  have ho : oks p.names ts := ho
  have hd : deps ts < n + 1 := hd
  show W_law_on n _ [some p.dv, some (nat s), some (.tup (dvs ts)), none, none] []
  refine Exists.intro (fun i σ st => ∃ v3 v4, σ = [some p.dv, some (nat (on p s (ts.take i))), some (.tup (dvs ts)), v3, v4] ∧ st = []) ?_
  refine And.intro ⟨none, none, by simp [on], rfl⟩ ?_
  refine And.intro (fun i σ' st' _ n e => nomatch e) ?_
  refine And.intro (fun i x σ' st' e hI => ?_) ?_
  · obtain ⟨v3, v4, rfl, rfl⟩ := hI
    obtain ⟨t, et, rfl⟩ := dvs_at e
    have tm := List.mem_of_getElem? et
    have hk := on_lt w (ts.take i) s hs (oks_take ho i)
    refine ⟨_, rfl, ?_⟩
    refine isN (by simp [nat]) ?_
    first | refine iteT rfl ?_ | skip
    cases t with
    | txt z =>
      rw [dv_txt]
      first | refine iteT rfl ?_ | skip
      refine ix (xs := p.fs) rfl rfl ?_
      refine ix (xs := p.texts.map nat) rfl (nts_at hk) ?_
      have q : on p s (ts.take (i + 1)) = p.texts.getD (on p s (ts.take i)) 0 := by rw [on_take et, step]
      exact ⟨some (.str z), v4, by rw [q]; rfl, rfl⟩
    | node m us =>
      rw [dv_node]
      have h1 := ok_node (oks_mem ho _ tm)
      have h2 := deps_mem hd _ tm
      rw [dep_node] at h2
      first | refine iteF rfl ?_ | skip
      refine isN (by simp [nat]) ?_
      first | refine iteT rfl ?_ | skip
      refine ⟨(p, m, us), rfl, .cons (nr_dv p) (.cons (nr_node _ _) .nil), ⟨w, h1.1, h1.2, by show deps us < n; omega⟩, fun d _ hd => ?_⟩
      have hd : d = nat (stOf p (.node m us)) := hd
      subst hd
      refine isN (by simp [nat]) ?_
      first | refine iteF rfl ?_ | skip
      have hc := stOf_lt w _ (oks_mem ho _ tm)
      have hr := row_lt w hk hc
      have h3 : on p s (ts.take i) < p.steps.length := by rw [w.sl]; exact hk
      have h4 : (p.steps.getD (on p s (ts.take i)) []).length = p.many := by
        rw [List.getD_eq_getElem?_getD, List.getElem?_eq_getElem h3]
        exact (w.sr _ (List.getElem_mem h3)).1
      refine ix (xs := p.fs) rfl rfl ?_
      refine ix (xs := p.steps.map nts) rfl (row_at h3) ?_
      refine ix (xs := (p.steps.getD (on p s (ts.take i)) []).map nat) rfl (nts_at (by rw [h4]; exact hc)) ?_
      have q : on p s (ts.take (i + 1)) = (p.steps.getD (on p s (ts.take i)) []).getD (stOf p (.node m us)) 0 := by rw [on_take et, step]
      exact ⟨some (.tup [.str m, .tup (dvs us)]), some (nat (stOf p (.node m us))), by rw [q]; rfl, rfl⟩
  · rintro σ' st' ⟨v3, v4, rfl, rfl⟩
    rw [dvs_len, List.take_length]
    exact back_fn (args := A_law_on) (pre := P_law_on (n + 1)) (F := R_law_on) (i := (p, s, ts)) (.int _) rfl
theorem p_law_state (n : Nat) : PL N_law_state (W_law_state n) (D2.Spec.fn A_law_state (P_law_state n) R_law_state) := by
  rintro ⟨p, m, ts⟩ ⟨w, hm, ho, hd⟩
  have w : WF p := w
  have hm : m ∈ p.names := hm
  have hb : place m p.names < p.begins.length := by rw [w.bl]; exact place_lt hm
  show W_law_state n _ [some p.dv, some (.tup [.str m, .tup (dvs ts)])] []
  refine ix (xs := [.str m, .tup (dvs ts)]) rfl rfl ?_
  refine ix (xs := p.fs) rfl rfl ?_
  refine inS (ys := p.names) rfl ?_
  refine iteF (by simp [hm]) ?_
  refine ix (xs := p.fs) rfl rfl ?_
  refine ix (xs := p.fs) rfl rfl ?_
  refine ix (xs := [.str m, .tup (dvs ts)]) rfl rfl ?_
  refine Exists.intro p.names (Exists.intro m (Exists.intro (place m p.names) (And.intro rfl (And.intro rfl (And.intro (place_get hm) (And.intro (fun j hj => place_min hj) ?_)))))) 
  refine ix (xs := p.begins.map nat) rfl (nts_at hb) ?_
  refine ix (xs := [.str m, .tup (dvs ts)]) rfl rfl ?_
  refine ⟨(p, p.begins.getD (place m p.names) 0, ts), rfl, .cons (nr_dv p) (.cons (.int _) (.cons (.tup (nr_ths ts)) .nil)), ⟨w, getD_lt w.b hb, ho, hd⟩, fun d nd hr => ?_⟩
  refine back_fn (args := A_law_state) (pre := P_law_state n) (F := R_law_state) (i := (p, m, ts)) nd ?_
  show d = nat (stOf p (.node m ts))
  rw [stOf]
  exact hr
theorem p_state_behind (C : Addr) (n : Nat) : PL Nstate_behind (Wstate_behind C n) (D2.Spec.fn (A_state_behind C) (P_law_on (n + 1)) R_law_on) := by
  rintro ⟨p, s, ts⟩ ⟨w, hs, ho, hd⟩
  have w : WF p := w
  have hs : s < p.many := hs
  have ho : oks p.names ts := ho
  have hd : deps ts < n + 1 := hd
  show Wstate_behind C n _ [some (p.tb C), some (nat s), some (.tup (dvs ts)), none, none] []
  refine Exists.intro (fun i σ st => ∃ v3 v4, σ = [some (p.tb C), some (nat (on p s (ts.take i))), some (.tup (dvs ts)), v3, v4] ∧ st = []) ?_
  refine And.intro ⟨none, none, by simp [on], rfl⟩ ?_
  refine And.intro (fun i σ' st' _ n e => nomatch e) ?_
  refine And.intro (fun i x σ' st' e hI => ?_) ?_
  · obtain ⟨v3, v4, rfl, rfl⟩ := hI
    obtain ⟨t, et, rfl⟩ := dvs_at e
    have tm := List.mem_of_getElem? et
    have hk := on_lt w (ts.take i) s hs (oks_take ho i)
    refine ⟨_, rfl, ?_⟩
    cases t with
    | txt z =>
      rw [dv_txt]
      first | refine iteT rfl ?_ | skip
      first | refine iteT rfl ?_ | skip
      refine And.intro rfl ?_
      refine Exists.intro _ (And.intro (fl_texts p) ?_)
      refine ix (xs := p.texts.map nat) rfl (nts_at hk) ?_
      have q : on p s (ts.take (i + 1)) = p.texts.getD (on p s (ts.take i)) 0 := by rw [on_take et, step]
      exact ⟨some (.str z), some .non, by rw [q]; rfl, rfl⟩
    | node m us =>
      rw [dv_node]
      have h1 := ok_node (oks_mem ho _ tm)
      have h2 := deps_mem hd _ tm
      rw [dep_node] at h2
      first | refine iteF rfl ?_ | skip
      refine ⟨(p, m, us), rfl, .cons (nr_tb C p) (.cons (nr_node _ _) .nil), ⟨w, h1.1, h1.2, by show deps us < n; omega⟩, fun d _ hd => ?_⟩
      have hd : d = nat (stOf p (.node m us)) := hd
      subst hd
      first | refine iteF rfl ?_ | skip
      refine isN (by simp [nat]) ?_
      first | refine iteF rfl ?_ | skip
      have hc := stOf_lt w _ (oks_mem ho _ tm)
      have hr := row_lt w hk hc
      have h3 : on p s (ts.take i) < p.steps.length := by rw [w.sl]; exact hk
      have h4 : (p.steps.getD (on p s (ts.take i)) []).length = p.many := by
        rw [List.getD_eq_getElem?_getD, List.getElem?_eq_getElem h3]
        exact (w.sr _ (List.getElem_mem h3)).1
      refine And.intro rfl ?_
      refine Exists.intro _ (And.intro (fl_steps p) ?_)
      refine ix (xs := p.steps.map nts) rfl (row_at h3) ?_
      refine ix (xs := (p.steps.getD (on p s (ts.take i)) []).map nat) rfl (nts_at (by rw [h4]; exact hc)) ?_
      have q : on p s (ts.take (i + 1)) = (p.steps.getD (on p s (ts.take i)) []).getD (stOf p (.node m us)) 0 := by rw [on_take et, step]
      exact ⟨some (.tup [.str m, .tup (dvs us)]), some (nat (stOf p (.node m us))), by rw [q]; rfl, rfl⟩
  · rintro σ' st' ⟨v3, v4, rfl, rfl⟩
    rw [dvs_len, List.take_length]
    exact back_fn (args := A_state_behind C) (pre := P_law_on (n + 1)) (F := R_law_on) (i := (p, s, ts)) (.int _) rfl
theorem p_state_of (C : Addr) (n : Nat) : PL Nstate_of (Wstate_of C n) (D2.Spec.fn (A_state_of C) (P_law_state n) R_law_state) := by
  rintro ⟨p, m, ts⟩ ⟨w, hm, ho, hd⟩
  have w : WF p := w
  have hm : m ∈ p.names := hm
  have hb : place m p.names < p.begins.length := by rw [w.bl]; exact place_lt hm
  show Wstate_of C n _ [some (p.tb C), some (.tup [.str m, .tup (dvs ts)]), none, none] []
  refine Exists.intro _ (And.intro rfl ?_)
  refine And.intro rfl ?_
  refine Exists.intro _ (And.intro (fl_names p) ?_)
  refine inS (ys := p.names) rfl ?_
  refine iteF (by simp [hm]) ?_
  refine And.intro rfl ?_
  refine Exists.intro _ (And.intro (fl_begins p) ?_)
  refine And.intro rfl ?_
  refine Exists.intro _ (And.intro (fl_names p) ?_)
  refine Exists.intro p.names (Exists.intro m (Exists.intro (place m p.names) (And.intro rfl (And.intro rfl (And.intro (place_get hm) (And.intro (fun j hj => place_min hj) ?_)))))) 
  refine ix (xs := p.begins.map nat) rfl (nts_at hb) ?_
  refine ⟨(p, p.begins.getD (place m p.names) 0, ts), rfl, .cons (nr_tb C p) (.cons (.int _) (.cons (.tup (nr_ths ts)) .nil)), ⟨w, getD_lt w.b hb, ho, hd⟩, fun d nd hr => ?_⟩
  refine back_fn (args := A_state_of C) (pre := P_law_state n) (F := R_law_state) (i := (p, m, ts)) nd ?_
  show d = nat (stOf p (.node m ts))
  rw [stOf]
  exact hr
end K56

namespace K56
open PySem PySem.Spec PyProof.Rows L2 D2
/-! ### forests as shown data -/
mutual
def Th.pd : Th → PyData
  | .txt s => .str s
  | .node n ts => .tuple [.str n, .tuple (pds ts)]
def pds : List Th → List PyData
  | [] => []
  | t :: ts => t.pd :: pds ts
end
mutual
theorem dp_th (st : Sto) : ∀ t : Th, DP st t.dv t.pd
  | .txt s => by unfold Th.dv Th.pd; exact .str s
  | .node n ts => by unfold Th.dv Th.pd; exact .tup rfl (.cons (.str n) (.cons (.tup rfl (dp_ths st ts)) .nil))
theorem dp_ths (st : Sto) : ∀ ts : List Th, DPs st (dvs ts) (pds ts)
  | [] => by unfold dvs pds; exact .nil
  | t :: ts => by unfold dvs pds; exact .cons (dp_th st t) (dp_ths st ts)
end
theorem tame_str {s : Str} (h : Nm s) : tame (.str s) = true := by
  simp only [tame, Bool.and_eq_true, decide_eq_true_eq, List.all_eq_true]
  exact h
mutual
theorem tame_th {ns : List Str} (hn : ∀ s ∈ ns, Nm s) : ∀ t : Th, t.ok ns → tame t.pd = true
  | .txt s, h => by
    unfold Th.ok at h
    unfold Th.pd
    exact tame_str h
  | .node n ts, h => by
    unfold Th.ok at h
    unfold Th.pd
    simp only [tame, tames, Bool.and_true, Bool.and_eq_true]
    refine ⟨?_, tame_ths hn ts h.2⟩
    have := tame_str (hn n h.1)
    simpa only [tame, Bool.and_eq_true] using this
theorem tame_ths {ns : List Str} (hn : ∀ s ∈ ns, Nm s) : ∀ ts : List Th, oks ns ts → tames (pds ts) = true
  | [], _ => by unfold pds; rfl
  | t :: ts, h => by
    unfold oks at h
    unfold pds
    simp only [tames, Bool.and_eq_true]
    exact ⟨tame_th hn t h.1, tame_ths hn ts h.2⟩
end
mutual
theorem depth_th : ∀ t : Th, t.pd.depth ≤ 2 * t.dep
  | .txt s => by unfold Th.pd PyData.depth; exact Nat.zero_le _
  | .node n ts => by
    have := depth_ths ts
    unfold Th.pd Th.dep
    simp only [PyData.depth, PyData.depthAll]
    omega
theorem depth_ths : ∀ ts : List Th, PyData.depthAll (pds ts) ≤ 2 * deps ts
  | [] => by unfold pds PyData.depthAll; exact Nat.zero_le _
  | t :: ts => by
    have h1 := depth_th t
    have h2 := depth_ths ts
    unfold pds PyData.depthAll deps
    omega
end
/-- () or not -/
theorem eqNil {ts : List Th} {ns : List Str} {st : Sto} {Q : DK} (hn : ∀ s ∈ ns, Nm s) (ho : oks ns ts) (hd : deps ts < 12) (q : Q (.bl ts.isEmpty) st) : gEq false (.tup (dvs ts)) (.tup []) st Q := by
  refine eqT (dp_ths st ts) .nil (shapedT ?_ ?_) rfl ?_
  · simp only [tame]
    exact tame_ths hn ts ho
  · have := depth_ths ts
    simp only [PyData.depth]
    omega
  · cases ts with
    | nil => exact q
    | cons t ts => exact q
theorem p_law_effect : PL N_law_effect (W_law_effect 12) (D2.Spec.fn A_law_effect P_law_effect R_law_effect) := by
  rintro ⟨p, ts⟩ ⟨w, ho, hd, hl⟩
  have w : WF p := w
  have ho : oks p.names ts := ho
  have hd : deps ts < 12 := hd
  have h6 := small7 w
  have m6 := w.m6
  show W_law_effect 12 _ [some p.dv, some (.tup (dvs ts)), none, none, none, none] []
  generalize hD : ({ nx := _, rt := _ } : DEnds) = D
  have fin : ∀ d, d = nts (effL p ts) → D.rt d [] := fun d h => by
    rw [← hD, h]
    exact back_fn (args := A_law_effect) (pre := P_law_effect) (F := R_law_effect) (i := (p, ts)) (nr_nts _) rfl
  clear hD
  refine ix (xs := p.fs) rfl rfl ?_
  refine len (xs := p.texts.map nat) rfl ?_
  rw [show (p.texts.map nat).length = p.many by simp [Pl.many]]
  refine And.intro ⟨by omega, by omega⟩ ?_
  rw [show ((p.many : Nat) : Int).toNat = p.many from Int.toNat_natCast _]
  refine lc_all (xs := rng 0 p.many) (R := fun st => st = []) (P := fun i y => y = nat (on p i ts)) rfl (line64 (by rw [rng_length]; omega)) (fun i x st' e hR => ?_) ?_
  · subst hR
    obtain ⟨hi, rfl⟩ := rng_at e
    exact ⟨_, rfl, fun Q' q => ⟨(p, i, ts), rfl, .cons (nr_dv p) (.cons (.int _) (.cons (.tup (nr_ths ts)) .nil)), ⟨w, hi, ho, hd⟩, fun d nd hr => q _ _ hr rfl⟩⟩
  · rintro ys st' rfl hlen hP
    have e : ys = ((List.range p.many).map fun s => on p s ts).map nat := by
      refine List.ext_getElem (by simpa [rng_length] using hlen) fun i h3 h4 => ?_
      rw [hP i _ (List.getElem?_eq_getElem h3)]
      simp
    subst e
    refine And.intro (show 0 ≤ sizeLine by decide) ?_
    refine eqNil w.nm ho hd ?_
    cases ts with
    | nil =>
      first | refine iteT rfl ?_ | skip
      refine addI ?_
      refine addI ?_
      refine And.intro (show 3 ≤ sizeLine by decide) ?_
      refine addL (b := [nat p.many, .int ((p.many : Int) + 1), .int ((p.many : Int) + 2)]) (line64 (by simp; omega)) ?_
      refine tupL rfl ?_
      refine fin _ ?_
      unfold nts effL
      rw [List.map_append]
      rfl
    | cons t us =>
      first | refine iteF rfl ?_ | skip
      -- behind the choice
      have go : ∀ b, b = one p (t :: us) → ((wSeq (wSet 5 (wC (.bl b))) (wRet (wCB (g1 gTuple) (wCons (w2 gAdd (wVar 3) (wRol (wCons (wIfE (wTru (wVar 5)) (w2 gAdd (wVar 2) (wC (.int 1))) (w2 gAdd (wVar 2) (wC (.int 2)))) (wCons (w2 gAdd (wVar 2) (wC (.int 2))) (wCons (w2 gAdd (wVar 2) (wC (.int 2))) wNil))))) wNil))))) D
          [some p.dv, some (.tup (dvs (t :: us))), some (nat p.many), some (.rol (((List.range p.many).map fun s => on p s (t :: us)).map nat)), none, none] [] := by
        intro b hb
        have tail : ∀ x : Nat, x = (if one p (t :: us) then p.many + 1 else p.many + 2) → D.rt (.tup (((List.range p.many).map fun s => on p s (t :: us)).map nat ++ [nat x, .int ((p.many : Int) + 2), .int ((p.many : Int) + 2)])) [] := by
          intro x hx
          refine fin _ ?_
          rw [effL_cons]
          unfold nts
          rw [List.map_append, hx]
          rfl
        cases b with
        | true =>
          refine addI ?_
          refine addI ?_
          refine addI ?_
          refine And.intro (show 3 ≤ sizeLine by decide) ?_
          refine addL (b := [.int ((p.many : Int) + 1), .int ((p.many : Int) + 2), .int ((p.many : Int) + 2)]) (line64 (by simp; omega)) ?_
          refine tupL rfl ?_
          exact tail (p.many + 1) (by rw [← hb]; rfl)
        | false =>
          refine addI ?_
          refine addI ?_
          refine addI ?_
          refine And.intro (show 3 ≤ sizeLine by decide) ?_
          refine addL (b := [.int ((p.many : Int) + 2), .int ((p.many : Int) + 2), .int ((p.many : Int) + 2)]) (line64 (by simp; omega)) ?_
          refine tupL rfl ?_
          exact tail (p.many + 2) (by rw [← hb]; rfl)
      refine len (xs := dvs (t :: us)) rfl ?_
      cases us with
      | cons u vs =>
        refine eqIf (by rw [dvs_len]; simp; omega) ?_
        exact go false (by simp [one])
      | nil =>
        refine eqIt (by rw [dvs_len]; simp) ?_
        have e0 : dvs [t] = [t.dv] := by simp [dvs]
        rw [e0]
        refine ix (xs := [t.dv]) rfl rfl ?_
        unfold oks at ho
        have hdt := deps_mem hd t (by simp)
        cases t with
        | txt z =>
          rw [dv_txt] at *
          have := go false (by simp [one, isTxt])
          rw [e0] at this
          exact this
        | node m vs =>
          rw [dv_node] at *
          rw [dep_node] at hdt
          have h1 := ok_node ho.1
          refine ix (xs := [.tup [.str m, .tup (dvs vs)]]) rfl rfl ?_
          refine ⟨(p, m, vs), rfl, .cons (nr_dv p) (.cons (nr_node _ _) .nil), ⟨w, h1.1, h1.2, by show deps vs < 12; omega⟩, fun d nd hr => ?_⟩
          have hr : d = nat (stOf p (.node m vs)) := hr
          subst hr
          refine ix (xs := p.fs) rfl rfl ?_
          refine inI (ys := p.ends.map fun (n : Nat) => (n : Int)) (congrArg some (nts_int p.ends)) ?_
          have := go (decide (stOf p (.node m vs) ∈ p.ends)) (by simp [one, isTxt])
          rw [e0] at this
          rw [nat_mem]
          exact this
end K56

namespace K56
open PySem PySem.Spec PyProof.Rows L2 D2
theorem effT_len {p : Pl} (w : WF p) : ∀ (ts : List Th) (a : List Nat), (effT p ts a).length = a.length
  | [], a => rfl
  | t :: ts, a => by
    unfold effT
    rw [effT_len w ts, both_len]
theorem effT_lt {p : Pl} (w : WF p) : ∀ {ts : List Th} {a : List Nat}, oks p.names ts → (∀ x ∈ a, x < p.many + 3) → ∀ x ∈ effT p ts a, x < p.many + 3
  | [], a, _, ha => ha
  | t :: ts, a, h, ha => by
    unfold oks at h
    unfold effT
    exact effT_lt w h.2 (both_lt (fun x hx => by rw [thEff_len w t]; exact ha x hx) (thEff_lt w h.1))
theorem effT_take {p : Pl} {ts : List Th} {i : Nat} {t : Th} {a : List Nat} (h : ts[i]? = some t) : effT p (ts.take (i + 1)) a = both (effT p (ts.take i) a) (thEff p t) := by
  rw [List.take_add_one, h, Option.toList_some, effT_append]
  rfl
theorem p_effect_of (C : Addr) : PL Neffect_of (Weffect_of C 12) (D2.Spec.fn (A_effect_of C) P_effect_of R_effect_of) := by
  rintro ⟨p, ts⟩ ⟨w, ho, hd⟩
  have w : WF p := w
  have ho : oks p.names ts := ho
  have hd : deps ts < 12 := hd
  have m6 := w.m6
  show Weffect_of C 12 _ [some (p.tb C), some (.tup (dvs ts)), none, none, none] []
  refine ⟨p, rfl, .cons (nr_tb C p) .nil, w, fun d nd hr => ?_⟩
  have hr : d = nts (noEff p) := hr
  subst hr
  refine Exists.intro (fun i σ st => ∃ v3 v4, σ = [some (p.tb C), some (.tup (dvs ts)), some (nts (effT p (ts.take i) (noEff p))), v3, v4] ∧ st = []) ?_
  refine And.intro ⟨none, none, by simp [effT], rfl⟩ ?_
  refine And.intro (fun i σ' st' _ n e => nomatch e) ?_
  refine And.intro (fun i x σ' st' e hI => ?_) ?_
  · obtain ⟨v3, v4, rfl, rfl⟩ := hI
    obtain ⟨t, et, rfl⟩ := dvs_at e
    have tm := List.mem_of_getElem? et
    have hl := effT_len w (ts.take i) (noEff p)
    have hn : (noEff p).length = p.many + 3 := by simp [noEff]
    have hlt := effT_lt w (oks_take ho i) (noEff_lt p)
    have ht := thEff_len w t
    refine ⟨_, rfl, ?_⟩
    -- behind the choice
    have go : ∀ d, d = nts (thEff p t) → (wSeq (wSet 4 (wC d)) (wSet 2 (wFn (A_both_effects) P_both_effects R_both_effects (wCons (wVar 2) (wCons (wVar 4) wNil))))) { nx := fun σ st => ∃ v3 v4, σ = [some (p.tb C), some (.tup (dvs ts)), some (nts (effT p (ts.take (i + 1)) (noEff p))), v3, v4] ∧ st = [], rt := fun _ _ => False }
        [some (p.tb C), some (.tup (dvs ts)), some (nts (effT p (ts.take i) (noEff p))), some t.dv, v4] [] := by
      rintro d rfl
      refine ⟨(effT p (ts.take i) (noEff p), thEff p t), rfl, .cons (nr_nts _) (.cons (nr_nts _) .nil), ⟨fun x hx => by rw [ht]; exact hlt x hx, by rw [hl, hn]; omega⟩, fun d nd hr => ?_⟩
      have hr : d = nts (both (effT p (ts.take i) (noEff p)) (thEff p t)) := hr
      subst hr
      rw [← effT_take et]
      exact ⟨some t.dv, some (nts (thEff p t)), rfl, rfl⟩
    cases t with
    | txt z =>
      rw [dv_txt] at *
      first | refine iteT rfl ?_ | skip
      refine ⟨p, rfl, .cons (nr_tb C p) .nil, w, fun d nd hr => ?_⟩
      have hr : d = nts (txtEff p) := hr
      subst hr
      exact go _ (by simp [thEff, isTxt])
    | node m us =>
      have h1 := ok_node (oks_mem ho _ tm)
      have h2 := deps_mem hd _ tm
      rw [dep_node] at h2
      have hs := stOf_lt w _ (oks_mem ho _ tm)
      rw [dv_node] at *
      first | refine iteF rfl ?_ | skip
      refine ⟨(p, m, us), rfl, .cons (nr_tb C p) (.cons (nr_node _ _) .nil), ⟨w, h1.1, h1.2, by show deps us < 12; omega⟩, fun d nd hr => ?_⟩
      have hr : d = nat (stOf p (.node m us)) := hr
      subst hr
      refine ⟨(p, stOf p (.node m us)), rfl, .cons (nr_tb C p) (.cons (.int _) .nil), ⟨w, hs⟩, fun d nd hr => ?_⟩
      have hr : d = nts (nodeEff p (stOf p (.node m us))) := hr
      subst hr
      exact go _ (by simp [thEff, isTxt])
  · rintro σ' st' ⟨v3, v4, rfl, rfl⟩
    rw [dvs_len, List.take_length]
    exact back_fn (args := A_effect_of C) (pre := P_effect_of) (F := R_effect_of) (i := (p, ts)) (nr_nts _) rfl
theorem signs_mem : ∀ c ∈ ("abcdefghijklmnopqrstuvwxyz0123456789 " : Str).cps.toList, c < 128 := by decide +kernel
theorem p_law_text : PL N_law_text W_law_text (D2.Spec.dr A_law_text P_law_text R_law_text) := by
  rintro ⟨b, cs, rest, u⟩ ⟨ok, -⟩
  show W_law_text _ [some (.ref 1), none, none] (DSt b cs rest)
  refine And.intro (show 6 ≤ sizeLine by decide) ?_
  refine ⟨rest, (.rol [.int 0, .int 0, .int 0, .int 1, .int 2, .int 16], [.int 0, .int 0, .int 0, .int 1, .int 2, .int 16]), ⟨b, cs, ok, rfl⟩, rfl, ⟨rfl, by decide, by decide⟩, fun d st2 hd hr => ?_⟩
  have hk : ∃ k : Nat, k ≤ 16 ∧ d = .int (k : Int) := by
    have hr : d ∈ [Dv.int 0, .int 0, .int 0, .int 1, .int 2, .int 16] := hr
    simp only [List.mem_cons, List.not_mem_nil, or_false] at hr
    rcases hr with rfl | rfl | rfl | rfl | rfl | rfl
    · exact ⟨0, by decide, rfl⟩
    · exact ⟨0, by decide, rfl⟩
    · exact ⟨0, by decide, rfl⟩
    · exact ⟨1, by decide, rfl⟩
    · exact ⟨2, by decide, rfl⟩
    · exact ⟨16, by decide, rfl⟩
  obtain ⟨k, hk, rfl⟩ := hk
  refine And.intro ⟨by omega, by omega⟩ ?_
  rw [show ((k : Nat) : Int).toNat = k from Int.toNat_natCast _]
  refine lc_all (xs := rng 0 k) (R := Dr rest) (P := fun _ y => ∃ s : Str, Nm1 s ∧ y = .str s) hd (line64 (by rw [rng_length]; omega)) (fun i x st' e hR => ?_) ?_
  · refine ⟨_, rfl, fun Q' q => ?_⟩
    refine ⟨rest, (.str "abcdefghijklmnopqrstuvwxyz0123456789 ", signs "abcdefghijklmnopqrstuvwxyz0123456789 "), hR, rfl, ⟨rfl, by decide +kernel, by decide +kernel⟩, fun d st5 hd5 hr => ?_⟩
    obtain ⟨c, hc, rfl⟩ := List.mem_map.mp hr
    exact q _ _ ⟨_, nm_one (signs_mem c hc), rfl⟩ hd5
  · intro ys st3 hd3 hl hP
    obtain ⟨ss, rfl, hs⟩ := strs_of (P := Nm1) (mem_at hP)
    have hl : ss.length = k := by simpa [rng_length] using hl
    refine Exists.intro ss (And.intro rfl (And.intro ?_ ?_))
    · rw [sum_ones fun s h => (hs s h).1]
      have : ("" : Str).length = 0 := rfl
      rw [this]
      omega
    · refine back_dr (args := A_law_text) (pre := P_law_text) (F := R_law_text) hd3 ⟨_, ⟨?_, fun c hc => ?_⟩, rfl⟩
      · have h3 := join0_len ss
        rw [sum_ones fun s hs2 => (hs s hs2).1] at h3
        omega
      · obtain ⟨t, ht, hc⟩ := join0_mem hc
        exact (hs t ht).2 c hc
theorem p_law_node : PL N_law_node W_law_node (D2.Spec.dr A_law_node P_law_node R_law_node) := by
  rintro ⟨b, cs, rest, ns, m⟩ ⟨ok, hr0, h0, h2, hm⟩
  have hr0 : rest = [] := hr0
  have h0 : 0 < ns.length := h0
  have h2 : ns.length ≤ 2 := h2
  have hm : m ≤ 7 := hm
  subst hr0
  show W_law_node _ [some (.ref 1), some (.rol (ns.map Dv.str)), some (nat m)] (DSt b cs [])
  refine ⟨[], (.rol (ns.map Dv.str), ns.map Dv.str), ⟨b, cs, ok, rfl⟩, rfl, ⟨rfl, by simpa using h0, by simp; omega⟩, fun d st2 hd hr => ?_⟩
  obtain ⟨n, hn, rfl⟩ := List.mem_map.mp (show d ∈ ns.map Dv.str from hr)
  refine ⟨[], (ns, m), hd, rfl, ⟨rfl, h0, h2, hm⟩, fun d2 st3 hd3 hr2 => ?_⟩
  obtain ⟨ts, hf, hdp, rfl⟩ := hr2
  refine And.intro (show 2 ≤ sizeLine by decide) ?_
  refine back_dr (args := A_law_node) (pre := P_law_node) (F := R_law_node) (i := (ns, m)) hd3 ⟨.node n ts, ?_, ?_, (dv_node n ts).symm⟩
  · unfold Th.ok
    exact ⟨hn, hf.1⟩
  · rw [dep_node]
    omega
theorem p_law_some : PL N_law_some W_law_some (D2.Spec.dr A_law_some P_law_some R_law_some) := by
  rintro ⟨b, cs, rest, ns⟩ ⟨ok, hr0, h0, h2⟩
  have hr0 : rest = [] := hr0
  have h0 : 0 < ns.length := h0
  have h2 : ns.length ≤ 2 := h2
  subst hr0
  show W_law_some _ [some (.ref 1), some (.rol (ns.map Dv.str))] (DSt b cs [])
  refine And.intro (show 0 ≤ sizeLine by decide) ?_
  refine And.intro (show 1 ≤ sizeLine by decide) ?_
  refine ⟨[], (ns, 5), ⟨b, cs, ok, rfl⟩, rfl, ⟨rfl, h0, h2, show 5 ≤ 7 by decide⟩, fun d1 s1 hd1 hr1 => ?_⟩
  obtain ⟨t1, ho1, hp1, rfl⟩ := hr1
  refine And.intro (show 1 ≤ sizeLine by decide) ?_
  refine ⟨[], (ns, 5), hd1, rfl, ⟨rfl, h0, h2, show 5 ≤ 7 by decide⟩, fun d2 s2 hd2 hr2 => ?_⟩
  obtain ⟨t2, ho2, hp2, rfl⟩ := hr2
  refine And.intro (show 1 ≤ sizeLine by decide) ?_
  refine ⟨[], (ns, 7), hd2, rfl, ⟨rfl, h0, h2, show 7 ≤ 7 by decide⟩, fun d3 s3 hd3 hr3 => ?_⟩
  obtain ⟨t3, ho3, hp3, rfl⟩ := hr3
  refine ⟨[], (ns, 7), hd3, rfl, ⟨rfl, h0, h2, show 7 ≤ 7 by decide⟩, fun d4 s4 hd4 hr4 => ?_⟩
  obtain ⟨t4, ho4, hp4, rfl⟩ := hr4
  refine And.intro (show 6 ≤ sizeLine by decide) ?_
  refine ⟨[], (.rol [.tup [], .tup [.str ""], .tup [t1.dv], .tup [t2.dv], .tup (dvs t3), .tup (dvs t4)], [.tup [], .tup [.str ""], .tup [t1.dv], .tup [t2.dv], .tup (dvs t3), .tup (dvs t4)]), hd4, rfl, ⟨rfl, by show 0 < 6; decide, by show 6 ≤ 1000; decide⟩, fun d s5 hd5 hr => ?_⟩
  refine back_dr (args := A_law_some) (pre := P_law_some) (F := R_law_some) (i := ns) hd5 ?_
  have one : ∀ t : Th, t.ok ns → t.dep < 12 → R_law_some ns (.tup [t.dv]) := fun t h1 h2 => ⟨[t], ⟨oks_of fun x hx => by
      have : x = t := by simpa using hx
      rw [this]
      exact h1, deps_of (by decide) fun x hx => by
      have : x = t := by simpa using hx
      rw [this]
      exact h2, by simp⟩, by simp [dvs]⟩
  have hr : d ∈ [Dv.tup [], .tup [.str ""], .tup [t1.dv], .tup [t2.dv], .tup (dvs t3), .tup (dvs t4)] := hr
  simp only [List.mem_cons, List.not_mem_nil, or_false] at hr
  rcases hr with rfl | rfl | rfl | rfl | rfl | rfl
  · exact ⟨[], ⟨by unfold oks; trivial, by unfold deps; decide, by simp⟩, by simp [dvs]⟩
  · have := one (.txt "") (by unfold Th.ok; exact ⟨by decide, fun c hc => by
      have e : ("" : Str).cps.toList = [] := rfl
      rw [e] at hc
      simp at hc⟩) (by unfold Th.dep; decide)
    rw [dv_txt] at this
    exact this
  · exact one t1 ho1 hp1
  · exact one t2 ho2 hp2
  · exact ⟨t3, ho3, rfl⟩
  · exact ⟨t4, ho4, rfl⟩
end K56

namespace K56
open PySem PySem.Spec PyProof.Rows L2 D2
theorem seq_ref {st : Sto} {n : Nat} {xs : List Dv} (h : st[n]? = some (.lst xs)) : seqD st (.ref n) = some xs := by simp [seqD, tupD, lstD, h]
theorem lst_ref {st : Sto} {n : Nat} {xs : List Dv} (h : st[n]? = some (.lst xs)) : lstD st (.ref n) = some xs := by simp [lstD, h]
theorem p_law_shut : PL N_law_shut W_law_shut S_law_shut := by
  rintro ⟨st, fs, c, l, c', l', n, n', ys, xs⟩ ⟨h4, hc, hl, hc', hl', c4, l4, c4', l4', x1, y1⟩
  simp only at h4 hc hl hc' hl' c4 l4 c4' l4' x1 y1
  have t4 := (List.getElem?_eq_some_iff.mp h4).1
  show W_law_shut _ [some (.ref 4), none] st
  refine Exists.intro _ (Exists.intro (.ref c) (And.intro h4 (And.intro (by simp) ?_)))
  have e : (fs ++ [Dv.ref c', .ref c]).dropLast = fs ++ [.ref c'] := by
    rw [show fs ++ [Dv.ref c', .ref c] = (fs ++ [Dv.ref c']) ++ [.ref c] by simp, List.dropLast_concat]
  rw [e]
  have s4 : (st.set 4 (.lst (fs ++ [.ref c'])))[4]? = some (.lst (fs ++ [.ref c'])) := by rw [List.getElem?_set_self t4]
  have so : ∀ k, k ≠ 4 → (st.set 4 (.lst (fs ++ [.ref c'])))[k]? = st[k]? := fun k hk => by rw [List.getElem?_set_ne (Ne.symm hk)]
  have gc := seq_ref ((so c c4).trans hc)
  have gc' := seq_ref ((so c' c4').trans hc')
  have gl := lst_ref ((so l l4).trans hl)
  refine ix (xs := fs ++ [.ref c']) (seq_ref s4) (atI_last _ _) ?_
  refine ix (xs := [.str n', .ref l']) gc' rfl ?_
  refine ix (xs := [.str n, .ref l]) gc rfl ?_
  refine ix (xs := [.str n, .ref l]) gc rfl ?_
  refine tupL gl ?_
  refine And.intro (show 2 ≤ sizeLine by decide) ?_
  refine Exists.intro xs (And.intro ((so l' l4').trans hl') (And.intro (Nat.lt_of_le_of_lt x1 (by decide)) ?_))
  exact .inl ⟨⟨rfl, rfl⟩, by simp⟩
/-! ### the stack -/
structure Fm where
  c : Nat
  l : Nat
  n : Str
  ts : List Th
structure SK (rest : Sto) (fr : List Fm) : Prop where
  s : rest[2]? = some (.lst (fr.reverse.map fun f => Dv.ref (f.c + 2)))
  at_ : ∀ f ∈ fr, rest[f.c]? = some (.lst [.str f.n, .ref (f.l + 2)]) ∧ rest[f.l]? = some (.lst (dvs f.ts)) ∧ f.c ≠ 2 ∧ f.l ≠ 2
  cl : ∀ f ∈ fr, ∀ g ∈ fr, f.c ≠ g.l
  nd : (fr.map (·.l)).Nodup
def Gd (ns : List Str) (P : Nat) : List Fm → Prop
  | [] => False
  | [f] => oks ns f.ts ∧ deps f.ts ≤ P
  | f :: g :: r => oks ns f.ts ∧ f.n ∈ ns ∧ deps f.ts + (r.length + 1) ≤ P ∧ Gd ns P (g :: r)
theorem Gd.mono {ns : List Str} {P P' : Nat} (h : P ≤ P') : ∀ {fr : List Fm}, Gd ns P fr → Gd ns P' fr
  | [], q => q
  | [f], q => ⟨q.1, Nat.le_trans q.2 h⟩
  | f :: g :: r, q => ⟨q.1, q.2.1, Nat.le_trans q.2.2.1 h, Gd.mono h q.2.2.2⟩
theorem deps_snoc {n : Nat} {ts : List Th} {t : Th} (h1 : deps ts ≤ n) (h2 : t.dep ≤ n) : deps (ts ++ [t]) ≤ n := by
  have := deps_of (n := n + 1) (by omega) (ts := ts ++ [t]) fun x hx => by
    rcases List.mem_append.mp hx with h | h
    · have := deps_mem (n := n + 1) (ts := ts) (by omega) x h
      exact this
    · simp at h
      rw [h]
      omega
  omega
theorem oks_snoc {ns : List Str} {ts : List Th} {t : Th} (h1 : oks ns ts) (h2 : t.ok ns) : oks ns (ts ++ [t]) := oks_append h1 (oks_of fun x hx => by
  simp at hx
  rw [hx]
  exact h2)
theorem Gd.top {ns : List Str} {P : Nat} {f : Fm} : ∀ {r : List Fm}, Gd ns P (f :: r) → oks ns f.ts ∧ deps f.ts + r.length ≤ P
  | [], q => ⟨q.1, by have := q.2; simp; omega⟩
  | g :: r, q => ⟨q.1, by have := q.2.2.1; simp; omega⟩
/-- an item added to the top -/
theorem Gd.add {ns : List Str} {P : Nat} {f : Fm} {t : Th} (ht : t.ok ns) : ∀ {r : List Fm}, Gd ns P (f :: r) → t.dep + r.length ≤ P → Gd ns P ({ f with ts := f.ts ++ [t] } :: r)
  | [], q, h => ⟨oks_snoc q.1 ht, deps_snoc q.2 (by simpa using h)⟩
  | g :: r, q, h => ⟨oks_snoc q.1 ht, q.2.1, by
      have h1 := q.2.2.1
      have h2 : t.dep + (r.length + 1) ≤ P := by simpa using h
      have := deps_snoc (n := P - (r.length + 1)) (ts := f.ts) (t := t) (by omega) (by omega)
      show deps (f.ts ++ [t]) + (r.length + 1) ≤ P
      omega, q.2.2.2⟩
theorem SK.len {rest : Sto} {fr : List Fm} (h : SK rest fr) : ∀ f ∈ fr, f.c < rest.length ∧ f.l < rest.length := fun f hf =>
  ⟨(List.getElem?_eq_some_iff.mp (h.at_ f hf).1).1, (List.getElem?_eq_some_iff.mp (h.at_ f hf).2.1).1⟩
theorem dvs_snoc (ts : List Th) (t : Th) : dvs (ts ++ [t]) = dvs ts ++ [t.dv] := by simp [dvs_map]
/-- the top's list grows -/
theorem SK.grow {rest : Sto} {f : Fm} {r : List Fm} (h : SK rest (f :: r)) (t : Th) : SK (rest.set f.l (.lst (dvs f.ts ++ [t.dv]))) ({ f with ts := f.ts ++ [t] } :: r) := by
  obtain ⟨h1, h2, h3, h4⟩ := h.at_ f (by simp)
  have hl := (List.getElem?_eq_some_iff.mp h2).1
  have nd := h.nd
  rw [List.map_cons, List.nodup_cons] at nd
  refine ⟨?_, fun g hg => ?_, fun a ha b hb => ?_, h.nd⟩
  · rw [List.getElem?_set_ne h4, h.s]
    simp
  · rcases List.mem_cons.mp hg with rfl | hg
    · refine ⟨?_, ?_, h3, h4⟩
      · rw [List.getElem?_set_ne (Ne.symm (h.cl f (by simp) f (by simp)))]
        exact h1
      · rw [List.getElem?_set_self hl, dvs_snoc]
    · obtain ⟨g1, g2, g3, g4⟩ := h.at_ g (by simp [hg])
      refine ⟨?_, ?_, g3, g4⟩
      · rw [List.getElem?_set_ne (Ne.symm (h.cl g (by simp [hg]) f (by simp)))]
        exact g1
      · rw [List.getElem?_set_ne fun e => nd.1 (List.mem_map.mpr ⟨g, hg, e.symm⟩)]
        exact g2
  · have key : ∀ a ∈ ({ f with ts := f.ts ++ [t] } :: r : List Fm), ∃ a' ∈ (f :: r), a'.c = a.c ∧ a'.l = a.l := fun a ha => by
      rcases List.mem_cons.mp ha with rfl | ha
      · exact ⟨f, by simp, rfl, rfl⟩
      · exact ⟨a, by simp [ha], rfl, rfl⟩
    obtain ⟨a', ha', e1, _⟩ := key a ha
    obtain ⟨b', hb', _, e2⟩ := key b hb
    rw [← e1, ← e2]
    exact h.cl a' ha' b' hb'
/-- the top is taken away -/
theorem SK.pop {rest : Sto} {f : Fm} {r : List Fm} (h : SK rest (f :: r)) : SK (rest.set 2 (.lst (r.reverse.map fun f => Dv.ref (f.c + 2)))) r := by
  have h2 := (List.getElem?_eq_some_iff.mp h.s).1
  have nd := h.nd
  rw [List.map_cons, List.nodup_cons] at nd
  refine ⟨by rw [List.getElem?_set_self h2], fun g hg => ?_, fun a ha b hb => h.cl a (by simp [ha]) b (by simp [hb]), nd.2⟩
  obtain ⟨g1, g2, g3, g4⟩ := h.at_ g (by simp [hg])
  exact ⟨by rw [List.getElem?_set_ne (Ne.symm g3)]; exact g1, by rw [List.getElem?_set_ne (Ne.symm g4)]; exact g2, g3, g4⟩
/-- a new top -/
theorem SK.push {rest : Sto} {fr : List Fm} (h : SK rest fr) (n : Str) :
    SK ((rest ++ [Co.lst []] ++ [Co.lst [.str n, .ref (rest.length + 2)]]).set 2 (Co.lst (fr.reverse.map (fun f : Fm => Dv.ref (f.c + 2)) ++ [Dv.ref (rest.length + 1 + 2)]))) (⟨rest.length + 1, rest.length, n, []⟩ :: fr) := by
  have h2 := (List.getElem?_eq_some_iff.mp h.s).1
  have hl : (rest ++ [Co.lst []] ++ [Co.lst [.str n, .ref (rest.length + 2)]]).length = rest.length + 2 := by simp
  have old : ∀ k, k < rest.length → (rest ++ [Co.lst []] ++ [Co.lst [.str n, .ref (rest.length + 2)]])[k]? = rest[k]? := fun k hk => by
    rw [List.append_assoc, List.getElem?_append_left hk]
  refine ⟨?_, fun g hg => ?_, fun a ha b hb => ?_, ?_⟩
  · rw [List.getElem?_set_self (by rw [hl]; omega)]
    simp
  · rcases List.mem_cons.mp hg with rfl | hg
    · refine ⟨?_, ?_, ?_, ?_⟩
      · rw [List.getElem?_set_ne (by show 2 ≠ rest.length + 1; omega)]
        show (rest ++ [Co.lst []] ++ [Co.lst [.str n, .ref (rest.length + 2)]])[rest.length + 1]? = _
        rw [List.getElem?_append_right (by simp)]
        simp
      · rw [List.getElem?_set_ne (by show 2 ≠ rest.length; omega)]
        show (rest ++ [Co.lst []] ++ [Co.lst [.str n, .ref (rest.length + 2)]])[rest.length]? = _
        rw [List.append_assoc, List.getElem?_append_right (Nat.le_refl _)]
        simp [dvs]
      · show rest.length + 1 ≠ 2
        omega
      · show rest.length ≠ 2
        omega
    · obtain ⟨g1, g2, g3, g4⟩ := h.at_ g hg
      obtain ⟨l1, l2⟩ := h.len g hg
      exact ⟨by rw [List.getElem?_set_ne (Ne.symm g3), old _ l1]; exact g1, by rw [List.getElem?_set_ne (Ne.symm g4), old _ l2]; exact g2, g3, g4⟩
  · rcases List.mem_cons.mp ha with rfl | ha <;> rcases List.mem_cons.mp hb with rfl | hb
    · show rest.length + 1 ≠ rest.length
      omega
    · have := (h.len b hb).2
      show rest.length + 1 ≠ b.l
      omega
    · have := (h.len a ha).1
      show a.c ≠ rest.length
      omega
    · exact h.cl a ha b hb
  · rw [List.map_cons, List.nodup_cons]
    refine ⟨fun hm => ?_, h.nd⟩
    obtain ⟨g, hg, e⟩ := List.mem_map.mp hm
    have := (h.len g hg).2
    have e : g.l = rest.length := e
    omega
abbrev WShut : DTS := wIf (wB (w2 (gB fun a b => decide (b < a)) (wCB (g1 gLen) (wCons (wVar 3) wNil)) (wC (.int 1)))) (wDrop (wCall S_law_shut (wCons (wVar 3) wNil))) wNext
def Ln (L : Nat) (fr : List Fm) : Prop := ∀ f ∈ fr, f.ts.length ≤ L
/-- one shutting, where there are two -/
theorem shut_if {ns : List Str} {x0 x1 x2 x4 x5 : Option Dv} {rest st : Sto} {fr : List Fm} {P L : Nat} {D : DEnds} (sk : SK rest fr) (gd : Gd ns P fr) (ln : Ln L fr) (hL : L ≤ 900) (hd : Dr rest st)
    (k : ∀ rest' fr' st', Dr rest' st' → SK rest' fr' → Gd ns P fr' → Ln (L + 1) fr' → fr'.length ≤ max 1 (fr.length - 1) → D.nx [x0, x1, x2, some (.ref 4), x4, x5] st') : WShut D [x0, x1, x2, some (.ref 4), x4, x5] st := by
  obtain ⟨b, cs, ok, rfl⟩ := hd
  have e4 : (DSt b cs rest)[4]? = some (.lst (fr.reverse.map fun f => Dv.ref (f.c + 2))) := sk.s
  refine len (seq_ref e4) ?_
  refine opB2 ?_
  rw [List.length_map, List.length_reverse]
  cases fr with
  | nil => exact gd.elim
  | cons f r =>
    cases r with
    | nil =>
      refine iteF rfl ?_
      exact k rest [f] _ ⟨b, cs, ok, rfl⟩ sk gd (fun g hg => Nat.le_succ_of_le (ln g hg)) (by simp)
    | cons g r =>
      refine iteT (by simp; omega) ?_
      obtain ⟨f1, f2, f3, f4⟩ := sk.at_ f (by simp)
      obtain ⟨g1, g2, g3, g4⟩ := sk.at_ g (by simp)
      refine Exists.intro (⟨DSt b cs rest, r.reverse.map fun f => Dv.ref (f.c + 2), f.c + 2, f.l + 2, g.c + 2, g.l + 2, f.n, g.n, dvs f.ts, dvs g.ts⟩ : ShI) ?_
      refine And.intro rfl (And.intro rfl (And.intro ⟨?_, f1, f2, g1, g2, ?_, ?_, ?_, ?_, ?_, ?_⟩ ?_))
      · rw [e4]
        simp
      · show f.c + 2 ≠ 4
        omega
      · show f.l + 2 ≠ 4
        omega
      · show g.c + 2 ≠ 4
        omega
      · show g.l + 2 ≠ 4
        omega
      · show (dvs g.ts).length ≤ 1000
        rw [dvs_len]
        have := ln g (by simp)
        omega
      · show (dvs f.ts).length ≤ 1000
        rw [dvs_len]
        have := ln f (by simp)
        omega
      · rintro d st2 ⟨rfl, rfl⟩
        have ht : (Th.node f.n f.ts).ok ns := by
          unfold Th.ok
          exact ⟨gd.2.1, gd.1⟩
        have s1 := sk.pop.grow (.node f.n f.ts)
        rw [dv_node] at s1
        refine k _ _ _ ⟨b, cs, ok, ?_⟩ s1 (Gd.add ht gd.2.2.2 (by rw [dep_node]; have := gd.2.2.1; omega)) (fun h hh => ?_) (by simp)
        · simp [DSt]
        · rcases List.mem_cons.mp hh with rfl | hh
          · have := ln g (by simp)
            simp
            omega
          · exact Nat.le_succ_of_le (ln h (by simp [hh]))
end K56

namespace K56
open PySem PySem.Spec PyProof.Rows L2 D2
theorem Gd.lens {ns : List Str} {P : Nat} : ∀ {fr : List Fm}, Gd ns P fr → 1 ≤ fr.length ∧ fr.length ≤ P + 1
  | [], q => q.elim
  | [f], q => ⟨by simp, by simp⟩
  | f :: g :: r, q => ⟨by simp, by have := q.2.2.1; simp; omega⟩
theorem Gd.cons {ns : List Str} {P : Nat} {f : Fm} (h1 : oks ns f.ts) (h2 : f.n ∈ ns) : ∀ {fr : List Fm}, Gd ns P fr → deps f.ts + fr.length ≤ P → Gd ns P (f :: fr)
  | [], q, _ => q.elim
  | g :: r, q, h => ⟨h1, h2, by simpa using h, q⟩
theorem Ln.mono {L L' : Nat} {fr : List Fm} (h : L ≤ L') (q : Ln L fr) : Ln L' fr := fun f hf => Nat.le_trans (q f hf) h
theorem p_law_forest : PL N_law_forest W_law_forest (D2.Spec.dr A_law_forest P_law_forest R_law_forest) := by
  rintro ⟨b, cs, rest, ns, m⟩ ⟨ok, hr0, h0, h2, hm⟩
  have hr0 : rest = [] := hr0
  have h0 : 0 < ns.length := h0
  have h2 : ns.length ≤ 2 := h2
  have hm : m ≤ 7 := hm
  have ok : okD b cs := ok
  subst hr0
  show W_law_forest _ [some (.ref 1), some (.rol (ns.map Dv.str)), some (nat m), none, none, none] (DSt b cs [])
  generalize hD : ({ nx := _, rt := _ } : DEnds) = D
  have fin : ∀ rest f st, Dr rest st → SK rest [f] → Gd ns 7 [f] → Ln 28 [f] → D.rt (.tup (dvs f.ts)) st := by
    rintro rest f st ⟨b2, cs2, ok2, rfl⟩ sk gd ln
    rw [← hD]
    refine .inr ⟨DSt b2 cs2 [], .tup (dvs f.ts), ⟨by simp [DSt], fun n xs hn e => ?_, .tup (nr_ths f.ts).fz⟩, Nat.le_refl 2, ⟨b2, cs2, ok2, rfl⟩, f.ts, ⟨gd.1, ?_, ?_⟩, ?_, rfl⟩
    · cases n with
      | zero =>
        cases e
        exact ⟨_, rfl, (Nr.ints cs2).fz⟩
      | succ n =>
        cases n with
        | zero =>
          cases e
          exact ⟨_, rfl, .cons (.ref 0 (by simp [DSt])) (.cons (.int b2) .nil)⟩
        | succ n => simp [DSt] at hn; omega
    · have : deps f.ts ≤ 7 := gd.2
      omega
    · have := ln f (by simp)
      omega
    · have : deps f.ts ≤ 7 := gd.2
      omega
  clear hD
  refine And.intro (Nat.zero_le _) ?_
  refine And.intro (show 2 ≤ sizeLine by decide) ?_
  refine And.intro (show 1 ≤ sizeLine by decide) ?_
  -- how many turns
  refine addI ?_
  refine ⟨[.lst [], .lst [.str "", .ref 2], .lst [.ref 3]], m + 1, ⟨b, cs, ok, rfl⟩, rfl, ⟨by omega, by omega⟩, fun d st1 hd1 hr => ?_⟩
  obtain ⟨r, hr, rfl⟩ := hr
  refine And.intro ⟨by omega, by omega⟩ ?_
  rw [show ((r : Nat) : Int).toNat = r from Int.toNat_natCast _]
  have sk0 : SK [.lst [], .lst [.str "", .ref 2], .lst [.ref 3]] [⟨1, 0, "", []⟩] := by
    refine ⟨rfl, fun f hf => ?_, fun f hf g hg => ?_, by simp⟩
    · simp at hf
      subst hf
      exact ⟨rfl, by simp [dvs], by decide, by decide⟩
    · simp at hf hg
      subst hf hg
      decide
  have gd0 : Gd ns 0 [⟨1, 0, "", []⟩] := ⟨by unfold oks; trivial, by unfold deps; exact Nat.le_refl _⟩
  refine Exists.intro (fun i σ st => ∃ v4 v5 rest fr, σ = [some (.ref 1), some (.rol (ns.map Dv.str)), some (nat m), some (.ref 4), v4, v5] ∧ Dr rest st ∧ SK rest fr ∧ Gd ns i fr ∧ Ln (3 * i) fr) ?_
  refine And.intro ⟨none, none, _, _, rfl, hd1, sk0, gd0, fun f hf => by
    simp at hf
    subst hf
    exact Nat.zero_le _⟩ ?_
  refine And.intro (fun i σ' st' _ n e => nomatch e) ?_
  refine And.intro (fun i x σ' st' e hI => ?_) ?_
  · -- a turn
    obtain ⟨v4, v5, rest, fr, rfl, hd, sk, gd, ln⟩ := hI
    obtain ⟨hi, rfl⟩ := rng_at e
    refine ⟨_, rfl, ?_⟩
    refine And.intro (show 5 ≤ sizeLine by decide) ?_
    refine ⟨rest, (.rol [.int 0, .int 0, .int 1, .int 1, .int 2], [.int 0, .int 0, .int 1, .int 1, .int 2]), hd, rfl, ⟨rfl, by show 0 < 5; decide, by show 5 ≤ 1000; decide⟩, fun d st2 hd2 hr2 => ?_⟩
    have hk : ∃ k : Nat, k ≤ 2 ∧ d = .int (k : Int) := by
      have hr2 : d ∈ [Dv.int 0, .int 0, .int 1, .int 1, .int 2] := hr2
      simp only [List.mem_cons, List.not_mem_nil, or_false] at hr2
      rcases hr2 with rfl | rfl | rfl | rfl | rfl
      · exact ⟨0, by decide, rfl⟩
      · exact ⟨0, by decide, rfl⟩
      · exact ⟨1, by decide, rfl⟩
      · exact ⟨1, by decide, rfl⟩
      · exact ⟨2, by decide, rfl⟩
    obtain ⟨k, hk, rfl⟩ := hk
    refine And.intro ⟨by omega, by omega⟩ ?_
    rw [show ((k : Nat) : Int).toNat = k from Int.toNat_natCast _]
    refine Exists.intro (fun j σ st => ∃ v5 rest fr, σ = [some (.ref 1), some (.rol (ns.map Dv.str)), some (nat m), some (.ref 4), some (nat i), v5] ∧ Dr rest st ∧ SK rest fr ∧ Gd ns i fr ∧ Ln (3 * i + j) fr) ?_
    refine And.intro ⟨v5, _, _, rfl, hd2, sk, gd, ln⟩ ?_
    refine And.intro (fun i σ' st' _ n e => nomatch e) ?_
    refine And.intro (fun j x σ' st' e hI => ?_) ?_
    · obtain ⟨v5, rest, fr, rfl, hd, sk, gd, ln⟩ := hI
      obtain ⟨hj, rfl⟩ := rng_at e
      refine ⟨_, rfl, ?_⟩
      exact shut_if sk gd ln (by omega) hd fun rest' fr' st' hd' sk' gd' ln' _ => ⟨some (nat j), rest', fr', rfl, hd', sk', gd', ln'⟩
    · rintro σ' st' ⟨v5, rest, fr, rfl, hd, sk, gd, ln⟩
      rw [rng_length] at ln
      have ln : Ln (3 * i + 2) fr := ln.mono (by omega)
      refine ⟨rest, 4, hd, rfl, ⟨by decide, by decide⟩, fun d st3 hd3 hr3 => ?_⟩
      obtain ⟨q, hq, rfl⟩ := hr3
      refine eqI ?_
      cases fr with
      | nil => exact gd.elim
      | cons f fs =>
        obtain ⟨b3, cs3, ok3, rfl⟩ := hd3
        have e4 : (DSt b3 cs3 rest)[4]? = some (.lst ((f :: fs).reverse.map fun f => Dv.ref (f.c + 2))) := sk.s
        have t4 := (List.getElem?_eq_some_iff.mp sk.s).1
        obtain ⟨f1, f2, f3, f4⟩ := sk.at_ f (by simp)
        have g1 : (DSt b3 cs3 rest)[f.c + 2]? = some (.lst [.str f.n, .ref (f.l + 2)]) := f1
        refine iteC (fun _ => ?_) fun _ => ?_
        · -- a text
          refine ix (xs := (fs.reverse.map fun f => Dv.ref (f.c + 2)) ++ [.ref (f.c + 2)]) (by rw [seq_ref e4]; simp) (atI_last _ _) ?_
          refine ix (xs := [.str f.n, .ref (f.l + 2)]) (seq_ref g1) rfl ?_
          refine ⟨rest, (), ⟨b3, cs3, ok3, rfl⟩, rfl, trivial, fun d st4 hd4 hr4 => ?_⟩
          obtain ⟨s, hs, rfl⟩ := hr4
          obtain ⟨b4, cs4, ok4, rfl⟩ := hd4
          have g2 : (DSt b4 cs4 rest)[f.l + 2]? = some (.lst (dvs f.ts)) := f2
          refine Exists.intro (dvs f.ts) (And.intro g2 (And.intro ?_ ?_))
          · rw [dvs_len]
            have := ln f (by simp)
            have : (900 : Nat) < sizeLine := by decide
            omega
          · have s1 := sk.grow (.txt s)
            rw [dv_txt] at s1
            have ht : (Th.txt s).ok ns := by unfold Th.ok; exact hs
            have hdt : (Th.txt s).dep = 0 := by simp [Th.dep]
            exact ⟨some (nat i), v5, _, _, rfl, ⟨b4, cs4, ok4, rfl⟩, s1, (gd.add ht (by rw [hdt]; have := gd.top.2; omega)).mono (Nat.le_succ _), fun h hh => by
              rcases List.mem_cons.mp hh with rfl | hh
              · have := ln f (by simp)
                simp
                omega
              · have := ln h (by simp [hh])
                omega⟩
        · -- a new node is opened
          refine ⟨rest, (.rol (ns.map Dv.str), ns.map Dv.str), ⟨b3, cs3, ok3, rfl⟩, rfl, ⟨rfl, by simpa using h0, by simp; omega⟩, fun d st4 hd4 hr4 => ?_⟩
          obtain ⟨n, hn, rfl⟩ := List.mem_map.mp (show d ∈ ns.map Dv.str from hr4)
          obtain ⟨b4, cs4, ok4, rfl⟩ := hd4
          refine And.intro (Nat.zero_le _) ?_
          refine And.intro (show 2 ≤ sizeLine by decide) ?_
          have e4 : (DSt b4 cs4 rest ++ [Co.lst []] ++ [Co.lst [.str n, .ref (DSt b4 cs4 rest).length]])[4]? = some (.lst ((f :: fs).reverse.map fun f : Fm => Dv.ref (f.c + 2))) := by
            show (rest ++ [Co.lst []] ++ [Co.lst [.str n, .ref (rest.length + 2)]])[2]? = _
            rw [List.append_assoc, List.getElem?_append_left t4]
            exact sk.s
          refine Exists.intro ((f :: fs).reverse.map fun f : Fm => Dv.ref (f.c + 2)) (And.intro e4 (And.intro ?_ ?_))
          · have := gd.lens.2
            have : (900 : Nat) < sizeLine := by decide
            simp at *
            omega
          · have s1 := sk.push n
            have en : (DSt b4 cs4 rest ++ [Co.lst []]).length = rest.length + 1 + 2 := by simp [DSt]
            have g3 : Gd ns (i + 1) (⟨rest.length + 1, rest.length, n, []⟩ :: f :: fs) := Gd.cons (by unfold oks; trivial) hn (gd.mono (Nat.le_succ _)) (by
              have := gd.lens.2
              have e0 : deps [] = 0 := by simp [deps]
              rw [e0]
              omega)
            refine ⟨some (nat i), v5, _, _, rfl, ⟨b4, cs4, ok4, ?_⟩, s1, g3, fun h hh => by
              rcases List.mem_cons.mp hh with rfl | hh
              · exact Nat.zero_le _
              · have := ln h hh
                omega⟩
            show List.set _ 4 _ = _
            rw [en]
            rfl
  · -- what is still open
    rintro σ' st' ⟨v4, v5, rest, fr, rfl, hd, sk, gd, ln⟩
    rw [rng_length] at gd ln
    have gd : Gd ns m fr := gd.mono (by omega)
    have ln : Ln 21 fr := ln.mono (by omega)
    refine And.intro ⟨by omega, by omega⟩ ?_
    rw [show ((m : Nat) : Int).toNat = m from Int.toNat_natCast _]
    refine Exists.intro (fun i σ st => ∃ v4 rest fr, σ = [some (.ref 1), some (.rol (ns.map Dv.str)), some (nat m), some (.ref 4), v4, v5] ∧ Dr rest st ∧ SK rest fr ∧ Gd ns m fr ∧ Ln (21 + i) fr ∧ fr.length ≤ max 1 (m + 1 - i)) ?_
    refine And.intro ⟨_, _, _, rfl, hd, sk, gd, ln, by have := gd.lens.2; omega⟩ ?_
    refine And.intro (fun i σ' st' _ n e => nomatch e) ?_
    refine And.intro (fun i x σ' st' e hI => ?_) ?_
    · obtain ⟨v4, rest, fr, rfl, hd, sk, gd, ln, hl⟩ := hI
      obtain ⟨hi, rfl⟩ := rng_at e
      refine ⟨_, rfl, ?_⟩
      exact shut_if sk gd ln (by omega) hd fun rest' fr' st' hd' sk' gd' ln' hl' => ⟨_, rest', fr', rfl, hd', sk', gd', ln', by omega⟩
    · rintro σ' st' ⟨v4, rest, fr, rfl, hd, sk, gd, ln, hl⟩
      rw [rng_length] at ln hl
      have h1 := gd.lens.1
      match fr, h1, hl, sk, gd, ln with
      | [f], _, _, sk, gd, ln =>
        have hd' := hd
        obtain ⟨b5, cs5, ok5, rfl⟩ := hd'
        have e4 : (DSt b5 cs5 rest)[4]? = some (.lst ([f].reverse.map fun f => Dv.ref (f.c + 2))) := sk.s
        obtain ⟨f1, f2, f3, f4⟩ := sk.at_ f (by simp)
        have g1 : (DSt b5 cs5 rest)[f.c + 2]? = some (.lst [.str f.n, .ref (f.l + 2)]) := f1
        have g2 : (DSt b5 cs5 rest)[f.l + 2]? = some (.lst (dvs f.ts)) := f2
        refine ix (xs := [.ref (f.c + 2)]) (seq_ref e4) rfl ?_
        refine ix (xs := [.str f.n, .ref (f.l + 2)]) (seq_ref g1) rfl ?_
        refine tupL (lst_ref g2) ?_
        exact fin _ f _ hd sk (gd.mono hm) (ln.mono (by omega))
      | f :: g :: r, _, hl, _, _, _ =>
        exfalso
        simp at hl
        try omega
end K56

namespace K56
open PySem PySem.Spec PyProof.Rows L2 D2
theorem any_ (bd : Int) (k : Nat) (e : bd = k) (h0 : 0 < k) (h1 : k < 1000) {rest : Sto} {st : Sto} {Q : DK} (hd : Dr rest st) (q : ∀ (r : Nat) st2, r < k → Dr rest st2 → Q (nat r) st2) :
    ∃ rest2 i, Dr rest2 st ∧ [.ref 1, .int bd] = .ref 1 :: A_law_any i ∧ P_law_any rest2 i ∧ ∀ d st2, Dr rest2 st2 → R_law_any i d → Q d st2 := by
  subst e
  refine ⟨rest, k, hd, rfl, ⟨h0, by omega⟩, fun d st2 hd2 hr => ?_⟩
  obtain ⟨r, hr, rfl⟩ := hr
  exact q r st2 hr hd2
theorem of_ (x : Dv) (xs : List Dv) (hs : srcL x = some xs) (h0 : 0 < xs.length) (h1 : xs.length ≤ 1000) {rest : Sto} {st : Sto} {Q : DK} (hd : Dr rest st) (q : ∀ (d : Dv) st2, d ∈ xs → Dr rest st2 → Q d st2) :
    ∃ rest2 i, Dr rest2 st ∧ [.ref 1, x] = .ref 1 :: A_law_of i ∧ P_law_of rest2 i ∧ ∀ d st2, Dr rest2 st2 → R_law_of i d → Q d st2 :=
  ⟨rest, (x, xs), hd, rfl, ⟨hs, h0, h1⟩, fun d st2 hd2 hr => q d st2 hr hd2⟩
theorem mem_nats {l : List Nat} {d : Dv} (h : d ∈ l.map nat) : ∃ k ∈ l, d = nat k := by
  obtain ⟨k, hk, e⟩ := List.mem_map.mp h
  exact ⟨k, hk, e.symm⟩
theorem p_law_drawn : PL N_law_drawn W_law_drawn (D2.Spec.dr A_law_drawn P_law_drawn R_law_drawn) := by
  rintro ⟨b, cs, rest, ns⟩ ⟨ok, hr0, h0, h2, hn⟩
  have hr0 : rest = [] := hr0
  have h0 : 0 < ns.length := h0
  have h2 : ns.length ≤ 2 := h2
  have hn : ∀ s ∈ ns, Nm s := hn
  have ok : okD b cs := ok
  subst hr0
  show W_law_drawn _ [some (.ref 1), some (.rol (ns.map Dv.str)), some (nat 6), none, none, none, none, none, none, none, none, none, none, none] (DSt b cs [])
  generalize hD : ({ nx := _, rt := _ } : DEnds) = D
  have fin : ∀ (p : Pl) st, Dr [.lst (p.steps.map nts)] st → WF p → p.names = ns → D.rt p.dv st := by
    rintro p st ⟨b2, cs2, ok2, rfl⟩ w hp
    rw [← hD]
    refine .inr ⟨DSt b2 cs2 [], p.dv, ⟨by simp [DSt], fun n xs hn e => ?_, (nr_dv p).fz⟩, Nat.le_refl 2, ⟨b2, cs2, ok2, rfl⟩, p, w, hp, rfl⟩
    cases n with
    | zero =>
      cases e
      exact ⟨_, rfl, (Nr.ints cs2).fz⟩
    | succ n =>
      cases n with
      | zero =>
        cases e
        exact ⟨_, rfl, .cons (.ref 0 (by simp [DSt])) (.cons (.int b2) .nil)⟩
      | succ n => simp [DSt] at hn; omega
  clear hD
  have hd0 : Dr [] (DSt b cs []) := ⟨b, cs, ok, rfl⟩
  -- behind the number of states
  have A1 : ∀ (many : Nat) st, 1 ≤ many → many ≤ 6 → Dr [] st → W_law_drawn_t1 D [some (.ref 1), some (.rol (ns.map Dv.str)), some (nat 6), some (nat many), none, none, none, none, none, none, none, none, none, none] st := by
    intro many st m1 m6 hd
    have e3 : ((3 : Int)).toNat = 3 := rfl
    refine And.intro ⟨by decide, by decide⟩ ?_
    refine lc_all (xs := rng 0 3) (R := Dr []) (P := fun _ y => ∃ c : Nat, c < many ∧ y = nat c) hd (line64 (by rw [rng_length]; decide)) (fun i x st' e hR => ?_) ?_
    · exact ⟨_, rfl, fun Q' q => any_ _ many rfl (by omega) (by omega) hR fun r st2 hr hd2 => q _ _ ⟨r, hr, rfl⟩ hd2⟩
    · intro ys st1 hd1 hl hP
      obtain ⟨S0, rfl, hS0⟩ := nats_of (P := fun c => c < many) (mem_at hP)
      have hl : S0.length = 3 := by simpa [rng_length] using hl
      refine subI ?_
      refine And.intro (show 1 ≤ sizeLine by decide) ?_
      refine addL (a := S0.map nat) (line64 (by simp; omega)) ?_
      have eS : S0.map nat ++ [Dv.int ((many : Int) - 1)] = (S0 ++ [many - 1]).map nat := by
        rw [List.map_append]
        congr 1
        show [Dv.int ((many : Int) - 1)] = [Dv.int ((many - 1 : Nat) : Int)]
        rw [show ((many - 1 : Nat) : Int) = (many : Int) - 1 by omega]
      rw [eS]
      obtain ⟨S, hSe⟩ : ∃ S, S = S0 ++ [many - 1] := ⟨_, rfl⟩
      rw [← hSe]
      have hS : ∀ x ∈ S, x < many := by
        intro x hx
        rw [hSe] at hx
        rcases List.mem_append.mp hx with h | h
        · exact hS0 x h
        · simp at h
          omega
      have lS : S.length = 4 := by rw [hSe]; simp [hl]
      clear eS hSe hS0 hl hP
      -- begins
      refine lc_all (xs := ns.map Dv.str) (R := Dr []) (P := fun _ y => ∃ c : Nat, c < many ∧ y = nat c) hd1 (line64 (by simp; omega)) (fun i x st' e hR => ?_) ?_
      · exact ⟨_, rfl, fun Q' q => any_ _ many rfl (by omega) (by omega) hR fun r st2 hr hd2 => q _ _ ⟨r, hr, rfl⟩ hd2⟩
      · intro ys st2 hd2 hl hP
        obtain ⟨B, rfl, hB⟩ := nats_of (P := fun c => c < many) (mem_at hP)
        have lB : B.length = ns.length := by simpa using hl
        clear hl hP
        refine tupL rfl ?_
        -- texts
        refine And.intro ⟨by omega, by omega⟩ ?_
        rw [show ((many : Nat) : Int).toNat = many from Int.toNat_natCast _]
        refine lc_all (xs := rng 0 many) (R := Dr []) (P := fun _ y => ∃ c : Nat, c < many ∧ y = nat c) hd2 (line64 (by rw [rng_length]; omega)) (fun i x st' e hR => ?_) ?_
        · refine ⟨_, rfl, fun Q' q => any_ _ many rfl (by omega) (by omega) hR fun r st2 hr hd2 => ?_⟩
          refine And.intro (show 1 ≤ sizeLine by decide) ?_
          refine addL (a := S.map nat) (line64 (by simp; omega)) ?_
          refine of_ (.rol (S.map nat ++ [nat r])) _ rfl (by simp) (by simp; omega) hd2 fun d st3 hm hd3 => ?_
          refine q _ _ ?_ hd3
          rcases List.mem_append.mp hm with h | h
          · obtain ⟨k, hk, rfl⟩ := mem_nats h
            exact ⟨k, hS k hk, rfl⟩
          · simp at h
            exact ⟨r, hr, h⟩
        · intro ys st3 hd3 hl hP
          obtain ⟨T, rfl, hT⟩ := nats_of (P := fun c => c < many) (mem_at hP)
          have lT : T.length = many := by simpa [rng_length] using hl
          clear hl hP
          refine tupL rfl ?_
          -- free
          refine any_ 3 3 rfl (by decide) (by decide) hd3 fun r st4 hr hd4 => ?_
          refine addI ?_
          have hfr : ∃ free : Nat, free < 10 ∧ 0 < free ∧ (2 : Int) + (r : Int) = free := ⟨2 + r, by omega, by omega, by omega⟩
          obtain ⟨free, f10, f0, ef⟩ := hfr
          rw [ef]
          -- steps
          refine And.intro (Nat.zero_le _) ?_
          obtain ⟨b4, cs4, ok4, rfl⟩ := hd4
          refine And.intro ⟨by omega, by omega⟩ ?_
          rw [show ((many : Nat) : Int).toNat = many from Int.toNat_natCast _]
          refine Exists.intro (fun i σ st => ∃ (v9 : Option Dv) (rows : List (List Nat)), σ = [some (.ref 1), some (.rol (ns.map Dv.str)), some (nat 6), some (nat many), some (.rol (S.map nat)), none, some (.tup (B.map nat)), none, some (.tup (T.map nat)), v9, some (nat free), some (.ref 2), none, none] ∧ Dr [.lst (rows.map nts)] st ∧ rows.length = i ∧ ∀ r ∈ rows, r.length = many ∧ ∀ x ∈ r, x < many) ?_
          refine And.intro ⟨none, [], rfl, ⟨b4, cs4, ok4, rfl⟩, rfl, fun r hr => by simp at hr⟩ ?_
          refine And.intro (fun i σ' st' _ n e => nomatch e) ?_
          refine And.intro (fun i x σ' st' e hI => ?_) ?_
          · obtain ⟨v9, rows, rfl, hd, hlr, hr⟩ := hI
            obtain ⟨hi, rfl⟩ := rng_at e
            refine ⟨_, rfl, ?_⟩
            refine And.intro ⟨by omega, by omega⟩ ?_
            rw [show ((many : Nat) : Int).toNat = many from Int.toNat_natCast _]
            refine lc_all (xs := rng 0 many) (R := Dr [.lst (rows.map nts)]) (P := fun _ y => ∃ c : Nat, c < many ∧ y = nat c) hd (line64 (by rw [rng_length]; omega)) (fun i x st' e hR => ?_) ?_
            · refine ⟨_, rfl, fun Q' q => any_ _ free rfl f0 (by omega) hR fun r st2 hr hd2 => ?_⟩
              refine eqI ?_
              refine iteC (fun _ => ?_) fun _ => ?_
              · exact any_ _ many rfl (by omega) (by omega) hd2 fun r st2 hr hd2 => q _ _ ⟨r, hr, rfl⟩ hd2
              · refine of_ (.rol (S.map nat)) _ rfl (by simp; omega) (by simp; omega) hd2 fun d st3 hm hd3 => ?_
                obtain ⟨k, hk, rfl⟩ := mem_nats hm
                exact q _ _ ⟨k, hS k hk, rfl⟩ hd3
            · intro ys st5 hd5 hl hP
              obtain ⟨row, rfl, hrow⟩ := nats_of (P := fun c => c < many) (mem_at hP)
              have lrow : row.length = many := by simpa [rng_length] using hl
              obtain ⟨b5, cs5, ok5, rfl⟩ := hd5
              refine tupL rfl ?_
              refine Exists.intro (rows.map nts) (And.intro rfl (And.intro ?_ ?_))
              · have : (900 : Nat) < sizeLine := by decide
                simp
                omega
              · refine ⟨some (nat i), rows ++ [row], rfl, ⟨b5, cs5, ok5, ?_⟩, by simp [hlr], fun r h => ?_⟩
                · simp [DSt, nts]
                · rcases List.mem_append.mp h with h | h
                  · exact hr r h
                  · simp at h
                    rw [h]
                    exact ⟨lrow, hrow⟩
          · rintro σ' st' ⟨v9, rows, rfl, hd, hlr, hr⟩
            rw [rng_length] at hlr
            -- ends
            refine And.intro ⟨by omega, by omega⟩ ?_
            rw [show ((many : Nat) : Int).toNat = many from Int.toNat_natCast _]
            refine lc_some (xs := rng 0 many) (R := Dr [.lst (rows.map nts)]) (P := fun y => ∃ c : Nat, c < many ∧ y = nat c) hd (line64 (by rw [rng_length]; omega)) (fun i x st' e hR => ?_) ?_
            · obtain ⟨hi, rfl⟩ := rng_at e
              refine ⟨_, rfl, fun QT q0 q1 => any_ 3 3 rfl (by decide) (by decide) hR fun r st2 hr hd2 => ?_⟩
              refine eqI ?_
              cases hk : (if false = true then !decide (((r : Nat) : Int) = 0) else decide (((r : Nat) : Int) = 0)) with
              | true => exact q1 _ hd2 fun Q' q => q _ _ ⟨i, hi, rfl⟩ hd2
              | false => exact q0 _ hd2
            · intro ys st6 hd6 hle hP
              obtain ⟨E, rfl, hE⟩ := nats_of (P := fun c => c < many) hP
              have lE : E.length ≤ 6 := by simp [rng_length] at hle; omega
              refine tupL rfl ?_
              -- the end
              have A2 : ∀ (E : List Nat) st, E.length ≤ 6 → (∀ c ∈ E, c < many) → Dr [.lst (rows.map nts)] st → W_law_drawn_t9 D [some (.ref 1), some (.rol (ns.map Dv.str)), some (nat 6), some (nat many), some (.rol (S.map nat)), none, some (.tup (B.map nat)), none, some (.tup (T.map nat)), v9, some (nat free), some (.ref 2), none, some (.tup (E.map nat))] st := by
                intro E st lE hE hd
                refine Exists.intro (ns.map Dv.str) (And.intro rfl ?_)
                have hd' := hd
                obtain ⟨b7, cs7, ok7, rfl⟩ := hd'
                refine tupL (xs := rows.map nts) rfl ?_
                refine And.intro (show 5 ≤ sizeLine by decide) ?_
                exact fin ⟨ns, B, T, rows, E⟩ _ hd ⟨h2, hn, lB, by simpa [Pl.many, lT] using hB, by simp [Pl.many, lT]; omega, by simp [Pl.many, lT]; omega, by simpa [Pl.many, lT] using hT, by simp [Pl.many, lT, hlr], by simpa [Pl.many, lT] using hr, lE, by simpa [Pl.many, lT] using hE⟩ rfl
              refine And.intro (Nat.zero_le _) ?_
              refine eqT (a := E.map nat) (b := []) (DPs.nats _ E) .nil (shapedT ?_ ?_) rfl ?_
              · simp only [tame]
                exact tame_nats fun x hx => by have := hE x hx; omega
              · simp only [PyData.depth, dep_nats]
                omega
              · refine iteC (fun _ => ?_) fun _ => ?_
                · refine any_ 4 4 rfl (by decide) (by decide) hd6 fun r st7 hr7 hd7 => ?_
                  refine opB2 ?_
                  refine iteC (fun _ => ?_) fun _ => ?_
                  · refine of_ (.tup (B.map nat)) _ rfl (by simp; omega) (by simp; omega) hd7 fun d st8 hm hd8 => ?_
                    obtain ⟨k, hk, rfl⟩ := mem_nats hm
                    refine And.intro (show 1 ≤ sizeLine by decide) ?_
                    exact A2 [k] _ (by simp) (fun c hc => by simp at hc; rw [hc]; exact hB k hk) hd8
                  · exact A2 E _ lE hE hd7
                · exact iteF rfl (A2 E _ lE hE hd6)
  -- how many
  refine any_ 8 8 rfl (by decide) (by decide) hd0 fun r st1 hr hd1 => ?_
  refine opB2 ?_
  refine iteC (fun _ => ?_) fun _ => ?_
  · refine subI ?_
    refine any_ _ 5 rfl (by decide) (by decide) hd1 fun r st2 hr hd2 => ?_
    refine addI ?_
    have := A1 (2 + r) st2 (by omega) (by omega) hd2
    rw [show nat (2 + r) = Dv.int (2 + (r : Int)) by unfold nat; congr 1] at this
    exact this
  · exact A1 1 st1 (by decide) (by decide) hd1
end K56

namespace K56
open PySem PySem.Spec PyProof.Rows L2 D2
theorem dvs_append (a b : List Th) : dvs a ++ dvs b = dvs (a ++ b) := by simp [dvs_map]
/-! ### shown effects -/
def pl (a : List Nat) : PyData := .tuple (a.map pn)
def Sm (a : List Nat) : Prop := a.length ≤ 20 ∧ ∀ x ∈ a, x < 100
theorem dp_nts (st : Sto) (a : List Nat) : DP st (nts a) (pl a) := .tup rfl (DPs.nats st a)
theorem tame_pl {a : List Nat} (h : Sm a) : tame (pl a) = true := by
  unfold pl
  simp only [tame]
  exact tame_nats h.2
theorem dep_pl (a : List Nat) : (pl a).depth = 1 := by
  unfold pl
  simp only [PyData.depth, dep_nats]
theorem wt_pl {a : List Nat} (h : Sm a) : (pl a).weight ≤ 160 := by
  unfold pl
  simp only [PyData.weight]
  have := wt_nats h.2
  have := h.1
  omega
theorem repr1 {a : List Nat} {st : Sto} {Q : DK} (h : Sm a) (q : Q (.str (pl a).shown) st) : gRepr (nts a) st Q :=
  reprT (dp_nts st a) (tame_pl h) (by rw [dep_pl]; decide) (Nat.le_trans (wt_pl h) (by decide)) q
theorem repr2 {a b : List Nat} {st : Sto} {Q : DK} (ha : Sm a) (hb : Sm b) (q : Q (.str (PyData.list [pl a, pl b]).shown) st) : gRepr (.rol [nts a, nts b]) st Q := by
  refine reprT (p := .list [pl a, pl b]) (.lst rfl (.cons (dp_nts st a) (.cons (dp_nts st b) .nil))) ?_ ?_ ?_ q
  · simp only [tame, tames, tame_pl ha, tame_pl hb, Bool.and_self]
  · simp only [PyData.depth, PyData.depthAll, dep_pl]
    decide
  · simp only [PyData.weight, PyData.weightAll]
    have := wt_pl ha
    have := wt_pl hb
    have : (320 + 2 : Nat) ≤ 2 ^ 20 := by decide
    omega
theorem reprB {b : Bool} {st : Sto} {Q : DK} (q : Q (.str (PyData.bool b).shown) st) : gRepr (.bl b) st Q :=
  reprT (.bl b) rfl (Nat.zero_le _) (Nat.zero_le _) q
/-! ### a shown table -/
def Pl.pd (p : Pl) : PyData := .tuple [.tuple (p.names.map PyData.str), pl p.begins, pl p.texts, .tuple (p.steps.map pl), pl p.ends]
theorem dp_strs (st : Sto) : ∀ l : List Str, DPs st (l.map Dv.str) (l.map PyData.str)
  | [] => .nil
  | c :: cs => .cons (.str c) (dp_strs st cs)
theorem dp_rows (st : Sto) : ∀ l : List (List Nat), DPs st (l.map nts) (l.map pl)
  | [] => .nil
  | c :: cs => .cons (dp_nts st c) (dp_rows st cs)
theorem sm_of {p : Pl} (w : WF p) {l : List Nat} (h : l.length ≤ 20) (hl : ∀ x ∈ l, x < p.many) : Sm l := ⟨h, fun x hx => by have := hl x hx; have := w.m6; omega⟩
theorem wt_strs : ∀ {l : List Str}, (∀ s ∈ l, Nm s) → PyData.weightAll (l.map PyData.str) ≤ 101 * l.length
  | [], _ => by simp [PyData.weightAll]
  | c :: cs, h => by
    have h1 : c.cps.size ≤ 100 := (h c (by simp)).1
    have h2 := wt_strs (l := cs) fun x hx => h x (by simp [hx])
    simp only [List.map_cons, PyData.weightAll, PyData.weight, List.length_cons]
    omega
theorem wt_rows : ∀ {l : List (List Nat)}, (∀ s ∈ l, Sm s) → PyData.weightAll (l.map pl) ≤ 161 * l.length
  | [], _ => by simp [PyData.weightAll]
  | c :: cs, h => by
    have h1 := wt_pl (h c (by simp))
    have h2 := wt_rows (l := cs) fun x hx => h x (by simp [hx])
    simp only [List.map_cons, PyData.weightAll, List.length_cons]
    omega
theorem dep_strs : ∀ l : List Str, PyData.depthAll (l.map PyData.str) = 0
  | [] => rfl
  | c :: cs => by simp only [List.map_cons, PyData.depthAll, PyData.depth, Nat.zero_max]; exact dep_strs cs
theorem dep_rows : ∀ l : List (List Nat), PyData.depthAll (l.map pl) ≤ 1
  | [] => by simp [PyData.depthAll]
  | c :: cs => by
    have := dep_rows cs
    simp only [List.map_cons, PyData.depthAll, dep_pl]
    omega
theorem reprP {p : Pl} (w : WF p) {st : Sto} {Q : DK} (q : Q (.str p.pd.shown) st) : gRepr p.dv st Q := by
  have m6 := w.m6
  have n2 := w.n1
  have sb : Sm p.begins := sm_of w (by rw [w.bl]; omega) w.b
  have st_ : Sm p.texts := sm_of w (by have := small7 w; omega) w.t
  have se : Sm p.ends := sm_of w (by have := w.el; omega) w.e
  have sr : ∀ r ∈ p.steps, Sm r := fun r hr => sm_of w (by rw [(w.sr r hr).1]; omega) (w.sr r hr).2
  refine reprT (p := p.pd) (.tup rfl (.cons (.tup rfl (dp_strs st _)) (.cons (dp_nts st _) (.cons (dp_nts st _) (.cons (.tup rfl (dp_rows st _)) (.cons (dp_nts st _) .nil)))))) ?_ ?_ ?_ q
  · unfold Pl.pd
    have h1 : tames (p.names.map PyData.str) = true := tames_of fun x hx => by
      obtain ⟨s, hs, rfl⟩ := List.mem_map.mp hx
      exact tame_str (w.nm s hs)
    have h2 : tames (p.steps.map pl) = true := tames_of fun x hx => by
      obtain ⟨s, hs, rfl⟩ := List.mem_map.mp hx
      exact tame_pl (sr s hs)
    have h3 := tame_pl sb
    have h4 := tame_pl st_
    have h5 := tame_pl se
    simp only [tame, tames, h1, h2, h3, h4, h5, Bool.and_self]
  · unfold Pl.pd
    have := dep_rows p.steps
    simp only [PyData.depth, PyData.depthAll, dep_pl, dep_strs]
    omega
  · unfold Pl.pd
    have h1 := wt_strs w.nm
    have h2 := wt_rows sr
    have h3 := wt_pl sb
    have h4 := wt_pl st_
    have h5 := wt_pl se
    have h6 : p.steps.length = p.many := w.sl
    simp only [PyData.weight, PyData.weightAll]
    have : (2000 : Nat) ≤ 2 ^ 20 := by decide
    omega
theorem sm_eff {p : Pl} (w : WF p) {ts : List Th} (h : oks p.names ts) : Sm (effL p ts) := ⟨by rw [effL_len]; have := w.m6; omega, fun x hx => by have := effL_lt w h x hx; have := w.m6; omega⟩
theorem p_law (C : Addr) : PL Nlaw (Wlaw C 12) sLaw0 := by
  rintro (ns : List Int) ⟨hl, -⟩
  show Wlaw C 12 _ [some (.fro (ns.map Dv.int)), none, none, none, none, none, none, none, none, none, none, none, none] []
  generalize hD : ({ nx := _, rt := _ } : DEnds) = D
  have fin : ∀ st, D.rt (.bl true) st := fun st => by
    rw [← hD]
    exact .inl ⟨rfl, Nat.zero_le _⟩
  clear hD
  refine ⟨ns, rfl, rfl, hl, ?_⟩
  rintro d st1 ⟨rfl, hd1⟩
  refine And.intro ⟨by decide, by decide⟩ ?_
  refine Exists.intro (fun i σ st => ∃ v2 v3 v4 v5 v6 v7 v8 v9 v10 v11 v12 : Option Dv, σ = [some (.fro (ns.map Dv.int)), some (.ref 1), v2, v3, v4, v5, v6, v7, v8, v9, v10, v11, v12] ∧ Dr [] st) ?_
  refine And.intro ⟨none, none, none, none, none, none, none, none, none, none, none, rfl, hd1⟩ ?_
  refine And.intro (fun i σ' st' _ n e => nomatch e) ?_
  refine And.intro (fun i x σ' st' e hI => ?_) ?_
  · obtain ⟨v2, v3, v4, v5, v6, v7, v8, v9, v10, v11, v12, rfl, hd⟩ := hI
    refine ⟨_, rfl, ?_⟩
    -- the table
    refine any_ 2 2 rfl (by decide) (by decide) hd fun r st2 hr hd2 => ?_
    refine addI ?_
    refine ⟨[], 1 + r, hd2, ?_, ⟨by omega, by omega⟩, fun d st3 hd3 hr3 => ?_⟩
    · show [Dv.ref 1, .int (1 + (r : Int))] = [.ref 1, .int ((1 + r : Nat) : Int)]
      rw [show ((1 + r : Nat) : Int) = 1 + (r : Int) by omega]
    obtain ⟨nn, ln, hnm, rfl⟩ := hr3
    refine ⟨[], nn, hd3, rfl, ⟨rfl, by omega, by omega, hnm⟩, fun d st4 hd4 hr4 => ?_⟩
    obtain ⟨p, w, hp, rfl⟩ := hr4
    have m6 := w.m6
    refine ⟨p, rfl, .cons (nr_dv p) .nil, w, fun d nd hr5 => ?_⟩
    have hr5 : d = p.tb C := hr5
    subst hr5
    refine ix (xs := p.fs) rfl rfl ?_
    refine Exists.intro (p.names.map Dv.str) (And.intro rfl ?_)
    refine And.intro ⟨by decide, by decide⟩ ?_
    refine Exists.intro (fun i σ st => ∃ v6 v7 v8 v9 v10 v11 v12 : Option Dv, σ = [some (.fro (ns.map Dv.int)), some (.ref 1), some x, some p.dv, some (p.tb C), some (.rol (p.names.map Dv.str)), v6, v7, v8, v9, v10, v11, v12] ∧ Dr [] st) ?_
    refine And.intro ⟨v6, v7, v8, v9, v10, v11, v12, rfl, hd4⟩ ?_
    refine And.intro (fun i σ' st' _ n e => nomatch e) ?_
    refine And.intro (fun i y σ' st' e hI => ?_) ?_
    · -- a pair
      obtain ⟨v6, v7, v8, v9, v10, v11, v12, rfl, hd⟩ := hI
      refine ⟨_, rfl, ?_⟩
      have ln0 : 0 < p.names.length := by rw [hp, ln]; omega
      refine ⟨[], p.names, hd, rfl, ⟨rfl, ln0, w.n1⟩, fun d s1 hs1 hr1 => ?_⟩
      obtain ⟨t1, f1, rfl⟩ := hr1
      refine ⟨[], p.names, hs1, rfl, ⟨rfl, ln0, w.n1⟩, fun d s2 hs2 hr2 => ?_⟩
      obtain ⟨t2, f2, rfl⟩ := hr2
      have l1 : t1.length ≤ 100 := f1.2.2
      have l2 : t2.length ≤ 100 := f2.2.2
      have o12 := oks_append f1.1 f2.1
      have d12 : deps (t1 ++ t2) < 12 := deps_of (by decide) fun t ht => (List.mem_append.mp ht).elim (deps_mem f1.2.1 t) (deps_mem f2.2.1 t)
      -- the effects
      refine ⟨(p, t1), rfl, .cons (nr_dv p) (.cons (.tup (nr_ths t1)) .nil), ⟨w, f1.1, f1.2.1, by show t1.length ≤ 1000; omega⟩, fun d nd hr => ?_⟩
      have hr : d = nts (effL p t1) := hr
      subst hr
      refine ⟨(p, t2), rfl, .cons (nr_dv p) (.cons (.tup (nr_ths t2)) .nil), ⟨w, f2.1, f2.2.1, by show t2.length ≤ 1000; omega⟩, fun d nd hr => ?_⟩
      have hr : d = nts (effL p t2) := hr
      subst hr
      refine addT (a := dvs t1) (b := dvs t2) (line64 (by rw [dvs_len, dvs_len]; omega)) ?_
      rw [dvs_append]
      refine ⟨(p, t1 ++ t2), rfl, .cons (nr_dv p) (.cons (.tup (nr_ths _)) .nil), ⟨w, o12, d12, by show (t1 ++ t2).length ≤ 1000; simp; omega⟩, fun d nd hr => ?_⟩
      have hr : d = nts (effL p (t1 ++ t2)) := hr
      subst hr
      -- effect_of
      refine ⟨(p, t1), rfl, .cons (nr_tb C p) (.cons (.tup (nr_ths t1)) .nil), ⟨w, f1.1, f1.2.1⟩, fun d nd hr => ?_⟩
      have hr : d = nts (effT p t1 (noEff p)) := hr
      rw [effT_L w f1.1] at hr
      subst hr
      refine And.intro rfl (And.intro rfl ?_)
      refine ⟨(p, t2), rfl, .cons (nr_tb C p) (.cons (.tup (nr_ths t2)) .nil), ⟨w, f2.1, f2.2.1⟩, fun d nd hr => ?_⟩
      have hr : d = nts (effT p t2 (noEff p)) := hr
      rw [effT_L w f2.1] at hr
      subst hr
      refine And.intro (show 2 ≤ sizeLine by decide) ?_
      refine repr2 (sm_eff w f1.1) (sm_eff w f2.1) ?_
      refine And.intro (show 2 ≤ sizeLine by decide) ?_
      refine repr2 (sm_eff w f1.1) (sm_eff w f2.1) ?_
      refine neS rfl ?_
      first | refine iteF rfl ?_ | skip
      -- both_effects
      have hb : ∀ x ∈ effL p t1, x < (effL p t2).length := fun x hx => by rw [effL_len]; exact effL_lt w f1.1 x hx
      have lb : (effL p t1).length ≤ 1000 := by rw [effL_len]; omega
      refine ⟨(effL p t1, effL p t2), rfl, .cons (nr_nts _) (.cons (nr_nts _) .nil), ⟨hb, lb⟩, fun d nd hr => ?_⟩
      have hr : d = nts (both (effL p t1) (effL p t2)) := hr
      rw [effL_append w f1.1 f2.1] at hr
      subst hr
      refine repr1 (sm_eff w o12) ?_
      refine repr1 (sm_eff w o12) ?_
      refine neS rfl ?_
      first | refine iteF rfl ?_ | skip
      refine And.intro rfl (And.intro rfl ?_)
      refine ⟨(effL p t1, effL p t2), rfl, .cons (nr_nts _) (.cons (nr_nts _) .nil), ⟨hb, lb⟩, fun d nd hr => ?_⟩
      have hr : d = nts (both (effL p t1) (effL p t2)) := hr
      rw [effL_append w f1.1 f2.1] at hr
      subst hr
      refine repr1 (sm_eff w o12) ?_
      refine addT (a := dvs t1) (b := dvs t2) (line64 (by rw [dvs_len, dvs_len]; omega)) ?_
      rw [dvs_append]
      refine ⟨(p, t1 ++ t2), rfl, .cons (nr_tb C p) (.cons (.tup (nr_ths _)) .nil), ⟨w, o12, d12⟩, fun d nd hr => ?_⟩
      have hr : d = nts (effT p (t1 ++ t2) (noEff p)) := hr
      rw [effT_L w o12] at hr
      subst hr
      refine repr1 (sm_eff w o12) ?_
      refine neS rfl ?_
      first | refine iteF rfl ?_ | skip
      -- behind the choice
      have go : ∀ b, b = one p t1 → (wSeq (wSet 12 (wC (.bl b))) (Wlaw_last C)) { nx := fun σ st => ∃ v6 v7 v8 v9 v10 v11 v12 : Option Dv, σ = [some (.fro (ns.map Dv.int)), some (.ref 1), some x, some p.dv, some (p.tb C), some (.rol (p.names.map Dv.str)), v6, v7, v8, v9, v10, v11, v12] ∧ Dr [] st, rt := D.rt, bk := D.bk, ct := D.ct }
          [some (.fro (ns.map Dv.int)), some (.ref 1), some x, some p.dv, some (p.tb C), some (.rol (p.names.map Dv.str)), some y, some (.tup (dvs t1)), some (.tup (dvs t2)), some (nts (effL p t1)), some (nts (effL p t2)), some (nts (effL p (t1 ++ t2))), v12] s2 := by
        rintro b rfl
        have lm : p.many < (effL p t1).length := by rw [effL_len]; omega
        refine ⟨(p, effL p t1), rfl, .cons (nr_tb C p) (.cons (nr_nts _) .nil), ⟨w, lm⟩, fun d nd hr => ?_⟩
        have hr : d = .bl (decide ((effL p t1).getD p.many 0 = p.many + 1)) := hr
        rw [effL_one] at hr
        subst hr
        refine reprB ?_
        refine reprB ?_
        refine neS rfl ?_
        first | refine iteF rfl ?_ | skip
        refine And.intro rfl (And.intro rfl ?_)
        refine ⟨(p, effL p t1), rfl, .cons (nr_tb C p) (.cons (nr_nts _) .nil), ⟨w, lm⟩, fun d nd hr => ?_⟩
        have hr : d = .bl (decide ((effL p t1).getD p.many 0 = p.many + 1)) := hr
        rw [effL_one] at hr
        subst hr
        refine neB rfl ?_
        exact ⟨_, _, _, _, _, _, _, rfl, hs2⟩
      refine len (xs := dvs t1) rfl ?_
      cases t1 with
      | nil =>
        refine eqIf (by rw [dvs_len]; simp) ?_
        exact go false (by simp [one])
      | cons t us =>
        cases us with
        | cons u vs =>
          refine eqIf (by rw [dvs_len]; simp; omega) ?_
          exact go false (by simp [one])
        | nil =>
          refine eqIt (by rw [dvs_len]; simp) ?_
          have e0 : dvs [t] = [t.dv] := by simp [dvs]
          rw [e0]
          refine ix (xs := [t.dv]) rfl rfl ?_
          have ho := f1.1
          have hdt := deps_mem f1.2.1 t (by simp)
          unfold oks at ho
          cases t with
          | txt z =>
            rw [dv_txt] at *
            have := go false (by simp [one, isTxt])
            rw [e0] at this
            exact this
          | node m vs =>
            rw [dv_node] at *
            rw [dep_node] at hdt
            have h1 := ok_node ho.1
            refine ix (xs := [.tup [.str m, .tup (dvs vs)]]) rfl rfl ?_
            refine ⟨(p, m, vs), rfl, .cons (nr_dv p) (.cons (nr_node _ _) .nil), ⟨w, h1.1, h1.2, by show deps vs < 12; omega⟩, fun d nd hr => ?_⟩
            have hr : d = nat (stOf p (.node m vs)) := hr
            subst hr
            refine ix (xs := p.fs) rfl rfl ?_
            refine inI (ys := p.ends.map fun (n : Nat) => (n : Int)) (congrArg some (nts_int p.ends)) ?_
            have := go (decide (stOf p (.node m vs) ∈ p.ends)) (by simp [one, isTxt])
            rw [e0] at this
            rw [nat_mem]
            exact this
    · -- behind the pairs
      rintro σ' st' ⟨v6, v7, v8, v9, v10, v11, v12, rfl, hd⟩
      refine ⟨p, rfl, .cons (nr_tb C p) .nil, w, fun d nd hr => ?_⟩
      have hr : d = p.dv := hr
      subst hr
      refine reprP w ?_
      refine reprP w ?_
      refine neS rfl ?_
      first | refine iteF rfl ?_ | skip
      exact ⟨_, _, _, _, _, _, _, _, _, _, _, rfl, hd⟩
  · rintro σ' st' ⟨v2, v3, v4, v5, v6, v7, v8, v9, v10, v11, v12, rfl, hd⟩
    exact fin st'
end K56

namespace K56
open PySem PySem.Spec PyProof.Rows L2 D2
def topS (i : Nat) : Stmt := PySem.Challenge.pw_turnsfit_k56_effects_of_forests.main.body.getD i (.Pass ⟨0, 0, 0, 0⟩)
abbrev s_law_source : Stmt := topS 12
theorem sc_law_source : FnScope N_law_source ["script", "salt"] (defScope s_law_source) := ⟨rfl, rfl, rfl, by decide +kernel, rfl, by decide +kernel, by decide +kernel⟩
abbrev s_law_any : Stmt := topS 13
theorem sc_law_any : FnScope N_law_any ["draws", "bound"] (defScope s_law_any) := ⟨rfl, rfl, rfl, by decide +kernel, rfl, by decide +kernel, by decide +kernel⟩
abbrev s_law_of : Stmt := topS 14
theorem sc_law_of : FnScope N_law_of ["draws", "some"] (defScope s_law_of) := ⟨rfl, rfl, rfl, by decide +kernel, rfl, by decide +kernel, by decide +kernel⟩
abbrev s_law_names : Stmt := topS 15
theorem sc_law_names : FnScope N_law_names ["draws", "many"] (defScope s_law_names) := ⟨rfl, rfl, rfl, by decide +kernel, rfl, by decide +kernel, by decide +kernel⟩
abbrev s_law_text : Stmt := topS 16
theorem sc_law_text : FnScope N_law_text ["draws"] (defScope s_law_text) := ⟨rfl, rfl, rfl, by decide +kernel, rfl, by decide +kernel, by decide +kernel⟩
abbrev s_law_shut : Stmt := topS 17
theorem sc_law_shut : FnScope N_law_shut ["stack"] (defScope s_law_shut) := ⟨rfl, rfl, rfl, by decide +kernel, rfl, by decide +kernel, by decide +kernel⟩
abbrev s_law_forest : Stmt := topS 18
theorem sc_law_forest : FnScope N_law_forest ["draws", "names", "most"] (defScope s_law_forest) := ⟨rfl, rfl, rfl, by decide +kernel, rfl, by decide +kernel, by decide +kernel⟩
abbrev s_law_node : Stmt := topS 19
theorem sc_law_node : FnScope N_law_node ["draws", "names", "most"] (defScope s_law_node) := ⟨rfl, rfl, rfl, by decide +kernel, rfl, by decide +kernel, by decide +kernel⟩
abbrev s_law_drawn : Stmt := topS 20
theorem sc_law_drawn : FnScope N_law_drawn ["draws", "names", "most"] (defScope s_law_drawn) := ⟨rfl, rfl, rfl, by decide +kernel, rfl, by decide +kernel, by decide +kernel⟩
abbrev s_law_on : Stmt := topS 22
theorem sc_law_on : FnScope N_law_on ["plain", "state", "forest"] (defScope s_law_on) := ⟨rfl, rfl, rfl, by decide +kernel, rfl, by decide +kernel, by decide +kernel⟩
abbrev s_law_state : Stmt := topS 21
theorem sc_law_state : FnScope N_law_state ["plain", "node"] (defScope s_law_state) := ⟨rfl, rfl, rfl, by decide +kernel, rfl, by decide +kernel, by decide +kernel⟩
abbrev sstate_behind : Stmt := topS 2
theorem scstate_behind : FnScope Nstate_behind ["table", "state", "forest"] (defScope sstate_behind) := ⟨rfl, rfl, rfl, by decide +kernel, rfl, by decide +kernel, by decide +kernel⟩
abbrev sstate_of : Stmt := topS 3
theorem scstate_of : FnScope Nstate_of ["table", "node"] (defScope sstate_of) := ⟨rfl, rfl, rfl, by decide +kernel, rfl, by decide +kernel, by decide +kernel⟩
abbrev s_law_of_table : Stmt := topS 23
theorem sc_law_of_table : FnScope N_law_of_table ["table"] (defScope s_law_of_table) := ⟨rfl, rfl, rfl, by decide +kernel, rfl, by decide +kernel, by decide +kernel⟩
abbrev s_law_of_plain : Stmt := topS 24
theorem sc_law_of_plain : FnScope N_law_of_plain ["plain"] (defScope s_law_of_plain) := ⟨rfl, rfl, rfl, by decide +kernel, rfl, by decide +kernel, by decide +kernel⟩
abbrev sno_effect : Stmt := topS 5
theorem scno_effect : FnScope Nno_effect ["table"] (defScope sno_effect) := ⟨rfl, rfl, rfl, by decide +kernel, rfl, by decide +kernel, by decide +kernel⟩
abbrev stext_effect : Stmt := topS 6
theorem sctext_effect : FnScope Ntext_effect ["table"] (defScope stext_effect) := ⟨rfl, rfl, rfl, by decide +kernel, rfl, by decide +kernel, by decide +kernel⟩
abbrev snode_effect : Stmt := topS 7
theorem scnode_effect : FnScope Nnode_effect ["table", "state"] (defScope snode_effect) := ⟨rfl, rfl, rfl, by decide +kernel, rfl, by decide +kernel, by decide +kernel⟩
abbrev sboth_effects : Stmt := topS 8
theorem scboth_effects : FnScope Nboth_effects ["one", "other"] (defScope sboth_effects) := ⟨rfl, rfl, rfl, by decide +kernel, rfl, by decide +kernel, by decide +kernel⟩
abbrev seffect_of : Stmt := topS 9
theorem sceffect_of : FnScope Neffect_of ["table", "forest"] (defScope seffect_of) := ⟨rfl, rfl, rfl, by decide +kernel, rfl, by decide +kernel, by decide +kernel⟩
abbrev sis_one_taken : Stmt := topS 10
theorem scis_one_taken : FnScope Nis_one_taken ["table", "effect"] (defScope sis_one_taken) := ⟨rfl, rfl, rfl, by decide +kernel, rfl, by decide +kernel, by decide +kernel⟩
abbrev s_law_effect : Stmt := topS 25
theorem sc_law_effect : FnScope N_law_effect ["plain", "forest"] (defScope s_law_effect) := ⟨rfl, rfl, rfl, by decide +kernel, rfl, by decide +kernel, by decide +kernel⟩
abbrev s_law_some : Stmt := topS 26
theorem sc_law_some : FnScope N_law_some ["draws", "names"] (defScope s_law_some) := ⟨rfl, rfl, rfl, by decide +kernel, rfl, by decide +kernel, by decide +kernel⟩
abbrev slaw : Stmt := topS 27
theorem sclaw : FnScope Nlaw ["script"] (defScope slaw) := ⟨rfl, rfl, rfl, by decide +kernel, rfl, by decide +kernel, by decide +kernel⟩
abbrev sInit : Stmt := inClass (topS 1) 0
structure Txt (K : PySem.W.Frag) (mg : Str → Option Value) (C : Addr) where
  _law_source : Fn1 K mg "_law_source" s_law_source ["script", "salt"]
  _law_any : Fn1 K mg "_law_any" s_law_any ["draws", "bound"]
  _law_of : Fn1 K mg "_law_of" s_law_of ["draws", "some"]
  _law_names : Fn1 K mg "_law_names" s_law_names ["draws", "many"]
  _law_text : Fn1 K mg "_law_text" s_law_text ["draws"]
  _law_shut : Fn1 K mg "_law_shut" s_law_shut ["stack"]
  _law_forest : Fn1 K mg "_law_forest" s_law_forest ["draws", "names", "most"]
  _law_node : Fn1 K mg "_law_node" s_law_node ["draws", "names", "most"]
  _law_drawn : Fn1 K mg "_law_drawn" s_law_drawn ["draws", "names", "most"]
  _law_on : Fn1 K mg "_law_on" s_law_on ["plain", "state", "forest"]
  _law_state : Fn1 K mg "_law_state" s_law_state ["plain", "node"]
  state_behind : Fn1 K mg "state_behind" sstate_behind ["table", "state", "forest"]
  state_of : Fn1 K mg "state_of" sstate_of ["table", "node"]
  _law_of_table : Fn1 K mg "_law_of_table" s_law_of_table ["table"]
  _law_of_plain : Fn1 K mg "_law_of_plain" s_law_of_plain ["plain"]
  no_effect : Fn1 K mg "no_effect" sno_effect ["table"]
  text_effect : Fn1 K mg "text_effect" stext_effect ["table"]
  node_effect : Fn1 K mg "node_effect" snode_effect ["table", "state"]
  both_effects : Fn1 K mg "both_effects" sboth_effects ["one", "other"]
  effect_of : Fn1 K mg "effect_of" seffect_of ["table", "forest"]
  is_one_taken : Fn1 K mg "is_one_taken" sis_one_taken ["table", "effect"]
  _law_effect : Fn1 K mg "_law_effect" s_law_effect ["plain", "forest"]
  _law_some : Fn1 K mg "_law_some" s_law_some ["draws", "names"]
  law : Fn1 K mg "law" slaw ["script"]
  n_range : mg "range" = none
  n_len : mg "len" = none
  n_abs : mg "abs" = none
  n_int : mg "int" = none
  n_tuple : mg "tuple" = none
  n_repr : mg "repr" = none
  n_isinstance : mg "isinstance" = none
  n_str : mg "str" = none
  n_list : mg "list" = none
  cls : Cls K C
  mgC : mg "Table" = some (.ref C)
  fI : Addr
  dI : FuncData
  FI : Fun K "__init__" "Table.__init__" sInit fI dI
  b_init : Binds K dI ["self", "names", "begins", "texts", "steps", "ends"] []
  mkC : Mk K C fI
  no_names : NoAttr K C "names"
  no_begins : NoAttr K C "begins"
  no_texts : NoAttr K C "texts"
  no_steps : NoAttr K C "steps"
  no_ends : NoAttr K C "ends"
section
variable {P : Program} {w : World} {K : PySem.W.Frag} {mg : Str → Option Value} {base : Heap} {C : Addr}
theorem w_law_source (t : Txt K mg C) {n k : Nat} (p : PL N_law_source (W_law_source) (S_law_source)) : DFn P w K mg base (k + 1) t._law_source.f t._law_source.fd ["script", "salt"] (S_law_source) := by
  refine dfn_of t._law_source.F sc_law_source (fun i h => rfl) fun cdv A outer s H E hg hr => ⟨_, ?_, p⟩
  have hu := hr.units
  have sc := sc_law_source
  exact ((dss_cons (ds_setLc (i := 2) (own := [("cell", 3)]) (t := (.one 3)) (wt := wYes) (we := (wCB (g1 gAbs) (wCons (wCB (g1 gInt) (wCons (wVar 3) wNil)) wNil))) rfl sc.nd rfl rfl (sw_true rfl rfl rfl (by decide +kernel)) (di_any ((dn_sl (de_var 0) do_no (do_some de_int))).rol) (blkOk_by (N := N_law_source) (sc := defScope s_law_source) (by decide +kernel)) (fun _ _ _ _ _ => (pg_name (i := 3) sc.nd rfl (.inl rfl))) (fun _ _ _ _ _ => dts_nil) (fun _ _ _ _ _ => (de_callB cd_abs (by rfl) t.n_abs (by decide +kernel) (da_cons (de_callTy cd_int (by rfl) t.n_int (by decide +kernel) (da_cons (de_var 3) da_nil)) da_nil))) (by decide))
      (dss_cons (ds_set (i := 4) sc.nd rfl (.inl rfl) (de_op od_add de_int (de_op od_mul de_int (de_var 1))))
      (dss_cons (ds_for (t := (.one 3)) PassesOwn.never rfl (di_any (de_var 2)) (pg_name (i := 3) sc.nd rfl (.inl rfl)) (dss_one (ds_set (i := 4) sc.nd rfl (.inl rfl) (de_op od_mod (de_callTy cd_int (by rfl) t.n_int (by decide +kernel) (da_cons (de_op od_add (de_op od_add (de_op od_mul (de_var 4) de_int) (de_op od_mod (de_var 3) de_int)) de_int) da_nil)) de_int))))
      (dss_one (ds_ret (de_cel (da_cons ((dn_rev ((dn_lc (own := [("cell", 3)]) (t := (.one 3)) (wt := (wB (w2 (gB fun a b => decide (b ≤ a)) (wVar 3) (w2 (gI CPow fun a b => a ^ b.toNat) (wC (.int 10)) (wC (.int 18)))))) (we := (wVar 3)) rfl sc.nd (di_any (de_var 2)) (blkOk_by (N := N_law_source) (sc := defScope s_law_source) (by decide +kernel)) (fun _ _ _ _ _ => (pg_name (i := 3) sc.nd rfl (.inl rfl))) (fun _ _ _ _ _ => (dts_one (dt_cmp od_ge (de_var 3) (de_op od_pow de_int de_int) (nomark _)))) (fun _ _ _ _ _ => (de_var 3)) (by decide))).rol)).cel (da_cons (de_var 4) da_nil)))))))))
theorem w_law_any (t : Txt K mg C) {n k : Nat} (p : PL N_law_any (W_law_any) (D2.Spec.dr A_law_any P_law_any R_law_any)) : DFn P w K mg base (k + 1) t._law_any.f t._law_any.fd ["draws", "bound"] (D2.Spec.dr A_law_any P_law_any R_law_any) := by
  refine dfn_of t._law_any.F sc_law_any (fun i h => rfl) fun cdv A outer s H E hg hr => ⟨_, ?_, p⟩
  have hu := hr.units
  have sc := sc_law_any
  exact ((dss_cons (ds_while PassesOwn.never ((dw_and (dt_cmp (od_ne hu) (de_ix (de_var 0) de_int) (de_rol da_nil) (nomark _)) (dw_one (dt_cmp (od_eq hu) (de_ix (de_ix (de_var 0) de_int) (de_neg de_int)) de_int (nomark _))))).dt (dss_one (ds_expr (de_pop (de_ix (de_var 0) de_int)))))
      (dss_cons (ds_if (dt_cmp (od_ne hu) (de_ix (de_var 0) de_int) (de_rol da_nil) (nomark _)) (dss_cons (ds_set (i := 2) sc.nd rfl (.inl rfl) (de_callTy cd_int (by rfl) t.n_int (by decide +kernel) (da_cons (de_pop (de_ix (de_var 0) de_int)) da_nil)))
      (dss_cons (ds_expr (de_app (de_ix (de_var 0) de_int) (de_op od_fdiv (de_var 2) (de_var 1))))
      (dss_one (ds_ret (de_op od_mod (de_var 2) (de_var 1)))))) dss_nil)
      (dss_cons (ds_sto (de_op od_mod (de_callTy cd_int (by rfl) t.n_int (by decide +kernel) (da_cons (de_op od_add (de_op od_mul (de_ix (de_var 0) de_int) de_int) de_int) da_nil)) de_int) (de_var 0) de_int)
      (dss_one (ds_ret (de_op od_mod (de_callTy cd_int (by rfl) t.n_int (by decide +kernel) (da_cons (de_op od_fdiv (de_ix (de_var 0) de_int) de_int) da_nil)) (de_var 1))))))))
theorem w_law_of (t : Txt K mg C) {n k lv__law_any : Nat} (W__law_any : DFn P w K mg base lv__law_any t._law_any.f t._law_any.fd ["draws", "bound"] (D2.Spec.dr A_law_any P_law_any R_law_any)) (le__law_any : lv__law_any ≤ k) (p : PL N_law_of (W_law_of) (D2.Spec.dr A_law_of P_law_of R_law_of)) : DFn P w K mg base (k + 1) t._law_of.f t._law_of.fd ["draws", "some"] (D2.Spec.dr A_law_of P_law_of R_law_of) := by
  refine dfn_of t._law_of.F sc_law_of (fun i h => rfl) fun cdv A outer s H E hg hr => ⟨_, ?_, p⟩
  have hu := hr.units
  have sc := sc_law_of
  exact ((dss_one (ds_ret (de_ix (de_var 1) (de_dr W__law_any hg (hr.mono le__law_any) (by rfl) t._law_any.m t._law_any.F.kp t._law_any.b (da_cons (de_var 0) (da_cons (de_callB cd_len (by rfl) t.n_len (by decide +kernel) (da_cons (de_var 1) da_nil)) da_nil)))))))
theorem w_law_names (t : Txt K mg C) {n k lv__law_any lv__law_of : Nat} (W__law_any : DFn P w K mg base lv__law_any t._law_any.f t._law_any.fd ["draws", "bound"] (D2.Spec.dr A_law_any P_law_any R_law_any)) (le__law_any : lv__law_any ≤ k) (W__law_of : DFn P w K mg base lv__law_of t._law_of.f t._law_of.fd ["draws", "some"] (D2.Spec.dr A_law_of P_law_of R_law_of)) (le__law_of : lv__law_of ≤ k) (p : PL N_law_names (W_law_names) (D2.Spec.dr A_law_names P_law_names R_law_names)) : DFn P w K mg base (k + 1) t._law_names.f t._law_names.fd ["draws", "many"] (D2.Spec.dr A_law_names P_law_names R_law_names) := by
  refine dfn_of t._law_names.F sc_law_names (fun i h => rfl) fun cdv A outer s H E hg hr => ⟨_, ?_, p⟩
  have hu := hr.units
  have sc := sc_law_names
  exact ((dss_cons (ds_set (i := 2) sc.nd rfl (.inr rfl) de_str)
      (dss_cons (ds_set (i := 3) sc.nd rfl (.inr rfl) (de_dr W__law_any hg (hr.mono le__law_any) (by rfl) t._law_any.m t._law_any.F.kp t._law_any.b (da_cons (de_var 0) (da_cons (de_op od_sub de_int (de_var 1)) da_nil))))
      (dss_cons (ds_setLc (i := 4) (own := [("at", 5)]) (t := (.one 5)) (wt := wYes) (we := (w2 gIx (wVar 2) (w2 gAdd (wVar 3) (wVar 5)))) rfl sc.nd rfl rfl (sw_true rfl rfl rfl (by decide +kernel)) (di_range1 (by rfl) t.n_range (da_cons (de_var 1) da_nil)) (blkOk_by (N := N_law_names) (sc := defScope s_law_names) (by decide +kernel)) (fun _ _ _ _ _ => (pg_name (i := 5) sc.nd rfl (.inl rfl))) (fun _ _ _ _ _ => dts_nil) (fun _ _ _ _ _ => (de_ix (de_var 2) (de_op od_add (de_var 3) (de_var 5)))) (by decide))
      (dss_cons (ds_if (dt_cmp (od_eq hu) (de_dr W__law_any hg (hr.mono le__law_any) (by rfl) t._law_any.m t._law_any.F.kp t._law_any.b (da_cons (de_var 0) (da_cons de_int da_nil))) de_int (nomark _)) (dss_one (ds_ret (de_var 4))) dss_nil)
      (dss_cons (ds_set (i := 6) sc.nd rfl (.inr rfl) ((dn_lc (own := [("at", 5)]) (t := (.one 5)) (wt := wYes) (we := (wDr A_law_of P_law_of R_law_of (wCons (wVar 0) (wCons (wVar 2) wNil)))) rfl sc.nd (di_range1 (by rfl) t.n_range (da_cons (de_op od_add de_int (de_dr W__law_any hg (hr.mono le__law_any) (by rfl) t._law_any.m t._law_any.F.kp t._law_any.b (da_cons (de_var 0) (da_cons de_int da_nil)))) da_nil)) (blkOk_by (N := N_law_names) (sc := defScope s_law_names) (by decide +kernel)) (fun _ _ _ _ _ => (pg_name (i := 5) sc.nd rfl (.inl rfl))) (fun _ _ _ _ _ => dts_nil) (fun _ _ _ _ _ => (de_dr W__law_of hg (hr.mono le__law_of) (by rfl) t._law_of.m t._law_of.F.kp t._law_of.b (da_cons (de_var 0) (da_cons (de_var 2) da_nil)))) (by decide))).rol)
      (dss_cons (ds_set (i := 7) sc.nd rfl (.inr rfl) (de_dr W__law_any hg (hr.mono le__law_any) (by rfl) t._law_any.m t._law_any.F.kp t._law_any.b (da_cons (de_var 0) (da_cons (de_op od_add (de_callB cd_len (by rfl) t.n_len (by decide +kernel) (da_cons (de_var 6) da_nil)) de_int) da_nil))))
      (dss_one (ds_ret ((dn_lc (own := [("one", 8)]) (t := (.one 8)) (wt := wYes) (we := (w2 gAdd (w2 gAdd (wJoin (wC (.str "")) (wRl (wSlN (wVar 6) wNo (wPt (wVar 7))))) (wVar 8)) (wJoin (wC (.str "")) (wRl (wSlN (wVar 6) (wPt (wVar 7)) wNo))))) rfl sc.nd (di_any (de_var 4)) (blkOk_by (N := N_law_names) (sc := defScope s_law_names) (by decide +kernel)) (fun _ _ _ _ _ => (pg_name (i := 8) sc.nd rfl (.inl rfl))) (fun _ _ _ _ _ => dts_nil) (fun _ _ _ _ _ => (de_op od_add (de_op od_add (de_join de_str ((dn_sl (de_var 6) do_no (do_some (de_var 7)))).rol) (de_var 8)) (de_join de_str ((dn_sl (de_var 6) (do_some (de_var 7)) do_no)).rol))) (by decide))).rol)))))))))
theorem w_law_text (t : Txt K mg C) {n k lv__law_of : Nat} (W__law_of : DFn P w K mg base lv__law_of t._law_of.f t._law_of.fd ["draws", "some"] (D2.Spec.dr A_law_of P_law_of R_law_of)) (le__law_of : lv__law_of ≤ k) (p : PL N_law_text (W_law_text) (D2.Spec.dr A_law_text P_law_text R_law_text)) : DFn P w K mg base (k + 1) t._law_text.f t._law_text.fd ["draws"] (D2.Spec.dr A_law_text P_law_text R_law_text) := by
  refine dfn_of t._law_text.F sc_law_text (fun i h => rfl) fun cdv A outer s H E hg hr => ⟨_, ?_, p⟩
  have hu := hr.units
  have sc := sc_law_text
  exact ((dss_cons (ds_set (i := 1) sc.nd rfl (.inr rfl) de_str)
      (dss_one (ds_ret (de_join de_str ((dn_lc (own := [("turn", 2)]) (t := (.one 2)) (wt := wYes) (we := (wDr A_law_of P_law_of R_law_of (wCons (wVar 0) (wCons (wVar 1) wNil)))) rfl sc.nd (di_range1 (by rfl) t.n_range (da_cons (de_dr W__law_of hg (hr.mono le__law_of) (by rfl) t._law_of.m t._law_of.F.kp t._law_of.b (da_cons (de_var 0) (da_cons (de_rol (da_cons de_int (da_cons de_int (da_cons de_int (da_cons de_int (da_cons de_int (da_cons de_int da_nil))))))) da_nil))) da_nil)) (blkOk_by (N := N_law_text) (sc := defScope s_law_text) (by decide +kernel)) (fun _ _ _ _ _ => (pg_name (i := 2) sc.nd rfl (.inl rfl))) (fun _ _ _ _ _ => dts_nil) (fun _ _ _ _ _ => (de_dr W__law_of hg (hr.mono le__law_of) (by rfl) t._law_of.m t._law_of.F.kp t._law_of.b (da_cons (de_var 0) (da_cons (de_var 1) da_nil)))) (by decide))).rol)))))
theorem w_law_shut (t : Txt K mg C) {n k : Nat} (p : PL N_law_shut (W_law_shut) (S_law_shut)) : DFn P w K mg base (k + 1) t._law_shut.f t._law_shut.fd ["stack"] (S_law_shut) := by
  refine dfn_of t._law_shut.F sc_law_shut (fun i h => rfl) fun cdv A outer s H E hg hr => ⟨_, ?_, p⟩
  have hu := hr.units
  have sc := sc_law_shut
  exact ((dss_cons (ds_set (i := 1) sc.nd rfl (.inl rfl) (de_pop (de_var 0)))
      (dss_one (ds_expr (de_app (de_ix (de_ix (de_var 0) (de_neg de_int)) de_int) (de_tup (da_cons (de_ix (de_var 1) de_int) (da_cons (de_callTy cd_tuple (by rfl) t.n_tuple (by decide +kernel) (da_cons (de_ix (de_var 1) de_int) da_nil)) da_nil))))))))
theorem w_law_forest (t : Txt K mg C) {n k lv__law_any lv__law_of lv__law_shut lv__law_text : Nat} (W__law_any : DFn P w K mg base lv__law_any t._law_any.f t._law_any.fd ["draws", "bound"] (D2.Spec.dr A_law_any P_law_any R_law_any)) (le__law_any : lv__law_any ≤ k) (W__law_of : DFn P w K mg base lv__law_of t._law_of.f t._law_of.fd ["draws", "some"] (D2.Spec.dr A_law_of P_law_of R_law_of)) (le__law_of : lv__law_of ≤ k) (W__law_shut : DFn P w K mg base lv__law_shut t._law_shut.f t._law_shut.fd ["stack"] (S_law_shut)) (le__law_shut : lv__law_shut ≤ k) (W__law_text : DFn P w K mg base lv__law_text t._law_text.f t._law_text.fd ["draws"] (D2.Spec.dr A_law_text P_law_text R_law_text)) (le__law_text : lv__law_text ≤ k) (p : PL N_law_forest (W_law_forest) (D2.Spec.dr A_law_forest P_law_forest R_law_forest)) : DFn P w K mg base (k + 1) t._law_forest.f t._law_forest.fd ["draws", "names", "most"] (D2.Spec.dr A_law_forest P_law_forest R_law_forest) := by
  refine dfn_of t._law_forest.F sc_law_forest (fun i h => rfl) fun cdv A outer s H E hg hr => ⟨_, ?_, p⟩
  have hu := hr.units
  have sc := sc_law_forest
  exact ((dss_cons (ds_set (i := 3) sc.nd rfl (.inl rfl) (de_cel (da_cons (de_cel (da_cons de_str (da_cons (de_cel da_nil) da_nil))) da_nil)))
      (dss_cons (ds_for (t := (.one 4)) PassesOwn.never rfl (di_range1 (by rfl) t.n_range (da_cons (de_dr W__law_any hg (hr.mono le__law_any) (by rfl) t._law_any.m t._law_any.F.kp t._law_any.b (da_cons (de_var 0) (da_cons (de_op od_add (de_var 2) de_int) da_nil))) da_nil)) (pg_name (i := 4) sc.nd rfl (.inl rfl)) (dss_cons (ds_for (t := (.one 5)) PassesOwn.never rfl (di_range1 (by rfl) t.n_range (da_cons (de_dr W__law_of hg (hr.mono le__law_of) (by rfl) t._law_of.m t._law_of.F.kp t._law_of.b (da_cons (de_var 0) (da_cons (de_rol (da_cons de_int (da_cons de_int (da_cons de_int (da_cons de_int (da_cons de_int da_nil)))))) da_nil))) da_nil)) (pg_name (i := 5) sc.nd rfl (.inl rfl)) (dss_one (ds_if (dt_cmp od_gt (de_callB cd_len (by rfl) t.n_len (by decide +kernel) (da_cons (de_var 3) da_nil)) de_int (nomark _)) (dss_one (ds_expr (de_call W__law_shut hg (hr.mono le__law_shut) (by rfl) t._law_shut.m t._law_shut.F.kp t._law_shut.b (da_cons (de_var 3) da_nil)))) dss_nil)))
      (dss_one (ds_if (dt_cmp (od_eq hu) (de_dr W__law_any hg (hr.mono le__law_any) (by rfl) t._law_any.m t._law_any.F.kp t._law_any.b (da_cons (de_var 0) (da_cons de_int da_nil))) de_int (nomark _)) (dss_one (ds_expr (de_app (de_ix (de_ix (de_var 3) (de_neg de_int)) de_int) (de_dr W__law_text hg (hr.mono le__law_text) (by rfl) t._law_text.m t._law_text.F.kp t._law_text.b (da_cons (de_var 0) da_nil))))) (dss_one (ds_expr (de_app (de_var 3) (de_cel (da_cons (de_dr W__law_of hg (hr.mono le__law_of) (by rfl) t._law_of.m t._law_of.F.kp t._law_of.b (da_cons (de_var 0) (da_cons (de_var 1) da_nil))) (da_cons (de_cel da_nil) da_nil))))))))))
      (dss_cons (ds_for (t := (.one 4)) PassesOwn.never rfl (di_range1 (by rfl) t.n_range (da_cons (de_var 2) da_nil)) (pg_name (i := 4) sc.nd rfl (.inl rfl)) (dss_one (ds_if (dt_cmp od_gt (de_callB cd_len (by rfl) t.n_len (by decide +kernel) (da_cons (de_var 3) da_nil)) de_int (nomark _)) (dss_one (ds_expr (de_call W__law_shut hg (hr.mono le__law_shut) (by rfl) t._law_shut.m t._law_shut.F.kp t._law_shut.b (da_cons (de_var 3) da_nil)))) dss_nil)))
      (dss_one (ds_ret (de_callTy cd_tuple (by rfl) t.n_tuple (by decide +kernel) (da_cons (de_ix (de_ix (de_var 3) de_int) de_int) da_nil))))))))
theorem w_law_node (t : Txt K mg C) {n k lv__law_forest lv__law_of : Nat} (W__law_forest : DFn P w K mg base lv__law_forest t._law_forest.f t._law_forest.fd ["draws", "names", "most"] (D2.Spec.dr A_law_forest P_law_forest R_law_forest)) (le__law_forest : lv__law_forest ≤ k) (W__law_of : DFn P w K mg base lv__law_of t._law_of.f t._law_of.fd ["draws", "some"] (D2.Spec.dr A_law_of P_law_of R_law_of)) (le__law_of : lv__law_of ≤ k) (p : PL N_law_node (W_law_node) (D2.Spec.dr A_law_node P_law_node R_law_node)) : DFn P w K mg base (k + 1) t._law_node.f t._law_node.fd ["draws", "names", "most"] (D2.Spec.dr A_law_node P_law_node R_law_node) := by
  refine dfn_of t._law_node.F sc_law_node (fun i h => rfl) fun cdv A outer s H E hg hr => ⟨_, ?_, p⟩
  have hu := hr.units
  have sc := sc_law_node
  exact ((dss_one (ds_ret (de_tup (da_cons (de_dr W__law_of hg (hr.mono le__law_of) (by rfl) t._law_of.m t._law_of.F.kp t._law_of.b (da_cons (de_var 0) (da_cons (de_var 1) da_nil))) (da_cons (de_dr W__law_forest hg (hr.mono le__law_forest) (by rfl) t._law_forest.m t._law_forest.F.kp t._law_forest.b (da_cons (de_var 0) (da_cons (de_var 1) (da_cons (de_var 2) da_nil)))) da_nil))))))
theorem w_law_drawn (t : Txt K mg C) {n k lv__law_any lv__law_of : Nat} (W__law_any : DFn P w K mg base lv__law_any t._law_any.f t._law_any.fd ["draws", "bound"] (D2.Spec.dr A_law_any P_law_any R_law_any)) (le__law_any : lv__law_any ≤ k) (W__law_of : DFn P w K mg base lv__law_of t._law_of.f t._law_of.fd ["draws", "some"] (D2.Spec.dr A_law_of P_law_of R_law_of)) (le__law_of : lv__law_of ≤ k) (p : PL N_law_drawn (W_law_drawn) (D2.Spec.dr A_law_drawn P_law_drawn R_law_drawn)) : DFn P w K mg base (k + 1) t._law_drawn.f t._law_drawn.fd ["draws", "names", "most"] (D2.Spec.dr A_law_drawn P_law_drawn R_law_drawn) := by
  refine dfn_of t._law_drawn.F sc_law_drawn (fun i h => rfl) fun cdv A outer s H E hg hr => ⟨_, ?_, p⟩
  have hu := hr.units
  have sc := sc_law_drawn
  exact ((dss_cons (ds_set (i := 3) sc.nd rfl (.inr rfl) (de_if (dt_cmp od_gt (de_dr W__law_any hg (hr.mono le__law_any) (by rfl) t._law_any.m t._law_any.F.kp t._law_any.b (da_cons (de_var 0) (da_cons de_int da_nil))) de_int (nomark _)) (de_op od_add de_int (de_dr W__law_any hg (hr.mono le__law_any) (by rfl) t._law_any.m t._law_any.F.kp t._law_any.b (da_cons (de_var 0) (da_cons (de_op od_sub (de_var 2) de_int) da_nil)))) de_int))
      (dss_cons (ds_set (i := 4) sc.nd rfl (.inr rfl) (de_op od_add ((dn_lc (own := [("turn", 5)]) (t := (.one 5)) (wt := wYes) (we := (wDr A_law_any P_law_any R_law_any (wCons (wVar 0) (wCons (wVar 3) wNil)))) rfl sc.nd (di_range1 (by rfl) t.n_range (da_cons de_int da_nil)) (blkOk_by (N := N_law_drawn) (sc := defScope s_law_drawn) (by decide +kernel)) (fun _ _ _ _ _ => (pg_name (i := 5) sc.nd rfl (.inl rfl))) (fun _ _ _ _ _ => dts_nil) (fun _ _ _ _ _ => (de_dr W__law_any hg (hr.mono le__law_any) (by rfl) t._law_any.m t._law_any.F.kp t._law_any.b (da_cons (de_var 0) (da_cons (de_var 3) da_nil)))) (by decide))).rol (de_rol (da_cons (de_op od_sub (de_var 3) de_int) da_nil))))
      (dss_cons (ds_set (i := 6) sc.nd rfl (.inl rfl) (de_callTy cd_tuple (by rfl) t.n_tuple (by decide +kernel) (da_cons ((dn_lc (own := [("name", 7)]) (t := (.one 7)) (wt := wYes) (we := (wDr A_law_any P_law_any R_law_any (wCons (wVar 0) (wCons (wVar 3) wNil)))) rfl sc.nd (di_any (de_var 1)) (blkOk_by (N := N_law_drawn) (sc := defScope s_law_drawn) (by decide +kernel)) (fun _ _ _ _ _ => (pg_name (i := 7) sc.nd rfl (.inl rfl))) (fun _ _ _ _ _ => dts_nil) (fun _ _ _ _ _ => (de_dr W__law_any hg (hr.mono le__law_any) (by rfl) t._law_any.m t._law_any.F.kp t._law_any.b (da_cons (de_var 0) (da_cons (de_var 3) da_nil)))) (by decide))).rol da_nil)))
      (dss_cons (ds_set (i := 8) sc.nd rfl (.inl rfl) (de_callTy cd_tuple (by rfl) t.n_tuple (by decide +kernel) (da_cons ((dn_lc (own := [("state", 9)]) (t := (.one 9)) (wt := wYes) (we := (wDr A_law_of P_law_of R_law_of (wCons (wVar 0) (wCons (w2 gAdd (wVar 4) (wRol (wCons (wDr A_law_any P_law_any R_law_any (wCons (wVar 0) (wCons (wVar 3) wNil))) wNil))) wNil)))) rfl sc.nd (di_range1 (by rfl) t.n_range (da_cons (de_var 3) da_nil)) (blkOk_by (N := N_law_drawn) (sc := defScope s_law_drawn) (by decide +kernel)) (fun _ _ _ _ _ => (pg_name (i := 9) sc.nd rfl (.inl rfl))) (fun _ _ _ _ _ => dts_nil) (fun _ _ _ _ _ => (de_dr W__law_of hg (hr.mono le__law_of) (by rfl) t._law_of.m t._law_of.F.kp t._law_of.b (da_cons (de_var 0) (da_cons (de_op od_add (de_var 4) (de_rol (da_cons (de_dr W__law_any hg (hr.mono le__law_any) (by rfl) t._law_any.m t._law_any.F.kp t._law_any.b (da_cons (de_var 0) (da_cons (de_var 3) da_nil))) da_nil))) da_nil)))) (by decide))).rol da_nil)))
      (dss_cons (ds_set (i := 10) sc.nd rfl (.inr rfl) (de_op od_add de_int (de_dr W__law_any hg (hr.mono le__law_any) (by rfl) t._law_any.m t._law_any.F.kp t._law_any.b (da_cons (de_var 0) (da_cons de_int da_nil)))))
      (dss_cons (ds_set (i := 11) sc.nd rfl (.inl rfl) (de_cel da_nil))
      (dss_cons (ds_for (t := (.one 9)) PassesOwn.never rfl (di_range1 (by rfl) t.n_range (da_cons (de_var 3) da_nil)) (pg_name (i := 9) sc.nd rfl (.inl rfl)) (dss_one (ds_expr (de_app (de_var 11) (de_callTy cd_tuple (by rfl) t.n_tuple (by decide +kernel) (da_cons ((dn_lc (own := [("child", 12)]) (t := (.one 12)) (wt := wYes) (we := (wIfE (wB (w2 (gEq false) (wDr A_law_any P_law_any R_law_any (wCons (wVar 0) (wCons (wVar 10) wNil))) (wC (.int 0)))) (wDr A_law_any P_law_any R_law_any (wCons (wVar 0) (wCons (wVar 3) wNil))) (wDr A_law_of P_law_of R_law_of (wCons (wVar 0) (wCons (wVar 4) wNil))))) rfl sc.nd (di_range1 (by rfl) t.n_range (da_cons (de_var 3) da_nil)) (blkOk_by (N := N_law_drawn) (sc := defScope s_law_drawn) (by decide +kernel)) (fun _ _ _ _ _ => (pg_name (i := 12) sc.nd rfl (.inl rfl))) (fun _ _ _ _ _ => dts_nil) (fun _ _ _ _ _ => (de_if (dt_cmp (od_eq hu) (de_dr W__law_any hg (hr.mono le__law_any) (by rfl) t._law_any.m t._law_any.F.kp t._law_any.b (da_cons (de_var 0) (da_cons (de_var 10) da_nil))) de_int (nomark _)) (de_dr W__law_any hg (hr.mono le__law_any) (by rfl) t._law_any.m t._law_any.F.kp t._law_any.b (da_cons (de_var 0) (da_cons (de_var 3) da_nil))) (de_dr W__law_of hg (hr.mono le__law_of) (by rfl) t._law_of.m t._law_of.F.kp t._law_of.b (da_cons (de_var 0) (da_cons (de_var 4) da_nil))))) (by decide))).rol da_nil))))))
      (dss_cons (ds_set (i := 13) sc.nd rfl (.inl rfl) (de_callTy cd_tuple (by rfl) t.n_tuple (by decide +kernel) (da_cons ((dn_lc (own := [("state", 9)]) (t := (.one 9)) (wt := (wB (w2 (gEq false) (wDr A_law_any P_law_any R_law_any (wCons (wVar 0) (wCons (wC (.int 3)) wNil))) (wC (.int 0))))) (we := (wVar 9)) rfl sc.nd (di_range1 (by rfl) t.n_range (da_cons (de_var 3) da_nil)) (blkOk_by (N := N_law_drawn) (sc := defScope s_law_drawn) (by decide +kernel)) (fun _ _ _ _ _ => (pg_name (i := 9) sc.nd rfl (.inl rfl))) (fun _ _ _ _ _ => (dts_one (dt_cmp (od_eq hu) (de_dr W__law_any hg (hr.mono le__law_any) (by rfl) t._law_any.m t._law_any.F.kp t._law_any.b (da_cons (de_var 0) (da_cons de_int da_nil))) de_int (nomark _)))) (fun _ _ _ _ _ => (de_var 9)) (by decide))).rol da_nil)))
      (dss_cons (ds_if ((dw_and (dt_cmp (od_eq hu) (de_var 13) (de_tup da_nil) (nomark _)) (dw_one (dt_cmp od_gt (de_dr W__law_any hg (hr.mono le__law_any) (by rfl) t._law_any.m t._law_any.F.kp t._law_any.b (da_cons (de_var 0) (da_cons de_int da_nil))) de_int (nomark _))))).dt (dss_one (ds_set (i := 13) sc.nd rfl (.inl rfl) (de_tup (da_cons (de_dr W__law_of hg (hr.mono le__law_of) (by rfl) t._law_of.m t._law_of.F.kp t._law_of.b (da_cons (de_var 0) (da_cons (de_var 6) da_nil))) da_nil)))) dss_nil)
      (dss_one (ds_ret (de_tup (da_cons (de_callTy cd_tupX (by rfl) t.n_tuple (by decide +kernel) (da_cons (de_var 1) da_nil)) (da_cons (de_var 6) (da_cons (de_var 8) (da_cons (de_callTy cd_tuple (by rfl) t.n_tuple (by decide +kernel) (da_cons (de_var 11) da_nil)) (da_cons (de_var 13) da_nil))))))))))))))))))
theorem w_law_on (t : Txt K mg C) {n k lv__law_state : Nat} (W__law_state : DFn P w K mg base lv__law_state t._law_state.f t._law_state.fd ["plain", "node"] (D2.Spec.fn A_law_state (P_law_state n) R_law_state)) (le__law_state : lv__law_state ≤ k) (p : PL N_law_on (W_law_on n) (D2.Spec.fn A_law_on (P_law_on (n + 1)) R_law_on)) : DFn P w K mg base (k + 1) t._law_on.f t._law_on.fd ["plain", "state", "forest"] (D2.Spec.fn A_law_on (P_law_on (n + 1)) R_law_on) := by
  refine dfn_of t._law_on.F sc_law_on (fun i h => rfl) fun cdv A outer s H E hg hr => ⟨_, ?_, p⟩
  have hu := hr.units
  have sc := sc_law_on
  exact ((dss_cons (ds_for (t := (.one 3)) PassesOwn.never rfl (di_any (de_var 2)) (pg_name (i := 3) sc.nd rfl (.inl rfl)) (dss_one (ds_if ((dw_and (dt_cmp (od_is true) (de_var 1) de_non (nomark _)) (dw_one (dt_tru (de_isi .str (by rfl) t.n_isinstance (by rfl) t.n_str (by decide +kernel) (de_var 3)))))).dt (dss_one (ds_set (i := 1) sc.nd rfl (.inl rfl) (de_ix (de_ix (de_var 0) de_int) (de_var 1)))) (dss_one (ds_if (dt_cmp (od_is true) (de_var 1) de_non (nomark _)) (dss_cons (ds_set (i := 4) sc.nd rfl (.inl rfl) (de_fn W__law_state hg (hr.mono le__law_state) (by rfl) t._law_state.m t._law_state.F.kp t._law_state.b (da_cons (de_var 0) (da_cons (de_var 3) da_nil))))
      (dss_one (ds_set (i := 1) sc.nd rfl (.inl rfl) (de_if (dt_cmp (od_is false) (de_var 4) de_non (nomark _)) de_non (de_ix (de_ix (de_ix (de_var 0) de_int) (de_var 1)) (de_var 4)))))) dss_nil)))))
      (dss_one (ds_ret (de_var 1)))))
theorem w_law_state (t : Txt K mg C) {n k lv__law_on : Nat} (W__law_on : DFn P w K mg base lv__law_on t._law_on.f t._law_on.fd ["plain", "state", "forest"] (D2.Spec.fn A_law_on (P_law_on n) R_law_on)) (le__law_on : lv__law_on ≤ k) (p : PL N_law_state (W_law_state n) (D2.Spec.fn A_law_state (P_law_state n) R_law_state)) : DFn P w K mg base (k + 1) t._law_state.f t._law_state.fd ["plain", "node"] (D2.Spec.fn A_law_state (P_law_state n) R_law_state) := by
  refine dfn_of t._law_state.F sc_law_state (fun i h => rfl) fun cdv A outer s H E hg hr => ⟨_, ?_, p⟩
  have hu := hr.units
  have sc := sc_law_state
  exact ((dss_cons (ds_if (dt_cmp (od_in true) (de_ix (de_var 1) de_int) (de_ix (de_var 0) de_int) (by with_unfolding_all rfl)) (dss_one (ds_ret de_non)) dss_nil)
      (dss_one (ds_ret (de_fn W__law_on hg (hr.mono le__law_on) (by rfl) t._law_on.m t._law_on.F.kp t._law_on.b (da_cons (de_var 0) (da_cons (de_ix (de_ix (de_var 0) de_int) (de_tix (de_ix (de_var 0) de_int) (de_ix (de_var 1) de_int))) (da_cons (de_ix (de_var 1) de_int) da_nil))))))))
theorem wstate_behind (t : Txt K mg C) {n k lv_state_of : Nat} (W_state_of : DFn P w K mg base lv_state_of t.state_of.f t.state_of.fd ["table", "node"] (D2.Spec.fn (A_state_of C) (P_law_state n) R_law_state)) (le_state_of : lv_state_of ≤ k) (p : PL Nstate_behind (Wstate_behind C n) (D2.Spec.fn (A_state_behind C) (P_law_on (n + 1)) R_law_on)) : DFn P w K mg base (k + 1) t.state_behind.f t.state_behind.fd ["table", "state", "forest"] (D2.Spec.fn (A_state_behind C) (P_law_on (n + 1)) R_law_on) := by
  refine dfn_of t.state_behind.F scstate_behind (fun i h => rfl) fun cdv A outer s H E hg hr => ⟨_, ?_, p⟩
  have hu := hr.units
  have sc := scstate_behind
  exact ((dss_cons (ds_for (t := (.one 3)) PassesOwn.never rfl (di_any (de_var 2)) (pg_name (i := 3) sc.nd rfl (.inl rfl)) (dss_cons (ds_set (i := 4) sc.nd rfl (.inl rfl) (de_if (dt_tru (de_isi .str (by rfl) t.n_isinstance (by rfl) t.n_str (by decide +kernel) (de_var 3))) de_non (de_fn W_state_of hg (hr.mono le_state_of) (by rfl) t.state_of.m t.state_of.F.kp t.state_of.b (da_cons (de_var 0) (da_cons (de_var 3) da_nil)))))
      (dss_one (ds_if (dt_tru (de_isi .str (by rfl) t.n_isinstance (by rfl) t.n_str (by decide +kernel) (de_var 3))) (dss_one (ds_set (i := 1) sc.nd rfl (.inl rfl) (de_ix (de_fld t.cls t.no_texts (de_var 0)) (de_var 1)))) (dss_one (ds_if (dt_cmp (od_is false) (de_var 4) de_non (nomark _)) (dss_one (ds_ret de_non)) (dss_one (ds_set (i := 1) sc.nd rfl (.inl rfl) (de_ix (de_ix (de_fld t.cls t.no_steps (de_var 0)) (de_var 1)) (de_var 4))))))))))
      (dss_one (ds_ret (de_var 1)))))
theorem wstate_of (t : Txt K mg C) {n k lv_state_behind : Nat} (W_state_behind : DFn P w K mg base lv_state_behind t.state_behind.f t.state_behind.fd ["table", "state", "forest"] (D2.Spec.fn (A_state_behind C) (P_law_on n) R_law_on)) (le_state_behind : lv_state_behind ≤ k) (p : PL Nstate_of (Wstate_of C n) (D2.Spec.fn (A_state_of C) (P_law_state n) R_law_state)) : DFn P w K mg base (k + 1) t.state_of.f t.state_of.fd ["table", "node"] (D2.Spec.fn (A_state_of C) (P_law_state n) R_law_state) := by
  refine dfn_of t.state_of.F scstate_of (fun i h => rfl) fun cdv A outer s H E hg hr => ⟨_, ?_, p⟩
  have hu := hr.units
  have sc := scstate_of
  exact ((dss_cons (ds_asgT (t := (.many [2, 3])) (de_var 1) (pg_tup rfl (pgs_cons (pg_name (i := 2) sc.nd rfl (.inl rfl)) (pgs_cons (pg_name (i := 3) sc.nd rfl (.inl rfl)) pgs_nil))))
      (dss_cons (ds_if (dt_cmp (od_in true) (de_var 2) (de_fld t.cls t.no_names (de_var 0)) (by with_unfolding_all rfl)) (dss_one (ds_ret de_non)) dss_nil)
      (dss_one (ds_ret (de_fn W_state_behind hg (hr.mono le_state_behind) (by rfl) t.state_behind.m t.state_behind.F.kp t.state_behind.b (da_cons (de_var 0) (da_cons (de_ix (de_fld t.cls t.no_begins (de_var 0)) (de_tix (de_fld t.cls t.no_names (de_var 0)) (de_var 2))) (da_cons (de_var 3) da_nil)))))))))
theorem w_law_of_table (t : Txt K mg C) {n k : Nat} (p : PL N_law_of_table (W_law_of_table C) (D2.Spec.fn (A_law_of_table C) P_law_of_table R_law_of_table)) : DFn P w K mg base (k + 1) t._law_of_table.f t._law_of_table.fd ["table"] (D2.Spec.fn (A_law_of_table C) P_law_of_table R_law_of_table) := by
  refine dfn_of t._law_of_table.F sc_law_of_table (fun i h => rfl) fun cdv A outer s H E hg hr => ⟨_, ?_, p⟩
  have hu := hr.units
  have sc := sc_law_of_table
  exact ((dss_one (ds_ret (de_tup (da_cons (de_fld t.cls t.no_names (de_var 0)) (da_cons (de_fld t.cls t.no_begins (de_var 0)) (da_cons (de_fld t.cls t.no_texts (de_var 0)) (da_cons (de_fld t.cls t.no_steps (de_var 0)) (da_cons (de_fld t.cls t.no_ends (de_var 0)) da_nil)))))))))
theorem w_law_of_plain (t : Txt K mg C) {n k lv_init : Nat} (W_init : FnOk P w K mg base CX0 lv_init t.fI t.dI ["self", "names", "begins", "texts", "steps", "ends"] (spIni C ["names", "begins", "texts", "steps", "ends"])) (le_init : lv_init + 1 ≤ k) (p : PL N_law_of_plain (W_law_of_plain C) (D2.Spec.fn (A_law_of_plain) P_law_of_plain (R_law_of_plain C))) : DFn P w K mg base (k + 1) t._law_of_plain.f t._law_of_plain.fd ["plain"] (D2.Spec.fn (A_law_of_plain) P_law_of_plain (R_law_of_plain C)) := by
  refine dfn_of t._law_of_plain.F sc_law_of_plain (fun i h => rfl) fun cdv A outer s H E hg hr => ⟨_, ?_, p⟩
  have hu := hr.units
  have sc := sc_law_of_plain
  exact ((dss_one (ds_ret (de_make t.mkC W_init (hr.mono le_init) (by rfl) t.mgC t.b_init (da_cons (de_ix (de_var 0) de_int) (da_cons (de_ix (de_var 0) de_int) (da_cons (de_ix (de_var 0) de_int) (da_cons (de_ix (de_var 0) de_int) (da_cons (de_ix (de_var 0) de_int) da_nil)))))))))
theorem wno_effect (t : Txt K mg C) {n k : Nat} (p : PL Nno_effect (Wno_effect C) (D2.Spec.fn (A_no_effect C) P_no_effect R_no_effect)) : DFn P w K mg base (k + 1) t.no_effect.f t.no_effect.fd ["table"] (D2.Spec.fn (A_no_effect C) P_no_effect R_no_effect) := by
  refine dfn_of t.no_effect.F scno_effect (fun i h => rfl) fun cdv A outer s H E hg hr => ⟨_, ?_, p⟩
  have hu := hr.units
  have sc := scno_effect
  exact ((dss_one (ds_ret (de_tupRg rfl (by rfl) t.n_tuple (by rfl) t.n_range (de_op od_add (de_callB cd_len (by rfl) t.n_len (by decide +kernel) (da_cons (de_fld t.cls t.no_texts (de_var 0)) da_nil)) de_int)))))
theorem wtext_effect (t : Txt K mg C) {n k : Nat} (p : PL Ntext_effect (Wtext_effect C) (D2.Spec.fn (A_text_effect C) P_text_effect R_text_effect)) : DFn P w K mg base (k + 1) t.text_effect.f t.text_effect.fd ["table"] (D2.Spec.fn (A_text_effect C) P_text_effect R_text_effect) := by
  refine dfn_of t.text_effect.F sctext_effect (fun i h => rfl) fun cdv A outer s H E hg hr => ⟨_, ?_, p⟩
  have hu := hr.units
  have sc := sctext_effect
  exact ((dss_one (ds_ret (de_op od_add (de_fld t.cls t.no_texts (de_var 0)) (de_op od_mul (de_tup (da_cons (de_op od_add (de_callB cd_len (by rfl) t.n_len (by decide +kernel) (da_cons (de_fld t.cls t.no_texts (de_var 0)) da_nil)) de_int) da_nil)) de_int)))))
theorem wnode_effect (t : Txt K mg C) {n k : Nat} (p : PL Nnode_effect (Wnode_effect C) (D2.Spec.fn (A_node_effect C) P_node_effect R_node_effect)) : DFn P w K mg base (k + 1) t.node_effect.f t.node_effect.fd ["table", "state"] (D2.Spec.fn (A_node_effect C) P_node_effect R_node_effect) := by
  refine dfn_of t.node_effect.F scnode_effect (fun i h => rfl) fun cdv A outer s H E hg hr => ⟨_, ?_, p⟩
  have hu := hr.units
  have sc := scnode_effect
  exact ((dss_cons (ds_set (i := 2) sc.nd rfl (.inl rfl) (de_callB cd_len (by rfl) t.n_len (by decide +kernel) (da_cons (de_fld t.cls t.no_texts (de_var 0)) da_nil)))
      (dss_cons (ds_set (i := 3) sc.nd rfl (.inl rfl) (de_if (dt_cmp (od_in false) (de_var 1) (de_fld t.cls t.no_ends (de_var 0)) (by with_unfolding_all rfl)) (de_op od_add (de_var 2) de_int) (de_op od_add (de_var 2) de_int)))
      (dss_one (ds_ret (de_op od_add (de_callTy cd_tuple (by rfl) t.n_tuple (by decide +kernel) (da_cons ((dn_lc (own := [("row", 4)]) (t := (.one 4)) (wt := wYes) (we := (w2 gIx (wVar 4) (wVar 1))) rfl sc.nd (di_any (de_fld t.cls t.no_steps (de_var 0))) (blkOk_by (N := Nnode_effect) (sc := defScope snode_effect) (by decide +kernel)) (fun _ _ _ _ _ => (pg_name (i := 4) sc.nd rfl (.inl rfl))) (fun _ _ _ _ _ => dts_nil) (fun _ _ _ _ _ => (de_ix (de_var 4) (de_var 1))) (by decide))).rol da_nil)) (de_tup (da_cons (de_var 3) (da_cons (de_op od_add (de_var 2) de_int) (da_cons (de_op od_add (de_var 2) de_int) da_nil))))))))))
theorem wboth_effects (t : Txt K mg C) {n k : Nat} (p : PL Nboth_effects (Wboth_effects) (D2.Spec.fn (A_both_effects) P_both_effects R_both_effects)) : DFn P w K mg base (k + 1) t.both_effects.f t.both_effects.fd ["one", "other"] (D2.Spec.fn (A_both_effects) P_both_effects R_both_effects) := by
  refine dfn_of t.both_effects.F scboth_effects (fun i h => rfl) fun cdv A outer s H E hg hr => ⟨_, ?_, p⟩
  have hu := hr.units
  have sc := scboth_effects
  exact ((dss_one (ds_ret (de_callTy cd_tuple (by rfl) t.n_tuple (by decide +kernel) (da_cons ((dn_lc (own := [("state", 2)]) (t := (.one 2)) (wt := wYes) (we := (w2 gIx (wVar 1) (wVar 2))) rfl sc.nd (di_any (de_var 0)) (blkOk_by (N := Nboth_effects) (sc := defScope sboth_effects) (by decide +kernel)) (fun _ _ _ _ _ => (pg_name (i := 2) sc.nd rfl (.inl rfl))) (fun _ _ _ _ _ => dts_nil) (fun _ _ _ _ _ => (de_ix (de_var 1) (de_var 2))) (by decide))).rol da_nil)))))
theorem weffect_of (t : Txt K mg C) {n k lv_both_effects lv_no_effect lv_node_effect lv_state_of lv_text_effect : Nat} (W_both_effects : DFn P w K mg base lv_both_effects t.both_effects.f t.both_effects.fd ["one", "other"] (D2.Spec.fn (A_both_effects) P_both_effects R_both_effects)) (le_both_effects : lv_both_effects ≤ k) (W_no_effect : DFn P w K mg base lv_no_effect t.no_effect.f t.no_effect.fd ["table"] (D2.Spec.fn (A_no_effect C) P_no_effect R_no_effect)) (le_no_effect : lv_no_effect ≤ k) (W_node_effect : DFn P w K mg base lv_node_effect t.node_effect.f t.node_effect.fd ["table", "state"] (D2.Spec.fn (A_node_effect C) P_node_effect R_node_effect)) (le_node_effect : lv_node_effect ≤ k) (W_state_of : DFn P w K mg base lv_state_of t.state_of.f t.state_of.fd ["table", "node"] (D2.Spec.fn (A_state_of C) (P_law_state n) R_law_state)) (le_state_of : lv_state_of ≤ k) (W_text_effect : DFn P w K mg base lv_text_effect t.text_effect.f t.text_effect.fd ["table"] (D2.Spec.fn (A_text_effect C) P_text_effect R_text_effect)) (le_text_effect : lv_text_effect ≤ k) (p : PL Neffect_of (Weffect_of C n) (D2.Spec.fn (A_effect_of C) P_effect_of R_effect_of)) : DFn P w K mg base (k + 1) t.effect_of.f t.effect_of.fd ["table", "forest"] (D2.Spec.fn (A_effect_of C) P_effect_of R_effect_of) := by
  refine dfn_of t.effect_of.F sceffect_of (fun i h => rfl) fun cdv A outer s H E hg hr => ⟨_, ?_, p⟩
  have hu := hr.units
  have sc := sceffect_of
  exact ((dss_cons (ds_set (i := 2) sc.nd rfl (.inl rfl) (de_fn W_no_effect hg (hr.mono le_no_effect) (by rfl) t.no_effect.m t.no_effect.F.kp t.no_effect.b (da_cons (de_var 0) da_nil)))
      (dss_cons (ds_for (t := (.one 3)) PassesOwn.never rfl (di_any (de_var 1)) (pg_name (i := 3) sc.nd rfl (.inl rfl)) (dss_cons (ds_set (i := 4) sc.nd rfl (.inl rfl) (de_if (dt_tru (de_isi .str (by rfl) t.n_isinstance (by rfl) t.n_str (by decide +kernel) (de_var 3))) (de_fn W_text_effect hg (hr.mono le_text_effect) (by rfl) t.text_effect.m t.text_effect.F.kp t.text_effect.b (da_cons (de_var 0) da_nil)) (de_fn W_node_effect hg (hr.mono le_node_effect) (by rfl) t.node_effect.m t.node_effect.F.kp t.node_effect.b (da_cons (de_var 0) (da_cons (de_fn W_state_of hg (hr.mono le_state_of) (by rfl) t.state_of.m t.state_of.F.kp t.state_of.b (da_cons (de_var 0) (da_cons (de_var 3) da_nil))) da_nil)))))
      (dss_one (ds_set (i := 2) sc.nd rfl (.inl rfl) (de_fn W_both_effects hg (hr.mono le_both_effects) (by rfl) t.both_effects.m t.both_effects.F.kp t.both_effects.b (da_cons (de_var 2) (da_cons (de_var 4) da_nil)))))))
      (dss_one (ds_ret (de_var 2))))))
theorem wis_one_taken (t : Txt K mg C) {n k : Nat} (p : PL Nis_one_taken (Wis_one_taken C) (D2.Spec.fn (A_is_one_taken C) P_is_one_taken R_is_one_taken)) : DFn P w K mg base (k + 1) t.is_one_taken.f t.is_one_taken.fd ["table", "effect"] (D2.Spec.fn (A_is_one_taken C) P_is_one_taken R_is_one_taken) := by
  refine dfn_of t.is_one_taken.F scis_one_taken (fun i h => rfl) fun cdv A outer s H E hg hr => ⟨_, ?_, p⟩
  have hu := hr.units
  have sc := scis_one_taken
  exact ((dss_one (ds_ret (de_cmp (od_eq hu) (de_ix (de_var 1) (de_callB cd_len (by rfl) t.n_len (by decide +kernel) (da_cons (de_fld t.cls t.no_texts (de_var 0)) da_nil))) (de_op od_add (de_callB cd_len (by rfl) t.n_len (by decide +kernel) (da_cons (de_fld t.cls t.no_texts (de_var 0)) da_nil)) de_int) (nomark _)))))
theorem w_law_effect (t : Txt K mg C) {n k lv__law_on lv__law_state : Nat} (W__law_on : DFn P w K mg base lv__law_on t._law_on.f t._law_on.fd ["plain", "state", "forest"] (D2.Spec.fn A_law_on (P_law_on n) R_law_on)) (le__law_on : lv__law_on ≤ k) (W__law_state : DFn P w K mg base lv__law_state t._law_state.f t._law_state.fd ["plain", "node"] (D2.Spec.fn A_law_state (P_law_state n) R_law_state)) (le__law_state : lv__law_state ≤ k) (p : PL N_law_effect (W_law_effect n) (D2.Spec.fn (A_law_effect) P_law_effect R_law_effect)) : DFn P w K mg base (k + 1) t._law_effect.f t._law_effect.fd ["plain", "forest"] (D2.Spec.fn (A_law_effect) P_law_effect R_law_effect) := by
  refine dfn_of t._law_effect.F sc_law_effect (fun i h => rfl) fun cdv A outer s H E hg hr => ⟨_, ?_, p⟩
  have hu := hr.units
  have sc := sc_law_effect
  exact ((dss_cons (ds_set (i := 2) sc.nd rfl (.inl rfl) (de_callB cd_len (by rfl) t.n_len (by decide +kernel) (da_cons (de_ix (de_var 0) de_int) da_nil)))
      (dss_cons (ds_setLc (i := 3) (own := [("state", 4)]) (t := (.one 4)) (wt := wYes) (we := (wFn A_law_on (P_law_on n) R_law_on (wCons (wVar 0) (wCons (wVar 4) (wCons (wVar 1) wNil))))) rfl sc.nd rfl rfl (sw_true rfl rfl rfl (by decide +kernel)) (di_range1 (by rfl) t.n_range (da_cons (de_var 2) da_nil)) (blkOk_by (N := N_law_effect) (sc := defScope s_law_effect) (by decide +kernel)) (fun _ _ _ _ _ => (pg_name (i := 4) sc.nd rfl (.inl rfl))) (fun _ _ _ _ _ => dts_nil) (fun _ _ _ _ _ => (de_fn W__law_on hg (hr.mono le__law_on) (by rfl) t._law_on.m t._law_on.F.kp t._law_on.b (da_cons (de_var 0) (da_cons (de_var 4) (da_cons (de_var 1) da_nil))))) (by decide))
      (dss_cons (ds_if (dt_cmp (od_eq hu) (de_var 1) (de_tup da_nil) (nomark _)) (dss_one (ds_ret (de_callTy cd_tuple (by rfl) t.n_tuple (by decide +kernel) (da_cons (de_op od_add (de_var 3) (de_rol (da_cons (de_var 2) (da_cons (de_op od_add (de_var 2) de_int) (da_cons (de_op od_add (de_var 2) de_int) da_nil))))) da_nil)))) dss_nil)
      (dss_cons (ds_set (i := 5) sc.nd rfl (.inl rfl) (de_and (de_cmp (od_eq hu) (de_callB cd_len (by rfl) t.n_len (by decide +kernel) (da_cons (de_var 1) da_nil)) de_int (nomark _)) (de_and (de_not (de_isi .str (by rfl) t.n_isinstance (by rfl) t.n_str (by decide +kernel) (de_ix (de_var 1) de_int))) (de_one (de_cmp (od_in false) (de_fn W__law_state hg (hr.mono le__law_state) (by rfl) t._law_state.m t._law_state.F.kp t._law_state.b (da_cons (de_var 0) (da_cons (de_ix (de_var 1) de_int) da_nil))) (de_ix (de_var 0) de_int) (by with_unfolding_all rfl))))))
      (dss_one (ds_ret (de_callTy cd_tuple (by rfl) t.n_tuple (by decide +kernel) (da_cons (de_op od_add (de_var 3) (de_rol (da_cons (de_if (dt_tru (de_var 5)) (de_op od_add (de_var 2) de_int) (de_op od_add (de_var 2) de_int)) (da_cons (de_op od_add (de_var 2) de_int) (da_cons (de_op od_add (de_var 2) de_int) da_nil))))) da_nil)))))))))
theorem w_law_some (t : Txt K mg C) {n k lv__law_forest lv__law_node lv__law_of : Nat} (W__law_forest : DFn P w K mg base lv__law_forest t._law_forest.f t._law_forest.fd ["draws", "names", "most"] (D2.Spec.dr A_law_forest P_law_forest R_law_forest)) (le__law_forest : lv__law_forest ≤ k) (W__law_node : DFn P w K mg base lv__law_node t._law_node.f t._law_node.fd ["draws", "names", "most"] (D2.Spec.dr A_law_node P_law_node R_law_node)) (le__law_node : lv__law_node ≤ k) (W__law_of : DFn P w K mg base lv__law_of t._law_of.f t._law_of.fd ["draws", "some"] (D2.Spec.dr A_law_of P_law_of R_law_of)) (le__law_of : lv__law_of ≤ k) (p : PL N_law_some (W_law_some) (D2.Spec.dr A_law_some P_law_some R_law_some)) : DFn P w K mg base (k + 1) t._law_some.f t._law_some.fd ["draws", "names"] (D2.Spec.dr A_law_some P_law_some R_law_some) := by
  refine dfn_of t._law_some.F sc_law_some (fun i h => rfl) fun cdv A outer s H E hg hr => ⟨_, ?_, p⟩
  have hu := hr.units
  have sc := sc_law_some
  exact ((dss_one (ds_ret (de_dr W__law_of hg (hr.mono le__law_of) (by rfl) t._law_of.m t._law_of.F.kp t._law_of.b (da_cons (de_var 0) (da_cons (de_rol (da_cons (de_tup da_nil) (da_cons (de_tup (da_cons de_str da_nil)) (da_cons (de_tup (da_cons (de_dr W__law_node hg (hr.mono le__law_node) (by rfl) t._law_node.m t._law_node.F.kp t._law_node.b (da_cons (de_var 0) (da_cons (de_var 1) (da_cons de_int da_nil)))) da_nil)) (da_cons (de_tup (da_cons (de_dr W__law_node hg (hr.mono le__law_node) (by rfl) t._law_node.m t._law_node.F.kp t._law_node.b (da_cons (de_var 0) (da_cons (de_var 1) (da_cons de_int da_nil)))) da_nil)) (da_cons (de_dr W__law_forest hg (hr.mono le__law_forest) (by rfl) t._law_forest.m t._law_forest.F.kp t._law_forest.b (da_cons (de_var 0) (da_cons (de_var 1) (da_cons de_int da_nil)))) (da_cons (de_dr W__law_forest hg (hr.mono le__law_forest) (by rfl) t._law_forest.m t._law_forest.F.kp t._law_forest.b (da_cons (de_var 0) (da_cons (de_var 1) (da_cons de_int da_nil)))) da_nil))))))) da_nil))))))
theorem wlaw (t : Txt K mg C) {n k lv__law_any lv__law_drawn lv__law_effect lv__law_names lv__law_of_plain lv__law_of_table lv__law_some lv__law_source lv__law_state lv_both_effects lv_effect_of lv_is_one_taken : Nat} (W__law_any : DFn P w K mg base lv__law_any t._law_any.f t._law_any.fd ["draws", "bound"] (D2.Spec.dr A_law_any P_law_any R_law_any)) (le__law_any : lv__law_any ≤ k) (W__law_drawn : DFn P w K mg base lv__law_drawn t._law_drawn.f t._law_drawn.fd ["draws", "names", "most"] (D2.Spec.dr A_law_drawn P_law_drawn R_law_drawn)) (le__law_drawn : lv__law_drawn ≤ k) (W__law_effect : DFn P w K mg base lv__law_effect t._law_effect.f t._law_effect.fd ["plain", "forest"] (D2.Spec.fn (A_law_effect) P_law_effect R_law_effect)) (le__law_effect : lv__law_effect ≤ k) (W__law_names : DFn P w K mg base lv__law_names t._law_names.f t._law_names.fd ["draws", "many"] (D2.Spec.dr A_law_names P_law_names R_law_names)) (le__law_names : lv__law_names ≤ k) (W__law_of_plain : DFn P w K mg base lv__law_of_plain t._law_of_plain.f t._law_of_plain.fd ["plain"] (D2.Spec.fn (A_law_of_plain) P_law_of_plain (R_law_of_plain C))) (le__law_of_plain : lv__law_of_plain ≤ k) (W__law_of_table : DFn P w K mg base lv__law_of_table t._law_of_table.f t._law_of_table.fd ["table"] (D2.Spec.fn (A_law_of_table C) P_law_of_table R_law_of_table)) (le__law_of_table : lv__law_of_table ≤ k) (W__law_some : DFn P w K mg base lv__law_some t._law_some.f t._law_some.fd ["draws", "names"] (D2.Spec.dr A_law_some P_law_some R_law_some)) (le__law_some : lv__law_some ≤ k) (W__law_source : DFn P w K mg base lv__law_source t._law_source.f t._law_source.fd ["script", "salt"] (S_law_source)) (le__law_source : lv__law_source ≤ k) (W__law_state : DFn P w K mg base lv__law_state t._law_state.f t._law_state.fd ["plain", "node"] (D2.Spec.fn A_law_state (P_law_state n) R_law_state)) (le__law_state : lv__law_state ≤ k) (W_both_effects : DFn P w K mg base lv_both_effects t.both_effects.f t.both_effects.fd ["one", "other"] (D2.Spec.fn (A_both_effects) P_both_effects R_both_effects)) (le_both_effects : lv_both_effects ≤ k) (W_effect_of : DFn P w K mg base lv_effect_of t.effect_of.f t.effect_of.fd ["table", "forest"] (D2.Spec.fn (A_effect_of C) P_effect_of R_effect_of)) (le_effect_of : lv_effect_of ≤ k) (W_is_one_taken : DFn P w K mg base lv_is_one_taken t.is_one_taken.f t.is_one_taken.fd ["table", "effect"] (D2.Spec.fn (A_is_one_taken C) P_is_one_taken R_is_one_taken)) (le_is_one_taken : lv_is_one_taken ≤ k) (p : PL Nlaw (Wlaw C n) (sLaw0)) : DFn P w K mg base (k + 1) t.law.f t.law.fd ["script"] (sLaw0) := by
  refine dfn_of t.law.F sclaw (fun i h => rfl) fun cdv A outer s H E hg hr => ⟨_, ?_, p⟩
  have hu := hr.units
  have sc := sclaw
  exact ((dss_cons (ds_set (i := 1) sc.nd rfl (.inl rfl) (de_call W__law_source hg (hr.mono le__law_source) (by rfl) t._law_source.m t._law_source.F.kp t._law_source.b (da_cons (de_var 0) (da_cons de_int da_nil))))
      (dss_cons (ds_for (t := (.one 2)) PassesOwn.never rfl (di_range1 (by rfl) t.n_range (da_cons de_int da_nil)) (pg_name (i := 2) sc.nd rfl (.inl rfl)) (dss_cons (ds_set (i := 3) sc.nd rfl (.inl rfl) (de_dr W__law_drawn hg (hr.mono le__law_drawn) (by rfl) t._law_drawn.m t._law_drawn.F.kp t._law_drawn.b (da_cons (de_var 1) (da_cons (de_dr W__law_names hg (hr.mono le__law_names) (by rfl) t._law_names.m t._law_names.F.kp t._law_names.b (da_cons (de_var 1) (da_cons (de_op od_add de_int (de_dr W__law_any hg (hr.mono le__law_any) (by rfl) t._law_any.m t._law_any.F.kp t._law_any.b (da_cons (de_var 1) (da_cons de_int da_nil)))) da_nil))) (da_cons de_int da_nil)))))
      (dss_cons (ds_par (i := 4) (j := 5) rfl sc.nd rfl rfl (by decide) rfl rfl (de_fn W__law_of_plain hg (hr.mono le__law_of_plain) (by rfl) t._law_of_plain.m t._law_of_plain.F.kp t._law_of_plain.b (da_cons (de_var 3) da_nil)) ((dn_callTy cn_list (by rfl) t.n_list (by decide +kernel) (da_cons (de_ix (de_var 3) de_int) da_nil))).rol (by rfl))
      (dss_cons (ds_for (t := (.one 6)) PassesOwn.never rfl (di_range1 (by rfl) t.n_range (da_cons de_int da_nil)) (pg_name (i := 6) sc.nd rfl (.inl rfl)) (dss_cons (ds_par (i := 7) (j := 8) rfl sc.nd rfl rfl (by decide) rfl rfl (de_dr W__law_some hg (hr.mono le__law_some) (by rfl) t._law_some.m t._law_some.F.kp t._law_some.b (da_cons (de_var 1) (da_cons (de_var 5) da_nil))) (de_dr W__law_some hg (hr.mono le__law_some) (by rfl) t._law_some.m t._law_some.F.kp t._law_some.b (da_cons (de_var 1) (da_cons (de_var 5) da_nil))) (by rfl))
      (dss_cons (ds_par3 (i := 9) (j := 10) (l := 11) (fun h => ps_par3 rfl sc.nd rfl rfl rfl (by decide) (by decide) (by decide) rfl rfl rfl h (by rfl)) (de_fn W__law_effect hg (hr.mono le__law_effect) (by rfl) t._law_effect.m t._law_effect.F.kp t._law_effect.b (da_cons (de_var 3) (da_cons (de_var 7) da_nil))) (de_fn W__law_effect hg (hr.mono le__law_effect) (by rfl) t._law_effect.m t._law_effect.F.kp t._law_effect.b (da_cons (de_var 3) (da_cons (de_var 8) da_nil))) (de_fn W__law_effect hg (hr.mono le__law_effect) (by rfl) t._law_effect.m t._law_effect.F.kp t._law_effect.b (da_cons (de_var 3) (da_cons (de_op od_add (de_var 7) (de_var 8)) da_nil))))
      (dss_cons (ds_if (dt_cmp (od_ne hu) (de_callB (cd_repr hg hu) (by rfl) t.n_repr (by decide +kernel) (da_cons (de_rol (da_cons (de_fn W_effect_of hg (hr.mono le_effect_of) (by rfl) t.effect_of.m t.effect_of.F.kp t.effect_of.b (da_cons (de_var 4) (da_cons (de_var 7) da_nil))) (da_cons (de_fn0 (gD := (ordL [1, 0])) (g := (ordL [1, 0])) (gV := (ordL [1, 0])) (ks := ["forest", "table"]) W_effect_of hg (hr.mono le_effect_of) (by rfl) t.effect_of.m t.effect_of.F.kp (kb_by t.effect_of.F fun _ _ _ _ _ _ us ws h1 h2 => match us, ws, h1, h2 with | [], [_, _], _, _ => rfl) (grel_ord _) (dk_cons (de_var 8) (dk_cons (de_var 4) dk_nil))) da_nil))) da_nil)) (de_callB (cd_repr hg hu) (by rfl) t.n_repr (by decide +kernel) (da_cons (de_rol (da_cons (de_var 9) (da_cons (de_var 10) da_nil))) da_nil)) (nomark _)) (dss_one (ds_ret de_bl)) dss_nil)
      (dss_cons (ds_if ((dw_or (dt_cmp (od_ne hu) (de_callB (cd_repr hg hu) (by rfl) t.n_repr (by decide +kernel) (da_cons (de_fn W_both_effects hg (hr.mono le_both_effects) (by rfl) t.both_effects.m t.both_effects.F.kp t.both_effects.b (da_cons (de_var 9) (da_cons (de_var 10) da_nil))) da_nil)) (de_callB (cd_repr hg hu) (by rfl) t.n_repr (by decide +kernel) (da_cons (de_var 11) da_nil)) (nomark _)) (dw_one (dt_cmp (od_ne hu) (de_callB (cd_repr hg hu) (by rfl) t.n_repr (by decide +kernel) (da_cons (de_fn0 (gD := (ordL [1, 0])) (g := (ordL [1, 0])) (gV := (ordL [1, 0])) (ks := ["other", "one"]) W_both_effects hg (hr.mono le_both_effects) (by rfl) t.both_effects.m t.both_effects.F.kp (kb_by t.both_effects.F fun _ _ _ _ _ _ us ws h1 h2 => match us, ws, h1, h2 with | [], [_, _], _, _ => rfl) (grel_ord _) (dk_cons (de_var 10) (dk_cons (de_var 9) dk_nil))) da_nil)) (de_callB (cd_repr hg hu) (by rfl) t.n_repr (by decide +kernel) (da_cons (de_fn W_effect_of hg (hr.mono le_effect_of) (by rfl) t.effect_of.m t.effect_of.F.kp t.effect_of.b (da_cons (de_var 4) (da_cons (de_op od_add (de_var 7) (de_var 8)) da_nil))) da_nil)) (nomark _))))).dt (dss_one (ds_ret de_bl)) dss_nil)
      (dss_cons (ds_set (i := 12) sc.nd rfl (.inl rfl) (de_and (de_cmp (od_eq hu) (de_callB cd_len (by rfl) t.n_len (by decide +kernel) (da_cons (de_var 7) da_nil)) de_int (nomark _)) (de_and (de_not (de_isi .str (by rfl) t.n_isinstance (by rfl) t.n_str (by decide +kernel) (de_ix (de_var 7) de_int))) (de_one (de_cmp (od_in false) (de_fn W__law_state hg (hr.mono le__law_state) (by rfl) t._law_state.m t._law_state.F.kp t._law_state.b (da_cons (de_var 3) (da_cons (de_ix (de_var 7) de_int) da_nil))) (de_ix (de_var 3) de_int) (by with_unfolding_all rfl))))))
      (dss_one (ds_if ((dw_or (dt_cmp (od_ne hu) (de_callB (cd_repr hg hu) (by rfl) t.n_repr (by decide +kernel) (da_cons (de_fn W_is_one_taken hg (hr.mono le_is_one_taken) (by rfl) t.is_one_taken.m t.is_one_taken.F.kp t.is_one_taken.b (da_cons (de_var 4) (da_cons (de_var 9) da_nil))) da_nil)) (de_callB (cd_repr hg hu) (by rfl) t.n_repr (by decide +kernel) (da_cons (de_var 12) da_nil)) (nomark _)) (dw_one (dt_cmp (od_ne hu) (de_fn0 (gD := (ordL [1, 0])) (g := (ordL [1, 0])) (gV := (ordL [1, 0])) (ks := ["effect", "table"]) W_is_one_taken hg (hr.mono le_is_one_taken) (by rfl) t.is_one_taken.m t.is_one_taken.F.kp (kb_by t.is_one_taken.F fun _ _ _ _ _ _ us ws h1 h2 => match us, ws, h1, h2 with | [], [_, _], _, _ => rfl) (grel_ord _) (dk_cons (de_var 9) (dk_cons (de_var 4) dk_nil))) (de_var 12) (nomark _))))).dt (dss_one (ds_ret de_bl)) dss_nil))))))))
      (dss_one (ds_if (dt_cmp (od_ne hu) (de_callB (cd_repr hg hu) (by rfl) t.n_repr (by decide +kernel) (da_cons (de_fn W__law_of_table hg (hr.mono le__law_of_table) (by rfl) t._law_of_table.m t._law_of_table.F.kp t._law_of_table.b (da_cons (de_var 4) da_nil)) da_nil)) (de_callB (cd_repr hg hu) (by rfl) t.n_repr (by decide +kernel) (da_cons (de_var 3) da_nil)) (nomark _)) (dss_one (ds_ret de_bl)) dss_nil))))))
      (dss_one (ds_ret de_bl)))))
end
end K56

namespace K56
open PySem PySem.Spec PyProof.Rows L2 D2
section
variable {P : Program} {w : World} {K : PySem.W.Frag} {mg : Str → Option Value} {base : Heap} {C : Addr}
theorem scI : FnScope ["self", "names", "begins", "texts", "steps", "ends"] ["self", "names", "begins", "texts", "steps", "ends"] (defScope sInit) := ⟨rfl, rfl, rfl, by decide +kernel, rfl, by decide +kernel, by decide +kernel⟩
theorem put5 (a b c d e : V) : putF "ends" e (putF "steps" d (putF "texts" c (putF "begins" b (putF "names" a [])))) = fns.zip [a, b, c, d, e] := by
  have e01 : ¬ (("names" : Str) = "begins") := by decide +kernel
  have e02 : ¬ (("names" : Str) = "texts") := by decide +kernel
  have e03 : ¬ (("names" : Str) = "steps") := by decide +kernel
  have e04 : ¬ (("names" : Str) = "ends") := by decide +kernel
  have e12 : ¬ (("begins" : Str) = "texts") := by decide +kernel
  have e13 : ¬ (("begins" : Str) = "steps") := by decide +kernel
  have e14 : ¬ (("begins" : Str) = "ends") := by decide +kernel
  have e23 : ¬ (("texts" : Str) = "steps") := by decide +kernel
  have e24 : ¬ (("texts" : Str) = "ends") := by decide +kernel
  have e34 : ¬ (("steps" : Str) = "ends") := by decide +kernel
  simp only [putF, if_neg e01, if_neg e02, if_neg e03, if_neg e04, if_neg e12, if_neg e13, if_neg e14, if_neg e23, if_neg e24, if_neg e34]
  try rfl
theorem w_init (t : Txt K mg C) : FnOk P w K mg base CX0 1 t.fI t.dI ["self", "names", "begins", "texts", "steps", "ends"] (spIni C ["names", "begins", "texts", "steps", "ends"]) := by
  refine t.FI.ok scI (fun vs H Q E h => ?_) (fun cdv A outer s H vs Q E hr h => ?_)
  · obtain ⟨p, dx, as, rfl, hl, _⟩ := h
    simp [hl]
  · obtain ⟨p, dx, as, rfl, hl, hp, k⟩ := h
    match as, hl with
    | [a, b, c, d, e], _ =>
      have q1 : (putF ("names" : Str) a []).length ≤ 1 := length_putF ("names" : Str) a []
      have q2 := length_putF ("begins" : Str) b (putF ("names" : Str) a [])
      have q3 := length_putF ("texts" : Str) c (putF ("begins" : Str) b (putF ("names" : Str) a []))
      have q4 := length_putF ("steps" : Str) d (putF ("texts" : Str) c (putF ("begins" : Str) b (putF ("names" : Str) a [])))
      refine ⟨_, pss_cons (ps_fld (pv 0) (pv 1) rfl) (pss_cons (ps_fld (pv 0) (pv 2) rfl) (pss_cons (ps_fld (pv 0) (pv 3) rfl) (pss_cons (ps_fld (pv 0) (pv 4) rfl) (pss_one (ps_fld (pv 0) (pv 5) rfl))))), ?_⟩
      refine ⟨a, rfl, .ref p, rfl, p, C, dx, [], rfl, hp, t.cls, t.no_names, by show 0 < 1000; decide, b, rfl, .ref p, rfl, p, C, dx, _, rfl, upd_same, t.cls, t.no_begins, by show 1 < 1000; decide, c, rfl, .ref p, rfl, p, C, dx, _, rfl, upd_same, t.cls, t.no_texts, ?_, d, rfl, .ref p, rfl, p, C, dx, _, rfl, upd_same, t.cls, t.no_steps, ?_, e, rfl, .ref p, rfl, p, C, dx, _, rfl, upd_same, t.cls, t.no_ends, ?_, ?_⟩
      · omega
      · omega
      · omega
      · rw [upd_upd, upd_upd, upd_upd, upd_upd, put5]
        exact k
theorem lv_law_on (t : Txt K mg C) : ∀ n : Nat, DFn P w K mg base (2 * n + 1) t._law_on.f t._law_on.fd ["plain", "state", "forest"] (D2.Spec.fn A_law_on (P_law_on n) R_law_on) ∧ DFn P w K mg base (2 * n + 2) t._law_state.f t._law_state.fd ["plain", "node"] (D2.Spec.fn A_law_state (P_law_state n) R_law_state) := by
  intro n
  have up : ∀ n, DFn P w K mg base (2 * n + 1) t._law_on.f t._law_on.fd ["plain", "state", "forest"] (D2.Spec.fn A_law_on (P_law_on n) R_law_on) → DFn P w K mg base (2 * n + 2) t._law_state.f t._law_state.fd ["plain", "node"] (D2.Spec.fn A_law_state (P_law_state n) R_law_state) := fun n h => w_law_state t (n := n) (k := 2 * n + 1) h (Nat.le_refl _) (p_law_state n)
  induction n with
  | zero =>
    have z : DFn P w K mg base (2 * 0 + 1) t._law_on.f t._law_on.fd ["plain", "state", "forest"] (D2.Spec.fn A_law_on (P_law_on 0) R_law_on) := dfn_never fun i hp => Nat.not_lt_zero _ hp.2.2.2
    exact ⟨z, up 0 z⟩
  | succ n ih =>
    have z : DFn P w K mg base (2 * (n + 1) + 1) t._law_on.f t._law_on.fd ["plain", "state", "forest"] (D2.Spec.fn A_law_on (P_law_on (n + 1)) R_law_on) := w_law_on t (n := n) (k := 2 * n + 2) ih.2 (Nat.le_refl _) (p_law_on n)
    exact ⟨z, up (n + 1) z⟩
theorem lvstate_behind (t : Txt K mg C) : ∀ n : Nat, DFn P w K mg base (2 * n + 1) t.state_behind.f t.state_behind.fd ["table", "state", "forest"] (D2.Spec.fn (A_state_behind C) (P_law_on n) R_law_on) ∧ DFn P w K mg base (2 * n + 2) t.state_of.f t.state_of.fd ["table", "node"] (D2.Spec.fn (A_state_of C) (P_law_state n) R_law_state) := by
  intro n
  have up : ∀ n, DFn P w K mg base (2 * n + 1) t.state_behind.f t.state_behind.fd ["table", "state", "forest"] (D2.Spec.fn (A_state_behind C) (P_law_on n) R_law_on) → DFn P w K mg base (2 * n + 2) t.state_of.f t.state_of.fd ["table", "node"] (D2.Spec.fn (A_state_of C) (P_law_state n) R_law_state) := fun n h => wstate_of t (n := n) (k := 2 * n + 1) h (Nat.le_refl _) (p_state_of C n)
  induction n with
  | zero =>
    have z : DFn P w K mg base (2 * 0 + 1) t.state_behind.f t.state_behind.fd ["table", "state", "forest"] (D2.Spec.fn (A_state_behind C) (P_law_on 0) R_law_on) := dfn_never fun i hp => Nat.not_lt_zero _ hp.2.2.2
    exact ⟨z, up 0 z⟩
  | succ n ih =>
    have z : DFn P w K mg base (2 * (n + 1) + 1) t.state_behind.f t.state_behind.fd ["table", "state", "forest"] (D2.Spec.fn (A_state_behind C) (P_law_on (n + 1)) R_law_on) := wstate_behind t (n := n) (k := 2 * n + 2) ih.2 (Nat.le_refl _) (p_state_behind C n)
    exact ⟨z, up (n + 1) z⟩
theorem all_law (t : Txt K mg C) : DFn P w K mg base 28 t.law.f t.law.fd ["script"] (sLaw0) := by
  have h_law_on : DFn P w K mg base 25 t._law_on.f t._law_on.fd ["plain", "state", "forest"] (D2.Spec.fn A_law_on (P_law_on 12) R_law_on) := (lv_law_on t 12).1
  have h_law_state : DFn P w K mg base 26 t._law_state.f t._law_state.fd ["plain", "node"] (D2.Spec.fn A_law_state (P_law_state 12) R_law_state) := (lv_law_on t 12).2
  have hstate_behind : DFn P w K mg base 25 t.state_behind.f t.state_behind.fd ["table", "state", "forest"] (D2.Spec.fn (A_state_behind C) (P_law_on 12) R_law_on) := (lvstate_behind t 12).1
  have hstate_of : DFn P w K mg base 26 t.state_of.f t.state_of.fd ["table", "node"] (D2.Spec.fn (A_state_of C) (P_law_state 12) R_law_state) := (lvstate_behind t 12).2
  have h_law_any : DFn P w K mg base 1 t._law_any.f t._law_any.fd ["draws", "bound"] (D2.Spec.dr A_law_any P_law_any R_law_any) := w_law_any t (n := 12) (k := 0) (p_law_any)
  have h_law_of : DFn P w K mg base 2 t._law_of.f t._law_of.fd ["draws", "some"] (D2.Spec.dr A_law_of P_law_of R_law_of) := w_law_of t (n := 12) (k := 1) h_law_any (by decide) (p_law_of)
  have h_law_names : DFn P w K mg base 3 t._law_names.f t._law_names.fd ["draws", "many"] (D2.Spec.dr A_law_names P_law_names R_law_names) := w_law_names t (n := 12) (k := 2) h_law_any (by decide) h_law_of (by decide) (p_law_names)
  have h_law_text : DFn P w K mg base 3 t._law_text.f t._law_text.fd ["draws"] (D2.Spec.dr A_law_text P_law_text R_law_text) := w_law_text t (n := 12) (k := 2) h_law_of (by decide) (p_law_text)
  have h_law_shut : DFn P w K mg base 1 t._law_shut.f t._law_shut.fd ["stack"] (S_law_shut) := w_law_shut t (n := 12) (k := 0) (p_law_shut)
  have h_law_forest : DFn P w K mg base 4 t._law_forest.f t._law_forest.fd ["draws", "names", "most"] (D2.Spec.dr A_law_forest P_law_forest R_law_forest) := w_law_forest t (n := 12) (k := 3) h_law_any (by decide) h_law_of (by decide) h_law_shut (by decide) h_law_text (by decide) (p_law_forest)
  have h_law_node : DFn P w K mg base 5 t._law_node.f t._law_node.fd ["draws", "names", "most"] (D2.Spec.dr A_law_node P_law_node R_law_node) := w_law_node t (n := 12) (k := 4) h_law_forest (by decide) h_law_of (by decide) (p_law_node)
  have h_law_drawn : DFn P w K mg base 3 t._law_drawn.f t._law_drawn.fd ["draws", "names", "most"] (D2.Spec.dr A_law_drawn P_law_drawn R_law_drawn) := w_law_drawn t (n := 12) (k := 2) h_law_any (by decide) h_law_of (by decide) (p_law_drawn)
  have h_law_source : DFn P w K mg base 1 t._law_source.f t._law_source.fd ["script", "salt"] (S_law_source) := w_law_source t (n := 12) (k := 0) (p_law_source)
  have h_law_some : DFn P w K mg base 6 t._law_some.f t._law_some.fd ["draws", "names"] (D2.Spec.dr A_law_some P_law_some R_law_some) := w_law_some t (n := 12) (k := 5) h_law_forest (by decide) h_law_node (by decide) h_law_of (by decide) (p_law_some)
  have h_law_of_table : DFn P w K mg base 1 t._law_of_table.f t._law_of_table.fd ["table"] (D2.Spec.fn (A_law_of_table C) P_law_of_table R_law_of_table) := w_law_of_table t (n := 12) (k := 0) (p_law_of_table C)
  have hno_effect : DFn P w K mg base 1 t.no_effect.f t.no_effect.fd ["table"] (D2.Spec.fn (A_no_effect C) P_no_effect R_no_effect) := wno_effect t (n := 12) (k := 0) (p_no_effect C)
  have htext_effect : DFn P w K mg base 1 t.text_effect.f t.text_effect.fd ["table"] (D2.Spec.fn (A_text_effect C) P_text_effect R_text_effect) := wtext_effect t (n := 12) (k := 0) (p_text_effect C)
  have hnode_effect : DFn P w K mg base 1 t.node_effect.f t.node_effect.fd ["table", "state"] (D2.Spec.fn (A_node_effect C) P_node_effect R_node_effect) := wnode_effect t (n := 12) (k := 0) (p_node_effect C)
  have hboth_effects : DFn P w K mg base 1 t.both_effects.f t.both_effects.fd ["one", "other"] (D2.Spec.fn (A_both_effects) P_both_effects R_both_effects) := wboth_effects t (n := 12) (k := 0) (p_both_effects)
  have his_one_taken : DFn P w K mg base 1 t.is_one_taken.f t.is_one_taken.fd ["table", "effect"] (D2.Spec.fn (A_is_one_taken C) P_is_one_taken R_is_one_taken) := wis_one_taken t (n := 12) (k := 0) (p_is_one_taken C)
  have h_law_of_plain : DFn P w K mg base 3 t._law_of_plain.f t._law_of_plain.fd ["plain"] (D2.Spec.fn (A_law_of_plain) P_law_of_plain (R_law_of_plain C)) := w_law_of_plain t (n := 12) (k := 2) (w_init t) (by decide) (p_law_of_plain C)
  have heffect_of : DFn P w K mg base 27 t.effect_of.f t.effect_of.fd ["table", "forest"] (D2.Spec.fn (A_effect_of C) P_effect_of R_effect_of) := weffect_of t (n := 12) (k := 26) hboth_effects (by decide) hno_effect (by decide) hnode_effect (by decide) hstate_of (by decide) htext_effect (by decide) (p_effect_of C)
  have h_law_effect : DFn P w K mg base 27 t._law_effect.f t._law_effect.fd ["plain", "forest"] (D2.Spec.fn (A_law_effect) P_law_effect R_law_effect) := w_law_effect t (n := 12) (k := 26) h_law_on (by decide) h_law_state (by decide) (p_law_effect)
  have hlaw : DFn P w K mg base 28 t.law.f t.law.fd ["script"] (sLaw0) := wlaw t (n := 12) (k := 27) h_law_any (by decide) h_law_drawn (by decide) h_law_effect (by decide) h_law_names (by decide) h_law_of_plain (by decide) h_law_of_table (by decide) h_law_some (by decide) h_law_source (by decide) h_law_state (by decide) hboth_effects (by decide) heffect_of (by decide) his_one_taken (by decide) (p_law C)
  exact hlaw
end
theorem all_mk {l : PySem.W.OpenLaw} {w : World} {K : PySem.W.Frag} {h : Heap} {mg : Str → Option Value} {fa : Addr} (X : K.In h) (G : h.Ns mainGlobals mg) (hfa : mg "law" = some (.ref fa))
    {od0 an0 : Option Addr} {sl0 : Array (Option Value)} {oc0 kV0 dc0 pm0 cd0 ct0 : Value} {f0 : Addr} (a0 : PySem.W.nsIn K mainGlobals "_law_source" = some (some (.ref f0))) (l0 : K.lookup f0 = some ⟨oc0, od0, .func (PySem.W.fnOf "_law_source" "_law_source" (defArgs s_law_source) (defBody s_law_source) (defScope s_law_source) .none kV0 dc0 pm0 an0 cd0 ct0), sl0⟩) (c0 : PySem.W.codeIn K cd0 "_law_source" = true) (k0 : PySem.W.keepIn K (.ref f0) = true)
    {od1 an1 : Option Addr} {sl1 : Array (Option Value)} {oc1 kV1 dc1 pm1 cd1 ct1 : Value} {f1 : Addr} (a1 : PySem.W.nsIn K mainGlobals "_law_any" = some (some (.ref f1))) (l1 : K.lookup f1 = some ⟨oc1, od1, .func (PySem.W.fnOf "_law_any" "_law_any" (defArgs s_law_any) (defBody s_law_any) (defScope s_law_any) .none kV1 dc1 pm1 an1 cd1 ct1), sl1⟩) (c1 : PySem.W.codeIn K cd1 "_law_any" = true) (k1 : PySem.W.keepIn K (.ref f1) = true)
    {od2 an2 : Option Addr} {sl2 : Array (Option Value)} {oc2 kV2 dc2 pm2 cd2 ct2 : Value} {f2 : Addr} (a2 : PySem.W.nsIn K mainGlobals "_law_of" = some (some (.ref f2))) (l2 : K.lookup f2 = some ⟨oc2, od2, .func (PySem.W.fnOf "_law_of" "_law_of" (defArgs s_law_of) (defBody s_law_of) (defScope s_law_of) .none kV2 dc2 pm2 an2 cd2 ct2), sl2⟩) (c2 : PySem.W.codeIn K cd2 "_law_of" = true) (k2 : PySem.W.keepIn K (.ref f2) = true)
    {od3 an3 : Option Addr} {sl3 : Array (Option Value)} {oc3 kV3 dc3 pm3 cd3 ct3 : Value} {f3 : Addr} (a3 : PySem.W.nsIn K mainGlobals "_law_names" = some (some (.ref f3))) (l3 : K.lookup f3 = some ⟨oc3, od3, .func (PySem.W.fnOf "_law_names" "_law_names" (defArgs s_law_names) (defBody s_law_names) (defScope s_law_names) .none kV3 dc3 pm3 an3 cd3 ct3), sl3⟩) (c3 : PySem.W.codeIn K cd3 "_law_names" = true) (k3 : PySem.W.keepIn K (.ref f3) = true)
    {od4 an4 : Option Addr} {sl4 : Array (Option Value)} {oc4 kV4 dc4 pm4 cd4 ct4 : Value} {f4 : Addr} (a4 : PySem.W.nsIn K mainGlobals "_law_text" = some (some (.ref f4))) (l4 : K.lookup f4 = some ⟨oc4, od4, .func (PySem.W.fnOf "_law_text" "_law_text" (defArgs s_law_text) (defBody s_law_text) (defScope s_law_text) .none kV4 dc4 pm4 an4 cd4 ct4), sl4⟩) (c4 : PySem.W.codeIn K cd4 "_law_text" = true) (k4 : PySem.W.keepIn K (.ref f4) = true)
    {od5 an5 : Option Addr} {sl5 : Array (Option Value)} {oc5 kV5 dc5 pm5 cd5 ct5 : Value} {f5 : Addr} (a5 : PySem.W.nsIn K mainGlobals "_law_shut" = some (some (.ref f5))) (l5 : K.lookup f5 = some ⟨oc5, od5, .func (PySem.W.fnOf "_law_shut" "_law_shut" (defArgs s_law_shut) (defBody s_law_shut) (defScope s_law_shut) .none kV5 dc5 pm5 an5 cd5 ct5), sl5⟩) (c5 : PySem.W.codeIn K cd5 "_law_shut" = true) (k5 : PySem.W.keepIn K (.ref f5) = true)
    {od6 an6 : Option Addr} {sl6 : Array (Option Value)} {oc6 kV6 dc6 pm6 cd6 ct6 : Value} {f6 : Addr} (a6 : PySem.W.nsIn K mainGlobals "_law_forest" = some (some (.ref f6))) (l6 : K.lookup f6 = some ⟨oc6, od6, .func (PySem.W.fnOf "_law_forest" "_law_forest" (defArgs s_law_forest) (defBody s_law_forest) (defScope s_law_forest) .none kV6 dc6 pm6 an6 cd6 ct6), sl6⟩) (c6 : PySem.W.codeIn K cd6 "_law_forest" = true) (k6 : PySem.W.keepIn K (.ref f6) = true)
    {od7 an7 : Option Addr} {sl7 : Array (Option Value)} {oc7 kV7 dc7 pm7 cd7 ct7 : Value} {f7 : Addr} (a7 : PySem.W.nsIn K mainGlobals "_law_node" = some (some (.ref f7))) (l7 : K.lookup f7 = some ⟨oc7, od7, .func (PySem.W.fnOf "_law_node" "_law_node" (defArgs s_law_node) (defBody s_law_node) (defScope s_law_node) .none kV7 dc7 pm7 an7 cd7 ct7), sl7⟩) (c7 : PySem.W.codeIn K cd7 "_law_node" = true) (k7 : PySem.W.keepIn K (.ref f7) = true)
    {od8 an8 : Option Addr} {sl8 : Array (Option Value)} {oc8 kV8 dc8 pm8 cd8 ct8 : Value} {f8 : Addr} (a8 : PySem.W.nsIn K mainGlobals "_law_drawn" = some (some (.ref f8))) (l8 : K.lookup f8 = some ⟨oc8, od8, .func (PySem.W.fnOf "_law_drawn" "_law_drawn" (defArgs s_law_drawn) (defBody s_law_drawn) (defScope s_law_drawn) .none kV8 dc8 pm8 an8 cd8 ct8), sl8⟩) (c8 : PySem.W.codeIn K cd8 "_law_drawn" = true) (k8 : PySem.W.keepIn K (.ref f8) = true)
    {od9 an9 : Option Addr} {sl9 : Array (Option Value)} {oc9 kV9 dc9 pm9 cd9 ct9 : Value} {f9 : Addr} (a9 : PySem.W.nsIn K mainGlobals "_law_on" = some (some (.ref f9))) (l9 : K.lookup f9 = some ⟨oc9, od9, .func (PySem.W.fnOf "_law_on" "_law_on" (defArgs s_law_on) (defBody s_law_on) (defScope s_law_on) .none kV9 dc9 pm9 an9 cd9 ct9), sl9⟩) (c9 : PySem.W.codeIn K cd9 "_law_on" = true) (k9 : PySem.W.keepIn K (.ref f9) = true)
    {od10 an10 : Option Addr} {sl10 : Array (Option Value)} {oc10 kV10 dc10 pm10 cd10 ct10 : Value} {f10 : Addr} (a10 : PySem.W.nsIn K mainGlobals "_law_state" = some (some (.ref f10))) (l10 : K.lookup f10 = some ⟨oc10, od10, .func (PySem.W.fnOf "_law_state" "_law_state" (defArgs s_law_state) (defBody s_law_state) (defScope s_law_state) .none kV10 dc10 pm10 an10 cd10 ct10), sl10⟩) (c10 : PySem.W.codeIn K cd10 "_law_state" = true) (k10 : PySem.W.keepIn K (.ref f10) = true)
    {od11 an11 : Option Addr} {sl11 : Array (Option Value)} {oc11 kV11 dc11 pm11 cd11 ct11 : Value} {f11 : Addr} (a11 : PySem.W.nsIn K mainGlobals "state_behind" = some (some (.ref f11))) (l11 : K.lookup f11 = some ⟨oc11, od11, .func (PySem.W.fnOf "state_behind" "state_behind" (defArgs sstate_behind) (defBody sstate_behind) (defScope sstate_behind) .none kV11 dc11 pm11 an11 cd11 ct11), sl11⟩) (c11 : PySem.W.codeIn K cd11 "state_behind" = true) (k11 : PySem.W.keepIn K (.ref f11) = true)
    {od12 an12 : Option Addr} {sl12 : Array (Option Value)} {oc12 kV12 dc12 pm12 cd12 ct12 : Value} {f12 : Addr} (a12 : PySem.W.nsIn K mainGlobals "state_of" = some (some (.ref f12))) (l12 : K.lookup f12 = some ⟨oc12, od12, .func (PySem.W.fnOf "state_of" "state_of" (defArgs sstate_of) (defBody sstate_of) (defScope sstate_of) .none kV12 dc12 pm12 an12 cd12 ct12), sl12⟩) (c12 : PySem.W.codeIn K cd12 "state_of" = true) (k12 : PySem.W.keepIn K (.ref f12) = true)
    {od13 an13 : Option Addr} {sl13 : Array (Option Value)} {oc13 kV13 dc13 pm13 cd13 ct13 : Value} {f13 : Addr} (a13 : PySem.W.nsIn K mainGlobals "_law_of_table" = some (some (.ref f13))) (l13 : K.lookup f13 = some ⟨oc13, od13, .func (PySem.W.fnOf "_law_of_table" "_law_of_table" (defArgs s_law_of_table) (defBody s_law_of_table) (defScope s_law_of_table) .none kV13 dc13 pm13 an13 cd13 ct13), sl13⟩) (c13 : PySem.W.codeIn K cd13 "_law_of_table" = true) (k13 : PySem.W.keepIn K (.ref f13) = true)
    {od14 an14 : Option Addr} {sl14 : Array (Option Value)} {oc14 kV14 dc14 pm14 cd14 ct14 : Value} {f14 : Addr} (a14 : PySem.W.nsIn K mainGlobals "_law_of_plain" = some (some (.ref f14))) (l14 : K.lookup f14 = some ⟨oc14, od14, .func (PySem.W.fnOf "_law_of_plain" "_law_of_plain" (defArgs s_law_of_plain) (defBody s_law_of_plain) (defScope s_law_of_plain) .none kV14 dc14 pm14 an14 cd14 ct14), sl14⟩) (c14 : PySem.W.codeIn K cd14 "_law_of_plain" = true) (k14 : PySem.W.keepIn K (.ref f14) = true)
    {od15 an15 : Option Addr} {sl15 : Array (Option Value)} {oc15 kV15 dc15 pm15 cd15 ct15 : Value} {f15 : Addr} (a15 : PySem.W.nsIn K mainGlobals "no_effect" = some (some (.ref f15))) (l15 : K.lookup f15 = some ⟨oc15, od15, .func (PySem.W.fnOf "no_effect" "no_effect" (defArgs sno_effect) (defBody sno_effect) (defScope sno_effect) .none kV15 dc15 pm15 an15 cd15 ct15), sl15⟩) (c15 : PySem.W.codeIn K cd15 "no_effect" = true) (k15 : PySem.W.keepIn K (.ref f15) = true)
    {od16 an16 : Option Addr} {sl16 : Array (Option Value)} {oc16 kV16 dc16 pm16 cd16 ct16 : Value} {f16 : Addr} (a16 : PySem.W.nsIn K mainGlobals "text_effect" = some (some (.ref f16))) (l16 : K.lookup f16 = some ⟨oc16, od16, .func (PySem.W.fnOf "text_effect" "text_effect" (defArgs stext_effect) (defBody stext_effect) (defScope stext_effect) .none kV16 dc16 pm16 an16 cd16 ct16), sl16⟩) (c16 : PySem.W.codeIn K cd16 "text_effect" = true) (k16 : PySem.W.keepIn K (.ref f16) = true)
    {od17 an17 : Option Addr} {sl17 : Array (Option Value)} {oc17 kV17 dc17 pm17 cd17 ct17 : Value} {f17 : Addr} (a17 : PySem.W.nsIn K mainGlobals "node_effect" = some (some (.ref f17))) (l17 : K.lookup f17 = some ⟨oc17, od17, .func (PySem.W.fnOf "node_effect" "node_effect" (defArgs snode_effect) (defBody snode_effect) (defScope snode_effect) .none kV17 dc17 pm17 an17 cd17 ct17), sl17⟩) (c17 : PySem.W.codeIn K cd17 "node_effect" = true) (k17 : PySem.W.keepIn K (.ref f17) = true)
    {od18 an18 : Option Addr} {sl18 : Array (Option Value)} {oc18 kV18 dc18 pm18 cd18 ct18 : Value} {f18 : Addr} (a18 : PySem.W.nsIn K mainGlobals "both_effects" = some (some (.ref f18))) (l18 : K.lookup f18 = some ⟨oc18, od18, .func (PySem.W.fnOf "both_effects" "both_effects" (defArgs sboth_effects) (defBody sboth_effects) (defScope sboth_effects) .none kV18 dc18 pm18 an18 cd18 ct18), sl18⟩) (c18 : PySem.W.codeIn K cd18 "both_effects" = true) (k18 : PySem.W.keepIn K (.ref f18) = true)
    {od19 an19 : Option Addr} {sl19 : Array (Option Value)} {oc19 kV19 dc19 pm19 cd19 ct19 : Value} {f19 : Addr} (a19 : PySem.W.nsIn K mainGlobals "effect_of" = some (some (.ref f19))) (l19 : K.lookup f19 = some ⟨oc19, od19, .func (PySem.W.fnOf "effect_of" "effect_of" (defArgs seffect_of) (defBody seffect_of) (defScope seffect_of) .none kV19 dc19 pm19 an19 cd19 ct19), sl19⟩) (c19 : PySem.W.codeIn K cd19 "effect_of" = true) (k19 : PySem.W.keepIn K (.ref f19) = true)
    {od20 an20 : Option Addr} {sl20 : Array (Option Value)} {oc20 kV20 dc20 pm20 cd20 ct20 : Value} {f20 : Addr} (a20 : PySem.W.nsIn K mainGlobals "is_one_taken" = some (some (.ref f20))) (l20 : K.lookup f20 = some ⟨oc20, od20, .func (PySem.W.fnOf "is_one_taken" "is_one_taken" (defArgs sis_one_taken) (defBody sis_one_taken) (defScope sis_one_taken) .none kV20 dc20 pm20 an20 cd20 ct20), sl20⟩) (c20 : PySem.W.codeIn K cd20 "is_one_taken" = true) (k20 : PySem.W.keepIn K (.ref f20) = true)
    {od21 an21 : Option Addr} {sl21 : Array (Option Value)} {oc21 kV21 dc21 pm21 cd21 ct21 : Value} {f21 : Addr} (a21 : PySem.W.nsIn K mainGlobals "_law_effect" = some (some (.ref f21))) (l21 : K.lookup f21 = some ⟨oc21, od21, .func (PySem.W.fnOf "_law_effect" "_law_effect" (defArgs s_law_effect) (defBody s_law_effect) (defScope s_law_effect) .none kV21 dc21 pm21 an21 cd21 ct21), sl21⟩) (c21 : PySem.W.codeIn K cd21 "_law_effect" = true) (k21 : PySem.W.keepIn K (.ref f21) = true)
    {od22 an22 : Option Addr} {sl22 : Array (Option Value)} {oc22 kV22 dc22 pm22 cd22 ct22 : Value} {f22 : Addr} (a22 : PySem.W.nsIn K mainGlobals "_law_some" = some (some (.ref f22))) (l22 : K.lookup f22 = some ⟨oc22, od22, .func (PySem.W.fnOf "_law_some" "_law_some" (defArgs s_law_some) (defBody s_law_some) (defScope s_law_some) .none kV22 dc22 pm22 an22 cd22 ct22), sl22⟩) (c22 : PySem.W.codeIn K cd22 "_law_some" = true) (k22 : PySem.W.keepIn K (.ref f22) = true)
    {od23 an23 : Option Addr} {sl23 : Array (Option Value)} {oc23 kV23 dc23 pm23 cd23 ct23 : Value} {f23 : Addr} (a23 : PySem.W.nsIn K mainGlobals "law" = some (some (.ref f23))) (l23 : K.lookup f23 = some ⟨oc23, od23, .func (PySem.W.fnOf "law" "law" (defArgs slaw) (defBody slaw) (defScope slaw) .none kV23 dc23 pm23 an23 cd23 ct23), sl23⟩) (c23 : PySem.W.codeIn K cd23 "law" = true) (k23 : PySem.W.keepIn K (.ref f23) = true)
    {C fI : Addr} (aC : PySem.W.nsIn K mainGlobals "Table" = some (some (.ref C))) {odI anI : Option Addr} {slI : Array (Option Value)} {ocI kVI dcI pmI cdI ctI : Value} (aI : PySem.W.findIn K (.ref C) "__init__" = some (some (.ref fI))) (iI : PySem.W.isFn K (.ref fI) = true) (lI : K.lookup fI = some ⟨ocI, odI, .func (PySem.W.fnOf "__init__" "Table.__init__" (defArgs sInit) (defBody sInit) (defScope sInit) .none kVI dcI pmI anI cdI ctI), slI⟩) (cI : PySem.W.codeIn K cdI "Table.__init__" = true) (kI : PySem.W.keepIn K (.ref fI) = true)
    (pg : PySem.W.plainGet K C Str.empty = true) (hd : PySem.W.hasDictIn K C = true) (po : PySem.W.plainOver K C = true) (sa : PySem.W.findIn K (.ref C) "__setattr__" = some (some (.builtin "object.__setattr__"))) (mk : PySem.W.makesIn K C = true) (kc : PySem.W.keepIn K (.ref C) = true)
    (n_names : PySem.W.findIn K (.ref C) "names" = some none)
    (n_begins : PySem.W.findIn K (.ref C) "begins" = some none)
    (n_texts : PySem.W.findIn K (.ref C) "texts" = some none)
    (n_steps : PySem.W.findIn K (.ref C) "steps" = some none)
    (n_ends : PySem.W.findIn K (.ref C) "ends" = some none)
    (z_range : PySem.W.nsIn K mainGlobals "range" = some none)
    (z_len : PySem.W.nsIn K mainGlobals "len" = some none)
    (z_abs : PySem.W.nsIn K mainGlobals "abs" = some none)
    (z_int : PySem.W.nsIn K mainGlobals "int" = some none)
    (z_tuple : PySem.W.nsIn K mainGlobals "tuple" = some none)
    (z_repr : PySem.W.nsIn K mainGlobals "repr" = some none)
    (z_isinstance : PySem.W.nsIn K mainGlobals "isinstance" = some none)
    (z_str : PySem.W.nsIn K mainGlobals "str" = some none)
    (z_list : PySem.W.nsIn K mainGlobals "list" = some none) :
    ∃ fd : FuncData, (∀ (s : Shared) (v : Value), BindsTo s fd ⟨[v], []⟩ [("script", v)]) ∧ ∀ base : Heap, K.In base → base.Ns mainGlobals mg → DFn l.prog w K mg base 28 fa fd ["script"] sLaw0 := by
  have e := hfa.symm.trans (PySem.W.mg_of X G a23)
  cases e
  have F0 := fun_mk (st := s_law_source) l0 c0 k0
  have F1 := fun_mk (st := s_law_any) l1 c1 k1
  have F2 := fun_mk (st := s_law_of) l2 c2 k2
  have F3 := fun_mk (st := s_law_names) l3 c3 k3
  have F4 := fun_mk (st := s_law_text) l4 c4 k4
  have F5 := fun_mk (st := s_law_shut) l5 c5 k5
  have F6 := fun_mk (st := s_law_forest) l6 c6 k6
  have F7 := fun_mk (st := s_law_node) l7 c7 k7
  have F8 := fun_mk (st := s_law_drawn) l8 c8 k8
  have F9 := fun_mk (st := s_law_on) l9 c9 k9
  have F10 := fun_mk (st := s_law_state) l10 c10 k10
  have F11 := fun_mk (st := sstate_behind) l11 c11 k11
  have F12 := fun_mk (st := sstate_of) l12 c12 k12
  have F13 := fun_mk (st := s_law_of_table) l13 c13 k13
  have F14 := fun_mk (st := s_law_of_plain) l14 c14 k14
  have F15 := fun_mk (st := sno_effect) l15 c15 k15
  have F16 := fun_mk (st := stext_effect) l16 c16 k16
  have F17 := fun_mk (st := snode_effect) l17 c17 k17
  have F18 := fun_mk (st := sboth_effects) l18 c18 k18
  have F19 := fun_mk (st := seffect_of) l19 c19 k19
  have F20 := fun_mk (st := sis_one_taken) l20 c20 k20
  have F21 := fun_mk (st := s_law_effect) l21 c21 k21
  have F22 := fun_mk (st := s_law_some) l22 c22 k22
  have F23 := fun_mk (st := slaw) l23 c23 k23
  have FI := fun_mk (st := sInit) lI cI kI
  let t : Txt K mg C := {
    _law_source := ⟨f0, _, F0, F0.binds (ps := ["script", "salt"]) fun _ _ _ _ _ _ us hl => match us, hl with | [_, _], _ => rfl, PySem.W.mg_of X G a0⟩
    _law_any := ⟨f1, _, F1, F1.binds (ps := ["draws", "bound"]) fun _ _ _ _ _ _ us hl => match us, hl with | [_, _], _ => rfl, PySem.W.mg_of X G a1⟩
    _law_of := ⟨f2, _, F2, F2.binds (ps := ["draws", "some"]) fun _ _ _ _ _ _ us hl => match us, hl with | [_, _], _ => rfl, PySem.W.mg_of X G a2⟩
    _law_names := ⟨f3, _, F3, F3.binds (ps := ["draws", "many"]) fun _ _ _ _ _ _ us hl => match us, hl with | [_, _], _ => rfl, PySem.W.mg_of X G a3⟩
    _law_text := ⟨f4, _, F4, F4.binds (ps := ["draws"]) fun _ _ _ _ _ _ us hl => match us, hl with | [_], _ => rfl, PySem.W.mg_of X G a4⟩
    _law_shut := ⟨f5, _, F5, F5.binds (ps := ["stack"]) fun _ _ _ _ _ _ us hl => match us, hl with | [_], _ => rfl, PySem.W.mg_of X G a5⟩
    _law_forest := ⟨f6, _, F6, F6.binds (ps := ["draws", "names", "most"]) fun _ _ _ _ _ _ us hl => match us, hl with | [_, _, _], _ => rfl, PySem.W.mg_of X G a6⟩
    _law_node := ⟨f7, _, F7, F7.binds (ps := ["draws", "names", "most"]) fun _ _ _ _ _ _ us hl => match us, hl with | [_, _, _], _ => rfl, PySem.W.mg_of X G a7⟩
    _law_drawn := ⟨f8, _, F8, F8.binds (ps := ["draws", "names", "most"]) fun _ _ _ _ _ _ us hl => match us, hl with | [_, _, _], _ => rfl, PySem.W.mg_of X G a8⟩
    _law_on := ⟨f9, _, F9, F9.binds (ps := ["plain", "state", "forest"]) fun _ _ _ _ _ _ us hl => match us, hl with | [_, _, _], _ => rfl, PySem.W.mg_of X G a9⟩
    _law_state := ⟨f10, _, F10, F10.binds (ps := ["plain", "node"]) fun _ _ _ _ _ _ us hl => match us, hl with | [_, _], _ => rfl, PySem.W.mg_of X G a10⟩
    state_behind := ⟨f11, _, F11, F11.binds (ps := ["table", "state", "forest"]) fun _ _ _ _ _ _ us hl => match us, hl with | [_, _, _], _ => rfl, PySem.W.mg_of X G a11⟩
    state_of := ⟨f12, _, F12, F12.binds (ps := ["table", "node"]) fun _ _ _ _ _ _ us hl => match us, hl with | [_, _], _ => rfl, PySem.W.mg_of X G a12⟩
    _law_of_table := ⟨f13, _, F13, F13.binds (ps := ["table"]) fun _ _ _ _ _ _ us hl => match us, hl with | [_], _ => rfl, PySem.W.mg_of X G a13⟩
    _law_of_plain := ⟨f14, _, F14, F14.binds (ps := ["plain"]) fun _ _ _ _ _ _ us hl => match us, hl with | [_], _ => rfl, PySem.W.mg_of X G a14⟩
    no_effect := ⟨f15, _, F15, F15.binds (ps := ["table"]) fun _ _ _ _ _ _ us hl => match us, hl with | [_], _ => rfl, PySem.W.mg_of X G a15⟩
    text_effect := ⟨f16, _, F16, F16.binds (ps := ["table"]) fun _ _ _ _ _ _ us hl => match us, hl with | [_], _ => rfl, PySem.W.mg_of X G a16⟩
    node_effect := ⟨f17, _, F17, F17.binds (ps := ["table", "state"]) fun _ _ _ _ _ _ us hl => match us, hl with | [_, _], _ => rfl, PySem.W.mg_of X G a17⟩
    both_effects := ⟨f18, _, F18, F18.binds (ps := ["one", "other"]) fun _ _ _ _ _ _ us hl => match us, hl with | [_, _], _ => rfl, PySem.W.mg_of X G a18⟩
    effect_of := ⟨f19, _, F19, F19.binds (ps := ["table", "forest"]) fun _ _ _ _ _ _ us hl => match us, hl with | [_, _], _ => rfl, PySem.W.mg_of X G a19⟩
    is_one_taken := ⟨f20, _, F20, F20.binds (ps := ["table", "effect"]) fun _ _ _ _ _ _ us hl => match us, hl with | [_, _], _ => rfl, PySem.W.mg_of X G a20⟩
    _law_effect := ⟨f21, _, F21, F21.binds (ps := ["plain", "forest"]) fun _ _ _ _ _ _ us hl => match us, hl with | [_, _], _ => rfl, PySem.W.mg_of X G a21⟩
    _law_some := ⟨f22, _, F22, F22.binds (ps := ["draws", "names"]) fun _ _ _ _ _ _ us hl => match us, hl with | [_, _], _ => rfl, PySem.W.mg_of X G a22⟩
    law := ⟨fa, _, F23, F23.binds (ps := ["script"]) fun _ _ _ _ _ _ us hl => match us, hl with | [_], _ => rfl, PySem.W.mg_of X G a23⟩
    n_range := PySem.W.mg_none_of X G z_range
    n_len := PySem.W.mg_none_of X G z_len
    n_abs := PySem.W.mg_none_of X G z_abs
    n_int := PySem.W.mg_none_of X G z_int
    n_tuple := PySem.W.mg_none_of X G z_tuple
    n_repr := PySem.W.mg_none_of X G z_repr
    n_isinstance := PySem.W.mg_none_of X G z_isinstance
    n_str := PySem.W.mg_none_of X G z_str
    n_list := PySem.W.mg_none_of X G z_list
    cls := ⟨pg, hd, po, sa⟩
    mgC := PySem.W.mg_of X G aC
    fI := fI
    dI := _
    FI := FI
    b_init := FI.binds (ps := ["self", "names", "begins", "texts", "steps", "ends"]) fun _ _ _ _ _ _ us hl => match us, hl with | [_, _, _, _, _, _], _ => rfl
    mkC := ⟨mk, aI, iI, kc⟩
    no_names := n_names
    no_begins := n_begins
    no_texts := n_texts
    no_steps := n_steps
    no_ends := n_ends }
  exact ⟨t.law.fd, fun s v => .of_eq rfl, fun base _ _ => all_law t⟩
end K56
open PySem PySem.W PyProof.Rows
set_option maxHeartbeats 0 in
theorem PySem.Challenge.cw_turnsfit_k56_effects_of_forests_holds : PySem.Challenge.rw_turnsfit_k56_effects_of_forests.Holds := by
  w_on; o_law; k_head; (case hw => w_witness2)
  k_fill
  refine D2.walkD (l := PySem.Challenge.rw_turnsfit_k56_effects_of_forests) (k := 28) (x := "script") rfl rfl ⟨rfl, by decide, by decide⟩ (fun w h Y => PySem.W.kIn_of Y) ?F
  case F =>
    intro w mg fa h KX G hmg
    refine' K56.all_mk KX G hmg ?a0 ?l0 ?c0 ?k0 ?a1 ?l1 ?c1 ?k1 ?a2 ?l2 ?c2 ?k2 ?a3 ?l3 ?c3 ?k3 ?a4 ?l4 ?c4 ?k4 ?a5 ?l5 ?c5 ?k5 ?a6 ?l6 ?c6 ?k6 ?a7 ?l7 ?c7 ?k7 ?a8 ?l8 ?c8 ?k8 ?a9 ?l9 ?c9 ?k9 ?a10 ?l10 ?c10 ?k10 ?a11 ?l11 ?c11 ?k11 ?a12 ?l12 ?c12 ?k12 ?a13 ?l13 ?c13 ?k13 ?a14 ?l14 ?c14 ?k14 ?a15 ?l15 ?c15 ?k15 ?a16 ?l16 ?c16 ?k16 ?a17 ?l17 ?c17 ?k17 ?a18 ?l18 ?c18 ?k18 ?a19 ?l19 ?c19 ?k19 ?a20 ?l20 ?c20 ?k20 ?a21 ?l21 ?c21 ?k21 ?a22 ?l22 ?c22 ?k22 ?a23 ?l23 ?c23 ?k23 ?aC ?aI ?iI ?lI ?cI ?kI ?pg ?hd ?po ?sa ?mk ?kc ?n_names ?n_begins ?n_texts ?n_steps ?n_ends ?z_range ?z_len ?z_abs ?z_int ?z_tuple ?z_repr ?z_isinstance ?z_str ?z_list
    (case a0 => k_is)
    (case l0 => k_is)
    (case c0 => k_is)
    (case k0 => k_is)
    (case a1 => k_is)
    (case l1 => k_is)
    (case c1 => k_is)
    (case k1 => k_is)
    (case a2 => k_is)
    (case l2 => k_is)
    (case c2 => k_is)
    (case k2 => k_is)
    (case a3 => k_is)
    (case l3 => k_is)
    (case c3 => k_is)
    (case k3 => k_is)
    (case a4 => k_is)
    (case l4 => k_is)
    (case c4 => k_is)
    (case k4 => k_is)
    (case a5 => k_is)
    (case l5 => k_is)
    (case c5 => k_is)
    (case k5 => k_is)
    (case a6 => k_is)
    (case l6 => k_is)
    (case c6 => k_is)
    (case k6 => k_is)
    (case a7 => k_is)
    (case l7 => k_is)
    (case c7 => k_is)
    (case k7 => k_is)
    (case a8 => k_is)
    (case l8 => k_is)
    (case c8 => k_is)
    (case k8 => k_is)
    (case a9 => k_is)
    (case l9 => k_is)
    (case c9 => k_is)
    (case k9 => k_is)
    (case a10 => k_is)
    (case l10 => k_is)
    (case c10 => k_is)
    (case k10 => k_is)
    (case a11 => k_is)
    (case l11 => k_is)
    (case c11 => k_is)
    (case k11 => k_is)
    (case a12 => k_is)
    (case l12 => k_is)
    (case c12 => k_is)
    (case k12 => k_is)
    (case a13 => k_is)
    (case l13 => k_is)
    (case c13 => k_is)
    (case k13 => k_is)
    (case a14 => k_is)
    (case l14 => k_is)
    (case c14 => k_is)
    (case k14 => k_is)
    (case a15 => k_is)
    (case l15 => k_is)
    (case c15 => k_is)
    (case k15 => k_is)
    (case a16 => k_is)
    (case l16 => k_is)
    (case c16 => k_is)
    (case k16 => k_is)
    (case a17 => k_is)
    (case l17 => k_is)
    (case c17 => k_is)
    (case k17 => k_is)
    (case a18 => k_is)
    (case l18 => k_is)
    (case c18 => k_is)
    (case k18 => k_is)
    (case a19 => k_is)
    (case l19 => k_is)
    (case c19 => k_is)
    (case k19 => k_is)
    (case a20 => k_is)
    (case l20 => k_is)
    (case c20 => k_is)
    (case k20 => k_is)
    (case a21 => k_is)
    (case l21 => k_is)
    (case c21 => k_is)
    (case k21 => k_is)
    (case a22 => k_is)
    (case l22 => k_is)
    (case c22 => k_is)
    (case k22 => k_is)
    (case a23 => k_is)
    (case l23 => k_is)
    (case c23 => k_is)
    (case k23 => k_is)
    (case aC => k_is)
    (case aI => k_is)
    (case iI => k_is)
    (case lI => k_is)
    (case cI => k_is)
    (case kI => k_is)
    (case pg => k_is)
    (case hd => k_is)
    (case po => k_is)
    (case sa => k_is)
    (case mk => k_is)
    (case kc => k_is)
    (case n_names => k_is)
    (case n_begins => k_is)
    (case n_texts => k_is)
    (case n_steps => k_is)
    (case n_ends => k_is)
    (case z_range => k_is)
    (case z_len => k_is)
    (case z_abs => k_is)
    (case z_int => k_is)
    (case z_tuple => k_is)
    (case z_repr => k_is)
    (case z_isinstance => k_is)
    (case z_str => k_is)
    (case z_list => k_is)

