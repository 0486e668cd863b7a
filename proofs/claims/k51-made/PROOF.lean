import PyProof.Rows.All
import Wide.All
import OpenK.AllK
import Wide.FinOn
import HandS.ForMost
import HandS.IsInst
import HandS.TupAny
import HandS.TupMul
import HandS.Strs
import HandS.Style
import HandS.Conv
import HandS.More
import HandS.Text
import HandS.Set
import HandS.SetFor
import HandS.List
import HandS.TupSets
import PyProof.Rows.SortShellAny
import HandS.Flow
import HandS.SortKw
import HandS.Zip
import KE.GoesEnum
import HandS.TryOnly
import HandS.Dict
import KE.KDictPairs
import KE.KDictCopyH
import HandS.ForExc
import HandS.ExcSuper
import HandS.ExcInit
import KE.RegKSuper
import KE.KExcInit
import HandS.ExcField
import HandS.TryMany
import HandS.Exc
import KE.KExcIs
import HandS.ExcIs
import PySem.Challenge.RW_turnsfit_k51_whole_what_turnings_make
set_option Elab.async false
set_option linter.all false
set_option maxRecDepth 100000
set_option maxHeartbeats 4000000
/-! DL, part a: data values and cells over the hand layer's abstract heap. -/
namespace D2
open PySem PySem.Spec PyProof.Rows L2

/-- the keys of a dict: ints and texts, or tuples of them -/
inductive KS where
  | k (l : List Key) | t (l : List (List Key))
def KS.len : KS → Nat
  | .k l => l.length
  | .t l => l.length
def KS.ho : KS → List V → HO
  | .k l, vs => .dK (l.zip vs)
  | .t l, vs => .dT (l.zip vs)
theorem KS.no (ks : KS) (vs ws : List V) : ks.ho vs ≠ .lst ws := by cases ks <;> (intro z; cases z)
/-- a value as data: a tuple, a list that nobody changes any more, an object that never changes, a cell -/
inductive Dv where
  | non | bl (b : Bool) | int (i : Int) | str (s : Str)
  | tup (xs : List Dv) | tux (xs : List Dv) | rol (xs : List Dv) | fro (xs : List Dv) | obj (C : Addr) (ns : List Str) (xs : List Dv) | ref (n : Nat) | dic (ks : KS) (xs : List Dv) | tuk (xs : List Dv)
/-- what stands in a cell -/
inductive Co where
  | lst (xs : List Dv)
abbrev Sto := List Co
abbrev En := List (Option Dv)

/-- a list of the written part -/
def KL (K : PySem.W.Frag) (a : Addr) (xs : List V) : Prop := ∃ (o : Obj) (its : Array Value) (n : Nat), K.lookup a = some o ∧ o.cls = .type "list" ∧ o.dict = none ∧ o.data = .seq its n ∧ its.size ≤ sizeLine ∧ Vals xs its.toList
mutual
inductive RD (K : PySem.W.Frag) (ex : Addr → Prop) (f : Nat → Addr) (k : Nat) (H : Hp) : Dv → V → Prop
  | non : RD K ex f k H .non .non
  | bl (b : Bool) : RD K ex f k H (.bl b) (.bl b)
  | int (i : Int) : RD K ex f k H (.int i) (.int i)
  | str (s : Str) : RD K ex f k H (.str s) (.str s)
  | tup {xs : List Dv} {a : Addr} {vs : List V} : SqT K H a vs → RDs K ex f k H xs vs → RD K ex f k H (.tup xs) (.ref a)
  | tux {xs : List Dv} {a : Addr} {vs : List V} : (∃ o, H a = some (.frz o (.tup vs)) ∧ o.dict = none) → RDs K ex f k H xs vs → RD K ex f k H (.tux xs) (.ref a)
  | tuk {xs : List Dv} {a : Addr} {vs : List V} : H a = some (.tup vs) → RDs K ex f k H xs vs → RD K ex f k H (.tuk xs) (.ref a)
  | rol {xs : List Dv} {a : Addr} {vs : List V} : H a = some (.lst vs) → ¬ ex a → (∀ n, n < k → f n ≠ a) → RDs K ex f k H xs vs → RD K ex f k H (.rol xs) (.ref a)
  | fro {xs : List Dv} {a : Addr} {vs : List V} : (Rd H a (.lst vs) ∧ ¬ ex a ∧ ∀ n, n < k → f n ≠ a) ∨ KL K a vs → RDs K ex f k H xs vs → RD K ex f k H (.fro xs) (.ref a)
  | obj {C a dx : Addr} {ns : List Str} {xs : List Dv} {fs : List (Str × V)} : H a = some (.ins C dx fs) → fs.map (·.1) = ns → RDs K ex f k H xs (fs.map (·.2)) → RD K ex f k H (.obj C ns xs) (.ref a)
  | ref (n : Nat) : n < k → RD K ex f k H (.ref n) (.ref (f n))
  | dic {ks : KS} {a : Addr} {xs : List Dv} {vs : List V} : H a = some (ks.ho vs) → ks.len = xs.length → RDs K ex f k H xs vs → RD K ex f k H (.dic ks xs) (.ref a)
inductive RDs (K : PySem.W.Frag) (ex : Addr → Prop) (f : Nat → Addr) (k : Nat) (H : Hp) : List Dv → List V → Prop
  | nil : RDs K ex f k H [] []
  | cons {x : Dv} {xs : List Dv} {v : V} {vs : List V} : RD K ex f k H x v → RDs K ex f k H xs vs → RDs K ex f k H (x :: xs) (v :: vs)
end

/-- a cell's content stands at an address -/
inductive CoR (K : PySem.W.Frag) (ex : Addr → Prop) (f : Nat → Addr) (k : Nat) (H : Hp) : Co → Addr → Prop
  | lst {xs : List Dv} {a : Addr} {vs : List V} : H a = some (.lst vs) → RDs K ex f k H xs vs → CoR K ex f k H (.lst xs) a

structure RS (K : PySem.W.Frag) (ex : Addr → Prop) (f : Nat → Addr) (st : Sto) (H : Hp) : Prop where
  inj : ∀ m n, m < st.length → n < st.length → f m = f n → m = n
  obj : ∀ n c, st[n]? = some c → CoR K ex f st.length H c (f n)
  exs : ∀ a, ex a → H a ≠ none
  exc : ∀ n, n < st.length → ¬ ex (f n)

/-- from one world to a later one -/
structure Stp (f : Nat → Addr) (k : Nat) (H : Hp) (f' : Nat → Addr) (k' : Nat) (H' : Hp) : Prop where
  len : k ≤ k'
  agree : ∀ n, n < k → f' n = f n
  fresh : ∀ n, k ≤ n → n < k' → H (f' n) = none
  keep : ∀ b o, (∀ n, n < k → f n ≠ b) → H b = some o → H' b = some o
  there : ∀ b, H' b = none → H b = none

/-- what a heap must have of the cells: lists -/
def Cel (f : Nat → Addr) (k : Nat) (H : Hp) : Prop := ∀ n, n < k → ∃ vs, H (f n) = some (.lst vs)
theorem RS.cel {K : PySem.W.Frag} {ex : Addr → Prop} {f : Nat → Addr} {st : Sto} {H : Hp} (r : RS K ex f st H) : Cel f st.length H := fun n hn => by
  have h := r.obj n st[n] (by simp [hn])
  cases h2 : st[n] with
  | lst xs =>
    rw [h2] at h
    cases h with
    | lst a b => exact ⟨_, a⟩

theorem Stp.refl {f : Nat → Addr} {k : Nat} {H : Hp} : Stp f k H f k H := ⟨Nat.le_refl _, fun _ _ => rfl, fun n h1 h2 => by omega, fun _ _ _ h => h, fun _ h => h⟩
theorem Stp.trans {f f1 f2 : Nat → Addr} {k k1 k2 : Nat} {H H1 H2 : Hp} (a : Stp f k H f1 k1 H1) (b : Stp f1 k1 H1 f2 k2 H2) : Stp f k H f2 k2 H2 := by
  refine ⟨Nat.le_trans a.len b.len, fun n hn => ?_, fun n h1 h2 => ?_, fun c o hc ho => ?_, fun c h => a.there _ (b.there _ h)⟩
  · rw [b.agree n (Nat.lt_of_lt_of_le hn a.len), a.agree n hn]
  · by_cases h : n < k1
    · rw [b.agree n h]
      exact a.fresh n h1 h
    · exact a.there _ (b.fresh n (by omega) h2)
  · refine b.keep c o (fun n hn => ?_) (a.keep c o hc ho)
    by_cases h : n < k
    · rw [a.agree n h]
      exact hc n h
    · intro e
      have := a.fresh n (by omega) hn
      rw [e, ho] at this
      cases this
/-- something new that is no cell -/
theorem Stp.new {f : Nat → Addr} {k : Nat} {H : Hp} {p : Addr} {o : HO} (h : H p = none) : Stp f k H f k (upd H p o) := by
  refine ⟨Nat.le_refl _, fun _ _ => rfl, fun n h1 h2 => by omega, fun b u _ e => ?_, fun b e => ?_⟩
  · rw [upd_ne (ne_of_none e h)]
    exact e
  · by_cases hb : b = p
    · rw [hb]; exact h
    · rw [upd_ne hb] at e; exact e

section
variable {K : PySem.W.Frag} {ex : Addr → Prop} {f f' : Nat → Addr} {k k' : Nat} {H H' : Hp}
mutual
theorem RD.mono2 {ex2 : Addr → Prop} (s : Stp f k H f' k' H') (c : Cel f k H) (hx : ∀ a, ex2 a → ex a ∨ H a = none) : ∀ {d : Dv} {v : V}, RD K ex f k H d v → RD K ex2 f' k' H' d v
  | _, _, .non => .non
  | _, _, .bl b => .bl b
  | _, _, .int i => .int i
  | _, _, .str x => .str x
  | _, _, .tup (a := a) (vs := vs) h hs => by
    refine .tup ?_ (RDs.mono2 s c hx hs)
    have ne : ∀ {u : HO}, (∀ ws, u ≠ .lst ws) → H a = some u → H' a = some u := fun {u} hu e => s.keep a _ (fun n hn z => by
      obtain ⟨ws, e2⟩ := c n hn
      rw [z, e] at e2
      exact hu ws (Option.some.inj e2)) e
    rcases h with (h | ⟨o, h⟩) | h
    · exact .inl (.inl (ne (fun ws z => by cases z) h))
    · exact .inl (.inr ⟨o, ne (fun ws z => by cases z) h⟩)
    · exact .inr h
  | _, _, .tuk (a := a) h hs => by
    refine .tuk (s.keep a _ (fun n hn z => ?_) h) (RDs.mono2 s c hx hs)
    obtain ⟨ws, e2⟩ := c n hn
    rw [z, h] at e2
    cases e2
  | _, _, .tux (a := a) ⟨o, h, hd⟩ hs => by
    refine .tux ⟨o, s.keep a _ (fun n hn z => ?_) h, hd⟩ (RDs.mono2 s c hx hs)
    obtain ⟨ws, e2⟩ := c n hn
    rw [z, h] at e2
    cases e2
  | _, _, .rol (a := a) (vs := vs) h he hn hs => by
    refine .rol (s.keep a _ hn h) (fun q => (hx a q).elim he fun z => by rw [h] at z; cases z) ?_ (RDs.mono2 s c hx hs)
    intro n hn' e
    by_cases h1 : n < k
    · rw [s.agree n h1] at e
      exact hn n h1 e
    · have h2 := s.fresh n (by omega) hn'
      rw [e, h] at h2
      cases h2
  | _, _, .fro (a := a) (vs := vs) h hs => by
    rcases h with ⟨h, h1, h2⟩ | h
    · have nn : H a ≠ none := fun z => by
        rcases h with h | ⟨o, h⟩
        · rw [h] at z; cases z
        · rw [h] at z; cases z
      refine .fro (.inl ⟨?_, fun q => (hx a q).elim h1 nn, fun n hn' e => ?_⟩) (RDs.mono2 s c hx hs)
      · rcases h with h | ⟨o, h⟩
        · exact .inl (s.keep a _ h2 h)
        · exact .inr ⟨o, s.keep a _ h2 h⟩
      · by_cases h3 : n < k
        · rw [s.agree n h3] at e
          exact h2 n h3 e
        · have h4 := s.fresh n (by omega) hn'
          rw [e] at h4
          rcases h with h | ⟨o, h⟩
          · rw [h] at h4; cases h4
          · rw [h] at h4; cases h4
    · exact .fro (.inr h) (RDs.mono2 s c hx hs)
  | _, _, .obj (a := a) h hn hs => by
    refine .obj (s.keep a _ (fun n hn z => ?_) h) hn (RDs.mono2 s c hx hs)
    obtain ⟨ws, e2⟩ := c n hn
    rw [z, h] at e2
    cases e2
  | _, _, .ref n h => by
    rw [← s.agree n h]
    exact .ref n (Nat.lt_of_lt_of_le h s.len)
  | _, _, .dic (a := a) h hl hs => by
    refine .dic (s.keep a _ (fun n hn z => ?_) h) hl (RDs.mono2 s c hx hs)
    obtain ⟨ws, e2⟩ := c n hn
    rw [z, h] at e2
    exact KS.no _ _ ws (Option.some.inj e2)
theorem RDs.mono2 {ex2 : Addr → Prop} (s : Stp f k H f' k' H') (c : Cel f k H) (hx : ∀ a, ex2 a → ex a ∨ H a = none) : ∀ {ds : List Dv} {vs : List V}, RDs K ex f k H ds vs → RDs K ex2 f' k' H' ds vs
  | _, _, .nil => .nil
  | _, _, .cons h hs => .cons (RD.mono2 s c hx h) (RDs.mono2 s c hx hs)
end
theorem RD.mono (s : Stp f k H f' k' H') (c : Cel f k H) {d : Dv} {v : V} (h : RD K ex f k H d v) : RD K ex f' k' H' d v := RD.mono2 s c (fun _ q => .inl q) h
theorem RDs.mono (s : Stp f k H f' k' H') (c : Cel f k H) {ds : List Dv} {vs : List V} (h : RDs K ex f k H ds vs) : RDs K ex f' k' H' ds vs := RDs.mono2 s c (fun _ q => .inl q) h
mutual
/-- an excluded list is written: no data changes -/
theorem RD.wr {D : Addr} {vs0 vs1 : List V} (hD : ex D) (e0 : H D = some (.lst vs0)) : ∀ {d : Dv} {v : V}, RD K ex f k H d v → RD K ex f k (upd H D (.lst vs1)) d v
  | _, _, .non => .non
  | _, _, .bl b => .bl b
  | _, _, .int i => .int i
  | _, _, .str x => .str x
  | _, _, .tup (a := a) h hs => by
    refine .tup ?_ (RDs.wr hD e0 hs)
    rcases h with (h | ⟨o, h⟩) | h
    · exact .inl (.inl (by rw [upd_ne (ne_of h e0 (by intro z; cases z))]; exact h))
    · exact .inl (.inr ⟨o, by rw [upd_ne (ne_of h e0 (by intro z; cases z))]; exact h⟩)
    · exact .inr h
  | _, _, .tuk (a := a) h hs => .tuk (by rw [upd_ne (ne_of h e0 (by intro z; cases z))]; exact h) (RDs.wr hD e0 hs)
  | _, _, .tux (a := a) ⟨o, h, hd⟩ hs => .tux ⟨o, by rw [upd_ne (ne_of h e0 (by intro z; cases z))]; exact h, hd⟩ (RDs.wr hD e0 hs)
  | _, _, .rol (a := a) h he hn hs => by
    refine .rol ?_ he hn (RDs.wr hD e0 hs)
    rw [upd_ne (fun q => he (by rw [q]; exact hD))]
    exact h
  | _, _, .fro (a := a) h hs => by
    rcases h with ⟨h, h1, h2⟩ | h
    · refine .fro (.inl ⟨?_, h1, h2⟩) (RDs.wr hD e0 hs)
      have ne : a ≠ D := fun q => h1 (by rw [q]; exact hD)
      rcases h with h | ⟨o, h⟩
      · exact .inl (by rw [upd_ne ne]; exact h)
      · exact .inr ⟨o, by rw [upd_ne ne]; exact h⟩
    · exact .fro (.inr h) (RDs.wr hD e0 hs)
  | _, _, .obj (a := a) h hn hs => .obj (by rw [upd_ne (ne_of h e0 (by intro z; cases z))]; exact h) hn (RDs.wr hD e0 hs)
  | _, _, .ref n h => .ref n h
  | _, _, .dic (a := a) h hl hs => .dic (by rw [upd_ne (ne_of h e0 (KS.no _ _ _))]; exact h) hl (RDs.wr hD e0 hs)
theorem RDs.wr {D : Addr} {vs0 vs1 : List V} (hD : ex D) (e0 : H D = some (.lst vs0)) : ∀ {ds : List Dv} {vs : List V}, RDs K ex f k H ds vs → RDs K ex f k (upd H D (.lst vs1)) ds vs
  | _, _, .nil => .nil
  | _, _, .cons h hs => .cons (RD.wr hD e0 h) (RDs.wr hD e0 hs)
end
theorem RDs.length : ∀ {ds : List Dv} {vs : List V}, RDs K ex f k H ds vs → ds.length = vs.length
  | _, _, .nil => rfl
  | _, _, .cons _ h => by simp [RDs.length h]
theorem RDs.get : ∀ {ds : List Dv} {vs : List V} {i : Nat} {d : Dv}, RDs K ex f k H ds vs → ds[i]? = some d → ∃ v, vs[i]? = some v ∧ RD K ex f k H d v
  | _, _, _, _, .nil, e => by simp at e
  | _, _, 0, _, .cons h _, e => by simp at e; subst e; exact ⟨_, rfl, h⟩
  | _, _, i + 1, d, .cons _ hs, e => by
    obtain ⟨v, h1, h2⟩ := RDs.get (i := i) (d := d) hs (by simpa using e)
    exact ⟨v, by simpa using h1, h2⟩
theorem RDs.get' : ∀ {ds : List Dv} {vs : List V} {i : Nat} {v : V}, RDs K ex f k H ds vs → vs[i]? = some v → ∃ d, ds[i]? = some d ∧ RD K ex f k H d v
  | _, _, _, _, .nil, e => by simp at e
  | _, _, 0, _, .cons h _, e => by simp at e; subst e; exact ⟨_, rfl, h⟩
  | _, _, i + 1, v, .cons _ hs, e => by
    obtain ⟨d, h1, h2⟩ := RDs.get' (i := i) (v := v) hs (by simpa using e)
    exact ⟨d, by simpa using h1, h2⟩
theorem RDs.append : ∀ {ds es : List Dv} {vs ws : List V}, RDs K ex f k H ds vs → RDs K ex f k H es ws → RDs K ex f k H (ds ++ es) (vs ++ ws)
  | _, _, _, _, .nil, h => h
  | _, _, _, _, .cons h hs, h2 => .cons h (RDs.append hs h2)
theorem RDs.take : ∀ {ds : List Dv} {vs : List V} (n : Nat), RDs K ex f k H ds vs → RDs K ex f k H (ds.take n) (vs.take n)
  | _, _, 0, _ => .nil
  | _, _, _ + 1, .nil => .nil
  | _, _, n + 1, .cons h hs => .cons h (RDs.take n hs)
theorem RDs.drop : ∀ {ds : List Dv} {vs : List V} (n : Nat), RDs K ex f k H ds vs → RDs K ex f k H (ds.drop n) (vs.drop n)
  | _, _, 0, h => h
  | _, _, _ + 1, .nil => .nil
  | _, _, n + 1, .cons _ hs => RDs.drop n hs
theorem RDs.reverse : ∀ {ds : List Dv} {vs : List V}, RDs K ex f k H ds vs → RDs K ex f k H ds.reverse vs.reverse
  | _, _, .nil => .nil
  | _, _, .cons h hs => by
    rw [List.reverse_cons, List.reverse_cons]
    exact RDs.append (RDs.reverse hs) (.cons h .nil)
theorem RDs.set {d : Dv} {v : V} (h : RD K ex f k H d v) : ∀ {ds : List Dv} {vs : List V} (i : Nat), RDs K ex f k H ds vs → RDs K ex f k H (ds.set i d) (vs.set i v)
  | _, _, _, .nil => .nil
  | _, _, 0, .cons _ t => .cons h t
  | _, _, i + 1, .cons q t => .cons q (RDs.set h i t)
theorem RDs.ints : ∀ (ns : List Int), RDs K ex f k H (ns.map Dv.int) (ns.map V.int)
  | [] => .nil
  | n :: r => .cons (.int n) (RDs.ints r)
theorem RDs.ints_inv : ∀ {ns : List Int} {vs : List V}, RDs K ex f k H (ns.map Dv.int) vs → vs = ns.map V.int
  | [], _, .nil => rfl
  | n :: r, _, .cons h hs => by
    cases h
    rw [RDs.ints_inv hs]
    rfl
theorem RDs.strs_inv : ∀ {ns : List Str} {vs : List V}, RDs K ex f k H (ns.map Dv.str) vs → vs = ns.map V.str
  | [], _, .nil => rfl
  | n :: r, _, .cons h hs => by
    cases h
    rw [RDs.strs_inv hs]
    rfl
theorem RDs.strs : ∀ (ns : List Str), RDs K ex f k H (ns.map Dv.str) (ns.map V.str)
  | [] => .nil
  | n :: r => .cons (.str n) (RDs.strs r)

theorem Cel.mono {st : Sto} {st' : Sto} (r : RS K ex f' st' H') : Cel f' st'.length H' := r.cel
/-- cells read later -/
theorem CoR.mono (s : Stp f k H f' k' H') (c : Cel f k H) {co : Co} {a b : Addr} (h : CoR K ex f k H co a) (hb : ∀ vs, H a = some (.lst vs) → H' b = some (.lst vs)) : CoR K ex f' k' H' co b := by
  cases h with
  | lst e r => exact .lst (hb _ e) (RDs.mono s c r)
/-- something new that is no cell: the cells stand -/
theorem RS.new {st : Sto} (r : RS K ex f st H) {p : Addr} {o : HO} (h : H p = none) : RS K ex f st (upd H p o) :=
  ⟨r.inj, fun n c e => (r.obj n c e).mono (Stp.new h) r.cel fun vs e2 => by rw [upd_ne (ne_of_none e2 h)]; exact e2, fun a q z => r.exs a q ((Stp.new (f := f) (k := st.length) (o := o) h).there a z), r.exc⟩
/-- the numbers of cells beyond do not matter -/
def put (f : Nat → Addr) (n : Nat) (p : Addr) : Nat → Addr := fun m => if m = n then p else f m
theorem put_at {n : Nat} {p : Addr} : put f n p n = p := by simp [put]
theorem put_ne {n m : Nat} {p : Addr} (h : m ≠ n) : put f n p m = f m := by simp [put, h]
/-- a new cell -/
theorem Stp.cell {p : Addr} {o : HO} (h : H p = none) : Stp f k H (put f k p) (k + 1) (upd H p o) := by
  refine ⟨by omega, fun n hn => put_ne (by omega), fun n h1 h2 => ?_, (Stp.new (f := f) (k := k) (o := o) h).keep, (Stp.new (f := f) (k := k) (o := o) h).there⟩
  have : n = k := by omega
  rw [this, put_at]
  exact h
theorem RS.cell {st : Sto} (r : RS K ex f st H) {p : Addr} {xs : List Dv} {vs : List V} (h : H p = none) (hx : RDs K ex f st.length H xs vs) : RS K ex (put f st.length p) (st ++ [.lst xs]) (upd H p (.lst vs)) := by
  have S : Stp f st.length H (put f st.length p) (st ++ [Co.lst xs]).length (upd H p (.lst vs)) := by
    rw [List.length_append]
    exact Stp.cell h
  refine ⟨fun m n hm hn e => ?_, fun n c e => ?_, fun a q z => r.exs a q (S.there a z), fun n hn q => ?_⟩
  · rw [List.length_append] at hm hn
    have nf : ∀ j, j < st.length → f j ≠ p := fun j hj z => by
      obtain ⟨ws, e2⟩ := r.cel j hj
      rw [z, h] at e2
      cases e2
    by_cases h1 : m = st.length
    · by_cases h2 : n = st.length
      · omega
      · rw [h1, put_at, put_ne h2] at e
        exact absurd e.symm (nf n (by simp at hn; omega))
    · by_cases h2 : n = st.length
      · rw [h2, put_at, put_ne h1] at e
        exact absurd e (nf m (by simp at hm; omega))
      · rw [put_ne h1, put_ne h2] at e
        exact r.inj m n (by simp at hm; omega) (by simp at hn; omega) e
  · by_cases h1 : n < st.length
    · rw [List.getElem?_append_left h1] at e
      rw [put_ne (by omega)]
      exact (r.obj n c e).mono S r.cel fun ws e2 => by rw [upd_ne (ne_of_none e2 h)]; exact e2
    · have h2 : n = st.length := by
        have := (List.getElem?_eq_some_iff.mp e).1
        rw [List.length_append] at this
        simp at this
        omega
      subst h2
      rw [List.getElem?_append_right (Nat.le_refl _)] at e
      simp at e
      subst e
      rw [put_at]
      exact .lst upd_same (RDs.mono S r.cel hx)
  · rw [List.length_append] at hn
    by_cases h2 : n = st.length
    · rw [h2, put_at] at q
      exact r.exs p q h
    · rw [put_ne h2] at q
      exact r.exc n (by simp at hn; omega) q
/-- a cell is written -/
theorem Stp.write {n : Nat} {o : HO} (hn : n < k) : Stp f k H f k (upd H (f n) o) := by
  refine ⟨Nat.le_refl _, fun _ _ => rfl, fun n h1 h2 => by omega, fun b u hb e => ?_, fun b e => ?_⟩
  · rw [upd_ne (Ne.symm (hb n hn))]
    exact e
  · by_cases h : b = f n
    · rw [h, upd_same] at e; cases e
    · rw [upd_ne h] at e; exact e
theorem RS.write {st : Sto} (r : RS K ex f st H) {n : Nat} {xs : List Dv} {vs : List V} (hn : n < st.length) (hx : RDs K ex f st.length H xs vs) : RS K ex f (st.set n (.lst xs)) (upd H (f n) (.lst vs)) := by
  have S : Stp f st.length H f st.length (upd H (f n) (.lst vs)) := Stp.write hn
  refine ⟨fun m j hm hj e => r.inj m j (by simpa using hm) (by simpa using hj) e, fun m c e => ?_, fun a q z => r.exs a q (S.there a z), fun m hm => r.exc m (by simpa using hm)⟩
  rw [List.length_set]
  by_cases h : m = n
  · subst h
    rw [List.getElem?_set_self hn] at e
    cases e
    exact .lst upd_same (RDs.mono S r.cel hx)
  · rw [List.getElem?_set_ne (Ne.symm h)] at e
    have hm := (List.getElem?_eq_some_iff.mp e).1
    exact (r.obj m c e).mono S r.cel fun ws e2 => by
      rw [upd_ne (fun z => h (r.inj m n hm hn z))]
      exact e2

theorem CoR.mono2 {ex2 : Addr → Prop} (s : Stp f k H f' k' H') (c : Cel f k H) (hx : ∀ a, ex2 a → ex a ∨ H a = none) {co : Co} {a b : Addr} (h : CoR K ex f k H co a) (hb : ∀ vs, H a = some (.lst vs) → H' b = some (.lst vs)) : CoR K ex2 f' k' H' co b := by
  cases h with
  | lst e r => exact .lst (hb _ e) (RDs.mono2 s c hx r)
/-- less is excluded -/
theorem RS.less {ex2 : Addr → Prop} {st : Sto} (r : RS K ex f st H) (hx : ∀ a, ex2 a → ex a) : RS K ex2 f st H :=
  ⟨r.inj, fun n c e => (r.obj n c e).mono2 Stp.refl r.cel (fun a q => .inl (hx a q)) fun _ z => z, fun a q => r.exs a (hx a q), fun n hn q => r.exc n hn (hx _ q)⟩
/-- a new list is excluded -/
theorem RS.more {st : Sto} (r : RS K ex f st H) {D : Addr} {o : HO} (hD : H D = none) : RS K (fun a => ex a ∨ a = D) f st (upd H D o) := by
  have S : Stp f st.length H f st.length (upd H D o) := Stp.new hD
  refine ⟨r.inj, fun n c e => (r.obj n c e).mono2 S r.cel (fun a q => q.imp id fun z => by rw [z]; exact hD) fun vs e2 => by rw [upd_ne (ne_of_none e2 hD)]; exact e2, fun a q z => ?_, fun n hn q => ?_⟩
  · rcases q with q | q
    · exact r.exs a q (S.there a z)
    · rw [q, upd_same] at z
      cases z
  · rcases q with q | q
    · exact r.exc n hn q
    · obtain ⟨ws, e⟩ := r.cel n hn
      rw [q, hD] at e
      cases e
/-- it is written -/
theorem RS.wr {st : Sto} (r : RS K ex f st H) {D : Addr} {vs0 vs1 : List V} (hD : ex D) (e0 : H D = some (.lst vs0)) : RS K ex f st (upd H D (.lst vs1)) := by
  refine ⟨r.inj, fun n c e => ?_, fun a q z => ?_, r.exc⟩
  · have hn := (List.getElem?_eq_some_iff.mp e).1
    cases r.obj n c e with
    | lst e1 hs => exact .lst (by rw [upd_ne (fun q => r.exc n hn (by rw [q]; exact hD))]; exact e1) (RDs.wr hD e0 hs)
  · by_cases q2 : a = D
    · rw [q2, upd_same] at z
      cases z
    · rw [upd_ne q2] at z
      exact r.exs a q z

/-! ### cells forgotten: those from k on are no longer named; their contents are lists that nobody changes -/
mutual
inductive Fz (st : Sto) (k : Nat) : Dv → Dv → Prop
  | non : Fz st k .non .non
  | bl (b : Bool) : Fz st k (.bl b) (.bl b)
  | int (i : Int) : Fz st k (.int i) (.int i)
  | str (s : Str) : Fz st k (.str s) (.str s)
  | tup {xs ys : List Dv} : Fzs st k xs ys → Fz st k (.tup xs) (.tup ys)
  | tux {xs ys : List Dv} : Fzs st k xs ys → Fz st k (.tux xs) (.tux ys)
  | tuk {xs ys : List Dv} : Fzs st k xs ys → Fz st k (.tuk xs) (.tuk ys)
  | rol {xs ys : List Dv} : Fzs st k xs ys → Fz st k (.rol xs) (.rol ys)
  | fro {xs ys : List Dv} : Fzs st k xs ys → Fz st k (.fro xs) (.fro ys)
  | obj {C : Addr} {ns : List Str} {xs ys : List Dv} : Fzs st k xs ys → Fz st k (.obj C ns xs) (.obj C ns ys)
  | ref (n : Nat) : n < k → Fz st k (.ref n) (.ref n)
  | dic {ks : KS} {xs ys : List Dv} : Fzs st k xs ys → Fz st k (.dic ks xs) (.dic ks ys)
  | cell {n : Nat} {xs ys : List Dv} : k ≤ n → st[n]? = some (.lst xs) → Fzs st k xs ys → Fz st k (.ref n) (.rol ys)
inductive Fzs (st : Sto) (k : Nat) : List Dv → List Dv → Prop
  | nil : Fzs st k [] []
  | cons {x y : Dv} {xs ys : List Dv} : Fz st k x y → Fzs st k xs ys → Fzs st k (x :: xs) (y :: ys)
end
theorem Fzs.len {st : Sto} : ∀ {xs ys : List Dv}, Fzs st k xs ys → xs.length = ys.length
  | _, _, .nil => rfl
  | _, _, .cons _ h => by simp [Fzs.len h]
mutual
theorem RD.fz {st : Sto} (r : RS K ex f st H) (hk : k ≤ st.length) : ∀ {d e : Dv} {v : V}, Fz st k d e → RD K ex f st.length H d v → RD K ex f k H e v
  | _, _, _, .non, .non => .non
  | _, _, _, .bl b, .bl _ => .bl b
  | _, _, _, .int i, .int _ => .int i
  | _, _, _, .str s, .str _ => .str s
  | _, _, _, .tup z, .tup h hs => .tup h (RDs.fz r hk z hs)
  | _, _, _, .tux z, .tux h hs => .tux h (RDs.fz r hk z hs)
  | _, _, _, .tuk z, .tuk h hs => .tuk h (RDs.fz r hk z hs)
  | _, _, _, .rol z, .rol h hx hn hs => .rol h hx (fun n h1 => hn n (by omega)) (RDs.fz r hk z hs)
  | _, _, _, .fro z, .fro h hs => .fro (h.imp (fun q => ⟨q.1, q.2.1, fun n h1 => q.2.2 n (by omega)⟩) id) (RDs.fz r hk z hs)
  | _, _, _, .obj z, .obj h hn hs => .obj h hn (RDs.fz r hk z hs)
  | _, _, _, .ref n h, .ref _ _ => .ref n h
  | _, _, _, .dic z, .dic h hl hs => .dic h (hl.trans (Fzs.len z)) (RDs.fz r hk z hs)
  | _, _, _, .cell (n := n) (xs := xs) h1 h2 z, .ref _ h3 => by
    have q := r.obj n _ h2
    cases q with
    | lst e hs =>
      have hne : ∀ m, m < k → f m ≠ f n := fun m hm e2 => by
        have := r.inj m n (by omega) h3 e2
        omega
      exact .rol e (r.exc n h3) hne (RDs.fz r hk z hs)
theorem RDs.fz {st : Sto} (r : RS K ex f st H) (hk : k ≤ st.length) : ∀ {ds es : List Dv} {vs : List V}, Fzs st k ds es → RDs K ex f st.length H ds vs → RDs K ex f k H es vs
  | _, _, _, .nil, .nil => .nil
  | _, _, _, .cons z zs, .cons h hs => .cons (RD.fz r hk z h) (RDs.fz r hk zs hs)
end
/-- (st, d) with the cells from st2.length on forgotten -/
structure Fg (st : Sto) (d : Dv) (st2 : Sto) (d2 : Dv) : Prop where
  len : st2.length ≤ st.length
  cel : ∀ n xs, n < st2.length → st[n]? = some (.lst xs) → ∃ ys, st2[n]? = some (.lst ys) ∧ Fzs st st2.length xs ys
  val : Fz st st2.length d d2
theorem RS.fg {st st2 : Sto} (r : RS K ex f st H) (hl : st2.length ≤ st.length) (hc : ∀ n xs, n < st2.length → st[n]? = some (.lst xs) → ∃ ys, st2[n]? = some (.lst ys) ∧ Fzs st st2.length xs ys) : RS K ex f st2 H := by
  refine ⟨fun m n hm hn e => r.inj m n (by omega) (by omega) e, fun n c e => ?_, r.exs, fun n hn => r.exc n (by omega)⟩
  have hn := (List.getElem?_eq_some_iff.mp e).1
  have h1 : st[n]? = some st[n] := by simp
  have h2 := r.obj n _ h1
  cases h3 : st[n] with
  | lst xs =>
    rw [h3] at h1 h2
    obtain ⟨ys, e2, z⟩ := hc n xs hn h1
    rw [e] at e2
    cases e2
    cases h2 with
    | lst e3 hs => exact .lst e3 (RDs.fz r hl z hs)
theorem Stp.fg {f1 : Nat → Addr} {k0 k1 k2 : Nat} (s : Stp f k0 H f1 k1 H') (h : k0 ≤ k2) (h2 : k2 ≤ k1) : Stp f k0 H f1 k2 H' :=
  ⟨h, s.agree, fun n a b => s.fresh n a (by omega), s.keep, s.there⟩
/-! no cell is named -/
mutual
inductive Nr : Dv → Prop
  | non : Nr .non
  | bl (b : Bool) : Nr (.bl b)
  | int (i : Int) : Nr (.int i)
  | str (s : Str) : Nr (.str s)
  | tup {xs : List Dv} : Nrs xs → Nr (.tup xs)
  | tux {xs : List Dv} : Nrs xs → Nr (.tux xs)
  | tuk {xs : List Dv} : Nrs xs → Nr (.tuk xs)
  | rol {xs : List Dv} : Nrs xs → Nr (.rol xs)
  | fro {xs : List Dv} : Nrs xs → Nr (.fro xs)
  | obj {C : Addr} {ns : List Str} {xs : List Dv} : Nrs xs → Nr (.obj C ns xs)
  | dic {ks : KS} {xs : List Dv} : Nrs xs → Nr (.dic ks xs)
inductive Nrs : List Dv → Prop
  | nil : Nrs []
  | cons {x : Dv} {xs : List Dv} : Nr x → Nrs xs → Nrs (x :: xs)
end
mutual
theorem Nr.fz {st : Sto} : ∀ {d : Dv}, Nr d → Fz st k d d
  | _, .non => .non
  | _, .bl b => .bl b
  | _, .int i => .int i
  | _, .str s => .str s
  | _, .tup h => .tup (Nrs.fz h)
  | _, .tux h => .tux (Nrs.fz h)
  | _, .tuk h => .tuk (Nrs.fz h)
  | _, .rol h => .rol (Nrs.fz h)
  | _, .fro h => .fro (Nrs.fz h)
  | _, .obj h => .obj (Nrs.fz h)
  | _, .dic h => .dic (Nrs.fz h)
theorem Nrs.fz {st : Sto} : ∀ {ds : List Dv}, Nrs ds → Fzs st k ds ds
  | _, .nil => .nil
  | _, .cons h hs => .cons (Nr.fz h) (Nrs.fz hs)
end
theorem Nrs.of : ∀ {ds : List Dv}, (∀ d ∈ ds, Nr d) → Nrs ds
  | [], _ => .nil
  | d :: r, h => .cons (h d (by simp)) (Nrs.of fun x hx => h x (by simp [hx]))
theorem Nrs.mem : ∀ {ds : List Dv}, Nrs ds → ∀ d ∈ ds, Nr d
  | _, .nil, _, h => by simp at h
  | _, .cons h hs, d, hd => by
    rcases List.mem_cons.mp hd with rfl | hd
    · exact h
    · exact Nrs.mem hs d hd
mutual
/-- without cells: whatever the numbers are -/
theorem RD.nr {f2 : Nat → Addr} {k2 : Nat} {ex2 : Addr → Prop} (hx : ∀ a, (ex2 a ∨ ∃ n, n < k2 ∧ f2 n = a) → (ex a ∨ ∃ n, n < k ∧ f n = a)) : ∀ {d : Dv} {v : V}, Nr d → RD K ex f k H d v → RD K ex2 f2 k2 H d v
  | _, _, .non, .non => .non
  | _, _, .bl b, .bl _ => .bl b
  | _, _, .int i, .int _ => .int i
  | _, _, .str s, .str _ => .str s
  | _, _, .tup z, .tup h hs => .tup h (RDs.nr hx z hs)
  | _, _, .tux z, .tux h hs => .tux h (RDs.nr hx z hs)
  | _, _, .tuk z, .tuk h hs => .tuk h (RDs.nr hx z hs)
  | _, _, .rol z, .rol h he hn hs => by
    refine .rol h (fun q => ?_) (fun n h1 q => ?_) (RDs.nr hx z hs)
    · rcases hx _ (.inl q) with y | ⟨m, h1, h2⟩
      · exact he y
      · exact hn m h1 h2
    · rcases hx _ (.inr ⟨n, h1, q⟩) with y | ⟨m, h1, h2⟩
      · exact he y
      · exact hn m h1 h2
  | _, _, .fro z, .fro h hs => by
    refine .fro (h.imp (fun q => ⟨q.1, fun y => ?_, fun n h1 y => ?_⟩) id) (RDs.nr hx z hs)
    · rcases hx _ (.inl y) with y | ⟨m, h1, h2⟩
      · exact q.2.1 y
      · exact q.2.2 m h1 h2
    · rcases hx _ (.inr ⟨n, h1, y⟩) with y | ⟨m, h1, h2⟩
      · exact q.2.1 y
      · exact q.2.2 m h1 h2
  | _, _, .obj z, .obj h hn hs => .obj h hn (RDs.nr hx z hs)
  | _, _, .dic z, .dic h hl hs => .dic h hl (RDs.nr hx z hs)
theorem RDs.nr {f2 : Nat → Addr} {k2 : Nat} {ex2 : Addr → Prop} (hx : ∀ a, (ex2 a ∨ ∃ n, n < k2 ∧ f2 n = a) → (ex a ∨ ∃ n, n < k ∧ f n = a)) : ∀ {ds : List Dv} {vs : List V}, Nrs ds → RDs K ex f k H ds vs → RDs K ex2 f2 k2 H ds vs
  | _, _, .nil, .nil => .nil
  | _, _, .cons z zs, .cons h hs => .cons (RD.nr hx z h) (RDs.nr hx zs hs)
end
end
end D2

/-! DL, part b: readings over data (De ..), lifted to the hand layer's readings. -/
namespace D2
open PySem PySem.Spec PyProof.Rows L2

/-- the slots -/
structure ER (K : PySem.W.Frag) (ex : Addr → Prop) (f : Nat → Addr) (k : Nat) (H : Hp) (σ : En) (τ : L2.St) : Prop where
  len : σ.length = τ.length
  at_ : ∀ (i : Nat) (d : Dv), σ[i]? = some (some d) → ∃ v, τ[i]? = some (some v) ∧ RD K ex f k H d v
abbrev DK := Dv → Sto → Prop
abbrev DTE := En → Sto → DK → Prop
abbrev DTT := En → Sto → (Bool → Sto → Prop) → Prop
abbrev DTA := En → Sto → (List Dv → Sto → Prop) → Prop
structure DEnds where
  nx : En → Sto → Prop
  rt : DK
  bk : En → Sto → Prop := fun _ _ => False
  ct : En → Sto → Prop := fun _ _ => False
abbrev DTS := DEnds → En → Sto → Prop
structure DEnds.le (a b : DEnds) : Prop where
  nx : ∀ σ s, a.nx σ s → b.nx σ s
  rt : ∀ d s, a.rt d s → b.rt d s
  bk : ∀ σ s, a.bk σ s → b.bk σ s
  ct : ∀ σ s, a.ct σ s → b.ct σ s

section
variable {K : PySem.W.Frag} {ex : Addr → Prop} {f f1 f' : Nat → Addr} {k k1 k' : Nat} {H H1 H' : Hp} {σ σ' : En} {τ τ' : L2.St} {st st1 st' : Sto}
theorem ER.mono (e : ER K ex f k H σ τ) (s : Stp f k H f' k' H') (c : Cel f k H) : ER K ex f' k' H' σ τ :=
  ⟨e.len, fun i d h => let ⟨v, h1, h2⟩ := e.at_ i d h; ⟨v, h1, h2.mono s c⟩⟩
theorem ER.set (e : ER K ex f k H σ τ) {i : Nat} {d : Dv} {v : V} (r : RD K ex f k H d v) : ER K ex f k H (σ.set i (some d)) (τ.set i (some v)) := by
  refine ⟨by simp [e.len], fun j c h => ?_⟩
  by_cases hj : i = j
  · subst hj
    by_cases hi : i < σ.length
    · rw [List.getElem?_set_self hi] at h
      cases h
      exact ⟨v, by rw [List.getElem?_set_self (by rw [← e.len]; exact hi)], r⟩
    · rw [List.getElem?_eq_none (by simpa using hi)] at h
      cases h
  · rw [List.getElem?_set_ne hj] at h
    obtain ⟨u, h1, h2⟩ := e.at_ j c h
    exact ⟨u, by rw [List.getElem?_set_ne hj]; exact h1, h2⟩

/-- behind an expression: for any later world of the hand layer -/
def Af (K : PySem.W.Frag) (ex : Addr → Prop) (f : Nat → Addr) (k : Nat) (H : Hp) (Q : VK) : DK := fun d st' => ∀ f' H' v, Stp f k H f' st'.length H' → RS K ex f' st' H' → RD K ex f' st'.length H' d v → Q v H'
def AfB (K : PySem.W.Frag) (ex : Addr → Prop) (f : Nat → Addr) (k : Nat) (H : Hp) (Q : Bool → Hp → Prop) : Bool → Sto → Prop := fun b st' => ∀ f' H', Stp f k H f' st'.length H' → RS K ex f' st' H' → Q b H'
def AfA (K : PySem.W.Frag) (ex : Addr → Prop) (f : Nat → Addr) (k : Nat) (H : Hp) (Q : List V → Hp → Prop) : List Dv → Sto → Prop := fun ds st' => ∀ f' H' vs, Stp f k H f' st'.length H' → RS K ex f' st' H' → RDs K ex f' st'.length H' ds vs → Q vs H'
def AfS (K : PySem.W.Frag) (ex : Addr → Prop) (f : Nat → Addr) (k : Nat) (H : Hp) (P : L2.St → Hp → Prop) : En → Sto → Prop := fun σ' st' => ∀ f' H' τ', Stp f k H f' st'.length H' → RS K ex f' st' H' → ER K ex f' st'.length H' σ' τ' → P τ' H'
def AfE (K : PySem.W.Frag) (ex : Addr → Prop) (f : Nat → Addr) (k : Nat) (H : Hp) (D : Ends) : DEnds := ⟨AfS K ex f k H D.nx, Af K ex f k H D.rt, AfS K ex f k H D.bk, AfS K ex f k H D.ct⟩
theorem Af.self {Q : VK} {d : Dv} {v : V} (h : Af K ex f st.length H Q d st) (r : RS K ex f st H) (rd : RD K ex f st.length H d v) : Q v H := h f H v Stp.refl r rd
theorem Af.later {Q : VK} {d : Dv} (h : Af K ex f k H Q d st') (s : Stp f k H f1 k1 H1) : Af K ex f1 k1 H1 Q d st' := fun f' H' v s' r rd => h f' H' v (s.trans s') r rd
theorem AfS.later {P : L2.St → Hp → Prop} (h : AfS K ex f k H P σ' st') (s : Stp f k H f1 k1 H1) : AfS K ex f1 k1 H1 P σ' st' := fun f' H' v s' r rd => h f' H' v (s.trans s') r rd
theorem AfE.later {D : Ends} (s : Stp f k H f1 k1 H1) : (AfE K ex f k H D).le (AfE K ex f1 k1 H1 D) :=
  ⟨fun _ _ h => AfS.later h s, fun _ _ h => Af.later h s, fun _ _ h => AfS.later h s, fun _ _ h => AfS.later h s⟩

def lE (K : PySem.W.Frag) (w : DTE) : TE := fun τ H Q => ∃ ex f σ st, RS K ex f st H ∧ ER K ex f st.length H σ τ ∧ w σ st (Af K ex f st.length H Q)
def lT (K : PySem.W.Frag) (w : DTT) : TT := fun τ H Q => ∃ ex f σ st, RS K ex f st H ∧ ER K ex f st.length H σ τ ∧ w σ st (AfB K ex f st.length H Q)
def lA (K : PySem.W.Frag) (w : DTA) : TA := fun τ H Q => ∃ ex f σ st, RS K ex f st H ∧ ER K ex f st.length H σ τ ∧ w σ st (AfA K ex f st.length H Q)
def lS (K : PySem.W.Frag) (w : DTS) : TS := fun D τ H => ∃ ex f σ st, RS K ex f st H ∧ ER K ex f st.length H σ τ ∧ w (AfE K ex f st.length H D) σ st
end

def MonoE (w : DTE) : Prop := ∀ σ st (Q Q' : DK), (∀ d s, Q d s → Q' d s) → w σ st Q → w σ st Q'
def MonoT (w : DTT) : Prop := ∀ σ st (Q Q' : Bool → Sto → Prop), (∀ d s, Q d s → Q' d s) → w σ st Q → w σ st Q'
def MonoA (w : DTA) : Prop := ∀ σ st (Q Q' : List Dv → Sto → Prop), (∀ d s, Q d s → Q' d s) → w σ st Q → w σ st Q'
def MonoS (w : DTS) : Prop := ∀ σ st (D D' : DEnds), D.le D' → w D σ st → w D' σ st
structure DE (X : Cx) (e : Expr) (w : DTE) : Prop where
  pe : PE X e (lE X.K w)
  mono : MonoE w
structure DT (X : Cx) (e : Expr) (w : DTT) : Prop where
  pt : PT X e (lT X.K w)
  mono : MonoT w
structure DW (X : Cx) (e : Expr) (w : DTT) : Prop where
  pw : PW X e (lT X.K w)
  mono : MonoT w
structure DA (X : Cx) (es : List Expr) (w : DTA) : Prop where
  pa : PA X es (lA X.K w)
  mono : MonoA w
structure DS (X : Cx) (s : Stmt) (w : DTS) : Prop where
  ps : PS X s (lS X.K w)
  mono : MonoS w
structure DSs (X : Cx) (s : List Stmt) (w : DTS) : Prop where
  ps : PSs X s (lS X.K w)
  mono : MonoS w

section
variable {X : Cx} {K : PySem.W.Frag}
/-! ### from the hand layer's readings -/
theorem _root_.L2.PE.imp {e : Expr} {t u : TE} (h : PE X e t) (i : ∀ τ H Q, u τ H Q → t τ H Q) : PE X e u := ⟨fun pins s τ H Q I hw => h.run pins s τ H Q I (i τ H Q hw)⟩
theorem _root_.L2.PT.imp {e : Expr} {t u : TT} (h : PT X e t) (i : ∀ τ H Q, u τ H Q → t τ H Q) : PT X e u := ⟨fun pins s τ H Q I hw => h.run pins s τ H Q I (i τ H Q hw)⟩
theorem _root_.L2.PW.imp {e : Expr} {t u : TT} (h : PW X e t) (i : ∀ τ H Q, u τ H Q → t τ H Q) : PW X e u := ⟨fun wh pins s τ H Q I hw => h.run wh pins s τ H Q I (i τ H Q hw)⟩
theorem _root_.L2.PA.imp {e : List Expr} {t u : TA} (h : PA X e t) (i : ∀ τ H Q, u τ H Q → t τ H Q) : PA X e u := ⟨fun pos pins s τ H Q I hw => h.run pos pins s τ H Q I (i τ H Q hw)⟩
theorem _root_.L2.PS.imp {e : Stmt} {t u : TS} (h : PS X e t) (i : ∀ D τ H, u D τ H → t D τ H) : PS X e u := ⟨fun pins s τ H D I hw => h.run pins s τ H D I (i D τ H hw)⟩
theorem _root_.L2.PSs.imp {e : List Stmt} {t u : TS} (h : PSs X e t) (i : ∀ D τ H, u D τ H → t D τ H) : PSs X e u := ⟨fun pins s τ H D I hw => h.run pins s τ H D I (i D τ H hw)⟩
theorem _root_.L2.PG.imp {e : Expr} {t u : TG} (h : PG X e t) (i : ∀ v τ H Q, u v τ H Q → t v τ H Q) : PG X e u := ⟨fun pins s τ H v uu Q I r hw => h.run pins s τ H v uu Q I r (i v τ H Q hw)⟩
theorem _root_.L2.PI.imp {tg e : Expr} {t u : TI} (h : PI X tg e t) (i : ∀ τ H Q, u τ H Q → t τ H Q) : PI X tg e u := ⟨fun pins s τ H Q I hw => h.run pins s τ H Q I (i τ H Q hw)⟩
theorem _root_.L2.PTs.imp {e : List Expr} {t u : TT} (h : PTs X e t) (i : ∀ τ H Q, u τ H Q → t τ H Q) : PTs X e u := ⟨fun pins s τ H Q I hw => h.run pins s τ H Q I (i τ H Q hw)⟩

variable {ex : Addr → Prop} {f : Nat → Addr} {H : Hp} {σ : En} {τ : L2.St} {st : Sto}
/-- a lifted reading, used within a world -/
theorem lE.use {w : DTE} (m : MonoE w) (r : RS K ex f st H) (er : ER K ex f st.length H σ τ) {R : DK} (h : w σ st R) {P : VK}
    (q : ∀ f1 H1 d st1 v, Stp f st.length H f1 st1.length H1 → RS K ex f1 st1 H1 → ER K ex f1 st1.length H1 σ τ → RD K ex f1 st1.length H1 d v → R d st1 → P v H1) : lE K w τ H P :=
  ⟨ex, f, σ, st, r, er, m σ st _ _ (fun d st1 hr f1 H1 v s r1 rd => q f1 H1 d st1 v s r1 (er.mono s r.cel) rd hr) h⟩
theorem lT.use {w : DTT} (m : MonoT w) (r : RS K ex f st H) (er : ER K ex f st.length H σ τ) {R : Bool → Sto → Prop} (h : w σ st R) {P : Bool → Hp → Prop}
    (q : ∀ f1 H1 b st1, Stp f st.length H f1 st1.length H1 → RS K ex f1 st1 H1 → ER K ex f1 st1.length H1 σ τ → R b st1 → P b H1) : lT K w τ H P :=
  ⟨ex, f, σ, st, r, er, m σ st _ _ (fun d st1 hr f1 H1 s r1 => q f1 H1 d st1 s r1 (er.mono s r.cel) hr) h⟩
theorem lA.use {w : DTA} (m : MonoA w) (r : RS K ex f st H) (er : ER K ex f st.length H σ τ) {R : List Dv → Sto → Prop} (h : w σ st R) {P : List V → Hp → Prop}
    (q : ∀ f1 H1 d st1 v, Stp f st.length H f1 st1.length H1 → RS K ex f1 st1 H1 → ER K ex f1 st1.length H1 σ τ → RDs K ex f1 st1.length H1 d v → R d st1 → P v H1) : lA K w τ H P :=
  ⟨ex, f, σ, st, r, er, m σ st _ _ (fun d st1 hr f1 H1 v s r1 rd => q f1 H1 d st1 v s r1 (er.mono s r.cel) rd hr) h⟩
theorem lS.use {w : DTS} (m : MonoS w) (r : RS K ex f st H) (er : ER K ex f st.length H σ τ) {D : DEnds} (h : w D σ st) {E : Ends} (le : D.le (AfE K ex f st.length H E)) : lS K w E τ H :=
  ⟨ex, f, σ, st, r, er, m σ st _ _ le h⟩

/-! ### names and constants -/
abbrev wVar (i : Nat) : DTE := fun σ st Q => match σ[i]? with | some (some d) => Q d st | _ => False
theorem de_var (i : Nat) {x : Str} {pos : Pos} (hN : X.N[i]? = some x := by rfl) (hv : Vis X.env.scope x := by first | exact Or.inl rfl | exact Or.inr (Or.inl rfl) | exact Or.inr (Or.inr rfl)) (hd : (x == ("__debug__" : Str)) = false := by decide)
    (hcd : (x == ("__classdict__" : Str)) = false := by decide) : DE X (.Name x pos) (wVar i) := by
  refine ⟨(pe_var hN hv hd hcd).imp fun τ H Q h => ?_, fun σ st Q Q' q h => ?_⟩
  · obtain ⟨ex, f, σ, st, r, er, h⟩ := h
    unfold wVar at h
    split at h
    · rename_i d hd
      obtain ⟨v, h1, h2⟩ := er.at_ i d hd
      exact ⟨v, h1, h.self r h2⟩
    · exact h.elim
  · unfold wVar at *
    split at h
    · exact q _ _ h
    · exact h.elim
/-- a constant -/
inductive CV : Dv → V → Prop
  | non : CV .non .non
  | bl (b : Bool) : CV (.bl b) (.bl b)
  | int (i : Int) : CV (.int i) (.int i)
  | str (s : Str) : CV (.str s) (.str s)
theorem CV.rd {d : Dv} {v : V} {k : Nat} (c : CV d v) : RD K ex f k H d v := by
  cases c with
  | non => exact .non
  | bl b => exact .bl b
  | int i => exact .int i
  | str s => exact .str s
abbrev wC (d : Dv) : DTE := fun _ st Q => Q d st
theorem de_c {e : Expr} {d : Dv} {v : V} (h : PE X e (tC v)) (c : CV d v) : DE X e (wC d) :=
  ⟨h.imp fun τ H Q ⟨ex, f, σ, st, r, er, h⟩ => Af.self h r c.rd, fun σ st Q Q' q h => q _ _ h⟩
theorem de_int {i : Int} {j pos} : DE X (.Constant (.int i) j pos) (wC (.int i)) := de_c pe_int (.int i)
theorem de_bl {b : Bool} {j pos} : DE X (.Constant (.bool b) j pos) (wC (.bl b)) := de_c pe_bl (.bl b)
theorem de_non {j pos} : DE X (.Constant .none j pos) (wC .non) := de_c pe_non .non
theorem de_str {x : Str} {j pos} : DE X (.Constant (.str x) j pos) (wC (.str x)) := de_c pe_str (.str x)
theorem de_glob {x : Str} {d : Dv} {v : V} {u : Value} {pos : Pos} (c : CV d v) (hg : Gl X x) (hm : X.mg x = some u) (r : RelV v u) (hd : (x == ("__debug__" : Str)) = false := by decide) : DE X (.Name x pos) (wC d) := de_c (pe_glob hg hm r hd) c

/-! ### operators by values -/
abbrev G2 := Dv → Dv → Sto → DK → Prop
def Mono2 (g : G2) : Prop := ∀ x y st (Q Q' : DK), (∀ d s, Q d s → Q' d s) → g x y st Q → g x y st Q'
/-- what a two-place operation on values does to data -/
structure OpD (X : Cx) (F : Value → Value → Sem Value) (g : G2) : Prop where
  mono : Mono2 g
  ok : ∃ r : R2, OpR X F r ∧ ∀ ex f st H x y vx vy Q, RS X.K ex f st H → RD X.K ex f st.length H x vx → RD X.K ex f st.length H y vy → g x y st (Af X.K ex f st.length H Q) → r vx vy H Q
theorem OpD.or {F : Value → Value → Sem Value} {g g' : G2} (a : OpD X F g) (b : OpD X F g') : OpD X F (fun x y st Q => g x y st Q ∨ g' x y st Q) := by
  obtain ⟨m1, r1, h1, q1⟩ := a
  obtain ⟨m2, r2, h2, q2⟩ := b
  refine ⟨fun x y st Q Q' q h => h.imp (m1 x y st Q Q' q) (m2 x y st Q Q' q), _, h1.or h2, fun ex f st H x y vx vy Q r rx ry h => ?_⟩
  exact h.imp (q1 ex f st H x y vx vy Q r rx ry) (q2 ex f st H x y vx vy Q r rx ry)
theorem OpD.imp {F : Value → Value → Sem Value} {g g' : G2} (a : OpD X F g) (m : Mono2 g') (i : ∀ x y st Q, g' x y st Q → g x y st Q) : OpD X F g' := by
  obtain ⟨m1, r1, h1, q1⟩ := a
  exact ⟨m, r1, h1, fun ex f st H x y vx vy Q r rx ry h => q1 ex f st H x y vx vy Q r rx ry (i x y st _ h)⟩
abbrev w2 (g : G2) (wa wb : DTE) : DTE := fun σ st Q => wa σ st fun x st1 => wb σ st1 fun y st2 => g x y st2 Q
theorem w2_mono {g : G2} {wa wb : DTE} (mg : Mono2 g) (ma : MonoE wa) (mb : MonoE wb) : MonoE (w2 g wa wb) := fun σ st Q Q' q h =>
  ma _ _ _ _ (fun x st1 h1 => mb _ _ _ _ (fun y st2 h2 => mg _ _ _ _ _ q h2) h1) h
theorem w2_lift {F : Value → Value → Sem Value} {g : G2} {wa wb : DTE} {r : R2} {X : Cx} (q : ∀ ex f st H x y vx vy Q, RS X.K ex f st H → RD X.K ex f st.length H x vx → RD X.K ex f st.length H y vy → g x y st (Af X.K ex f st.length H Q) → r vx vy H Q)
    (mg : Mono2 g) (ma : MonoE wa) (mb : MonoE wb) (τ : L2.St) (H : Hp) (Q : VK) (h : lE X.K (w2 g wa wb) τ H Q) : tOp r (lE X.K wa) (lE X.K wb) τ H Q := by
  obtain ⟨ex, f, σ, st, rs, er, h⟩ := h
  refine lE.use ma rs er h fun f1 H1 x st1 vx s1 r1 e1 rx h1 => ?_
  refine lE.use mb r1 e1 h1 fun f2 H2 y st2 vy s2 r2 e2 ry h2 => ?_
  exact q ex f2 st2 H2 x y vx vy Q r2 (rx.mono s2 r1.cel) ry (mg _ _ _ _ _ (fun d s hd => hd.later (s1.trans s2)) h2)
theorem de_op {op : Operator} {g : G2} {a b : Expr} {wa wb : DTE} {pos : Pos} (o : OpD X (binaryOp op) g) (ha : DE X a wa) (hb : DE X b wb) : DE X (.BinOp a op b pos) (w2 g wa wb) := by
  obtain ⟨mg, r, ho, q⟩ := o
  exact ⟨(pe_op ho ha.pe hb.pe).imp (w2_lift (F := binaryOp op) q mg ha.mono hb.mono), w2_mono mg ha.mono hb.mono⟩
theorem de_cmp {op : CmpOp} {g : G2} {a b : Expr} {wa wb : DTE} {pos : Pos} (o : OpD X (compareOp op) g) (ha : DE X a wa) (hb : DE X b wb) (hm : behindInMarks op b = false) : DE X (.Compare a [op] [b] pos) (w2 g wa wb) := by
  obtain ⟨mg, r, ho, q⟩ := o
  exact ⟨(pe_cmpR ho ha.pe hb.pe hm).imp (w2_lift (F := compareOp op) q mg ha.mono hb.mono), w2_mono mg ha.mono hb.mono⟩
/-- a value that is a bool, as a test -/
abbrev wB (w : DTE) : DTT := fun σ st Q => w σ st fun d st1 => match d with | .bl b => Q b st1 | _ => False
theorem wB_mono {w : DTE} (m : MonoE w) : MonoT (wB w) := fun σ st Q Q' q h => m _ _ _ _ (fun d s h1 => by
  split at h1
  · exact q _ _ h1
  · exact h1.elim) h
theorem dt_cmp {op : CmpOp} {g : G2} {a b : Expr} {wa wb : DTE} {pos : Pos} (o : OpD X (compareOp op) g) (ha : DE X a wa) (hb : DE X b wb) (hm : behindInMarks op b = false) : DT X (.Compare a [op] [b] pos) (wB (w2 g wa wb)) := by
  obtain ⟨mg, r, ho, q⟩ := o
  refine ⟨(pt_cmpR ho ha.pe hb.pe hm).imp fun τ H Q h => ?_, wB_mono (w2_mono mg ha.mono hb.mono)⟩
  obtain ⟨ex, f, σ, st, rs, er, h⟩ := h
  refine w2_lift (F := compareOp op) (X := X) q mg ha.mono hb.mono τ H (fun x H' => ∃ k, x = .bl k ∧ Q k H') ⟨ex, f, σ, st, rs, er, w2_mono mg ha.mono hb.mono _ _ _ _ (fun d s h1 f' H' v s' r' rd => ?_) h⟩
  split at h1
  · cases rd
    exact ⟨_, rfl, h1 f' H' s' r'⟩
  · exact h1.elim
/-- by truth -/
def truD (d : Dv) (st : Sto) : Option Bool := match d with
  | .non => some false
  | .bl b => some b
  | .int i => some (i != 0)
  | .tup xs => some (!xs.isEmpty)
  | .tux xs => some (!xs.isEmpty)
  | .rol xs => some (!xs.isEmpty)
  | .fro xs => some (!xs.isEmpty)
  | .ref n => match st[n]? with | some (.lst xs) => some (!xs.isEmpty) | none => none
  | _ => none
abbrev wTru (w : DTE) : DTT := fun σ st Q => w σ st fun d st1 => match truD d st1 with | some b => Q b st1 | none => (match d with | .str s => s.length ≤ sizeLine ∧ Q ((s.length : Int) != 0) st1 | _ => False)
theorem wTru_mono {w : DTE} (m : MonoE w) : MonoT (wTru w) := fun σ st Q Q' q h => m _ _ _ _ (fun d s h1 => by
  split at h1
  · exact q _ _ h1
  · split at h1
    · exact ⟨h1.1, q _ _ h1.2⟩
    · exact h1.elim) h
theorem isEmpty_rds {ds : List Dv} {vs : List V} {k : Nat} (h : RDs K ex f k H ds vs) : ds.isEmpty = vs.isEmpty := by cases h <;> rfl
theorem dt_tru {e : Expr} {w : DTE} (h : DE X e w) (he : ∀ whole, isTrue e X.env whole = (do let v ← whole; standAt e.pos; holding [v] (truthy v)) := by intro _; rfl) : DT X e (wTru w) := by
  refine ⟨(pt_truth h.pe he).imp fun τ H Q hh => ?_, wTru_mono h.mono⟩
  obtain ⟨ex, f, σ, st, r, er, hh⟩ := hh
  refine lE.use h.mono r er hh fun f1 H1 d st1 v s1 r1 e1 rd h1 => ?_
  cases rd with
  | non => exact ⟨false, rfl, h1 f1 H1 s1 r1⟩
  | bl b => exact ⟨b, rfl, h1 f1 H1 s1 r1⟩
  | int i => exact ⟨_, rfl, h1 f1 H1 s1 r1⟩
  | str s => exact ⟨_, ⟨h1.1, rfl⟩, h1.2 f1 H1 s1 r1⟩
  | tup h2 hs => exact ⟨_, .inr (.inl ⟨_, h2, rfl⟩), by rw [← isEmpty_rds hs]; exact h1 f1 H1 s1 r1⟩
  | tux h2 hs => exact ⟨_, .inr (.inl ⟨_, .inl (.inr (h2.imp fun _ q => q.1)), rfl⟩), by rw [← isEmpty_rds hs]; exact h1 f1 H1 s1 r1⟩
  | rol h2 hx hn hs => exact ⟨_, .inl ⟨_, .inl (.inl h2), rfl⟩, by rw [← isEmpty_rds hs]; exact h1 f1 H1 s1 r1⟩
  | fro h2 hs => exact ⟨_, .inl ⟨_, h2.imp (fun q => q.1) id, rfl⟩, by rw [← isEmpty_rds hs]; exact h1 f1 H1 s1 r1⟩
  | obj h2 hn hs => exact h1.elim
  | dic h2 hl hs => exact h1.elim
  | tuk h2 hs => exact h1.elim
  | ref n hn =>
    have h2 : st1[n]? = some st1[n] := by simp
    have h3 := r1.obj n _ h2
    cases h4 : st1[n] with
    | lst xs =>
      rw [h4] at h2 h3
      cases h3 with
      | lst e hs =>
        simp only [truD, h2] at h1
        exact ⟨_, .inl ⟨_, .inl (.inl e), rfl⟩, by rw [← isEmpty_rds hs]; exact h1 f1 H1 s1 r1⟩

/-! ### and, or, not, if -/
abbrev wAnd (a b : DTT) : DTT := fun σ st Q => a σ st fun c st1 => if c = true then b σ st1 Q else Q false st1
abbrev wOr (a b : DTT) : DTT := fun σ st Q => a σ st fun c st1 => if c = true then Q true st1 else b σ st1 Q
abbrev wNot (a : DTT) : DTT := fun σ st Q => a σ st fun c st1 => Q (!c) st1
theorem wAnd_mono {a b : DTT} (ma : MonoT a) (mb : MonoT b) : MonoT (wAnd a b) := fun σ st Q Q' q h => ma _ _ _ _ (fun c s h1 => by
  cases c with
  | true => exact mb _ _ _ _ q h1
  | false => exact q _ _ h1) h
theorem wOr_mono {a b : DTT} (ma : MonoT a) (mb : MonoT b) : MonoT (wOr a b) := fun σ st Q Q' q h => ma _ _ _ _ (fun c s h1 => by
  cases c with
  | false => exact mb _ _ _ _ q h1
  | true => exact q _ _ h1) h
theorem wNot_mono {a : DTT} (ma : MonoT a) : MonoT (wNot a) := fun σ st Q Q' q h => ma _ _ _ _ (fun c s h1 => q _ _ h1) h
theorem AfB.later {f1 : Nat → Addr} {k k1 : Nat} {H1 : Hp} {Q : Bool → Hp → Prop} {b : Bool} {st' : Sto} (h : AfB K ex f k H Q b st') (s : Stp f k H f1 k1 H1) : AfB K ex f1 k1 H1 Q b st' := fun f' H' s' r => h f' H' (s.trans s') r
theorem AfA.later {f1 : Nat → Addr} {k k1 : Nat} {H1 : Hp} {Q : List V → Hp → Prop} {b : List Dv} {st' : Sto} (h : AfA K ex f k H Q b st') (s : Stp f k H f1 k1 H1) : AfA K ex f1 k1 H1 Q b st' := fun f' H' v s' r => h f' H' v (s.trans s') r
theorem dw_one {op : BoolOp} {a : Expr} {wa : DTT} {pos : Pos} (ha : DT X a wa) : DW X (.BoolOp op [a] pos) wa := by
  cases op with
  | And => exact ⟨pw_and1 ha.pt, ha.mono⟩
  | Or => exact ⟨pw_or1 ha.pt, ha.mono⟩
theorem dw_and {a b : Expr} {rest : List Expr} {wa wb : DTT} {pos : Pos} (ha : DT X a wa) (hb : DW X (.BoolOp .And (b :: rest) pos) wb) : DW X (.BoolOp .And (a :: b :: rest) pos) (wAnd wa wb) := by
  refine ⟨(pw_and ha.pt hb.pw).imp fun τ H Q h => ?_, wAnd_mono ha.mono hb.mono⟩
  obtain ⟨ex, f, σ, st, r, er, h⟩ := h
  refine lT.use ha.mono r er h fun f1 H1 c st1 s1 r1 e1 h1 => ?_
  cases c with
  | true => exact lT.use hb.mono r1 e1 h1 fun f2 H2 c st2 s2 r2 e2 h2 => h2 f2 H2 (s1.trans s2) r2
  | false => exact h1 f1 H1 s1 r1
theorem dw_or {a b : Expr} {rest : List Expr} {wa wb : DTT} {pos : Pos} (ha : DT X a wa) (hb : DW X (.BoolOp .Or (b :: rest) pos) wb) : DW X (.BoolOp .Or (a :: b :: rest) pos) (wOr wa wb) := by
  refine ⟨(pw_or ha.pt hb.pw).imp fun τ H Q h => ?_, wOr_mono ha.mono hb.mono⟩
  obtain ⟨ex, f, σ, st, r, er, h⟩ := h
  refine lT.use ha.mono r er h fun f1 H1 c st1 s1 r1 e1 h1 => ?_
  cases c with
  | false => exact lT.use hb.mono r1 e1 h1 fun f2 H2 c st2 s2 r2 e2 h2 => h2 f2 H2 (s1.trans s2) r2
  | true => exact h1 f1 H1 s1 r1
theorem DW.dt {e : Expr} {w : DTT} (h : DW X e w) : DT X e w := ⟨h.pw.pt, h.mono⟩
theorem dt_not {a : Expr} {wa : DTT} {pos : Pos} (ha : DT X a wa) : DT X (.UnaryOp .Not a pos) (wNot wa) := by
  refine ⟨(pt_not ha.pt).imp fun τ H Q h => ?_, wNot_mono ha.mono⟩
  obtain ⟨ex, f, σ, st, r, er, h⟩ := h
  exact lT.use ha.mono r er h fun f1 H1 c st1 s1 r1 e1 h1 => h1 f1 H1 s1 r1
/-- .. as values, all but the last a bool -/
abbrev wAndV (a b : DTE) : DTE := fun σ st Q => a σ st fun d st1 => match d with | .bl true => b σ st1 Q | .bl false => Q (.bl false) st1 | _ => False
abbrev wOrV (a b : DTE) : DTE := fun σ st Q => a σ st fun d st1 => match d with | .bl true => Q (.bl true) st1 | .bl false => b σ st1 Q | _ => False
abbrev wNotV (a : DTE) : DTE := fun σ st Q => a σ st fun d st1 => match d with | .bl c => Q (.bl (!c)) st1 | _ => False
theorem wAndV_mono {a b : DTE} (ma : MonoE a) (mb : MonoE b) : MonoE (wAndV a b) := fun σ st Q Q' q h => ma _ _ _ _ (fun c s h1 => by
  split at h1
  · exact mb _ _ _ _ q h1
  · exact q _ _ h1
  · exact h1.elim) h
theorem wOrV_mono {a b : DTE} (ma : MonoE a) (mb : MonoE b) : MonoE (wOrV a b) := fun σ st Q Q' q h => ma _ _ _ _ (fun c s h1 => by
  split at h1
  · exact q _ _ h1
  · exact mb _ _ _ _ q h1
  · exact h1.elim) h
theorem wNotV_mono {a : DTE} (ma : MonoE a) : MonoE (wNotV a) := fun σ st Q Q' q h => ma _ _ _ _ (fun c s h1 => by
  split at h1
  · exact q _ _ h1
  · exact h1.elim) h
theorem de_one {op : BoolOp} {a : Expr} {wa : DTE} {pos : Pos} (ha : DE X a wa) : DE X (.BoolOp op [a] pos) wa := ⟨pe_one ha.pe, ha.mono⟩
theorem de_and {a b : Expr} {rest : List Expr} {wa wb : DTE} {pos : Pos} (ha : DE X a wa) (hb : DE X (.BoolOp .And (b :: rest) pos) wb) : DE X (.BoolOp .And (a :: b :: rest) pos) (wAndV wa wb) := by
  refine ⟨(pe_and ha.pe hb.pe).imp fun τ H Q h => ?_, wAndV_mono ha.mono hb.mono⟩
  obtain ⟨ex, f, σ, st, r, er, h⟩ := h
  refine lE.use ha.mono r er h fun f1 H1 d st1 v s1 r1 e1 rd h1 => ?_
  split at h1
  · cases rd
    exact ⟨true, rfl, lE.use hb.mono r1 e1 h1 fun f2 H2 d st2 v s2 r2 e2 rd2 h2 => h2 f2 H2 v (s1.trans s2) r2 rd2⟩
  · cases rd
    exact ⟨false, rfl, h1 f1 H1 _ s1 r1 (.bl false)⟩
  · exact h1.elim
theorem de_or {a b : Expr} {rest : List Expr} {wa wb : DTE} {pos : Pos} (ha : DE X a wa) (hb : DE X (.BoolOp .Or (b :: rest) pos) wb) : DE X (.BoolOp .Or (a :: b :: rest) pos) (wOrV wa wb) := by
  refine ⟨(pe_or ha.pe hb.pe).imp fun τ H Q h => ?_, wOrV_mono ha.mono hb.mono⟩
  obtain ⟨ex, f, σ, st, r, er, h⟩ := h
  refine lE.use ha.mono r er h fun f1 H1 d st1 v s1 r1 e1 rd h1 => ?_
  split at h1
  · cases rd
    exact ⟨true, rfl, h1 f1 H1 _ s1 r1 (.bl true)⟩
  · cases rd
    exact ⟨false, rfl, lE.use hb.mono r1 e1 h1 fun f2 H2 d st2 v s2 r2 e2 rd2 h2 => h2 f2 H2 v (s1.trans s2) r2 rd2⟩
  · exact h1.elim
theorem de_not {a : Expr} {wa : DTE} {pos : Pos} (ha : DE X a wa) : DE X (.UnaryOp .Not a pos) (wNotV wa) := by
  refine ⟨(pe_not ha.pe).imp fun τ H Q h => ?_, wNotV_mono ha.mono⟩
  obtain ⟨ex, f, σ, st, r, er, h⟩ := h
  refine lE.use ha.mono r er h fun f1 H1 d st1 v s1 r1 e1 rd h1 => ?_
  split at h1
  · cases rd
    exact ⟨_, rfl, h1 f1 H1 _ s1 r1 (.bl _)⟩
  · exact h1.elim
abbrev wIfE (t : DTT) (a b : DTE) : DTE := fun σ st Q => t σ st fun c st1 => if c = true then a σ st1 Q else b σ st1 Q
theorem de_if {c a b : Expr} {wc : DTT} {wa wb : DTE} {pos : Pos} (hc : DT X c wc) (ha : DE X a wa) (hb : DE X b wb) : DE X (.IfExp c a b pos) (wIfE wc wa wb) := by
  refine ⟨(pe_ifExp hc.pt ha.pe hb.pe).imp fun τ H Q h => ?_, fun σ st Q Q' q h => hc.mono _ _ _ _ (fun c s h1 => ?_) h⟩
  · obtain ⟨ex, f, σ, st, r, er, h⟩ := h
    refine lT.use hc.mono r er h fun f1 H1 c st1 s1 r1 e1 h1 => ?_
    cases c with
    | true => exact lE.use ha.mono r1 e1 h1 fun f2 H2 d st2 v s2 r2 e2 rd2 h2 => h2 f2 H2 v (s1.trans s2) r2 rd2
    | false => exact lE.use hb.mono r1 e1 h1 fun f2 H2 d st2 v s2 r2 e2 rd2 h2 => h2 f2 H2 v (s1.trans s2) r2 rd2
  · cases c with
    | true => exact ha.mono _ _ _ _ q h1
    | false => exact hb.mono _ _ _ _ q h1

/-! ### arguments, displays -/
abbrev wNil : DTA := fun _ st Q => Q [] st
abbrev wCons (a : DTE) (b : DTA) : DTA := fun σ st Q => a σ st fun x st1 => b σ st1 fun xs st2 => Q (x :: xs) st2
theorem da_nil : DA X [] wNil := ⟨pa_nil.imp fun τ H Q ⟨ex, f, σ, st, r, er, h⟩ => h f H [] Stp.refl r .nil, fun σ st Q Q' q h => q _ _ h⟩
theorem da_cons {e : Expr} {es : List Expr} {wa : DTE} {wb : DTA} (ha : DE X e wa) (hb : DA X es wb) (hs : starEach (e :: es) X.env = (false, eval e X.env) :: starEach es X.env := by rfl) : DA X (e :: es) (wCons wa wb) := by
  refine ⟨(pa_cons ha.pe hb.pa hs).imp fun τ H Q h => ?_, fun σ st Q Q' q h => ha.mono _ _ _ _ (fun x s h1 => hb.mono _ _ _ _ (fun xs s2 h2 => q _ _ h2) h1) h⟩
  obtain ⟨ex, f, σ, st, r, er, h⟩ := h
  refine lE.use ha.mono r er h fun f1 H1 d st1 v s1 r1 e1 rd h1 => ?_
  exact lA.use hb.mono r1 e1 h1 fun f2 H2 ds st2 vs s2 r2 e2 rds h2 => h2 f2 H2 (v :: vs) (s1.trans s2) r2 (.cons (rd.mono s2 r1.cel) rds)
abbrev wTup (a : DTA) : DTE := fun σ st Q => a σ st fun xs st1 => xs.length ≤ sizeLine ∧ Q (.tup xs) st1
/-- a list display that stays as it is | a cell -/
abbrev wRol (a : DTA) : DTE := fun σ st Q => a σ st fun xs st1 => xs.length ≤ sizeLine ∧ Q (.rol xs) st1
abbrev wCel (a : DTA) : DTE := fun σ st Q => a σ st fun xs st1 => xs.length ≤ sizeLine ∧ Q (.ref st1.length) (st1 ++ [.lst xs])
theorem RS.newTup {st : Sto} {xs : List Dv} {vs : List V} {p : Addr} (r : RS K ex f st H) (h : H p = none) (hx : RDs K ex f st.length H xs vs) : RD K ex f st.length (upd H p (.tup vs)) (.tup xs) (.ref p) :=
  .tup (.inl (.inl upd_same)) (hx.mono (Stp.new h) r.cel)
theorem RS.newRol {st : Sto} {xs : List Dv} {vs : List V} {p : Addr} (r : RS K ex f st H) (h : H p = none) (hx : RDs K ex f st.length H xs vs) : RD K ex f st.length (upd H p (.lst vs)) (.rol xs) (.ref p) :=
  .rol upd_same (fun q => r.exs p q h) (fun n hn e => by
    obtain ⟨ws, e2⟩ := r.cel n hn
    rw [e, h] at e2
    cases e2) (hx.mono (Stp.new h) r.cel)
/-- ways to end: a new tuple, a new list, a new cell -/
theorem Af.newTup {st : Sto} {xs : List Dv} {vs : List V} {p : Addr} {Q : VK} (h : Af K ex f st.length H Q (.tup xs) st) (r : RS K ex f st H) (hp : H p = none) (hx : RDs K ex f st.length H xs vs) : Q (.ref p) (upd H p (.tup vs)) :=
  h f _ _ (Stp.new hp) (r.new hp) (r.newTup hp hx)
theorem Af.newRol {st : Sto} {xs : List Dv} {vs : List V} {p : Addr} {Q : VK} (h : Af K ex f st.length H Q (.rol xs) st) (r : RS K ex f st H) (hp : H p = none) (hx : RDs K ex f st.length H xs vs) : Q (.ref p) (upd H p (.lst vs)) :=
  h f _ _ (Stp.new hp) (r.new hp) (r.newRol hp hx)
theorem Af.newCel {st : Sto} {xs : List Dv} {vs : List V} {p : Addr} {Q : VK} (h : Af K ex f st.length H Q (.ref st.length) (st ++ [.lst xs])) (r : RS K ex f st H) (hp : H p = none) (hx : RDs K ex f st.length H xs vs) : Q (.ref p) (upd H p (.lst vs)) := by
  have e : (st ++ [Co.lst xs]).length = st.length + 1 := by simp
  refine h (put f st.length p) _ _ (by rw [e]; exact Stp.cell hp) (r.cell hp hx) ?_
  have q := RD.ref (K := K) (ex := ex) (f := put f st.length p) (k := (st ++ [Co.lst xs]).length) (H := upd H p (.lst vs)) st.length (by rw [e]; omega)
  rw [put_at] at q
  exact q
theorem de_tup {es : List Expr} {w : DTA} {pos : Pos} {x1} (h : DA X es w) : DE X (.Tuple es x1 pos) (wTup w) := by
  refine ⟨(pe_tup h.pa).imp fun τ H Q hh => ?_, fun σ st Q Q' q hh => h.mono _ _ _ _ (fun x s h1 => ⟨h1.1, q _ _ h1.2⟩) hh⟩
  obtain ⟨ex, f, σ, st, r, er, hh⟩ := hh
  refine lA.use h.mono r er hh fun f1 H1 xs st1 vs s1 r1 e1 rd h1 => ⟨by rw [← rd.length]; exact h1.1, fun p hp => ?_⟩
  exact (h1.2.later s1).newTup r1 hp rd
theorem de_rol {es : List Expr} {w : DTA} {pos : Pos} (h : DA X es w) : DE X (.List es pos) (wRol w) := by
  refine ⟨(pe_lst h.pa).imp fun τ H Q hh => ?_, fun σ st Q Q' q hh => h.mono _ _ _ _ (fun x s h1 => ⟨h1.1, q _ _ h1.2⟩) hh⟩
  obtain ⟨ex, f, σ, st, r, er, hh⟩ := hh
  refine lA.use h.mono r er hh fun f1 H1 xs st1 vs s1 r1 e1 rd h1 => ⟨by rw [← rd.length]; exact h1.1, fun p hp => ?_⟩
  exact (h1.2.later s1).newRol r1 hp rd
theorem de_cel {es : List Expr} {w : DTA} {pos : Pos} (h : DA X es w) : DE X (.List es pos) (wCel w) := by
  refine ⟨(pe_lst h.pa).imp fun τ H Q hh => ?_, fun σ st Q Q' q hh => h.mono _ _ _ _ (fun x s h1 => ⟨h1.1, q _ _ h1.2⟩) hh⟩
  obtain ⟨ex, f, σ, st, r, er, hh⟩ := hh
  refine lA.use h.mono r er hh fun f1 H1 xs st1 vs s1 r1 e1 rd h1 => ⟨by rw [← rd.length]; exact h1.1, fun p hp => ?_⟩
  exact (h1.2.later s1).newCel r1 hp rd

/-! ### blocks, small statements -/
abbrev wNext : DTS := fun D σ st => D.nx σ st
abbrev wSeq (a b : DTS) : DTS := fun D σ st => a { D with nx := b D } σ st
theorem dss_nil : DSs X [] wNext := ⟨pss_nil.imp fun D τ H ⟨ex, f, σ, st, r, er, h⟩ => h f H τ Stp.refl r er, fun σ st D D' l h => l.nx _ _ h⟩
theorem dss_cons {s : Stmt} {rest : List Stmt} {w u : DTS} (h1 : DS X s w) (h2 : DSs X rest u) : DSs X (s :: rest) (wSeq w u) := by
  refine ⟨(pss_cons h1.ps h2.ps).imp fun D τ H h => ?_, fun σ st D D' l h => h1.mono σ st { D with nx := u D } { D' with nx := u D' } ⟨fun σ s => h2.mono σ s D D' l, l.rt, l.bk, l.ct⟩ h⟩
  obtain ⟨ex, f, σ, st, r, er, h⟩ := h
  refine lS.use h1.mono r er h ⟨fun σ' st' q f' H' τ' s' r' er' => ?_, fun _ _ q => q, fun _ _ q => q, fun _ _ q => q⟩
  exact lS.use h2.mono r' er' q (AfE.later s')
theorem dss_one {s : Stmt} {w : DTS} (h1 : DS X s w) : DSs X [s] w := ⟨pss_one h1.ps, h1.mono⟩
abbrev wDrop (a : DTE) : DTS := fun D σ st => a σ st fun _ st1 => D.nx σ st1
theorem ds_expr {e : Expr} {w : DTE} {pos : Pos} (he : DE X e w) (hs : swapsWith e none pos.line X.env = pure false := by rfl) : DS X (.Expr e pos) (wDrop w) := by
  refine ⟨(ps_expr he.pe hs).imp fun D τ H h => ?_, fun σ st D D' l h => he.mono _ _ _ _ (fun d s => l.nx _ _) h⟩
  obtain ⟨ex, f, σ, st, r, er, h⟩ := h
  exact lE.use he.mono r er h fun f1 H1 d st1 v s1 r1 e1 rd h1 => h1 f1 H1 τ s1 r1 e1
abbrev wRet (a : DTE) : DTS := fun D σ st => a σ st D.rt
theorem ds_ret {e : Expr} {w : DTE} {pos : Pos} (he : DE X e w) : DS X (.Return (some e) pos) (wRet w) := by
  refine ⟨(ps_ret he.pe).imp fun D τ H h => ?_, fun σ st D D' l h => he.mono _ _ _ _ (fun d s => l.rt _ _) h⟩
  obtain ⟨ex, f, σ, st, r, er, h⟩ := h
  exact lE.use he.mono r er h fun f1 H1 d st1 v s1 r1 e1 rd h1 => h1 f1 H1 v s1 r1 rd
abbrev wIf (c : DTT) (a b : DTS) : DTS := fun D σ st => c σ st fun k st1 => if k = true then a D σ st1 else b D σ st1
theorem ds_if {c : Expr} {a b : List Stmt} {wc : DTT} {wa wb : DTS} {pos : Pos} (hc : DT X c wc) (ha : DSs X a wa) (hb : DSs X b wb) : DS X (.If c a b pos) (wIf wc wa wb) := by
  refine ⟨(ps_if hc.pt ha.ps hb.ps).imp fun D τ H h => ?_, fun σ st D D' l h => hc.mono _ _ _ _ (fun k s h1 => ?_) h⟩
  · obtain ⟨ex, f, σ, st, r, er, h⟩ := h
    refine lT.use hc.mono r er h fun f1 H1 k st1 s1 r1 e1 h1 => ?_
    cases k with
    | true => exact lS.use ha.mono r1 e1 h1 (AfE.later s1)
    | false => exact lS.use hb.mono r1 e1 h1 (AfE.later s1)
  · cases k with
    | true => exact ha.mono _ _ _ _ l h1
    | false => exact hb.mono _ _ _ _ l h1
abbrev wSet (i : Nat) (a : DTE) : DTS := fun D σ st => a σ st fun d st1 => D.nx (σ.set i (some d)) st1
theorem ds_of_asg {s : Stmt} {w : DTE} {i : Nat} (h : PS X s (tAsg (lE X.K w) (gName i))) (m : MonoE w) : DS X s (wSet i w) := by
  refine ⟨h.imp fun D τ H h => ?_, fun σ st D D' l h => m _ _ _ _ (fun d s => l.nx _ _) h⟩
  obtain ⟨ex, f, σ, st, r, er, h⟩ := h
  exact lE.use m r er h fun f1 H1 d st1 v s1 r1 e1 rd h1 => h1 f1 H1 _ s1 r1 (e1.set rd)
theorem ds_set {i : Nat} {x : Str} {e : Expr} {w : DTE} {pos pos' : Pos} (hN : X.N.Nodup) (hi : X.N[i]? = some x) (hx : Loc X.env.scope x) (he : DE X e w) (hs : swapsWith e (some (.Name x pos')) pos.line X.env = pure false := by rfl)
    (hf : X.fn x = true ∨ X.env.scope.names.lookup x = some .local := by first | exact .inl rfl | exact .inr rfl | assumption) : DS X (.Assign [.Name x pos'] e pos) (wSet i w) :=
  ds_of_asg (ps_set hN hi hx he.pe hs hf) he.mono
abbrev wPar (i j : Nat) (a b : DTE) : DTS := fun D σ st => a σ st fun d st1 => b σ st1 fun e st2 => D.nx ((σ.set i (some d)).set j (some e)) st2
theorem ds_par {i j : Nat} {x y : Str} {a b : Expr} {wa wb : DTE} {px py pt pos : Pos} {kt k2 pt2} (hc : X.calm = true) (hN : X.N.Nodup) (hi : X.N[i]? = some x) (hj : X.N[j]? = some y) (hij : i ≠ j)
    (hx : X.env.scope.names.lookup x = some .local) (hy : X.env.scope.names.lookup y = some .local) (ha : DE X a wa) (hb : DE X b wb)
    (hw : swappedStores [.Tuple [.Name x px, .Name y py] kt pt] (.Tuple [a, b] k2 pt2) X.env = pure (some [x, y]))
    (hs : swapsWithSole [.Tuple [.Name x px, .Name y py] kt pt] (.Tuple [a, b] k2 pt2) pos.line X.env = pure false := by rfl)
    (h1 : starEach [a, b] X.env = (false, eval a X.env) :: starEach [b] X.env := by rfl) (h2 : starEach [b] X.env = (false, eval b X.env) :: starEach [] X.env := by rfl) :
    DS X (.Assign [.Tuple [.Name x px, .Name y py] kt pt] (.Tuple [a, b] k2 pt2) pos) (wPar i j wa wb) := by
  refine ⟨(ps_par hc hN hi hj hij hx hy (pa_cons ha.pe (pa_cons hb.pe pa_nil h2) h1) hw hs).imp fun D τ H h => ?_, fun σ st D D' l h => ha.mono _ _ _ _ (fun d s h1 => hb.mono _ _ _ _ (fun e s2 => l.nx _ _) h1) h⟩
  obtain ⟨ex, f, σ, st, r, er, h⟩ := h
  refine lE.use ha.mono r er h fun f1 H1 d st1 v s1 r1 e1 rd h1 => ?_
  refine lE.use hb.mono r1 e1 h1 fun f2 H2 e st2 u s2 r2 e2 re h2 => ?_
  exact ⟨v, u, rfl, h2 f2 H2 _ (s1.trans s2) r2 ((e2.set (rd.mono s2 r1.cel)).set re)⟩
end
end D2

/-! DL, part c: defs whose surroundings show no object (repr is exact there), their promises over data, calls, the law's end. -/
namespace D2
open PySem PySem.Spec PyProof.Rows L2

/-- a def's promise where no repr is under way -/
structure FnG (P : Program) (w : World) (K : PySem.W.Frag) (mg : Str → Option Value) (base : Heap) (CX : CXT) (k : Nat) (f : Addr) (fd : FuncData) (ps : List Str) (sp : Sp) : Prop where
  len : ∀ vs H Q E, sp vs H Q E → vs.length = ps.length
  run : ∀ (A : Around) (outer : List Env) (s : Shared) (H : Hp) (args : Args) (us : List Value) (vs : List V) (Q : VK) (E : XK), A.guards = some [] → Room k A → Env0 P w K mg base A outer s H → BindsTo s fd args (ps.zip us) → Vals vs us → sp vs H Q E →
    codeAny (model P w) A (.call (.ref f) args) (CR CX outer P w H s Q E) s
section
variable {P : Program} {w : World} {K : PySem.W.Frag} {mg : Str → Option Value} {base : Heap} {CX : CXT} {k j : Nat} {f : Addr} {fd : FuncData} {ps : List Str} {sp sp' : Sp}
theorem FnG.mono (F : FnG P w K mg base CX j f fd ps sp) (h : j ≤ k) : FnG P w K mg base CX k f fd ps sp :=
  ⟨F.len, fun A outer s H args us vs Q E hg hr => F.run A outer s H args us vs Q E hg (hr.mono h)⟩
theorem FnG.imp (F : FnG P w K mg base CX k f fd ps sp) (h : ∀ vs H Q E, sp' vs H Q E → sp vs H Q E) : FnG P w K mg base CX k f fd ps sp' :=
  ⟨fun vs H Q E q => F.len vs H Q E (h _ _ _ _ q), fun A outer s H args us vs Q E hg hr he hb hv hs => F.run A outer s H args us vs Q E hg hr he hb hv (h _ _ _ _ hs)⟩
/-- a def by its body -/
theorem fnG_of {x qual : Str} {st : Stmt} {N : List Str} (F : Fun K x qual st f fd) (S : FnScope N ps (defScope st)) (len : ∀ vs H Q E, sp vs H Q E → vs.length = ps.length)
    (hbody : ∀ (cdv : Value) (A : Around) (outer : List Env) (s : Shared) (H : Hp) (vs : List V) (Q : VK) (E : XK), A.guards = some [] → Room k (A.deeper (envOfC qual (defScope st) s.heap.objs.size f cdv)) → sp vs H Q E →
      ∃ t, PSs (cxOf CX P w K mg base N qual (defScope st) f cdv A outer s H E) (defBody st) t ∧ t { nx := fun _ H' => Q .non H', rt := Q } (start N vs) H) : FnG P w K mg base CX (k + 1) f fd ps sp := by
  obtain ⟨oc, od, kV, doc, pm, an, cdv, ct, osl, rfl, lk, hcd⟩ := F.ex
  refine ⟨len, fun A outer s H args us vs Q E hg hr e0 hb r hsp => ?_⟩
  have stay : ∀ b o, base.get? b = some o → s.heap.get? b = some o := fun b o e => (e0.bs b o e).1
  have kin : K.In s.heap := e0.mod.kin.keeps stay
  refine codeAny_call_function hr.depth (kin _ _ lk) rfl S.co S.gen rfl (PySem.W.codeRec_of kin hcd) (hb _ _ _ _ ?_)
  refine wpAny_newFunctionEnv_cells S.kind (fun y hy => ?_) fun env he s1 x => ?_
  · exact (S.par y.1 (List.of_mem_zip (show (y.1, y.2) ∈ _ from hy)).1).imp id fun q => ⟨q, PySem.W.cellsFrom_some _ _ _ (.inl q)⟩
  subst he
  refine ⟨(e0.mod.nolimit.keeps stay).keeps x.toInCall.keep, codeAny_func ?_⟩
  obtain ⟨t, ht, hq⟩ := hbody cdv A outer s H vs Q E hg (hr.deeper _) hsp
  refine wpAny_mono (ht.run [] s1 (start N vs) H _ (inv_start S hr.hd e0 (len _ _ _ _ hsp) r x) hq) (fun fl s' hs => ?_) fun _ _ z => z
  cases fl with
  | ret u =>
    obtain ⟨v, _, H', J, rv, q⟩ := hs
    exact ⟨v, H', J.os, J.bare, J.base, J.hok, rv, q⟩
  | next =>
    obtain ⟨_, H', J, q⟩ := hs
    exact ⟨V.non, H', J.os, J.bare, J.base, J.hok, rfl, q⟩
  | brk => exact hs.elim fun _ z => z.elim fun _ z => z.2.elim
  | cont => exact hs.elim fun _ z => z.elim fun _ z => z.2.elim
end

section
variable {X : Cx} {CX : CXT} {k : Nat} {f : Addr} {fd : FuncData} {ps ks : List Str} {sp : Sp} {E : XK} {x : Str} {p pos : Pos} {e : Expr} {es : List Expr} {kws : List Keyword} {t tk : TA}
theorem gEnd {pins : List (Addr × Obj)} {τ : L2.St} {H : Hp} {s s' : Shared} {Q : VK} {r : Result} (hx : Passes CX X E) (I : Inv X pins τ H s) (h : CR CX X.stack X.prog X.w H s Q E r s') :
    match r with | .ok (.ret u) => EP X pins τ Q u s' | .ok _ => False | .error e => X.xe e s' := by
  cases r with
  | error e => exact hx pins τ H s e s' I h
  | ok fl => cases fl with
    | ret u => exact I.after h
    | _ => exact h
theorem runG {pins : List (Addr × Obj)} {τ : L2.St} {H : Hp} {s : Shared} {Q : VK} {args : Args} {us : List Value} {vs : List V} (F : FnG X.prog X.w X.K X.mg X.base CX k f fd ps sp) (hgu : X.A.guards = some []) (hr : Room k X.A)
    (hb : BindsTo s fd args (ps.zip us)) (hx : Passes CX X E) (I : Inv X pins τ H s) (r : Vals vs us) (h : sp vs H Q E) : wpAny (model X.prog X.w) X.A (call (.ref f) args.pos args.kw) (EP X pins τ Q) X.xe s := by
  refine wpAny_call (codeAny_mono (F.run X.A X.stack s H ⟨args.pos, args.kw⟩ us vs Q E hgu hr I.env0 hb r h) fun r s' hq => ?_)
  have z := gEnd hx I hq
  cases r with
  | error e => exact z
  | ok fl => cases fl with
    | ret u => exact z
    | _ => exact z.elim
/-- f(e, ..) -/
theorem pe_callG (F : FnG X.prog X.w X.K X.mg X.base CX k f fd ps sp) (hgu : X.A.guards = some []) (hr : Room k X.A) (hg : Gl X x) (hm : X.mg x = some (.ref f)) (hk : PySem.W.keepIn X.K (.ref f) = true) (hb : Binds X.K fd ps []) (hx : Passes CX X E)
    (ha : PA X (e :: es) t) (hdb : (x == ("__debug__" : Str)) = false := by decide) (he : starEach (e :: es) X.env = (false, eval e X.env) :: starEach es X.env := by rfl) (hpl : (backTo pos (starEach es X.env)).any (·.1) = false := by rfl) :
    PE X (.Call (.Name x p) (e :: es) [] pos) (tCall sp [] E t) := by
  refine ⟨fun pins s τ H Q I h => wpAny_Call_Name_kw (ld_glob I hg hm ?_ hdb)⟩
  refine PySem.W.callWith_K (h₀ := X.base) I.ok.mod.kin hk (thn (ha.run pos pins s τ H _ I h) fun us s1 z => ?_) he hpl
  obtain ⟨vs, H1, I1, r, q⟩ := z
  rw [List.append_nil] at q
  have hl : us.length = ps.length := by rw [← r.length]; exact F.len _ _ _ _ q
  refine ⟨I1.kIn, runG (args := ⟨us, []⟩) (us := us) F hgu hr ?_ hx I1 r q⟩
  have b := hb s1 us I1.kIn (by simpa using hl)
  rwa [List.append_nil] at b
/-- how keywords come to parameters -/
structure KB (fd : FuncData) (ps ks : List Str) (n : Nat) (g : List Value → List Value → List Value) (gV : List V → List V → List V) : Prop where
  to : ∀ (s : Shared) (us ws : List Value), us.length = n → ws.length = ks.length → BindsTo s fd ⟨us, ks.zip ws⟩ (ps.zip (g us ws))
  rel : ∀ {vs : List V} {us : List Value} {zs : List V} {ws : List Value}, vs.length = n → zs.length = ks.length → Vals vs us → Vals zs ws → Vals (gV vs zs) (g us ws)
def tCallG (n m : Nat) (sp : Sp) (gV : List V → List V → List V) (E : XK) (t tk : TA) : TE := fun τ H Q => t τ H fun vs H1 => tk τ H1 fun zs H2 => vs.length = n ∧ zs.length = m ∧ sp (gV vs zs) H2 Q E
variable {g : List Value → List Value → List Value} {gV : List V → List V → List V} {n : Nat}
/-- f(k = v, ..) -/
theorem pe_callG0 (F : FnG X.prog X.w X.K X.mg X.base CX k f fd ps sp) (hgu : X.A.guards = some []) (hr : Room k X.A) (hg : Gl X x) (hm : X.mg x = some (.ref f)) (hk : PySem.W.keepIn X.K (.ref f) = true) (hb : KB fd ps ks 0 g gV) (hx : Passes CX X E)
    (hkw : PK X kws tk) (hall : (backToKw pos (keywordEach kws X.env)).all (·.1.isSome) = true := by rfl) (hks : (backToKw pos (keywordEach kws X.env)).filterMap (·.1) = ks := by rfl)
    (hdb : (x == ("__debug__" : Str)) = false := by decide) (hpl : ((backTo pos (starEach [] X.env)).any (·.1) || (backToKw pos (keywordEach kws X.env)).any (·.1.isNone)) = false := by rfl) :
    PE X (.Call (.Name x p) [] kws pos) (tCallG 0 ks.length sp gV E tNil tk) := by
  refine ⟨fun pins s τ H Q I h => wpAny_Call_Name_kw (ld_glob I hg hm ?_ hdb)⟩
  refine PySem.W.callWith_KW0 (h₀ := X.base) I.ok.mod.kin hk hall (thn (hkw.run pos pins s τ H _ I h) fun ws s2 z => ?_) hpl
  obtain ⟨zs, H2, I2, rz, _, l2, q⟩ := z
  rw [hks]
  refine ⟨I2.kIn, runG (args := ⟨[], ks.zip ws⟩) (us := g [] ws) F hgu hr (hb.to _ _ _ rfl (by rw [← rz.length]; exact l2)) hx I2 (hb.rel (vs := []) (us := []) rfl l2 .nil rz) q⟩
/-- f(e, .., k = v, ..) -/
theorem pe_callGK (F : FnG X.prog X.w X.K X.mg X.base CX k f fd ps sp) (hgu : X.A.guards = some []) (hr : Room k X.A) (hg : Gl X x) (hm : X.mg x = some (.ref f)) (hk : PySem.W.keepIn X.K (.ref f) = true) (hb : KB fd ps ks n g gV) (hx : Passes CX X E)
    (ha : PA X (e :: es) t) (hkw : PK X kws tk) (hall : (backToKw pos (keywordEach kws X.env)).all (·.1.isSome) = true := by rfl) (hks : (backToKw pos (keywordEach kws X.env)).filterMap (·.1) = ks := by rfl)
    (hdb : (x == ("__debug__" : Str)) = false := by decide) (he : starEach (e :: es) X.env = (false, eval e X.env) :: starEach es X.env := by rfl)
    (hpl : ((backTo pos (starEach (e :: es) X.env)).any (·.1) || (backToKw pos (keywordEach kws X.env)).any (·.1.isNone)) = false := by rfl) :
    PE X (.Call (.Name x p) (e :: es) kws pos) (tCallG n ks.length sp gV E t tk) := by
  refine ⟨fun pins s τ H Q I h => wpAny_Call_Name_kw (ld_glob I hg hm ?_ hdb)⟩
  refine PySem.W.callWith_KW (h₀ := X.base) I.ok.mod.kin hk hall (thn (ha.run pos pins s τ H _ I h) fun us s1 z1 => ?_) hpl he
  obtain ⟨vs, H1, I1, r, q1⟩ := z1
  refine thn (hkw.run pos pins s1 τ H1 _ I1 q1) fun ws s2 z => ?_
  obtain ⟨zs, H2, I2, rz, l1, l2, q⟩ := z
  rw [hks]
  exact ⟨I2.kIn, runG (args := ⟨us, ks.zip ws⟩) (us := g us ws) F hgu hr (hb.to _ _ _ (by rw [← r.length]; exact l1) (by rw [← rz.length]; exact l2)) hx I2 (hb.rel l1 l2 r rz) q⟩
end

/-! ### promises over data -/
structure Spec where
  I : Type
  args : I → List Dv
  st : I → Sto
  pre : I → Prop
  post : I → Dv → Sto → Prop
def lSp (K : PySem.W.Frag) (S : Spec) : Sp := fun vs H Q _ => ∃ ex f i, RS K ex f (S.st i) H ∧ RDs K ex f (S.st i).length H (S.args i) vs ∧ S.pre i ∧
  ∀ d st' f' H' v, S.post i d st' → Stp f (S.st i).length H f' st'.length H' → RS K ex f' st' H' → RD K ex f' st'.length H' d v → Q v H'
abbrev DFn (P : Program) (w : World) (K : PySem.W.Frag) (mg : Str → Option Value) (base : Heap) (k : Nat) (f : Addr) (fd : FuncData) (ps : List Str) (S : Spec) : Prop := FnG P w K mg base CX0 k f fd ps (lSp K S)
/-- another reading of the promise -/
theorem lSp.imp {K : PySem.W.Frag} {S T : Spec} (h : ∀ i, T.pre i → ∃ j, S.args j = T.args i ∧ S.st j = T.st i ∧ S.pre j ∧ ∀ d st', S.post j d st' → T.post i d st') : ∀ vs H Q E, lSp K T vs H Q E → lSp K S vs H Q E := by
  rintro vs H Q E ⟨ex, f, i, r, rs, p, q⟩
  obtain ⟨j, e1, e2, p2, q2⟩ := h i p
  refine ⟨ex, f, j, by rw [e2]; exact r, by rw [e1, e2]; exact rs, p2, fun d st' f' H' v hp hs => ?_⟩
  rw [e2] at hs
  exact q d st' f' H' v (q2 d st' hp) hs

/-- the slots at the start -/
def startD (N : List Str) (ds : List Dv) : En := ds.map some ++ List.replicate (N.length - ds.length) none
theorem er_start {K : PySem.W.Frag} {ex : Addr → Prop} {f : Nat → Addr} {k : Nat} {H : Hp} {N : List Str} {ds : List Dv} {vs : List V} (h : RDs K ex f k H ds vs) : ER K ex f k H (startD N ds) (start N vs) := by
  have hl := h.length
  refine ⟨by simp [startD, L2.start, hl], fun i d e => ?_⟩
  unfold startD at e
  by_cases hi : i < ds.length
  · rw [List.getElem?_append_left (by simpa using hi), List.getElem?_map] at e
    cases e2 : ds[i]? with
    | none => rw [e2] at e; cases e
    | some c =>
      rw [e2] at e
      cases e
      obtain ⟨v, h1, h2⟩ := h.get e2
      refine ⟨v, ?_, h2⟩
      unfold L2.start
      rw [List.getElem?_append_left (by simp; omega), List.getElem?_map, h1]
      rfl
  · rw [List.getElem?_append_right (by simpa using hi), List.getElem?_replicate] at e
    split at e <;> cases e

/-- what a body must reach: the value and the cells, some of them forgotten, fulfil the promise -/
def Back (k0 : Nat) (P : Dv → Sto → Prop) : DK := fun d st => P d st ∧ k0 ≤ st.length ∨ ∃ st2 d2, Fg st d st2 d2 ∧ k0 ≤ st2.length ∧ P d2 st2
section
variable {P : Program} {w : World} {K : PySem.W.Frag} {mg : Str → Option Value} {base : Heap} {k : Nat} {f : Addr} {fd : FuncData} {ps : List Str}
theorem dfn_of {x qual : Str} {st : Stmt} {N : List Str} {S : Spec} (F : Fun K x qual st f fd) (sc : FnScope N ps (defScope st)) (len : ∀ i, S.pre i → (S.args i).length = ps.length)
    (hbody : ∀ (cdv : Value) (A : Around) (outer : List Env) (s : Shared) (H : Hp) (E : XK), A.guards = some [] → Room k (A.deeper (envOfC qual (defScope st) s.heap.objs.size f cdv)) →
      ∃ W, DSs (cxOf CX0 P w K mg base N qual (defScope st) f cdv A outer s H E).nox (defBody st) W ∧
        ∀ i, S.pre i → W { nx := fun _ st' => Back (S.st i).length (S.post i) .non st', rt := Back (S.st i).length (S.post i) } (startD N (S.args i)) (S.st i)) : DFn P w K mg base (k + 1) f fd ps S := by
  refine fnG_of F sc (fun vs H Q E h => ?_) fun cdv A outer s H vs Q E hg hr h => ?_
  · obtain ⟨ex, f, i, r, rs, p, q⟩ := h
    rw [← rs.length]
    exact len i p
  · obtain ⟨W, hW, hb⟩ := hbody cdv A outer s H E hg hr
    obtain ⟨ex, g, i, r, rs, p, q⟩ := h
    refine ⟨_, hW.ps.nox, ?_⟩
    have fin : ∀ {d : Dv} {st' : Sto} {f' : Nat → Addr} {H' : Hp} {v : V}, Back (S.st i).length (S.post i) d st' → Stp g (S.st i).length H f' st'.length H' → RS K ex f' st' H' → RD K ex f' st'.length H' d v → Q v H' := by
      intro d st' f' H' v hb s' r' rd
      rcases hb with hb | ⟨st2, d2, fg, hk, hp⟩
      · exact q d st' f' H' v hb.1 s' r' rd
      · exact q d2 st2 f' H' v hp (s'.fg hk fg.len) (r'.fg fg.len fg.cel) (RD.fz r' fg.len fg.val rd)
    refine lS.use hW.mono r (er_start rs) (hb i p) ⟨fun σ' st' hb f' H' τ' s' r' er' => fin hb s' r' .non, fun d st' hb f' H' v s' r' rd => fin hb s' r' rd, fun _ _ z => z.elim, fun _ _ z => z.elim⟩
end

/-! ### calls over data -/
abbrev wCall (S : Spec) (a : DTA) : DTE := fun σ st Q => a σ st fun ds st1 => ∃ i, ds = S.args i ∧ st1 = S.st i ∧ S.pre i ∧ ∀ d st2, S.post i d st2 → Q d st2
/-- a promise that names no cells -/
abbrev wPure (S : Spec) (a : DTA) : DTE := fun σ st Q => a σ st fun ds st1 => ∃ i, ds = S.args i ∧ Nrs ds ∧ S.st i = [] ∧ S.pre i ∧ ∀ d st2, S.post i d st2 → st2 = [] ∧ Nr d ∧ Q d st1
section
variable {X : Cx} {K : PySem.W.Frag} {ex : Addr → Prop} {f : Nat → Addr} {H : Hp} {st : Sto}
theorem wCall_mono {S : Spec} {a : DTA} (m : MonoA a) : MonoE (wCall S a) := fun σ st Q Q' q h => m _ _ _ _ (fun ds s1 ⟨i, h1, h2, h3, h4⟩ => ⟨i, h1, h2, h3, fun d s2 hp => q _ _ (h4 d s2 hp)⟩) h
theorem wPure_mono {S : Spec} {a : DTA} (m : MonoA a) : MonoE (wPure S a) := fun σ st Q Q' q h => m _ _ _ _ (fun ds s1 ⟨i, h1, h2, h3, h4, h5⟩ => ⟨i, h1, h2, h3, h4, fun d s2 hp => ⟨(h5 d s2 hp).1, (h5 d s2 hp).2.1, q _ _ (h5 d s2 hp).2.2⟩⟩) h
/-- the promise with the cells -/
theorem sp_call {S : Spec} {ds : List Dv} {vs : List V} {Q : VK} {E : XK} (r : RS K ex f st H) (rds : RDs K ex f st.length H ds vs)
    (h : ∃ i, ds = S.args i ∧ st = S.st i ∧ S.pre i ∧ ∀ d st2, S.post i d st2 → Af K ex f st.length H Q d st2) : lSp K S vs H Q E := by
  obtain ⟨i, rfl, rfl, p, h⟩ := h
  exact ⟨ex, f, i, r, rds, p, fun d st' f' H' v hp s r' rd => h d st' hp f' H' v s r' rd⟩
/-- the promise without -/
theorem sp_pure {S : Spec} {ds : List Dv} {vs : List V} {Q : VK} {E : XK} (r : RS K ex f st H) (rds : RDs K ex f st.length H ds vs)
    (h : ∃ i, ds = S.args i ∧ Nrs ds ∧ S.st i = [] ∧ S.pre i ∧ ∀ d st2, S.post i d st2 → st2 = [] ∧ Nr d ∧ Af K ex f st.length H Q d st) : lSp K S vs H Q E := by
  obtain ⟨i, rfl, nr, e0, p, h⟩ := h
  refine ⟨fun a => ex a ∨ ∃ n, n < st.length ∧ f n = a, f, i, ?_, ?_, p, fun d st' f' H' v hp s r' rd => ?_⟩
  · rw [e0]
    refine ⟨fun m n hm => absurd hm (Nat.not_lt_zero _), fun n c e => by simp at e, fun a q z => ?_, fun n hn => absurd hn (Nat.not_lt_zero _)⟩
    rcases q with q | ⟨n, hn, rfl⟩
    · exact r.exs a q z
    · obtain ⟨ws, e⟩ := r.cel n hn
      rw [e] at z
      cases z
  · rw [e0]
    exact RDs.nr (fun a q => q.elim id fun ⟨n, hn, _⟩ => absurd hn (Nat.not_lt_zero _)) nr rds
  · obtain ⟨rfl, nd, hq⟩ := h d st' hp
    rw [e0] at s
    have S2 : Stp f st.length H f st.length H' := ⟨Nat.le_refl _, fun _ _ => rfl, fun n h1 h2 => by omega, fun b o _ e => s.keep b o (fun n hn => absurd hn (Nat.not_lt_zero _)) e, s.there⟩
    refine hq f H' v S2 ⟨r.inj, fun n c e => (r.obj n c e).mono S2 r.cel fun ws e2 => s.keep _ _ (fun n hn => absurd hn (Nat.not_lt_zero _)) e2, fun a q z => r.exs a q (s.there a z), r.exc⟩ ?_
    exact RD.nr (fun a q => .inl (q.elim (fun q => .inl q) fun q => .inr q)) nd rd
variable {k : Nat} {fa : Addr} {fd : FuncData} {ps ks : List Str} {S : Spec} {x : Str} {p pos : Pos} {e : Expr} {es : List Expr} {kws : List Keyword} {wa wk : DTA}
theorem de_callA {t : TA} (h : PE X (.Call (.Name x p) (e :: es) [] pos) (tCall (lSp X.K S) [] E0 (lA X.K wa))) (m : MonoA wa) : DE X (.Call (.Name x p) (e :: es) [] pos) (wCall S wa) := by
  refine ⟨h.imp fun τ H Q hh => ?_, wCall_mono m⟩
  obtain ⟨ex, f, σ, st, r, er, hh⟩ := hh
  refine lA.use m r er hh fun f1 H1 ds st1 vs s1 r1 e1 rd ⟨i, h1, h2, h3, h4⟩ => ?_
  rw [List.append_nil]
  exact sp_call r1 rd ⟨i, h1, h2, h3, fun d st2 hp => (h4 d st2 hp).later s1⟩
theorem de_call (F : DFn X.prog X.w X.K X.mg X.base k fa fd ps S) (hgu : X.A.guards = some []) (hr : Room k X.A) (hg : Gl X x) (hm : X.mg x = some (.ref fa)) (hk : PySem.W.keepIn X.K (.ref fa) = true) (hb : Binds X.K fd ps [])
    (ha : DA X (e :: es) wa) (hdb : (x == ("__debug__" : Str)) = false := by decide) (he : starEach (e :: es) X.env = (false, eval e X.env) :: starEach es X.env := by rfl) (hpl : (backTo pos (starEach es X.env)).any (·.1) = false := by rfl) :
    DE X (.Call (.Name x p) (e :: es) [] pos) (wCall S wa) := de_callA (t := lA X.K wa) (pe_callG F hgu hr hg hm hk hb pass0 ha.pa hdb he hpl) ha.mono
theorem de_pure (F : DFn X.prog X.w X.K X.mg X.base k fa fd ps S) (hgu : X.A.guards = some []) (hr : Room k X.A) (hg : Gl X x) (hm : X.mg x = some (.ref fa)) (hk : PySem.W.keepIn X.K (.ref fa) = true) (hb : Binds X.K fd ps [])
    (ha : DA X (e :: es) wa) (hdb : (x == ("__debug__" : Str)) = false := by decide) (he : starEach (e :: es) X.env = (false, eval e X.env) :: starEach es X.env := by rfl) (hpl : (backTo pos (starEach es X.env)).any (·.1) = false := by rfl) :
    DE X (.Call (.Name x p) (e :: es) [] pos) (wPure S wa) := by
  refine ⟨(pe_callG F hgu hr hg hm hk hb pass0 ha.pa hdb he hpl).imp fun τ H Q hh => ?_, wPure_mono ha.mono⟩
  obtain ⟨ex, f, σ, st, r, er, hh⟩ := hh
  refine lA.use ha.mono r er hh fun f1 H1 ds st1 vs s1 r1 e1 rd ⟨i, h1, h2, h3, h4, h5⟩ => ?_
  rw [List.append_nil]
  exact sp_pure r1 rd ⟨i, h1, h2, h3, h4, fun d st2 hp => ⟨(h5 d st2 hp).1, (h5 d st2 hp).2.1, (h5 d st2 hp).2.2.later s1⟩⟩
/-- keywords: gD puts them in order -/
structure DK1 (X : Cx) (kws : List Keyword) (w : DTA) : Prop where
  pk : PK X kws (lA X.K w)
  mono : MonoA w
theorem _root_.L2.PK.imp {e : List Keyword} {t u : TA} (h : PK X e t) (i : ∀ τ H Q, u τ H Q → t τ H Q) : PK X e u := ⟨fun pos pins s τ H Q I hw => h.run pos pins s τ H Q I (i τ H Q hw)⟩
theorem dk_nil : DK1 X [] wNil := ⟨pk_nil.imp fun τ H Q ⟨ex, f, σ, st, r, er, h⟩ => h f H [] Stp.refl r .nil, fun σ st Q Q' q h => q _ _ h⟩
theorem dk_cons {nm : Option Str} {kpos : Pos} {wb : DTE} (ha : DE X e wb) (hb : DK1 X kws wa) : DK1 X (⟨nm, e, kpos⟩ :: kws) (wCons wb wa) := by
  refine ⟨(pk_cons ha.pe hb.pk).imp fun τ H Q h => ?_, fun σ st Q Q' q h => ha.mono _ _ _ _ (fun x s h1 => hb.mono _ _ _ _ (fun xs s2 h2 => q _ _ h2) h1) h⟩
  obtain ⟨ex, f, σ, st, r, er, h⟩ := h
  refine lE.use ha.mono r er h fun f1 H1 d st1 v s1 r1 e1 rd h1 => ?_
  exact lA.use hb.mono r1 e1 h1 fun f2 H2 ds st2 vs s2 r2 e2 rds h2 => h2 f2 H2 (v :: vs) (s1.trans s2) r2 (.cons (rd.mono s2 r1.cel) rds)
/-- the positional ones, then the keywords, in the parameters' order -/
abbrev wOrd (n m : Nat) (gD : List Dv → List Dv → List Dv) (a b : DTA) : DTA := fun σ st Q => a σ st fun xs st1 => b σ st1 fun ys st2 => xs.length = n ∧ ys.length = m ∧ Q (gD xs ys) st2
theorem wOrd_mono {n m : Nat} {gD : List Dv → List Dv → List Dv} {a b : DTA} (ma : MonoA a) (mb : MonoA b) : MonoA (wOrd n m gD a b) := fun σ st Q Q' q h => ma _ _ _ _ (fun x s h1 => mb _ _ _ _ (fun xs s2 h2 => ⟨h2.1, h2.2.1, q _ _ h2.2.2⟩) h1) h
variable {g : List Value → List Value → List Value} {gV : List V → List V → List V} {gD : List Dv → List Dv → List Dv} {n : Nat}
abbrev GRel (n m : Nat) (gD : List Dv → List Dv → List Dv) (gV : List V → List V → List V) : Prop := ∀ (K : PySem.W.Frag) (ex : Addr → Prop) (f : Nat → Addr) (k : Nat) (H : Hp) (xs ys : List Dv) (vs zs : List V), xs.length = n → ys.length = m → RDs K ex f k H xs vs → RDs K ex f k H ys zs → RDs K ex f k H (gD xs ys) (gV vs zs)
theorem de_pure0 (F : DFn X.prog X.w X.K X.mg X.base k fa fd ps S) (hgu : X.A.guards = some []) (hr : Room k X.A) (hg : Gl X x) (hm : X.mg x = some (.ref fa)) (hk : PySem.W.keepIn X.K (.ref fa) = true) (hb : KB fd ps ks 0 g gV) (hG : GRel 0 ks.length gD gV)
    (hkw : DK1 X kws wk) (hall : (backToKw pos (keywordEach kws X.env)).all (·.1.isSome) = true := by rfl) (hks : (backToKw pos (keywordEach kws X.env)).filterMap (·.1) = ks := by rfl)
    (hdb : (x == ("__debug__" : Str)) = false := by decide) (hpl : ((backTo pos (starEach [] X.env)).any (·.1) || (backToKw pos (keywordEach kws X.env)).any (·.1.isNone)) = false := by rfl) :
    DE X (.Call (.Name x p) [] kws pos) (wPure S (wOrd 0 ks.length gD wNil wk)) := by
  refine ⟨(pe_callG0 F hgu hr hg hm hk hb pass0 hkw.pk hall hks hdb hpl).imp fun τ H Q hh => ?_, wPure_mono (wOrd_mono (da_nil (X := X)).mono hkw.mono)⟩
  obtain ⟨ex, f, σ, st, r, er, hh⟩ := hh
  refine lA.use hkw.mono r er hh fun f1 H1 ys st1 zs s1 r1 e1 rd ⟨l1, l2, i, h1, h2, h3, h4, h5⟩ => ?_
  exact ⟨rfl, by rw [← rd.length]; exact l2, sp_pure r1 (hG _ _ _ _ _ [] ys [] zs rfl l2 .nil rd) ⟨i, h1, h2, h3, h4, fun d st2 hp => ⟨(h5 d st2 hp).1, (h5 d st2 hp).2.1, (h5 d st2 hp).2.2.later s1⟩⟩⟩
theorem de_pureK (F : DFn X.prog X.w X.K X.mg X.base k fa fd ps S) (hgu : X.A.guards = some []) (hr : Room k X.A) (hg : Gl X x) (hm : X.mg x = some (.ref fa)) (hk : PySem.W.keepIn X.K (.ref fa) = true) (hb : KB fd ps ks n g gV) (hG : GRel n ks.length gD gV)
    (ha : DA X (e :: es) wa) (hkw : DK1 X kws wk) (hall : (backToKw pos (keywordEach kws X.env)).all (·.1.isSome) = true := by rfl) (hks : (backToKw pos (keywordEach kws X.env)).filterMap (·.1) = ks := by rfl)
    (hdb : (x == ("__debug__" : Str)) = false := by decide) (he : starEach (e :: es) X.env = (false, eval e X.env) :: starEach es X.env := by rfl)
    (hpl : ((backTo pos (starEach (e :: es) X.env)).any (·.1) || (backToKw pos (keywordEach kws X.env)).any (·.1.isNone)) = false := by rfl) :
    DE X (.Call (.Name x p) (e :: es) kws pos) (wPure S (wOrd n ks.length gD wa wk)) := by
  refine ⟨(pe_callGK F hgu hr hg hm hk hb pass0 ha.pa hkw.pk hall hks hdb he hpl).imp fun τ H Q hh => ?_, wPure_mono (wOrd_mono ha.mono hkw.mono)⟩
  obtain ⟨ex, f, σ, st, r, er, hh⟩ := hh
  refine lA.use ha.mono r er hh fun f1 H1 xs st1 vs s1 r1 e1 rd1 hh1 => ?_
  refine lA.use hkw.mono r1 e1 hh1 fun f2 H2 ys st2 zs s2 r2 e2 rd2 ⟨l1, l2, i, h1, h2, h3, h4, h5⟩ => ?_
  exact ⟨by rw [← rd1.length]; exact l1, by rw [← rd2.length]; exact l2, sp_pure r2 (hG _ _ _ _ _ xs ys vs zs l1 l2 (rd1.mono s2 r1.cel) rd2) ⟨i, h1, h2, h3, h4, fun d st2 hp => ⟨(h5 d st2 hp).1, (h5 d st2 hp).2.1, (h5 d st2 hp).2.2.later (s1.trans s2)⟩⟩⟩
end
end D2

/-! DL, part d: targets, what is walked, loops, comprehensions. -/
namespace D2
open PySem PySem.Spec PyProof.Rows L2

/-! ### targets -/
inductive Tg where
  | one (i : Nat) | many (is : List Nat)
def setAll : En → List Nat → List Dv → En
  | σ, i :: is, d :: ds => setAll (σ.set i (some d)) is ds
  | σ, _, _ => σ
def setAllV : L2.St → List Nat → List V → L2.St
  | τ, i :: is, d :: ds => setAllV (τ.set i (some d)) is ds
  | τ, _, _ => τ
def tgD : Tg → Dv → En → Option En
  | .one i, d, σ => some (σ.set i (some d))
  | .many is, .tup ds, σ => if ds.length = is.length then some (setAll σ is ds) else none
  | .many is, .tux ds, σ => if ds.length = is.length then some (setAll σ is ds) else none
  | .many _, _, _ => none
def gl : List Nat → TGs
  | [] => gNil
  | i :: is => gCons (gName i) (gl is)
def tgV (K : PySem.W.Frag) : Tg → TG
  | .one i => gName i
  | .many is => gTup K is.length (gl is)
def Tg.slots : Tg → List Nat
  | .one i => [i]
  | .many is => is
theorem gl_ok : ∀ (is : List Nat) (vs : List V) (τ : L2.St) (H : Hp) (Q : L2.St → Hp → Prop), vs.length = is.length → Q (setAllV τ is vs) H → gl is vs τ H Q
  | [], [], _, _, _, _, q => ⟨rfl, q⟩
  | i :: is, v :: vs, τ, H, Q, hl, q => ⟨v, vs, rfl, gl_ok is vs (τ.set i (some v)) H Q (by simpa using hl) q⟩
  | [], _ :: _, _, _, _, hl, _ => by simp at hl
  | _ :: _, [], _, _, _, hl, _ => by simp at hl
theorem wipe_get (τ : L2.St) (j : Nat) : ∀ vs : List Nat, (wipe τ vs)[j]? = if j ∈ vs then τ[j]?.map (fun _ => none) else τ[j]?
  | [] => by simp [wipe]
  | v :: vs => by
    have ih := wipe_get τ j vs
    unfold wipe
    by_cases h : v = j
    · subst h
      rw [if_pos (by simp)]
      by_cases hv : v < τ.length
      · rw [List.getElem?_set_self (by rw [wipe_length]; exact hv)]
        simp [hv]
      · rw [List.getElem?_eq_none (by rw [List.length_set, wipe_length]; omega), List.getElem?_eq_none (by omega)]
        rfl
    · rw [List.getElem?_set_ne h, ih]
      by_cases hm : j ∈ vs
      · rw [if_pos hm, if_pos (by simp [hm])]
      · rw [if_neg hm, if_neg (by simp only [List.mem_cons, not_or]; exact ⟨fun e => h e.symm, hm⟩)]
theorem wipe_set {τ : L2.St} {i : Nat} {x : Option V} {vs : List Nat} (h : i ∈ vs) : wipe (τ.set i x) vs = wipe τ vs := by
  refine List.ext_getElem? fun j => ?_
  rw [wipe_get, wipe_get]
  by_cases hj : j ∈ vs
  · rw [if_pos hj, if_pos hj]
    by_cases e : i = j
    · subst e
      by_cases hi : i < τ.length
      · simp [hi]
      · rw [List.getElem?_eq_none (by simpa using hi), List.getElem?_eq_none (by simpa using hi)]
    · rw [List.getElem?_set_ne e]
  · rw [if_neg hj, if_neg hj, List.getElem?_set_ne]
    rintro rfl
    exact hj h
theorem wipe_setAll {vs : List Nat} : ∀ {is : List Nat} {xs : List V} {τ : L2.St}, (∀ i ∈ is, i ∈ vs) → wipe (setAllV τ is xs) vs = wipe τ vs
  | i :: is, x :: xs, τ, h => by
    unfold setAllV
    rw [wipe_setAll fun j hj => h j (by simp [hj]), wipe_set (h i (by simp))]
  | [], _, _, _ => by simp [setAllV]
  | _ :: _, [], _, _ => by simp [setAllV]
theorem wipe_wipe {τ : L2.St} {vs : List Nat} : wipe (wipe τ vs) vs = wipe τ vs := by
  refine List.ext_getElem? fun j => ?_
  rw [wipe_get]
  by_cases hj : j ∈ vs
  · rw [if_pos hj, wipe_get, if_pos hj, Option.map_map]
    rfl
  · rw [if_neg hj]
def wipeD : En → List Nat → En
  | σ, [] => σ
  | σ, v :: vs => (wipeD σ vs).set v none
section
variable {K : PySem.W.Frag} {ex : Addr → Prop} {f : Nat → Addr} {k : Nat} {H : Hp} {σ σ' : En} {τ : L2.St}
theorem ER.none (e : ER K ex f k H σ τ) (i : Nat) : ER K ex f k H (σ.set i none) (τ.set i none) := by
  refine ⟨by simp [e.len], fun j c h => ?_⟩
  by_cases hj : i = j
  · subst hj
    by_cases hi : i < σ.length
    · rw [List.getElem?_set_self hi] at h
      cases h
    · rw [List.getElem?_eq_none (by simpa using hi)] at h
      cases h
  · rw [List.getElem?_set_ne hj] at h
    obtain ⟨u, h1, h2⟩ := e.at_ j c h
    exact ⟨u, by rw [List.getElem?_set_ne hj]; exact h1, h2⟩
theorem ER.wipe (e : ER K ex f k H σ τ) : ∀ vs : List Nat, ER K ex f k H (wipeD σ vs) (L2.wipe τ vs)
  | [] => e
  | v :: vs => (ER.wipe e vs).none v
theorem ER.setAll : ∀ {is : List Nat} {ds : List Dv} {xs : List V} {σ : En} {τ : L2.St}, ER K ex f k H σ τ → RDs K ex f k H ds xs → ER K ex f k H (setAll σ is ds) (setAllV τ is xs)
  | i :: is, _, _, _, _, e, .cons h hs => ER.setAll (is := is) (e.set (i := i) h) hs
  | [], _, _, _, _, e, h => by
    cases h <;> exact e
  | _ :: _, _, _, _, _, e, .nil => e
/-- a target stored -/
theorem tg_ok {t : Tg} {d : Dv} {v : V} {Q : L2.St → Hp → Prop} (er : ER K ex f k H σ τ) (rd : RD K ex f k H d v) (h : tgD t d σ = some σ')
    (q : ∀ τ', ER K ex f k H σ' τ' → (∀ vs, (∀ i ∈ t.slots, i ∈ vs) → L2.wipe τ' vs = L2.wipe τ vs) → Q τ' H) : tgV K t v τ H Q := by
  cases t with
  | one i =>
    cases h
    exact q _ (er.set rd) fun vs hv => wipe_set (hv i (by simp [Tg.slots]))
  | many is =>
    cases rd with
    | tup hq hs =>
      rename_i ds a ws
      simp only [tgD] at h
      split at h
      · rename_i hl
        cases h
        exact ⟨a, ws, rfl, hq, by rw [← hs.length]; exact hl, gl_ok is ws τ H Q (by rw [← hs.length]; exact hl) (q _ (ER.setAll er hs) fun vs hv => wipe_setAll hv)⟩
      · cases h
    | tux hq hs =>
      rename_i ds a ws
      simp only [tgD] at h
      split at h
      · rename_i hl
        cases h
        exact ⟨a, ws, rfl, .inl (.inr (hq.imp fun _ q => q.1)), by rw [← hs.length]; exact hl, gl_ok is ws τ H Q (by rw [← hs.length]; exact hl) (q _ (ER.setAll er hs) fun vs hv => wipe_setAll hv)⟩
      · cases h
    | _ => simp [tgD] at h
end

/-! ### what is walked -/
def SrcOk (src : Option Nat) (xs : List Dv) (st : Sto) : Prop := ∀ n, src = some n → st[n]? = some (.lst xs)
structure WkD (K : PySem.W.Frag) (ex : Addr → Prop) (J : It) (xs : List Dv) (src : Option Nat) (f : Nat → Addr) (k : Nat) (H : Hp) : Prop where
  go : ∀ (ex2 : Addr → Prop) i f2 (st2 : Sto) H2, (∀ a, ex2 a → ex a ∨ H a = none) → i < xs.length → Stp f k H f2 st2.length H2 → RS K ex2 f2 st2 H2 → SrcOk src xs st2 → J.go i H2
  stop : ∀ (ex2 : Addr → Prop) f2 (st2 : Sto) H2, (∀ a, ex2 a → ex a ∨ H a = none) → Stp f k H f2 st2.length H2 → RS K ex2 f2 st2 H2 → SrcOk src xs st2 → J.stop xs.length H2
  yld : ∀ (ex2 : Addr → Prop) i f2 (st2 : Sto) H2 x H3, (∀ a, ex2 a → ex a ∨ H a = none) → i < xs.length → Stp f k H f2 st2.length H2 → RS K ex2 f2 st2 H2 → SrcOk src xs st2 → J.yld i H2 x H3 →
    ∃ d, xs[i]? = some d ∧ Stp f2 st2.length H2 f2 st2.length H3 ∧ RS K ex2 f2 st2 H3 ∧ RD K ex2 f2 st2.length H3 d x
abbrev DTI := En → Sto → (List Dv → Option Nat → Sto → Prop) → Prop
def AfI (K : PySem.W.Frag) (ex : Addr → Prop) (f : Nat → Addr) (k : Nat) (H : Hp) (R : It → Hp → Prop) : List Dv → Option Nat → Sto → Prop := fun xs src st' =>
  ∀ f' H' J, Stp f k H f' st'.length H' → RS K ex f' st' H' → SrcOk src xs st' → WkD K ex J xs src f' st'.length H' → R J H'
def lI (K : PySem.W.Frag) (w : DTI) : TI := fun τ H R => ∃ ex f σ st, RS K ex f st H ∧ ER K ex f st.length H σ τ ∧ w σ st (AfI K ex f st.length H R)
def MonoI (w : DTI) : Prop := ∀ σ st (Q Q' : List Dv → Option Nat → Sto → Prop), (∀ d n s, Q d n s → Q' d n s) → w σ st Q → w σ st Q'
structure DI (X : Cx) (tg e : Expr) (w : DTI) : Prop where
  pi : PI X tg e (lI X.K w)
  mono : MonoI w
section
variable {X : Cx} {K : PySem.W.Frag} {ex : Addr → Prop} {f : Nat → Addr} {H : Hp} {σ : En} {τ : L2.St} {st : Sto}
theorem lI.use {w : DTI} (m : MonoI w) (r : RS K ex f st H) (er : ER K ex f st.length H σ τ) {R : List Dv → Option Nat → Sto → Prop} (h : w σ st R) {P : It → Hp → Prop}
    (q : ∀ f1 H1 J xs src st1, Stp f st.length H f1 st1.length H1 → RS K ex f1 st1 H1 → ER K ex f1 st1.length H1 σ τ → SrcOk src xs st1 → WkD K ex J xs src f1 st1.length H1 → R xs src st1 → P J H1) : lI K w τ H P :=
  ⟨ex, f, σ, st, r, er, m σ st _ _ (fun xs src st1 hr f1 H1 J s r1 so wk => q f1 H1 J xs src st1 s r1 (er.mono s r.cel) so wk hr) h⟩

/-- a list, a tuple, a text -/
def iAny (K : PySem.W.Frag) (tl : TE) : TI := fun τ H R => tl τ H fun x H1 => (∃ a, x = .ref a ∧ (∃ xs, SqL K H1 a xs) ∧ R (Itl K a) H1) ∨ (∃ a, x = .ref a ∧ (∃ xs, SqT K H1 a xs) ∧ R (Itt K a) H1) ∨ ∃ z, x = .str z ∧ R (Its z) H1
/-- the value that an expression stands for, as its reading -/
theorem pi_any {tg l : Expr} {tl : TE} (hl : PE X l tl) : PI X tg l (iAny X.K tl) := by
  refine ⟨fun pins s τ H R I h => ?_⟩
  -- one run of the expression; then the iterator by the value's kind
  refine thn (hl.run pins s τ H _ I h) fun v s1 z => ?_
  obtain ⟨x, H1, I1, r1, q⟩ := z
  rcases q with ⟨a, rfl, ⟨xs, hq⟩, q⟩ | ⟨a, rfl, ⟨xs, hq⟩, q⟩ | ⟨z, rfl, q⟩
  · obtain rfl : v = Value.ref a := r1
    obtain ⟨its, rv, p, _⟩ := I1.list hq
    exact wpAny_pyIter_list p.isList (pi_one (tk := s1.toks) I1 _ (turn_list a _) ⟨_, Heap.get?_push_size _ rfl, rfl, rfl⟩ q)
  · obtain rfl : v = Value.ref a := r1
    obtain ⟨its, rv, p, _⟩ := I1.tuple hq
    exact wpAny_pyIter_tuple (show s1.heap.IsTuple a its.toArray from p) (pi_one (tk := s1.toks) I1 _ (turn_tuple a _) ⟨_, Heap.get?_push_size _ rfl, rfl, rfl⟩ q)
  · obtain ⟨t, rfl⟩ := r1
    cases hz : z.cps.all (· < 128) with
    | false => exact wpAny_pyIter_wide hz (pi_one (tk := s1.toks) I1 _ (turn_str _ z t "str_iterator" (.inr rfl)) ⟨_, Heap.get?_push_size _ rfl, rfl, rfl⟩ q)
    | true => exact wpAny_pyIter_ascii hz (pi_one (tk := s1.toks) I1 _ (turn_str _ z t "str_ascii_iterator" (.inl rfl)) ⟨_, Heap.get?_push_size _ rfl, rfl, rfl⟩ q)

def signs (z : Str) : List Dv := z.cps.toList.map fun c => .str ⟨#[c]⟩
def iterD (d : Dv) (st : Sto) : Option (List Dv × Option Nat) := match d with
  | .tup xs => some (xs, none)
  | .tux xs => some (xs, none)
  | .rol xs => some (xs, none)
  | .fro xs => some (xs, none)
  | .str z => some (signs z, none)
  | .ref n => match st[n]? with | some (.lst xs) => some (xs, some n) | none => none
  | _ => none
abbrev wIt (w : DTE) : DTI := fun σ st Q => w σ st fun d st1 => match iterD d st1 with | some p => Q p.1 p.2 st1 | none => False
theorem wIt_mono {w : DTE} (m : MonoE w) : MonoI (wIt w) := fun σ st Q Q' q h => m _ _ _ _ (fun d s h1 => by
  split at h1
  · exact q _ _ _ h1
  · exact h1.elim) h
theorem wk_fixL {a : Addr} {xs : List Dv} {k : Nat} {f : Nat → Addr} {H : Hp} (hq : ∀ (ex2 : Addr → Prop) f2 (st2 : Sto) H2, (∀ a, ex2 a → ex a ∨ H a = none) → Stp f k H f2 st2.length H2 → ∃ ws, SqL K H2 a ws ∧ RDs K ex2 f2 st2.length H2 xs ws) : WkD K ex (Itl K a) xs none f k H := by
  refine ⟨fun ex2 i f2 st2 H2 hx hi s r _ => ?_, fun ex2 f2 st2 H2 hx s r _ => ?_, fun ex2 i f2 st2 H2 x H3 hx hi s r _ y => ?_⟩
  · obtain ⟨ws, h1, h2⟩ := hq ex2 f2 st2 H2 hx s
    have hl := h2.length
    exact ⟨ws, ws[i]'(by omega), h1, by simp⟩
  · obtain ⟨ws, h1, h2⟩ := hq ex2 f2 st2 H2 hx s
    exact ⟨ws, h1, by rw [h2.length]; exact Nat.le_refl _⟩
  · obtain ⟨ws, h1, h2⟩ := hq ex2 f2 st2 H2 hx s
    obtain ⟨rfl, y⟩ := y
    obtain ⟨d, e1, e2⟩ := h2.get' (y ws h1)
    exact ⟨d, e1, Stp.refl, r, e2⟩
theorem wk_fixT {a : Addr} {xs : List Dv} {k : Nat} {f : Nat → Addr} {H : Hp} (hq : ∀ (ex2 : Addr → Prop) f2 (st2 : Sto) H2, (∀ a, ex2 a → ex a ∨ H a = none) → Stp f k H f2 st2.length H2 → ∃ ws, SqT K H2 a ws ∧ RDs K ex2 f2 st2.length H2 xs ws) : WkD K ex (Itt K a) xs none f k H := by
  refine ⟨fun ex2 i f2 st2 H2 hx hi s r _ => ?_, fun ex2 f2 st2 H2 hx s r _ => ?_, fun ex2 i f2 st2 H2 x H3 hx hi s r _ y => ?_⟩
  · obtain ⟨ws, h1, h2⟩ := hq ex2 f2 st2 H2 hx s
    have hl := h2.length
    exact ⟨ws, ws[i]'(by omega), h1, by simp⟩
  · obtain ⟨ws, h1, h2⟩ := hq ex2 f2 st2 H2 hx s
    exact ⟨ws, h1, by rw [h2.length]; exact Nat.le_refl _⟩
  · obtain ⟨ws, h1, h2⟩ := hq ex2 f2 st2 H2 hx s
    obtain ⟨rfl, y⟩ := y
    obtain ⟨d, e1, e2⟩ := h2.get' (y ws h1)
    exact ⟨d, e1, Stp.refl, r, e2⟩
theorem wk_cel {n : Nat} {xs : List Dv} {k : Nat} {f : Nat → Addr} {H : Hp} (hn : n < k) : WkD K ex (Itl K (f n)) xs (some n) f k H := by
  have key : ∀ (ex2 : Addr → Prop) f2 (st2 : Sto) H2, Stp f k H f2 st2.length H2 → RS K ex2 f2 st2 H2 → SrcOk (some n) xs st2 → ∃ ws, SqL K H2 (f n) ws ∧ RDs K ex2 f2 st2.length H2 xs ws := fun ex2 f2 st2 H2 s r so => by
    have h1 := r.obj n _ (so n rfl)
    rw [s.agree n hn] at h1
    cases h1 with
    | lst e hs => exact ⟨_, .inl (.inl e), hs⟩
  refine ⟨fun ex2 i f2 st2 H2 hx hi s r so => ?_, fun ex2 f2 st2 H2 hx s r so => ?_, fun ex2 i f2 st2 H2 x H3 hx hi s r so y => ?_⟩
  · obtain ⟨ws, h1, h2⟩ := key ex2 f2 st2 H2 s r so
    have hl := h2.length
    exact ⟨ws, ws[i]'(by omega), h1, by simp⟩
  · obtain ⟨ws, h1, h2⟩ := key ex2 f2 st2 H2 s r so
    exact ⟨ws, h1, by rw [h2.length]; exact Nat.le_refl _⟩
  · obtain ⟨ws, h1, h2⟩ := key ex2 f2 st2 H2 s r so
    obtain ⟨rfl, y⟩ := y
    obtain ⟨d, e1, e2⟩ := h2.get' (y ws h1)
    exact ⟨d, e1, Stp.refl, r, e2⟩
theorem wk_str {z : Str} {k : Nat} {f : Nat → Addr} {H : Hp} : WkD K ex (Its z) (signs z) none f k H := by
  have e : (signs z).length = z.cps.size := by simp [signs]
  refine ⟨fun ex2 i f2 st2 H2 hx hi s r _ => ?_, fun ex2 f2 st2 H2 hx s r _ => ?_, fun ex2 i f2 st2 H2 x H3 hx hi s r _ y => ?_⟩
  · show i < z.cps.size
    omega
  · show z.cps.size ≤ (signs z).length
    omega
  · obtain ⟨rfl, c, e1, rfl⟩ := y
    refine ⟨.str ⟨#[c]⟩, ?_, Stp.refl, r, .str _⟩
    unfold signs
    rw [List.getElem?_map, Array.getElem?_toList, e1]
    rfl
theorem di_any {tg l : Expr} {w : DTE} (h : DE X l w) : DI X tg l (wIt w) := by
  refine ⟨(pi_any h.pe).imp fun τ H R hh => ?_, wIt_mono h.mono⟩
  obtain ⟨ex, f, σ, st, r, er, hh⟩ := hh
  refine lE.use h.mono r er hh fun f1 H1 d st1 v s1 r1 e1 rd h1 => ?_
  cases rd with
  | non => exact h1.elim
  | bl b => exact h1.elim
  | int i => exact h1.elim
  | str z => exact .inr (.inr ⟨z, rfl, h1 f1 H1 _ s1 r1 (fun n e => nomatch e) wk_str⟩)
  | tup hq hs => 
    refine .inr (.inl ⟨_, rfl, ⟨_, hq⟩, h1 f1 H1 _ s1 r1 (fun n e => nomatch e) (wk_fixT fun ex2 f2 st2 H2 hx s => ?_)⟩)
    have z := RD.mono2 s r1.cel hx (RD.tup hq hs)
    cases z with
    | tup a b => exact ⟨_, a, b⟩
  | tux hq hs =>
    refine .inr (.inl ⟨_, rfl, ⟨_, .inl (.inr (hq.imp fun _ q => q.1))⟩, h1 f1 H1 _ s1 r1 (fun n e => nomatch e) (wk_fixT fun ex2 f2 st2 H2 hx2 s => ?_)⟩)
    have z := RD.mono2 s r1.cel hx2 (RD.tux hq hs)
    cases z with
    | tux a b => exact ⟨_, .inl (.inr (a.imp fun _ q => q.1)), b⟩
  | rol hq hx hn hs =>
    refine .inl ⟨_, rfl, ⟨_, .inl (.inl hq)⟩, h1 f1 H1 _ s1 r1 (fun n e => nomatch e) (wk_fixL fun ex2 f2 st2 H2 hx2 s => ?_)⟩
    have z := RD.mono2 s r1.cel hx2 (RD.rol hq hx hn hs)
    cases z with
    | rol a _ _ b => exact ⟨_, .inl (.inl a), b⟩
  | fro hq hs =>
    refine .inl ⟨_, rfl, ⟨_, hq.imp (fun q => q.1) id⟩, h1 f1 H1 _ s1 r1 (fun n e => nomatch e) (wk_fixL fun ex2 f2 st2 H2 hx s => ?_)⟩
    have z := RD.mono2 s r1.cel hx (RD.fro hq hs)
    cases z with
    | fro a b => exact ⟨_, a.imp (fun q => q.1) id, b⟩
  | obj a b c => exact h1.elim
  | dic a b c => exact h1.elim
  | tuk a b => exact h1.elim
  | ref n hn =>
    have h2 : st1[n]? = some st1[n] := by simp
    have h3 := r1.obj n _ h2
    cases h4 : st1[n] with
    | lst xs =>
      rw [h4] at h2 h3
      cases h3 with
      | lst e hs =>
        simp only [iterD, h2] at h1
        exact .inl ⟨_, rfl, ⟨_, .inl (.inl e)⟩, h1 f1 H1 _ s1 r1 (fun m e => by cases e; exact h2) (wk_cel hn)⟩
/-- range -/
def rng (lo : Int) (n : Nat) : List Dv := (List.range n).map fun (i : Nat) => Dv.int (lo + (i : Int))
theorem rng_length {lo : Int} {n : Nat} : (rng lo n).length = n := by simp [rng]
theorem rng_get {lo : Int} {n i : Nat} (h : i < n) : (rng lo n)[i]? = some (.int (lo + (i : Int))) := by simp [rng, h]
theorem wk_rng {lo : Int} {n : Nat} {k : Nat} {f : Nat → Addr} {H : Hp} : WkD K ex (Itr lo n) (rng lo n) none f k H := by
  refine ⟨fun ex2 i f2 st2 H2 hx hi s r _ => by rw [rng_length] at hi; exact hi, fun ex2 f2 st2 H2 hx s r _ => by rw [rng_length]; exact Nat.le_refl _, fun ex2 i f2 st2 H2 x H3 hx hi s r _ y => ?_⟩
  obtain ⟨rfl, rfl⟩ := y
  rw [rng_length] at hi
  exact ⟨_, rng_get hi, Stp.refl, r, .int _⟩
abbrev wRng1 (a : DTA) : DTI := fun σ st Q => a σ st fun ds st1 => match ds with | [.int j] => (-(2 ^ 62) ≤ j ∧ j < 2 ^ 62) ∧ Q (rng 0 j.toNat) none st1 | _ => False
theorem di_range1 {tg a : Expr} {w : DTA} {p pos : Pos} (hg : Gl X "range") (hm : X.mg "range" = none) (ha : DA X [a] w) (hs : starEach [a] X.env = [(false, eval a X.env)] := by rfl) : DI X tg (.Call (.Name "range" p) [a] [] pos) (wRng1 w) := by
  refine ⟨(pi_range1 hg hm ha.pa hs).imp fun τ H R hh => ?_, fun σ st Q Q' q h => ha.mono _ _ _ _ (fun ds s h1 => ?_) h⟩
  · obtain ⟨ex, f, σ, st, r, er, hh⟩ := hh
    refine lA.use ha.mono r er hh fun f1 H1 ds st1 vs s1 r1 e1 rd h1 => ?_
    split at h1
    · rename_i j
      cases rd with
      | cons h2 h3 =>
        cases h2
        cases h3
        exact ⟨j, rfl, h1.1.1, h1.1.2, h1.2 f1 H1 _ s1 r1 (fun n e => nomatch e) wk_rng⟩
    · exact h1.elim
  · split at h1
    · exact ⟨h1.1, q _ _ _ h1.2⟩
    · exact h1.elim
abbrev wRng2 (a : DTA) : DTI := fun σ st Q => a σ st fun ds st1 => match ds with | [.int i, .int j] => (-(2 ^ 62) ≤ i ∧ i < 2 ^ 62 ∧ -(2 ^ 62) ≤ j ∧ j < 2 ^ 62) ∧ Q (rng i (j - i).toNat) none st1 | _ => False
theorem di_range2 {tg a b : Expr} {w : DTA} {p pos : Pos} (hg : Gl X "range") (hm : X.mg "range" = none) (ha : DA X [a, b] w) (hs : starEach [a, b] X.env = [(false, eval a X.env), (false, eval b X.env)] := by rfl) (hs2 : starEach [b] X.env = [(false, eval b X.env)] := by rfl) :
    DI X tg (.Call (.Name "range" p) [a, b] [] pos) (wRng2 w) := by
  refine ⟨(pi_range2 hg hm ha.pa hs hs2).imp fun τ H R hh => ?_, fun σ st Q Q' q h => ha.mono _ _ _ _ (fun ds s h1 => ?_) h⟩
  · obtain ⟨ex, f, σ, st, r, er, hh⟩ := hh
    refine lA.use ha.mono r er hh fun f1 H1 ds st1 vs s1 r1 e1 rd h1 => ?_
    split at h1
    · rename_i i j
      cases rd with
      | cons h2 h3 =>
        cases h2
        cases h3 with
        | cons h2 h3 =>
          cases h2
          cases h3
          exact ⟨i, j, rfl, h1.1, h1.2 f1 H1 _ s1 r1 (fun n e => nomatch e) wk_rng⟩
    · exact h1.elim
  · split at h1
    · exact ⟨h1.1, q _ _ _ h1.2⟩
    · exact h1.elim

/-! ### for -/
abbrev wFor (wi : DTI) (t : Tg) (wb : DTS) : DTS := fun D σ st => wi σ st fun xs src st1 => ∃ I : Nat → En → Sto → Prop, I 0 σ st1 ∧ (∀ i σ' st', I i σ' st' → SrcOk src xs st') ∧
  (∀ i x σ' st', xs[i]? = some x → I i σ' st' → ∃ σ2, tgD t x σ' = some σ2 ∧ wb { D with nx := I (i + 1), ct := I (i + 1), bk := D.nx } σ2 st') ∧ ∀ σ' st', I xs.length σ' st' → D.nx σ' st'
theorem ds_for {tg iter : Expr} {body : List Stmt} {wi : DTI} {t : Tg} {wb : DTS} {pos : Pos} (hp : PassesOwn (model X.prog X.w) X.A X.env X.xe) (hc : X.calm = true) (hi : DI X tg iter wi) (hg : PG X tg (tgV X.K t)) (hb : DSs X body wb)
    (hs : ∀ x, foldedSetIterable iter X.env x = pure x := by intro _; rfl) : DS X (.For tg iter body [] pos) (wFor wi t wb) := by
  refine ⟨(ps_for hp hc hi.pi hg hb.ps hs).imp fun D τ H h => ?_, fun σ st D D' l h => hi.mono _ _ _ _ (fun xs src s ⟨I, h1, h2, h3, h4⟩ => ⟨I, h1, h2, fun i x σ' st' e hI => ?_, fun σ' st' hI => l.nx _ _ (h4 σ' st' hI)⟩) h⟩
  · obtain ⟨ex, f, σ, st, r, er, h⟩ := h
    refine lI.use hi.mono r er h fun f1 H1 J xs src st1 s1 r1 e1 so wk ⟨I, i0, isrc, iturn, iend⟩ => ?_
    refine ⟨fun i m τ2 H2 => m = xs.length - i ∧ i ≤ xs.length ∧ ∃ f2 σ2 st2, Stp f1 st1.length H1 f2 st2.length H2 ∧ RS X.K ex f2 st2 H2 ∧ ER X.K ex f2 st2.length H2 σ2 τ2 ∧ I i σ2 st2, ⟨xs.length, by simp, Nat.zero_le _, f1, σ, st1, Stp.refl, r1, e1, i0⟩, ?_⟩
    rintro i m τ2 H2 ⟨rfl, hle, f2, σ2, st2, s2, r2, e2, hI⟩
    by_cases hlt : i < xs.length
    · refine .inr ⟨wk.go _ i f2 st2 H2 (fun _ q => .inl q) hlt s2 r2 (isrc _ _ _ hI), fun τ3 H3 => i + 1 ≤ xs.length ∧ ∃ f3 σ3 st3, Stp f1 st1.length H1 f3 st3.length H3 ∧ RS X.K ex f3 st3 H3 ∧ ER X.K ex f3 st3.length H3 σ3 τ3 ∧ I (i + 1) σ3 st3, fun τ3 H3 z => ⟨xs.length - (i + 1), by omega, rfl, z.1, z.2⟩, fun x H3 hy => ?_⟩
      obtain ⟨d, hd, s3, r3, rd⟩ := wk.yld _ i f2 st2 H2 x H3 (fun _ q => .inl q) hlt s2 r2 (isrc _ _ _ hI) hy
      obtain ⟨σ3, ht, hbd⟩ := iturn i d σ2 st2 hd hI
      refine tg_ok (e2.mono s3 r2.cel) rd ht fun τ4 e4 _ => ?_
      refine lS.use hb.mono r3 e4 hbd ⟨fun σ' st' q f' H' τ' s' r' er' => ⟨hlt, f', σ', st', (s2.trans s3).trans s', r', er', q⟩, fun d st' q => Af.later q ((s1.trans s2).trans s3), fun σ' st' q => AfS.later q ((s1.trans s2).trans s3), fun σ' st' q f' H' τ' s' r' er' => ⟨hlt, f', σ', st', (s2.trans s3).trans s', r', er', q⟩⟩
    · have e : i = xs.length := by omega
      subst e
      exact .inl ⟨wk.stop _ f2 st2 H2 (fun _ q => .inl q) s2 r2 (isrc _ _ _ hI), iend _ _ hI f2 H2 τ2 (s1.trans s2) r2 e2⟩
  · obtain ⟨σ2, ht, hbd⟩ := h3 i x σ' st' e hI
    exact ⟨σ2, ht, hb.mono σ2 st' { D with nx := I (i + 1), ct := I (i + 1), bk := D.nx } { D' with nx := I (i + 1), ct := I (i + 1), bk := D'.nx } ⟨fun _ _ z => z, l.rt, l.nx, fun _ _ z => z⟩ hbd⟩
/-! ### while -/
abbrev wWhile (wc : DTT) (wb : DTS) : DTS := fun D σ st => ∃ W : Nat → En → Sto → Prop, (∃ m, W m σ st) ∧ ∀ m σ st, W m σ st →
  wc σ st fun b st1 => if b = true then wb { D with nx := fun σ' st' => ∃ m', m' < m ∧ W m' σ' st', ct := fun σ' st' => ∃ m', m' < m ∧ W m' σ' st', bk := D.nx } σ st1 else D.nx σ st1
theorem ds_while {c : Expr} {body : List Stmt} {wc : DTT} {wb : DTS} {pos : Pos} (hp : PassesOwn (model X.prog X.w) X.A X.env X.xe) (hc : DT X c wc) (hb : DSs X body wb) : DS X (.While c body [] pos) (wWhile wc wb) := by
  refine ⟨(ps_while hp hc.pt hb.ps).imp fun D τ H h => ?_, fun σ st D D' l ⟨W, h1, h2⟩ => ⟨W, h1, fun m σ st hW => hc.mono _ _ _ _ (fun b s h3 => ?_) (h2 m σ st hW)⟩⟩
  · obtain ⟨ex, f, σ, st, r, er, W, ⟨m0, w0⟩, turn⟩ := h
    refine ⟨fun m τ2 H2 => ∃ f2 σ2 st2, Stp f st.length H f2 st2.length H2 ∧ RS X.K ex f2 st2 H2 ∧ ER X.K ex f2 st2.length H2 σ2 τ2 ∧ W m σ2 st2, ⟨m0, f, σ, st, Stp.refl, r, er, w0⟩, ?_⟩
    rintro m τ2 H2 ⟨f2, σ2, st2, s2, r2, e2, hW⟩
    refine lT.use hc.mono r2 e2 (turn m σ2 st2 hW) fun f3 H3 b st3 s3 r3 e3 h3 => ?_
    cases b with
    | true =>
      refine ⟨_, fun _ _ z => z, lS.use hb.mono r3 e3 h3 ⟨fun σ' st' q f' H' τ' s' r' er' => ?_, fun d st' q => Af.later q (s2.trans s3), fun σ' st' q => AfS.later q (s2.trans s3), fun σ' st' q f' H' τ' s' r' er' => ?_⟩⟩
      · obtain ⟨m', hm, hW'⟩ := q
        exact ⟨m', hm, f', σ', st', (s2.trans s3).trans s', r', er', hW'⟩
      · obtain ⟨m', hm, hW'⟩ := q
        exact ⟨m', hm, f', σ', st', (s2.trans s3).trans s', r', er', hW'⟩
    | false => exact h3 f3 H3 τ2 (s2.trans s3) r3 e3
  · cases b with
    | true => exact hb.mono σ s { D with nx := fun σ' st' => ∃ m', m' < m ∧ W m' σ' st', ct := fun σ' st' => ∃ m', m' < m ∧ W m' σ' st', bk := D.nx } { D' with nx := fun σ' st' => ∃ m', m' < m ∧ W m' σ' st', ct := fun σ' st' => ∃ m', m' < m ∧ W m' σ' st', bk := D'.nx } ⟨fun _ _ z => z, l.rt, l.nx, fun _ _ z => z⟩ h3
    | false => exact l.nx _ _ h3

/-! ### a new list: as a value, as a cell -/
mutual
theorem RD.adopt {k : Nat} {p : Addr} : ∀ {d : Dv} {v : V}, RD K (fun a => ex a ∨ a = p) f k H d v → RD K ex (put f k p) (k + 1) H d v
  | _, _, .non => .non
  | _, _, .bl b => .bl b
  | _, _, .int i => .int i
  | _, _, .str x => .str x
  | _, _, .tup h hs => .tup h (RDs.adopt hs)
  | _, _, .tux h hs => .tux h (RDs.adopt hs)
  | _, _, .tuk h hs => .tuk h (RDs.adopt hs)
  | _, _, .rol (a := a) h he hn hs => .rol h (fun q => he (.inl q)) (fun n h1 q => by
      by_cases h2 : n = k
      · rw [h2, put_at] at q
        exact he (.inr q.symm)
      · rw [put_ne h2] at q
        exact hn n (by omega) q) (RDs.adopt hs)
  | _, _, .fro (a := a) h hs => .fro (h.imp (fun z => ⟨z.1, fun q => z.2.1 (.inl q), fun n h1 q => by
      by_cases h2 : n = k
      · rw [h2, put_at] at q
        exact z.2.1 (.inr q.symm)
      · rw [put_ne h2] at q
        exact z.2.2 n (by omega) q⟩) id) (RDs.adopt hs)
  | _, _, .obj h hn hs => .obj h hn (RDs.adopt hs)
  | _, _, .dic h hl hs => .dic h hl (RDs.adopt hs)
  | _, _, .ref n h => by
    have q := RD.ref (K := K) (ex := ex) (f := put f k p) (k := k + 1) (H := H) n (by omega)
    rwa [put_ne (by omega)] at q
theorem RDs.adopt {k : Nat} {p : Addr} : ∀ {ds : List Dv} {vs : List V}, RDs K (fun a => ex a ∨ a = p) f k H ds vs → RDs K ex (put f k p) (k + 1) H ds vs
  | _, _, .nil => .nil
  | _, _, .cons h hs => .cons (RD.adopt h) (RDs.adopt hs)
end
theorem RS.adopt {st : Sto} {p : Addr} {xs : List Dv} {vs : List V} (r : RS K (fun a => ex a ∨ a = p) f st H) (hp : ¬ ex p) (e : H p = some (.lst vs)) (hx : RDs K (fun a => ex a ∨ a = p) f st.length H xs vs) : RS K ex (put f st.length p) (st ++ [.lst xs]) H := by
  have nf : ∀ j, j < st.length → f j ≠ p := fun j hj z => r.exc j hj (.inr z)
  have el : (st ++ [Co.lst xs]).length = st.length + 1 := by simp
  refine ⟨fun m n hm hn q => ?_, fun n c q => ?_, fun a q => r.exs a (.inl q), fun n hn q => ?_⟩
  · rw [el] at hm hn
    by_cases h1 : m = st.length
    · by_cases h2 : n = st.length
      · omega
      · rw [h1, put_at, put_ne h2] at q
        exact absurd q.symm (nf n (by omega))
    · by_cases h2 : n = st.length
      · rw [h2, put_at, put_ne h1] at q
        exact absurd q (nf m (by omega))
      · rw [put_ne h1, put_ne h2] at q
        exact r.inj m n (by omega) (by omega) q
  · rw [el]
    by_cases h1 : n < st.length
    · rw [List.getElem?_append_left h1] at q
      rw [put_ne (by omega)]
      cases r.obj n c q with
      | lst e1 hs => exact .lst e1 (RDs.adopt hs)
    · have h2 : n = st.length := by
        have := (List.getElem?_eq_some_iff.mp q).1
        rw [el] at this
        omega
      subst h2
      rw [List.getElem?_append_right (Nat.le_refl _)] at q
      simp at q
      subst q
      rw [put_at]
      exact .lst e (RDs.adopt hx)
  · rw [el] at hn
    by_cases h2 : n = st.length
    · rw [h2, put_at] at q
      exact hp q
    · rw [put_ne h2] at q
      exact r.exc n (by omega) (.inl q)
theorem Stp.adopt {f1 : Nat → Addr} {k k1 : Nat} {H1 : Hp} {p : Addr} (s : Stp f k H f1 k1 H1) (hp : H p = none) : Stp f k H (put f1 k1 p) (k1 + 1) H1 := by
  refine ⟨Nat.le_succ_of_le s.len, fun n hn => ?_, fun n h1 h2 => ?_, s.keep, s.there⟩
  · rw [put_ne (by have := s.len; omega)]
    exact s.agree n hn
  · by_cases h : n = k1
    · rw [h, put_at]
      exact hp
    · rw [put_ne h]
      exact s.fresh n h1 (by omega)
def AfN (K : PySem.W.Frag) (ex : Addr → Prop) (f : Nat → Addr) (k : Nat) (H : Hp) (Q : VK) : List Dv → Sto → Prop := fun xs st' =>
  ∀ f' H' p vs, Stp f k H f' st'.length H' → H p = none → RS K (fun a => ex a ∨ a = p) f' st' H' → H' p = some (.lst vs) → RDs K (fun a => ex a ∨ a = p) f' st'.length H' xs vs → Q (.ref p) H'
theorem AfN.later {f1 : Nat → Addr} {k k1 : Nat} {H1 : Hp} {Q : VK} {xs : List Dv} {st' : Sto} (h : AfN K ex f k H Q xs st') (s : Stp f k H f1 k1 H1) : AfN K ex f1 k1 H1 Q xs st' := fun f' H' p vs s' hp => h f' H' p vs (s.trans s') (s.there _ hp)
/-- a list just laid -/
theorem AfN.laid {xs : List Dv} {vs : List V} {Q : VK} {p : Addr} (h : AfN K ex f st.length H Q xs st) (r : RS K ex f st H) (hp : H p = none) (hx : RDs K ex f st.length H xs vs) : Q (.ref p) (upd H p (.lst vs)) :=
  h f _ p vs (Stp.new hp) hp (r.more hp) upd_same (hx.mono2 (Stp.new hp) r.cel fun a q => q.imp id fun z => by rw [z]; exact hp)
def lN (K : PySem.W.Frag) (w : DTA) : TE := fun τ H Q => ∃ ex f σ st, RS K ex f st H ∧ ER K ex f st.length H σ τ ∧ w σ st (AfN K ex f st.length H Q)
/-- e makes a new list -/
structure DN (X : Cx) (e : Expr) (w : DTA) : Prop where
  pe : PE X e (lN X.K w)
  mono : MonoA w
abbrev wRl (w : DTA) : DTE := fun σ st Q => w σ st fun xs st' => Q (.rol xs) st'
abbrev wCl (w : DTA) : DTE := fun σ st Q => w σ st fun xs st' => Q (.ref st'.length) (st' ++ [.lst xs])
theorem wRl_mono {w : DTA} (m : MonoA w) : MonoE (wRl w) := fun σ st Q Q' q h => m _ _ _ _ (fun xs s h1 => q _ _ h1) h
theorem wCl_mono {w : DTA} (m : MonoA w) : MonoE (wCl w) := fun σ st Q Q' q h => m _ _ _ _ (fun xs s h1 => q _ _ h1) h
theorem rl_lift {w : DTA} (m : MonoA w) (τ : L2.St) (H : Hp) (Q : VK) (h : lE K (wRl w) τ H Q) : lN K w τ H Q := by
  obtain ⟨ex, f, σ, st, r, er, h⟩ := h
  refine ⟨ex, f, σ, st, r, er, m _ _ _ _ (fun xs st' h1 f' H' p vs s hp r' e rx => ?_) h⟩
  exact h1 f' H' _ s (r'.less fun _ q => .inl q) (.rol e (fun q => r.exs p q hp) (fun n hn q => r'.exc n hn (.inr q)) (RDs.mono2 Stp.refl r'.cel (fun _ q => .inl (.inl q)) rx))
theorem cl_lift {w : DTA} (m : MonoA w) (τ : L2.St) (H : Hp) (Q : VK) (h : lE K (wCl w) τ H Q) : lN K w τ H Q := by
  obtain ⟨ex, f, σ, st, r, er, h⟩ := h
  refine ⟨ex, f, σ, st, r, er, m _ _ _ _ (fun xs st' h1 f' H' p vs s hp r' e rx => ?_) h⟩
  have el : (st' ++ [Co.lst xs]).length = st'.length + 1 := by simp
  refine h1 (put f' st'.length p) H' _ (by rw [el]; exact s.adopt hp) (r'.adopt (fun q => r.exs p q hp) e rx) ?_
  have q := RD.ref (K := K) (ex := ex) (f := put f' st'.length p) (k := (st' ++ [Co.lst xs]).length) (H := H') st'.length (by rw [el]; omega)
  rwa [put_at] at q
theorem DN.rol {e : Expr} {w : DTA} (h : DN X e w) : DE X e (wRl w) := ⟨h.pe.imp (rl_lift h.mono), wRl_mono h.mono⟩
theorem DN.cel {e : Expr} {w : DTA} (h : DN X e w) : DE X e (wCl w) := ⟨h.pe.imp (cl_lift h.mono), wCl_mono h.mono⟩

/-! ### comprehensions -/
@[irreducible] def lcIn (t : Tg) (wt : DTT) (we : DTE) (vs : List Nat) (σ : En) (Q : List Dv → Sto → Prop) (xs : List Dv) (src : Option Nat) (st1 : Sto) : Prop := ∃ I : Nat → List Dv → Sto → Prop, I 0 [] st1 ∧ (∀ i acc st', I i acc st' → SrcOk src xs st') ∧
  (∀ i x acc st', xs[i]? = some x → I i acc st' → acc.length < sizeLine ∧ ∃ σ2, tgD t x (wipeD σ vs) = some σ2 ∧ wt σ2 st' fun b st2 => if b = true then we σ2 st2 fun y st3 => I (i + 1) (acc ++ [y]) st3 else I (i + 1) acc st2) ∧
  ∀ acc st', I xs.length acc st' → Q acc st'
abbrev wLc (wi : DTI) (t : Tg) (wt : DTT) (we : DTE) (vs : List Nat) : DTA := fun σ st Q => wi σ st (lcIn t wt we vs σ Q)
theorem wLc_mono {wi : DTI} {t : Tg} {wt : DTT} {we : DTE} {vs : List Nat} (m : MonoI wi) : MonoA (wLc wi t wt we vs) := fun σ st Q Q' q h =>
  m _ _ _ _ (fun xs src s h1 => by
    unfold lcIn at *
    obtain ⟨I, h1, h2, h3, h4⟩ := h1
    exact ⟨I, h1, h2, h3, fun acc st' hI => q _ _ (h4 acc st' hI)⟩) h
structure DTs (X : Cx) (ifs : List Expr) (w : DTT) : Prop where
  pt : PTs X ifs (lT X.K w)
  mono : MonoT w
abbrev wYes : DTT := fun _ st Q => Q true st
theorem dts_nil : DTs X [] wYes := ⟨pts_nil.imp fun τ H Q ⟨ex, f, σ, st, r, er, h⟩ => h f H Stp.refl r, fun σ st Q Q' q h => q _ _ h⟩
theorem dts_one {c : Expr} {w : DTT} (h : DT X c w) : DTs X [c] w := ⟨pts_one h.pt, h.mono⟩
theorem lc_lift {wi : DTI} {t : Tg} {wt : DTT} {we : DTE} {vs : List Nat} (mi : MonoI wi) (mt : MonoT wt) (me : MonoE we) (hv : ∀ i ∈ t.slots, i ∈ vs) (τ : L2.St) (H : Hp) (Q : VK) (h : lN K (wLc wi t wt we vs) τ H Q) :
    tLc (lI K wi) (tgV K t) (lT K wt) (lE K we) vs τ H Q := by
  obtain ⟨ex, f, σ, st, r, er, h⟩ := h
  refine lI.use mi r er h fun f1 H1 J xs src st1 s1 r1 e1 so wk hI D hD => ?_
  unfold lcIn at hI
  obtain ⟨I, i0, isrc, iturn, iend⟩ := hI
  have hx : ∀ a, (ex a ∨ a = D) → ex a ∨ H1 a = none := fun a q => q.imp id fun z => by rw [z]; exact hD
  have xD : ¬ ex D := fun q => r1.exs D q hD
  -- within, the list that grows at D is excluded
  refine ⟨fun i m H2 => m = xs.length - i ∧ i ≤ xs.length ∧ ∃ f2 st2 ac av, Stp f1 st1.length H1 f2 st2.length H2 ∧ RS K (fun a => ex a ∨ a = D) f2 st2 H2 ∧ H2 D = some (.lst av) ∧ RDs K (fun a => ex a ∨ a = D) f2 st2.length H2 ac av ∧ I i ac st2,
    ⟨xs.length, by simp, Nat.zero_le _, f1, st1, [], [], Stp.new hD, r1.more hD, upd_same, .nil, i0⟩, ?_⟩
  rintro i m H2 ⟨rfl, hle, f2, st2, ac, av, s2, r2, eD, ra, hI⟩
  have n2 : ∀ n, n < st2.length → f2 n ≠ D := fun n hn e => r2.exc n hn (.inr e)
  by_cases hlt : i < xs.length
  · refine .inr ⟨wk.go _ i f2 st2 H2 hx hlt s2 r2 (isrc _ _ _ hI), fun H3 => i + 1 ≤ xs.length ∧ ∃ f3 st3 ac av, Stp f1 st1.length H1 f3 st3.length H3 ∧ RS K (fun a => ex a ∨ a = D) f3 st3 H3 ∧ H3 D = some (.lst av) ∧ RDs K (fun a => ex a ∨ a = D) f3 st3.length H3 ac av ∧ I (i + 1) ac st3, fun H3 z => ⟨xs.length - (i + 1), by omega, rfl, z.1, z.2⟩, fun x H3 hy => ?_⟩
    obtain ⟨d, hd, s3, r3, rd⟩ := wk.yld _ i f2 st2 H2 x H3 hx hlt s2 r2 (isrc _ _ _ hI) hy
    obtain ⟨hz, σ3, ht, hb⟩ := iturn i d ac st2 hd hI
    have e3 : ER K (fun a => ex a ∨ a = D) f2 st2.length H3 (wipeD σ vs) (wipe τ vs) := ER.wipe ⟨e1.len, fun i d h => let ⟨v, h1, h2⟩ := e1.at_ i d h; ⟨v, h1, h2.mono2 (s2.trans s3) r1.cel hx⟩⟩ vs
    have eD3 : H3 D = some (.lst av) := s3.keep D _ n2 eD
    refine tg_ok e3 rd ht fun τ4 e4 hw => ⟨by rw [hw vs hv, wipe_wipe], ?_⟩
    refine lT.use mt r3 e4 hb fun f5 H5 b st5 s5 r5 e5 h5 => ?_
    have n5 : ∀ n, n < st5.length → f5 n ≠ D := fun n hn e => r5.exc n hn (.inr e)
    have eD5 : H5 D = some (.lst av) := s5.keep D _ n2 eD3
    have ra5 := ra.mono (s3.trans s5) r2.cel
    cases b with
    | true =>
      refine lE.use me r5 e5 h5 fun f6 H6 y st6 v s6 r6 e6 ry hI6 => ?_
      have eD6 : H6 D = some (.lst av) := s6.keep D _ n5 eD5
      have ra6 := (ra5.mono s6 r5.cel).append (.cons ry .nil)
      have t := ((s2.trans s3).trans s5).trans s6
      refine ⟨av, eD6, by rw [← ra.length]; exact hz, hlt, f6, st6, ac ++ [y], av ++ [v], ⟨t.len, t.agree, t.fresh, fun b o hb e => ?_, fun b e => ?_⟩, r6.wr (.inr rfl) eD6, upd_same, RDs.wr (.inr rfl) eD6 ra6, hI6⟩
      · rw [upd_ne (ne_of_none e hD)]
        exact t.keep b o hb e
      · by_cases q : b = D
        · rw [q]
          exact hD
        · rw [upd_ne q] at e
          exact t.there b e
    | false => exact ⟨hlt, f5, st5, ac, av, (s2.trans s3).trans s5, r5, eD5, ra5, h5⟩
  · have e : i = xs.length := by omega
    subst e
    exact .inl ⟨wk.stop _ f2 st2 H2 hx s2 r2 (isrc _ _ _ hI), iend _ _ hI f2 H2 D av (s1.trans s2) (s1.there D hD) r2 eD ra⟩
/-- a comprehension -/
theorem dn_lc {elt tg iter : Expr} {ifs : List Expr} {scope : Scope} {own : List (Str × Nat)} {pos : Pos} {wi : DTI} {t : Tg} {wt : DTT} {we : DTE} (hc : X.calm = true) (hN : X.N.Nodup) (hi : DI X tg iter wi) (ok : BlkOk X.N X.env.scope scope own)
    (hg : ∀ (s : Shared) (H : Hp) (C : Addr) (cl : List (Str × Addr)) (fp : List Addr), PG (X.blk s H scope (compEnvC scope cl C X.env) fp) tg (tgV X.K t)) (ht : ∀ (s : Shared) (H : Hp) (C : Addr) (cl : List (Str × Addr)) (fp : List Addr), DTs (X.blk s H scope (compEnvC scope cl C X.env) fp) ifs wt)
    (he : ∀ (s : Shared) (H : Hp) (C : Addr) (cl : List (Str × Addr)) (fp : List Addr), DE (X.blk s H scope (compEnvC scope cl C X.env) fp) elt we) (hv : ∀ i ∈ t.slots, i ∈ own.map (·.2)) (hs : ∀ x, foldedSetIterable iter X.env x = pure x := by intro _; rfl) :
    DN X (.ListComp elt [⟨tg, iter, ifs, 0⟩] scope pos) (wLc wi t wt we (own.map (·.2))) :=
  ⟨⟨fun pins s τ H Q I h => ((pe_lc (g := tgV X.K t) (tt := lT X.K wt) (te := lE X.K we) hc hN hi.pi ok hg (fun s H C cl fp => (ht s H C cl fp).pt) (fun s H C cl fp => (he s H C cl fp).pe) hs).imp (lc_lift hi.mono (ht s H 0 [] []).mono (he s H 0 [] []).mono hv)).run pins s τ H Q I h⟩, wLc_mono hi.mono⟩
/-- name = comprehension, on one line -/
theorem ds_setLc {i : Nat} {y : Str} {py : Pos} {elt tg iter : Expr} {ifs : List Expr} {scope : Scope} {own : List (Str × Nat)} {pos spos : Pos} {wi : DTI} {t : Tg} {wt : DTT} {we : DTE} (hc : X.calm = true) (hN : X.N.Nodup) (hy : X.N[i]? = some y) (hyl : X.env.scope.names.lookup y = some .local)
    (hsw : swapsWith (.ListComp elt [⟨tg, iter, ifs, 0⟩] scope pos) (some (.Name y py)) spos.line X.env = pure true) (hi : DI X tg iter wi) (ok : BlkOk X.N X.env.scope scope own)
    (hg : ∀ (s : Shared) (H : Hp) (C : Addr) (cl : List (Str × Addr)) (fp : List Addr), PG (X.blk s H scope (compEnvC scope cl C X.env) fp) tg (tgV X.K t)) (ht : ∀ (s : Shared) (H : Hp) (C : Addr) (cl : List (Str × Addr)) (fp : List Addr), DTs (X.blk s H scope (compEnvC scope cl C X.env) fp) ifs wt)
    (he : ∀ (s : Shared) (H : Hp) (C : Addr) (cl : List (Str × Addr)) (fp : List Addr), DE (X.blk s H scope (compEnvC scope cl C X.env) fp) elt we) (hv : ∀ i ∈ t.slots, i ∈ own.map (·.2)) (hs : ∀ x, foldedSetIterable iter X.env x = pure x := by intro _; rfl) :
    DS X (.Assign [.Name y py] (.ListComp elt [⟨tg, iter, ifs, 0⟩] scope pos) spos) (wSet i (wRl (wLc wi t wt we (own.map (·.2))))) := by
  have h := ps_setLc (tt := lT X.K wt) (te := lE X.K we) hc hN hy hyl hsw hi.pi ok hg (fun s H C cl fp => (ht s H C cl fp).pt) (fun s H C cl fp => (he s H C cl fp).pe) hs
  refine ds_of_asg ⟨fun pins s τ H D I hw => (h.imp fun D τ H' q => ?_).run pins s τ H D I hw⟩ (wRl_mono (wLc_mono hi.mono))
  exact lc_lift hi.mono (ht s H 0 [] []).mono (he s H 0 [] []).mono hv τ H' _ (rl_lift (wLc_mono hi.mono) τ H' _ q)
end
end D2

/-! DL, part e: operators, built-ins, subscripts, slices, methods over data. -/
namespace D2
open PySem PySem.Spec PyProof.Rows L2
section
variable {X : Cx} {K : PySem.W.Frag} {ex : Addr → Prop} {f : Nat → Addr} {k : Nat} {H : Hp} {σ : En} {τ : L2.St} {st : Sto}

/-! ### lists and tuples of data -/
def lstD (st : Sto) (d : Dv) : Option (List Dv) := match d with
  | .rol xs => some xs
  | .fro xs => some xs
  | .ref n => match st[n]? with | some (.lst xs) => some xs | none => none
  | _ => none
def tupD (d : Dv) : Option (List Dv) := match d with
  | .tup xs => some xs
  | .tux xs => some xs
  | _ => none
theorem lst_of {d : Dv} {v : V} {xs : List Dv} (r : RS K ex f st H) (rd : RD K ex f st.length H d v) (h : lstD st d = some xs) : ∃ a vs, v = .ref a ∧ SqL K H a vs ∧ RDs K ex f st.length H xs vs := by
  cases rd with
  | rol e he hn hs => cases h; exact ⟨_, _, rfl, .inl (.inl e), hs⟩
  | fro e hs => cases h; exact ⟨_, _, rfl, e.imp (fun q => q.1) id, hs⟩
  | ref n hn =>
    simp only [lstD] at h
    split at h
    · rename_i ys e
      cases h
      cases r.obj n _ e with
      | lst e1 hs => exact ⟨_, _, rfl, .inl (.inl e1), hs⟩
    · cases h
  | _ => simp [lstD] at h
/-- a list that is no frozen one -/
def lsuD (st : Sto) (d : Dv) : Option (List Dv) := match d with
  | .rol xs => some xs
  | .ref n => match st[n]? with | some (.lst xs) => some xs | none => none
  | _ => none
theorem lsu_of {d : Dv} {v : V} {xs : List Dv} (r : RS K ex f st H) (rd : RD K ex f st.length H d v) (h : lsuD st d = some xs) : ∃ a vs, v = .ref a ∧ H a = some (.lst vs) ∧ RDs K ex f st.length H xs vs := by
  cases rd with
  | rol e he hn hs => cases h; exact ⟨_, _, rfl, e, hs⟩
  | ref n hn =>
    simp only [lsuD] at h
    split at h
    · rename_i ys e
      cases h
      cases r.obj n _ e with
      | lst e1 hs => exact ⟨_, _, rfl, e1, hs⟩
    · cases h
  | _ => simp [lsuD] at h
theorem tup_of {d : Dv} {v : V} {xs : List Dv} (rd : RD K ex f k H d v) (h : tupD d = some xs) : ∃ a vs, v = .ref a ∧ SqT K H a vs ∧ RDs K ex f k H xs vs := by
  cases rd with
  | tup e hs => cases h; exact ⟨_, _, rfl, e, hs⟩
  | tux e hs => cases h; exact ⟨_, _, rfl, .inl (.inr (e.imp fun _ q => q.1)), hs⟩
  | _ => simp [tupD] at h

/-! ### arithmetic -/
/-- by a function on two ints -/
@[irreducible] def gI (C : Int → Int → Prop) (g : Int → Int → Int) : G2 := fun x y st Q => match x, y with | .int a, .int b => C a b ∧ Q (.int (g a b)) st | _, _ => False
theorem gI_mono {C : Int → Int → Prop} {g : Int → Int → Int} : Mono2 (gI C g) := fun x y st Q Q' q h => by
  unfold gI at *
  split at h
  · exact ⟨h.1, q _ _ h.2⟩
  · exact h.elim
theorem opI_d {F : Value → Value → Sem Value} {C : Int → Int → Prop} {g : Int → Int → Int} (o : OpR X F (rI C fun i j => .int (g i j))) : OpD X F (gI C g) := by
  refine ⟨gI_mono, _, o, fun ex f st H x y vx vy Q r rx ry h => ?_⟩
  unfold gI at h
  split at h
  · cases rx
    cases ry
    exact ⟨_, _, rfl, rfl, h.1, h.2.self r (.int _)⟩
  · exact h.elim
@[irreducible] def gB (g : Int → Int → Bool) : G2 := fun x y st Q => match x, y with | .int a, .int b => Q (.bl (g a b)) st | _, _ => False
theorem gB_mono {g : Int → Int → Bool} : Mono2 (gB g) := fun x y st Q Q' q h => by
  unfold gB at *
  split at h
  · exact q _ _ h
  · exact h.elim
theorem opB_d {F : Value → Value → Sem Value} {g : Int → Int → Bool} (o : OpR X F (rI0 fun i j => .bl (g i j))) : OpD X F (gB g) := by
  refine ⟨gB_mono, _, o, fun ex f st H x y vx vy Q r rx ry h => ?_⟩
  unfold gB at h
  split at h
  · cases rx
    cases ry
    exact ⟨_, _, rfl, rfl, h.self r (.bl _)⟩
  · exact h.elim
@[irreducible] def gAdd : G2 := fun x y st Q => match x, y with
  | .int a, .int b => Q (.int (a + b)) st
  | .str a, .str b => a.length + b.length ≤ sizeLine ∧ Q (.str (a ++ b)) st
  | .tup a, .tup b => a.length + b.length ≤ sizeLine ∧ Q (.tup (a ++ b)) st
  | x, y => ∃ a b, lsuD st x = some a ∧ lsuD st y = some b ∧ a.length + b.length ≤ sizeLine ∧ Q (.rol (a ++ b)) st
theorem gAdd_mono : Mono2 gAdd := fun x y st Q Q' q h => by
  unfold gAdd at *
  split at h
  · exact q _ _ h
  · exact ⟨h.1, q _ _ h.2⟩
  · exact ⟨h.1, q _ _ h.2⟩
  · obtain ⟨a, b, h1, h2, h3, h4⟩ := h
    exact ⟨a, b, h1, h2, h3, q _ _ h4⟩
theorem od_add : OpD X (binaryOp .Add) gAdd := by
  refine ⟨gAdd_mono, _, (op_add.or op_add_str).or (op_catA.or op_cat), fun ex f st H x y vx vy Q r rx ry h => ?_⟩
  unfold gAdd at h
  split at h
  · cases rx
    cases ry
    exact .inl (.inl ⟨_, _, rfl, rfl, h.self r (.int _)⟩)
  · cases rx
    cases ry
    exact .inl (.inr ⟨_, _, rfl, rfl, h.1, h.2.self r (.str _)⟩)
  · cases rx with
    | tup ha hsa =>
      cases ry with
      | tup hb hsb =>
        refine .inr (.inl ⟨_, _, _, _, rfl, rfl, ha, hb, by rw [← hsa.length, ← hsb.length]; exact h.1, fun e => ?_, fun e1 e2 => ?_, fun e1 e2 p hp => ?_⟩)
        · subst e
          cases hsa
          exact h.2.self r (.tup hb hsb)
        · subst e2
          cases hsb
          rw [List.append_nil] at h
          exact h.2.self r (.tup ha hsa)
        · exact h.2.newTup r hp (hsa.append hsb)
  · obtain ⟨a, b, h1, h2, h3, h4⟩ := h
    obtain ⟨p, vs, rfl, e1, hs1⟩ := lsu_of r rx h1
    obtain ⟨q, ws, rfl, e2, hs2⟩ := lsu_of r ry h2
    exact .inr (.inr ⟨_, _, _, _, rfl, rfl, e1, e2, by rw [← hs1.length, ← hs2.length]; exact h3, fun p hp => h4.newRol r hp (hs1.append hs2)⟩)
@[irreducible] def gMul : G2 := fun x y st Q => match x, y with
  | .int a, .int b => CMul a b ∧ Q (.int (a * b)) st
  | .tup xs, .int n => (xs ≠ [] ∧ 2 ≤ n ∧ n ≤ 1000 ∧ xs.length ≤ 1000) ∧ Q (.tup (List.replicate n.toNat xs).flatten) st
  | _, _ => False
theorem RDs.rep {ds : List Dv} {vs : List V} (h : RDs K ex f k H ds vs) : ∀ n : Nat, RDs K ex f k H (List.replicate n ds).flatten (List.replicate n vs).flatten
  | 0 => .nil
  | n + 1 => by
    rw [List.replicate_succ, List.replicate_succ, List.flatten_cons, List.flatten_cons]
    exact h.append (RDs.rep h n)
theorem od_mul : OpD X (binaryOp .Mult) gMul := by
  refine ⟨fun x y st Q Q' q h => ?_, _, op_mul.or op_repT, fun ex f st H x y vx vy Q r rx ry h => ?_⟩
  · unfold gMul at *
    split at h
    · exact ⟨h.1, q _ _ h.2⟩
    · exact ⟨h.1, q _ _ h.2⟩
    · exact h.elim
  · unfold gMul at h
    split at h
    · cases rx
      cases ry
      exact .inl ⟨_, _, rfl, rfl, h.1, h.2.self r (.int _)⟩
    · cases ry
      cases rx with
      | tup ha hs =>
        obtain ⟨⟨h1, h2, h3, h4⟩, h5⟩ := h
        refine .inr ⟨_, _, _, rfl, rfl, ha, fun e => h1 ?_, h2, h3, by rw [← hs.length]; exact h4, fun p hp => h5.newTup r hp (hs.rep _)⟩
        rw [e] at hs
        cases hs
        rfl
    · exact h.elim
theorem od_sub : OpD X (binaryOp .Sub) (gI (fun _ _ => True) fun a b => a - b) := opI_d fun pins s σ H x y v u Q I rx ry ⟨i, j, h1, h2, _, q⟩ => op_sub pins s σ H x y v u Q I rx ry ⟨i, j, h1, h2, q⟩
theorem od_mod : OpD X (binaryOp .Mod) (gI (fun _ j => 0 < j) fun a b => a % b) := opI_d op_mod
theorem od_fdiv : OpD X (binaryOp .FloorDiv) (gI CDiv fun a b => a / b) := opI_d op_fdiv
theorem od_pow : OpD X (binaryOp .Pow) (gI CPow fun a b => a ^ b.toNat) := opI_d op_pow
theorem od_lt : OpD X (compareOp .Lt) (gB fun a b => decide (a < b)) := opB_d op_lt
theorem od_le : OpD X (compareOp .LtE) (gB fun a b => decide (a ≤ b)) := opB_d op_le
theorem od_gt : OpD X (compareOp .Gt) (gB fun a b => decide (b < a)) := opB_d op_gt
theorem od_ge : OpD X (compareOp .GtE) (gB fun a b => decide (b ≤ a)) := opB_d op_ge
/-- -a -/
abbrev wNeg (a : DTE) : DTE := fun σ st Q => a σ st fun d st1 => match d with | .int i => Q (.int (-i)) st1 | _ => False
theorem de_neg {a : Expr} {wa : DTE} {pos : Pos} (ha : DE X a wa) : DE X (.UnaryOp .USub a pos) (wNeg wa) := by
  refine ⟨(pe_un un_neg ha.pe).imp fun τ H Q h => ?_, fun σ st Q Q' q h => ha.mono _ _ _ _ (fun d s h1 => ?_) h⟩
  · obtain ⟨ex, f, σ, st, r, er, h⟩ := h
    refine lE.use ha.mono r er h fun f1 H1 d st1 v s1 r1 e1 rd h1 => ?_
    split at h1
    · cases rd
      exact ⟨_, rfl, h1 f1 H1 _ s1 r1 (.int _)⟩
    · exact h1.elim
  · split at h1
    · exact q _ _ h1
    · exact h1.elim

/-! ### is None -/
@[irreducible] def gIs (neg : Bool) : G2 := fun x y st Q => match y with | .non => Q (.bl (match x with | .non => !neg | _ => neg)) st | _ => False
theorem od_is (neg : Bool) : OpD X (compareOp (if neg then .IsNot else .Is)) (gIs neg) := by
  have m : Mono2 (gIs neg) := fun x y st Q Q' q h => by
    unfold gIs at *
    cases y <;> first | exact h.elim | skip
    exact q _ _ h
  have key : ∀ ex f st H x y vx vy Q, RS X.K ex f st H → RD X.K ex f st.length H x vx → RD X.K ex f st.length H y vy → gIs neg x y st (Af X.K ex f st.length H Q) → vy = .non ∧ Q (.bl (if neg then !decide (vx = .non) else decide (vx = .non))) H := by
    intro ex f st H x y vx vy Q r rx ry h
    unfold gIs at h
    cases ry <;> first | exact h.elim | skip
    refine ⟨rfl, ?_⟩
    cases rx <;> cases neg <;> exact h.self r (.bl _)
  cases neg with
  | false => exact ⟨m, _, op_isN, fun ex f st H x y vx vy Q r rx ry h => key ex f st H x y vx vy Q r rx ry h⟩
  | true => exact ⟨m, _, op_notN, fun ex f st H x y vx vy Q r rx ry h => key ex f st H x y vx vy Q r rx ry h⟩

/-! ### data as such: ==, repr -/
mutual
inductive DP (st : Sto) : Dv → PyData → Prop
  | non : DP st .non .none
  | bl (b : Bool) : DP st (.bl b) (.bool b)
  | int (i : Int) : DP st (.int i) (.int i)
  | str (s : Str) : DP st (.str s) (.str s)
  | tup {d : Dv} {xs : List Dv} {ps : List PyData} : tupD d = some xs → DPs st xs ps → DP st d (.tuple ps)
  | lst {d : Dv} {xs : List Dv} {ps : List PyData} : lstD st d = some xs → DPs st xs ps → DP st d (.list ps)
inductive DPs (st : Sto) : List Dv → List PyData → Prop
  | nil : DPs st [] []
  | cons {x : Dv} {xs : List Dv} {p : PyData} {ps : List PyData} : DP st x p → DPs st xs ps → DPs st (x :: xs) (p :: ps)
end
mutual
theorem DP.dp (r : RS K ex f st H) : ∀ {d : Dv} {p : PyData} {v : V}, DP st d p → RD K ex f st.length H d v → Dp K H v p
  | _, _, _, .non, rd => by cases rd; exact .non
  | _, _, _, .bl b, rd => by cases rd; exact .bl b
  | _, _, _, .int b, rd => by cases rd; exact .int b
  | _, _, _, .str b, rd => by cases rd; exact .str b
  | _, _, _, .tup e hs, rd => by
    obtain ⟨a, vs, rfl, q, hs2⟩ := tup_of rd e
    exact .tup q (DPs.dp r hs hs2)
  | _, _, _, .lst e hs, rd => by
    obtain ⟨a, vs, rfl, q, hs2⟩ := lst_of r rd e
    exact .lst q (DPs.dp r hs hs2)
theorem DPs.dp (r : RS K ex f st H) : ∀ {ds : List Dv} {ps : List PyData} {vs : List V}, DPs st ds ps → RDs K ex f st.length H ds vs → DpAll K H vs ps
  | _, _, _, .nil, .nil => .nil
  | _, _, _, .cons h hs, .cons q qs => .cons (DP.dp r h q) (DPs.dp r hs qs)
end
@[irreducible] def gEq (neg : Bool) : G2 := fun x y st Q => match x, y with
  | .int a, .int b => Q (.bl (if neg then !decide (a = b) else decide (a = b))) st
  | .str a, .str b => Q (.bl (if neg then !decide (a = b) else decide (a = b))) st
  | .bl a, .bl b => Q (.bl (if neg then !decide (a = b) else decide (a = b))) st
  | x, y => ∃ p q, DP st x p ∧ DP st y q ∧ SeqAt.shaped p = true ∧ SeqAt.shaped q = true ∧ Q (.bl (if neg then !PyData.eqv p q else PyData.eqv p q)) st
theorem gEq_mono (neg : Bool) : Mono2 (gEq neg) := fun x y st Q Q' q h => by
  unfold gEq at *
  split at h
  · exact q _ _ h
  · exact q _ _ h
  · exact q _ _ h
  · obtain ⟨p, z, h1, h2, h3, h4, h5⟩ := h
    exact ⟨p, z, h1, h2, h3, h4, q _ _ h5⟩
theorem od_eq (hu : X.A.units + 64 < cLine) : OpD X (compareOp .Eq) (gEq false) := by
  refine ⟨gEq_mono _, _, op_eq.or (op_eqD hu), fun ex f st H x y vx vy Q r rx ry h => ?_⟩
  unfold gEq at h
  split at h
  · cases rx
    cases ry
    rename_i a b
    refine .inl ⟨rfl, ?_⟩
    have e : decide (V.int a = V.int b) = decide (a = b) := by rw [decide_eq_decide]; exact ⟨fun z => V.int.inj z, fun z => by rw [z]⟩
    rw [e]
    exact h.self r (.bl _)
  · cases rx
    cases ry
    rename_i a b
    refine .inl ⟨rfl, ?_⟩
    have e : decide (V.str a = V.str b) = decide (a = b) := by rw [decide_eq_decide]; exact ⟨fun z => V.str.inj z, fun z => by rw [z]⟩
    rw [e]
    exact h.self r (.bl _)
  · cases rx
    cases ry
    rename_i a b
    refine .inl ⟨rfl, ?_⟩
    have e : decide (V.bl a = V.bl b) = decide (a = b) := by rw [decide_eq_decide]; exact ⟨fun z => V.bl.inj z, fun z => by rw [z]⟩
    rw [e]
    exact h.self r (.bl _)
  · obtain ⟨p, z, h1, h2, h3, h4, h5⟩ := h
    exact .inr ⟨p, z, h1.dp r rx, h2.dp r ry, h3, h4, h5.self r (.bl _)⟩
theorem od_ne (hu : X.A.units + 64 < cLine) : OpD X (compareOp .NotEq) (gEq true) := by
  refine ⟨gEq_mono _, _, op_ne.or (op_neD hu), fun ex f st H x y vx vy Q r rx ry h => ?_⟩
  unfold gEq at h
  split at h
  · cases rx
    cases ry
    rename_i a b
    refine .inl ⟨rfl, ?_⟩
    have e : decide (V.int a = V.int b) = decide (a = b) := by rw [decide_eq_decide]; exact ⟨fun z => V.int.inj z, fun z => by rw [z]⟩
    rw [e]
    exact h.self r (.bl _)
  · cases rx
    cases ry
    rename_i a b
    refine .inl ⟨rfl, ?_⟩
    have e : decide (V.str a = V.str b) = decide (a = b) := by rw [decide_eq_decide]; exact ⟨fun z => V.str.inj z, fun z => by rw [z]⟩
    rw [e]
    exact h.self r (.bl _)
  · cases rx
    cases ry
    rename_i a b
    refine .inl ⟨rfl, ?_⟩
    have e : decide (V.bl a = V.bl b) = decide (a = b) := by rw [decide_eq_decide]; exact ⟨fun z => V.bl.inj z, fun z => by rw [z]⟩
    rw [e]
    exact h.self r (.bl _)
  · obtain ⟨p, z, h1, h2, h3, h4, h5⟩ := h
    exact .inr ⟨p, z, h1.dp r rx, h2.dp r ry, h3, h4, h5.self r (.bl _)⟩

/-! ### in -/
def seqD (st : Sto) (d : Dv) : Option (List Dv) := match tupD d with | some xs => some xs | none => lstD st d
theorem seq_of {d : Dv} {v : V} {xs : List Dv} (r : RS K ex f st H) (rd : RD K ex f st.length H d v) (h : seqD st d = some xs) : ∃ a vs, v = .ref a ∧ (SqL K H a vs ∨ SqT K H a vs) ∧ RDs K ex f st.length H xs vs := by
  unfold seqD at h
  split at h
  · rename_i e
    cases h
    obtain ⟨a, vs, h1, h2, h3⟩ := tup_of rd e
    exact ⟨a, vs, h1, .inr h2, h3⟩
  · obtain ⟨a, vs, h1, h2, h3⟩ := lst_of r rd h
    exact ⟨a, vs, h1, .inl h2, h3⟩
@[irreducible] def gIn (neg : Bool) : G2 := fun x y st Q => match x, y with
  | .str a, .str z => ∃ c, a = ⟨#[c]⟩ ∧ Q (.bl (if neg then !decide (c ∈ z.cps.toList) else decide (c ∈ z.cps.toList))) st
  | .str a, y => ∃ ys : List Str, seqD st y = some (ys.map Dv.str) ∧ Q (.bl (if neg then !decide (a ∈ ys) else decide (a ∈ ys))) st
  | .int a, y => ∃ ys : List Int, seqD st y = some (ys.map Dv.int) ∧ Q (.bl (if neg then !decide (a ∈ ys) else decide (a ∈ ys))) st
  | _, _ => False
theorem gIn_mono (neg : Bool) : Mono2 (gIn neg) := fun x y st Q Q' q h => by
  unfold gIn at *
  split at h
  · obtain ⟨c, h1, h2⟩ := h
    exact ⟨c, h1, q _ _ h2⟩
  · obtain ⟨c, h1, h2⟩ := h
    exact ⟨c, h1, q _ _ h2⟩
  · obtain ⟨c, h1, h2⟩ := h
    exact ⟨c, h1, q _ _ h2⟩
  · exact h.elim
theorem inV_str (a : Str) (ys : List Str) : inV (.str a) (ys.map V.str) = decide (a ∈ ys) := by
  unfold inV
  rw [List.any_map, Bool.eq_iff_iff, List.any_eq_true, decide_eq_true_eq]
  constructor
  · rintro ⟨y, hy, e⟩
    have e2 : y = a := by simpa [eqV] using e
    rw [← e2]
    exact hy
  · intro h
    exact ⟨a, h, by simp [eqV]⟩
theorem inV_int (a : Int) (ys : List Int) : inV (.int a) (ys.map V.int) = decide (a ∈ ys) := by
  unfold inV
  rw [List.any_map, Bool.eq_iff_iff, List.any_eq_true, decide_eq_true_eq]
  constructor
  · rintro ⟨y, hy, e⟩
    have e2 : y = a := by simpa [eqV] using e
    rw [← e2]
    exact hy
  · intro h
    exact ⟨a, h, by simp [eqV]⟩
theorem od_in (neg : Bool) : OpD X (compareOp (if neg then .NotIn else .In)) (gIn neg) := by
  have key : ∀ ex f st H x y vx vy Q, RS X.K ex f st H → RD X.K ex f st.length H x vx → RD X.K ex f st.length H y vy → gIn neg x y st (Af X.K ex f st.length H Q) →
      (∃ (c : Nat) (z : Str), vx = .str ⟨#[c]⟩ ∧ vy = .str z ∧ Q (.bl (if neg then !decide (c ∈ z.cps.toList) else decide (c ∈ z.cps.toList))) H) ∨ rIn X.K neg vx vy H Q := by
    intro ex f st H x y vx vy Q r rx ry h
    unfold gIn at h
    split at h
    · cases rx
      cases ry
      obtain ⟨c, rfl, h⟩ := h
      exact .inl ⟨c, _, rfl, rfl, h.self r (.bl _)⟩
    · cases rx
      obtain ⟨ys, h1, h2⟩ := h
      obtain ⟨p, vs, rfl, q, hs⟩ := seq_of r ry h1
      have e := RDs.strs_inv hs
      subst e
      refine .inr ⟨p, _, rfl, q, rfl, by simp [flatV], ?_⟩
      rw [inV_str]
      exact h2.self r (.bl _)
    · cases rx
      obtain ⟨ys, h1, h2⟩ := h
      obtain ⟨p, vs, rfl, q, hs⟩ := seq_of r ry h1
      have e := RDs.ints_inv hs
      subst e
      refine .inr ⟨p, _, rfl, q, rfl, by simp [flatV], ?_⟩
      rw [inV_int]
      exact h2.self r (.bl _)
    · exact h.elim
  cases neg with
  | false => exact ⟨gIn_mono _, _, op_in_sign.or op_in_seq, fun ex f st H x y vx vy Q r rx ry h => key ex f st H x y vx vy Q r rx ry h⟩
  | true => exact ⟨gIn_mono _, _, op_notIn_sign.or op_notIn_seq, fun ex f st H x y vx vy Q r rx ry h => key ex f st H x y vx vy Q r rx ry h⟩

/-! ### subscripts -/
@[irreducible] def gIx : G2 := fun x y st Q => match y with
  | .int i => (match x with
    | .str z => z.length ≤ sizeLine ∧ ∃ c, atI z.cps.toList i = some c ∧ Q (.str ⟨#[c]⟩) st
    | x => ∃ xs d, seqD st x = some xs ∧ atI xs i = some d ∧ Q d st)
  | _ => False
theorem gIx_mono : Mono2 gIx := fun x y st Q Q' q h => by
  unfold gIx at *
  split at h
  · split at h
    · obtain ⟨h1, c, h2, h3⟩ := h
      exact ⟨h1, c, h2, q _ _ h3⟩
    · obtain ⟨xs, d, h1, h2, h3⟩ := h
      exact ⟨xs, d, h1, h2, q _ _ h3⟩
  · exact h.elim
theorem RDs.atI {ds : List Dv} {vs : List V} {i : Int} {d : Dv} (h : RDs K ex f k H ds vs) (e : L2.atI ds i = some d) : ∃ v, L2.atI vs i = some v ∧ RD K ex f k H d v := by
  unfold L2.atI at *
  rw [← h.length]
  cases e2 : ixN ds.length i with
  | none => rw [e2] at e; cases e
  | some j =>
    rw [e2] at e
    exact h.get e
theorem de_ix {a b : Expr} {wa wb : DTE} {pos : Pos} (ha : DE X a wa) (hb : DE X b wb) (hs : PlainIx b := by exact fun _ _ => rfl) : DE X (.Subscript a b pos) (w2 gIx wa wb) := by
  refine ⟨(pe_ix ix_seq ha.pe hb.pe hs).imp (w2_lift (F := fun _ _ => pure .none) ?_ gIx_mono ha.mono hb.mono), w2_mono gIx_mono ha.mono hb.mono⟩
  intro ex f st H x y vx vy Q r rx ry h
  unfold gIx at h
  split at h
  · cases ry
    split at h
    · cases rx
      obtain ⟨h1, c, h2, h3⟩ := h
      exact .inr (.inr ⟨_, _, c, rfl, rfl, h1, h2, h3.self r (.str _)⟩)
    · obtain ⟨xs, d, h1, h2, h3⟩ := h
      obtain ⟨p, vs, rfl, q, hs⟩ := seq_of r rx h1
      obtain ⟨v, e, rv⟩ := hs.atI h2
      rcases q with q | q
      · exact .inl ⟨p, vs, _, v, rfl, rfl, q, e, h3.self r rv⟩
      · exact .inr (.inl ⟨p, vs, _, v, rfl, rfl, q, e, h3.self r rv⟩)
  · exact h.elim

/-! ### slices -/
def cutD (xs : List Dv) (lo hi : Option Int) : List Dv := (xs.drop (HT.sIx xs.length 0 lo)).take (HT.sIx xs.length xs.length hi - HT.sIx xs.length 0 lo)
theorem RDs.cut {ds : List Dv} {vs : List V} {lo hi : Option Int} (h : RDs K ex f k H ds vs) : RDs K ex f k H (cutD ds lo hi) (cutV vs lo hi) := by
  unfold cutD cutV
  rw [← h.length]
  exact (h.drop _).take _
structure DO (X : Cx) (e : Option Expr) (w : En → Sto → (Option Int → Sto → Prop) → Prop) : Prop where
  po : PO X e (fun τ H Q => ∃ ex f σ st, RS X.K ex f st H ∧ ER X.K ex f st.length H σ τ ∧ w σ st fun o st' => ∀ f' H', Stp f st.length H f' st'.length H' → RS X.K ex f' st' H' → Q o H')
  mono : ∀ σ st (Q Q' : Option Int → Sto → Prop), (∀ o s, Q o s → Q' o s) → w σ st Q → w σ st Q'
theorem _root_.L2.PO.imp {e : Option Expr} {t u : TO} (h : PO X e t) (i : ∀ τ H Q, u τ H Q → t τ H Q) : PO X e u := ⟨fun pins s τ H Q I hw => h.run pins s τ H Q I (i τ H Q hw)⟩
abbrev wNo : En → Sto → (Option Int → Sto → Prop) → Prop := fun _ st Q => Q none st
abbrev wPt (a : DTE) : En → Sto → (Option Int → Sto → Prop) → Prop := fun σ st Q => a σ st fun d st1 => match d with | .int i => Q (some i) st1 | _ => False
theorem do_no : DO X none wNo := ⟨po_none.imp fun τ H Q ⟨ex, f, σ, st, r, er, h⟩ => h f H Stp.refl r, fun σ st Q Q' q h => q _ _ h⟩
theorem do_some {e : Expr} {w : DTE} (h : DE X e w) : DO X (some e) (wPt w) := by
  refine ⟨(po_some h.pe).imp fun τ H Q hh => ?_, fun σ st Q Q' q hh => h.mono _ _ _ _ (fun d s h1 => ?_) hh⟩
  · obtain ⟨ex, f, σ, st, r, er, hh⟩ := hh
    refine lE.use h.mono r er hh fun f1 H1 d st1 v s1 r1 e1 rd h1 => ?_
    split at h1
    · cases rd
      exact ⟨_, rfl, h1 f1 H1 s1 r1⟩
    · exact h1.elim
  · split at h1
    · exact q _ _ h1
    · exact h1.elim
/-- of a text, a tuple (as values) -/
@[irreducible] def gSl (x : Dv) (lo hi : Option Int) (st : Sto) (Q : DK) : Prop := match x with
  | .str z => z.length ≤ sizeLine ∧ Q (.str (cutS z lo hi)) st
  | .tup xs => Q (.tup (cutD xs lo hi)) st
  | _ => False
abbrev wSl (a : DTE) (l h : En → Sto → (Option Int → Sto → Prop) → Prop) : DTE := fun σ st Q => a σ st fun x st1 => l σ st1 fun lo st2 => h σ st2 fun hi st3 => gSl x lo hi st3 Q
theorem de_sl {e : Expr} {lo hi : Option Expr} {w : DTE} {wl wh : En → Sto → (Option Int → Sto → Prop) → Prop} {pos p2 : Pos} (he : DE X e w) (hl : DO X lo wl) (hh : DO X hi wh) : DE X (.Subscript e (.Slice lo hi none p2) pos) (wSl w wl wh) := by
  have mg : ∀ x lo hi st (Q Q' : DK), (∀ d s, Q d s → Q' d s) → gSl x lo hi st Q → gSl x lo hi st Q' := fun x lo hi st Q Q' q h => by
    unfold gSl at *
    split at h
    · exact ⟨h.1, q _ _ h.2⟩
    · exact q _ _ h
    · exact h.elim
  refine ⟨(pe_slice (sl_str.or sl_tupA) he.pe hl.po hh.po).imp fun τ H Q h => ?_, fun σ st Q Q' q h => he.mono _ _ _ _ (fun x s h1 => hl.mono _ _ _ _ (fun l s2 h2 => hh.mono _ _ _ _ (fun u s3 h3 => mg _ _ _ _ _ _ q h3) h2) h1) h⟩
  obtain ⟨ex, f, σ, st, r, er, h⟩ := h
  refine lE.use he.mono r er h fun f1 H1 d st1 v s1 r1 e1 rd h1 => ?_
  refine ⟨ex, f1, σ, st1, r1, e1, hl.mono _ _ _ _ (fun lo st2 h2 f2 H2 s2 r2 => ?_) h1⟩
  have e2 := e1.mono s2 r1.cel
  refine ⟨ex, f2, σ, st2, r2, e2, hh.mono _ _ _ _ (fun hi st3 h3 f3 H3 s3 r3 => ?_) h2⟩
  have rd3 := (rd.mono s2 r1.cel).mono s3 r2.cel
  unfold gSl at h3
  split at h3
  · cases rd3
    exact .inl ⟨_, rfl, h3.1, h3.2 f3 H3 _ ((s1.trans s2).trans s3) r3 (.str _)⟩
  · cases rd3 with
    | tup ha hs =>
      refine .inr ⟨_, _, rfl, ha, fun q => ?_, fun _ p hp => ?_⟩
      · refine h3 f3 H3 _ ((s1.trans s2).trans s3) r3 ?_
        have hl := hs.length
        rename_i xs a vs
        have e : cutD xs lo hi = xs := by
          unfold cutD
          rw [hl, q.1, q.2, List.drop_zero, Nat.sub_zero, ← hl, List.take_length]
        rw [e]
        exact .tup ha hs
      · exact (Af.later h3 ((s1.trans s2).trans s3)).newTup r3 hp hs.cut
  · exact h3.elim
/-- of a list: a new one -/
abbrev wSlN (a : DTE) (l h : En → Sto → (Option Int → Sto → Prop) → Prop) : DTA := fun σ st Q => a σ st fun x st1 => l σ st1 fun lo st2 => h σ st2 fun hi st3 => ∃ xs, lstD st3 x = some xs ∧ Q (cutD xs lo hi) st3
theorem dn_sl {e : Expr} {lo hi : Option Expr} {w : DTE} {wl wh : En → Sto → (Option Int → Sto → Prop) → Prop} {pos p2 : Pos} (he : DE X e w) (hl : DO X lo wl) (hh : DO X hi wh) : DN X (.Subscript e (.Slice lo hi none p2) pos) (wSlN w wl wh) := by
  refine ⟨(pe_slice sl_list he.pe hl.po hh.po).imp fun τ H Q h => ?_, fun σ st Q Q' q h => he.mono _ _ _ _ (fun x s h1 => hl.mono _ _ _ _ (fun l s2 h2 => hh.mono _ _ _ _ (fun u s3 ⟨xs, h3, h4⟩ => ⟨xs, h3, q _ _ h4⟩) h2) h1) h⟩
  obtain ⟨ex, f, σ, st, r, er, h⟩ := h
  refine lE.use he.mono r er h fun f1 H1 d st1 v s1 r1 e1 rd h1 => ?_
  refine ⟨ex, f1, σ, st1, r1, e1, hl.mono _ _ _ _ (fun lo st2 h2 f2 H2 s2 r2 => ?_) h1⟩
  have e2 := e1.mono s2 r1.cel
  refine ⟨ex, f2, σ, st2, r2, e2, hh.mono _ _ _ _ (fun hi st3 ⟨xs, h3, h4⟩ f3 H3 s3 r3 => ?_) h2⟩
  obtain ⟨a, vs, rfl, q, hs⟩ := lst_of r3 ((rd.mono s2 r1.cel).mono s3 r2.cel) h3
  exact ⟨a, vs, rfl, q, fun p hp => (AfN.later h4 ((s1.trans s2).trans s3)).laid r3 hp hs.cut⟩
/-- xs[::-1] -/
abbrev wRevN (a : DTE) : DTA := fun σ st Q => a σ st fun x st1 => ∃ xs, lstD st1 x = some xs ∧ Q xs.reverse st1
theorem dn_rev {e : Expr} {w : DTE} {k : Nat} {p1 p2 p3 pos : Pos} (he : DE X e w) : DN X (.Subscript e (.Slice none none (some (.UnaryOp .USub (.Constant (.int 1) k p1) p2)) p3) pos) (wRevN w) := by
  refine ⟨(pe_revL he.pe).imp fun τ H Q h => ?_, fun σ st Q Q' q h => he.mono _ _ _ _ (fun x s ⟨xs, h3, h4⟩ => ⟨xs, h3, q _ _ h4⟩) h⟩
  obtain ⟨ex, f, σ, st, r, er, h⟩ := h
  refine lE.use he.mono r er h fun f1 H1 d st1 v s1 r1 e1 rd ⟨xs, h3, h4⟩ => ?_
  obtain ⟨a, vs, rfl, q, hs⟩ := lst_of r1 rd h3
  exact ⟨a, vs, rfl, q, fun p hp => (AfN.later h4 s1).laid r1 hp hs.reverse⟩
/-- displays as new lists -/
abbrev wDisp (a : DTA) : DTA := fun σ st Q => a σ st fun xs st1 => xs.length ≤ sizeLine ∧ Q xs st1

/-! ### built-ins by values -/
abbrev GC := List Dv → Sto → DK → Prop
structure CallD (X : Cx) (F : Value) (g : GC) : Prop where
  mono : ∀ xs st (Q Q' : DK), (∀ d s, Q d s → Q' d s) → g xs st Q → g xs st Q'
  ok : ∃ r, CallR X F r ∧ ∀ ex f st H xs vs Q, RS X.K ex f st H → RDs X.K ex f st.length H xs vs → g xs st (Af X.K ex f st.length H Q) → r vs H Q
abbrev wCB (g : GC) (a : DTA) : DTE := fun σ st Q => a σ st fun xs st1 => g xs st1 Q
theorem cb_lift {r : List V → Hp → VK → Prop} {g : GC} {a : DTA} {X : Cx} (ma : MonoA a) (q : ∀ ex f st H xs vs Q, RS X.K ex f st H → RDs X.K ex f st.length H xs vs → g xs st (Af X.K ex f st.length H Q) → r vs H Q)
    (mg : ∀ xs st (Q Q' : DK), (∀ d s, Q d s → Q' d s) → g xs st Q → g xs st Q') (τ : L2.St) (H : Hp) (Q : VK) (h : lE X.K (wCB g a) τ H Q) : tCB r (lA X.K a) τ H Q := by
  obtain ⟨ex, f, σ, st, rs, er, h⟩ := h
  refine lA.use ma rs er h fun f1 H1 xs st1 vs s1 r1 e1 rd h1 => ?_
  exact q ex f1 st1 H1 xs vs Q r1 rd (mg _ _ _ _ (fun d s hd => hd.later s1) h1)
theorem de_callB {x : Str} {p pos : Pos} {e : Expr} {es : List Expr} {a : DTA} {id : String} {g : GC} (c : CallD X (.builtin id) g) (hg : Gl X x) (hm : X.mg x = none) (hv : bootBuiltins x = some (.builtin id)) (ha : DA X (e :: es) a) (hn : x ≠ "__name__" := by decide) (hdb : (x == ("__debug__" : Str)) = false := by decide)
    (he : starEach (e :: es) X.env = (false, eval e X.env) :: starEach es X.env := by rfl) (hpl : (backTo pos (starEach es X.env)).any (·.1) = false := by rfl) : DE X (.Call (.Name x p) (e :: es) [] pos) (wCB g a) := by
  obtain ⟨mg, r, hr, q⟩ := c
  exact ⟨(pe_callB hr hg hm hv ha.pa hn hdb he hpl).imp (cb_lift ha.mono q mg), fun σ st Q Q' z h => ha.mono _ _ _ _ (fun xs s h1 => mg _ _ _ _ z h1) h⟩
theorem de_callTy {x : Str} {p pos : Pos} {e : Expr} {es : List Expr} {a : DTA} {T : String} {g : GC} (c : CallD X (.type T) g) (hg : Gl X x) (hm : X.mg x = none) (hv : bootBuiltins x = some (.type T)) (ha : DA X (e :: es) a) (hn : x ≠ "__name__" := by decide) (hdb : (x == ("__debug__" : Str)) = false := by decide)
    (he : starEach (e :: es) X.env = (false, eval e X.env) :: starEach es X.env := by rfl) (hpl : (backTo pos (starEach es X.env)).any (·.1) = false := by rfl) : DE X (.Call (.Name x p) (e :: es) [] pos) (wCB g a) := by
  obtain ⟨mg, r, hr, q⟩ := c
  exact ⟨(pe_callTy hr hg hm hv ha.pa hn hdb he hpl).imp (cb_lift ha.mono q mg), fun σ st Q Q' z h => ha.mono _ _ _ _ (fun xs s h1 => mg _ _ _ _ z h1) h⟩
/-- those that make a list -/
structure CallN (X : Cx) (F : Value) (g : List Dv → Sto → (List Dv → Sto → Prop) → Prop) : Prop where
  mono : ∀ xs st (Q Q' : List Dv → Sto → Prop), (∀ d s, Q d s → Q' d s) → g xs st Q → g xs st Q'
  ok : ∃ r, CallR X F r ∧ ∀ ex f st H xs vs Q, RS X.K ex f st H → RDs X.K ex f st.length H xs vs → g xs st (AfN X.K ex f st.length H Q) → r vs H Q
abbrev wCN (g : List Dv → Sto → (List Dv → Sto → Prop) → Prop) (a : DTA) : DTA := fun σ st Q => a σ st fun xs st1 => g xs st1 Q
theorem dn_callTy {x : Str} {p pos : Pos} {e : Expr} {es : List Expr} {a : DTA} {T : String} {g : List Dv → Sto → (List Dv → Sto → Prop) → Prop} (c : CallN X (.type T) g) (hg : Gl X x) (hm : X.mg x = none) (hv : bootBuiltins x = some (.type T)) (ha : DA X (e :: es) a) (hn : x ≠ "__name__" := by decide) (hdb : (x == ("__debug__" : Str)) = false := by decide)
    (he : starEach (e :: es) X.env = (false, eval e X.env) :: starEach es X.env := by rfl) (hpl : (backTo pos (starEach es X.env)).any (·.1) = false := by rfl) : DN X (.Call (.Name x p) (e :: es) [] pos) (wCN g a) := by
  obtain ⟨mg, r, hr, q⟩ := c
  refine ⟨(pe_callTy hr hg hm hv ha.pa hn hdb he hpl).imp fun τ H Q h => ?_, fun σ st Q Q' z h => ha.mono _ _ _ _ (fun xs s h1 => mg _ _ _ _ z h1) h⟩
  obtain ⟨ex, f, σ, st, rs, er, h⟩ := h
  refine lA.use ha.mono rs er h fun f1 H1 xs st1 vs s1 r1 e1 rd h1 => ?_
  exact q ex f1 st1 H1 xs vs Q r1 rd (mg _ _ _ _ (fun d s hd => hd.later s1) h1)
/-- one argument -/
abbrev g1 (g : Dv → Sto → DK → Prop) : GC := fun xs st Q => match xs with | [x] => g x st Q | _ => False
theorem cd1 {F : Value} {g : Dv → Sto → DK → Prop} {r : List V → Hp → VK → Prop} (hr : CallR X F r) (m : ∀ x st (Q Q' : DK), (∀ d s, Q d s → Q' d s) → g x st Q → g x st Q')
    (q : ∀ ex f st H x v Q, RS X.K ex f st H → RD X.K ex f st.length H x v → g x st (Af X.K ex f st.length H Q) → r [v] H Q) : CallD X F (g1 g) := by
  refine ⟨fun xs st Q Q' z h => ?_, r, hr, fun ex f st H xs vs Q rs rd h => ?_⟩
  · unfold g1 at *
    split at h
    · exact m _ _ _ _ z h
    · exact h.elim
  · unfold g1 at h
    split at h
    · cases rd with
      | cons h1 h2 =>
        cases h2
        exact q ex f st H _ _ Q rs h1 h
    · exact h.elim
@[irreducible] def gLen : Dv → Sto → DK → Prop := fun x st Q => match x with
  | .str s => s.length ≤ sizeLine ∧ Q (.int s.length) st
  | x => ∃ xs, seqD st x = some xs ∧ Q (.int xs.length) st
theorem cd_len : CallD X (.builtin "len") (g1 gLen) := cd1 call_len (fun x st Q Q' q h => by
    unfold gLen at *
    split at h
    · exact ⟨h.1, q _ _ h.2⟩
    · obtain ⟨xs, h1, h2⟩ := h
      exact ⟨xs, h1, q _ _ h2⟩) (fun ex f st H x v Q r rd h => by
    unfold gLen at h
    split at h
    · cases rd
      exact ⟨_, _, rfl, ⟨h.1, rfl⟩, h.2.self r (.int _)⟩
    · obtain ⟨xs, h1, h2⟩ := h
      obtain ⟨a, vs, rfl, q, hs⟩ := seq_of r rd h1
      refine ⟨_, vs.length, rfl, q.imp (fun q => ⟨vs, q, rfl⟩) (fun q => ⟨vs, q, rfl⟩), ?_⟩
      rw [← hs.length]
      exact h2.self r (.int _))
def gInt : Dv → Sto → DK → Prop := fun x st Q => match x with
  | .int i => Q (.int i) st
  | .bl b => Q (.int (if b then 1 else 0)) st
  | _ => False
theorem cd_int : CallD X (.type "int") (g1 gInt) := cd1 call_int1 (fun x st Q Q' q h => by
    unfold gInt at *
    split at h
    · exact q _ _ h
    · exact q _ _ h
    · exact h.elim) (fun ex f st H x v Q r rd h => by
    unfold gInt at h
    split at h
    · cases rd
      exact .inl ⟨_, rfl, h.self r (.int _)⟩
    · cases rd
      exact .inr ⟨_, rfl, h.self r (.int _)⟩
    · exact h.elim)
def gAbs : Dv → Sto → DK → Prop := fun x st Q => match x with
  | .int i => Q (.int (if i < 0 then -i else i)) st
  | _ => False
theorem cd_abs : CallD X (.builtin "abs") (g1 gAbs) := cd1 call_abs (fun x st Q Q' q h => by
    unfold gAbs at *
    split at h
    · exact q _ _ h
    · exact h.elim) (fun ex f st H x v Q r rd h => by
    unfold gAbs at h
    split at h
    · cases rd
      exact ⟨_, rfl, h.self r (.int _)⟩
    · exact h.elim)
@[irreducible] def gTuple : Dv → Sto → DK → Prop := fun x st Q => match x with
  | .tup xs => Q (.tup xs) st
  | .tux xs => Q (.tux xs) st
  | x => ∃ xs, lstD st x = some xs ∧ Q (.tup xs) st
theorem cd_tuple : CallD X (.type "tuple") (g1 gTuple) := cd1 call_tuple_of (fun x st Q Q' q h => by
    unfold gTuple at *
    split at h
    · exact q _ _ h
    · exact q _ _ h
    · obtain ⟨xs, h1, h2⟩ := h
      exact ⟨xs, h1, q _ _ h2⟩) (fun ex f st H x v Q r rd h => by
    unfold gTuple at h
    split at h
    · cases rd with
      | tup ha hs => exact ⟨_, _, rfl, .inr ⟨ha, h.self r (.tup ha hs)⟩⟩
    · cases rd with
      | tux ha hs => exact ⟨_, _, rfl, .inr ⟨.inl (.inr (ha.imp fun _ q => q.1)), h.self r (.tux ha hs)⟩⟩
    · obtain ⟨xs, h1, h2⟩ := h
      obtain ⟨a, vs, rfl, q, hs⟩ := lst_of r rd h1
      exact ⟨a, vs, rfl, .inl ⟨q, fun p hp => h2.newTup r hp hs⟩⟩)
/-- a tuple of a list, its object known -/
def rTupX (K : PySem.W.Frag) : List V → Hp → VK → Prop := fun xs H Q => ∃ p ys, xs = [.ref p] ∧ SqL K H p ys ∧ ∀ l o, H l = none → o.dict = none → Q (.ref l) (upd H l (.frz o (.tup ys)))
theorem call_tupX : CallR X (.type "tuple") (rTupX X.K) := by
  intro pins s σ H xs us Q I r h
  obtain ⟨p, ys, rfl, hq, q⟩ := h
  obtain ⟨u, rfl, rx⟩ := vals1 r
  obtain rfl : u = Value.ref p := rx
  obtain ⟨its, r', pl, hz⟩ := I.list hq
  have hlen := r'.length
  refine call_tuple_list pl.isList (fun h' kp => ?_) (by simp only [List.size_toArray] <;> omega)
  have I1 : Inv X pins σ H { s with heap := h' } := I.kept (t' := s.toks) kp
  exact ⟨.ref h'.objs.size, _, I1.laid (o := .frz { cls := .type "tuple", data := .seq its.toArray } (.tup ys)) (t' := s.toks) (fun b o e => Heap.get?_push_of_some _ e) (Nat.le_refl _) ⟨Heap.get?_push_size _ rfl, hz, its, r', IsTup.new _ _⟩, rfl, q _ _ (I1.hok.fresh (Nat.le_refl _)) rfl⟩
def gTupX : Dv → Sto → DK → Prop := fun x st Q => ∃ xs, lstD st x = some xs ∧ Q (.tux xs) st
theorem cd_tupX : CallD X (.type "tuple") (g1 gTupX) := cd1 call_tupX (fun x st Q Q' q ⟨xs, h1, h2⟩ => ⟨xs, h1, q _ _ h2⟩) (fun ex f st H x v Q r rd ⟨xs, h1, h2⟩ => by
    obtain ⟨a, vs, rfl, q, hs⟩ := lst_of r rd h1
    exact ⟨a, vs, rfl, q, fun p o hp ho => h2 f _ _ (Stp.new hp) (r.new hp) (.tux ⟨o, upd_same, ho⟩ (hs.mono (Stp.new hp) r.cel))⟩)
abbrev n1 (g : Dv → Sto → (List Dv → Sto → Prop) → Prop) : List Dv → Sto → (List Dv → Sto → Prop) → Prop := fun xs st Q => match xs with | [x] => g x st Q | _ => False
theorem cn_list : CallN X (.type "list") (n1 fun x st Q => ∃ xs, seqD st x = some xs ∧ Q xs st) := by
  refine ⟨fun xs st Q Q' z h => ?_, _, call_list_of, fun ex f st H xs vs Q rs rd h => ?_⟩
  · unfold n1 at *
    split at h
    · obtain ⟨xs, h1, h2⟩ := h
      exact ⟨xs, h1, z _ _ h2⟩
    · exact h.elim
  · unfold n1 at h
    split at h
    · cases rd with
      | cons h1 h2 =>
        cases h2
        obtain ⟨xs, h3, h4⟩ := h
        obtain ⟨a, vs, rfl, q, hs⟩ := seq_of rs h1 h3
        exact ⟨a, vs, rfl, q, fun p hp => h4.laid rs hp hs⟩
    · exact h.elim
/-- tuple(range(n)) -/
abbrev wTupRg (a : DTE) : DTE := fun σ st Q => a σ st fun d st1 => match d with | .int n => (0 ≤ n ∧ n ≤ 100000) ∧ Q (.tup (rng 0 n.toNat)) st1 | _ => False
theorem RDs.rng {n : Int} : RDs K ex f k H (D2.rng 0 n.toNat) (rgV 0 n) := by
  have key : ∀ l : List Nat, RDs K ex f k H (l.map fun (i : Nat) => Dv.int (0 + (i : Int))) (l.map fun (i : Nat) => V.int (0 + (i : Int))) := by
    intro l
    induction l with
    | nil => exact .nil
    | cons a r ih => exact .cons (.int _) ih
  unfold D2.rng rgV
  rw [Int.sub_zero]
  exact key _
theorem de_tupRg {a : Expr} {w : DTE} {p p2 pos pos2 : Pos} (hc : X.calm = true) (hg : Gl X "tuple") (hm : X.mg "tuple" = none) (hg2 : Gl X "range") (hm2 : X.mg "range" = none) (ha : DE X a w) (na : starEach [a] X.env = (false, eval a X.env) :: starEach [] X.env := by rfl)
    (nb : starEach [Expr.Call (.Name "range" p2) [a] [] pos2] X.env = (false, eval (Expr.Call (.Name "range" p2) [a] [] pos2) X.env) :: starEach [] X.env := by rfl) : DE X (.Call (.Name "tuple" p) [.Call (.Name "range" p2) [a] [] pos2] [] pos) (wTupRg w) := by
  refine ⟨(pe_tupRg hc hg hm (prg_1 hg2 hm2 ha.pe na) nb).imp fun τ H Q h => ?_, fun σ st Q Q' q h => ha.mono _ _ _ _ (fun d s h1 => ?_) h⟩
  · obtain ⟨ex, f, σ, st, r, er, h⟩ := h
    refine lE.use ha.mono r er h fun f1 H1 d st1 v s1 r1 e1 rd h1 => ?_
    split at h1
    · rename_i n
      cases rd
      refine ⟨n, rfl, ?_, fun p hp => ?_⟩
      · exact RgOk.of_le (by decide) (by have := h1.1; omega) (by decide) h1.1.1
      · exact (Af.later h1.2 s1).newTup r1 hp RDs.rng
    · exact h1.elim
  · split at h1
    · exact ⟨h1.1, q _ _ h1.2⟩
    · exact h1.elim
end
end D2

/-! DL, part f: isinstance, repr, join, methods, stores, instances, the law's end. -/
namespace D2
open PySem PySem.Spec PyProof.Rows L2
section
variable {X : Cx} {K : PySem.W.Frag} {ex : Addr → Prop} {f : Nat → Addr} {k : Nat} {H : Hp} {σ : En} {τ : L2.St} {st : Sto}

/-! ### isinstance -/
inductive Ty where
  | str | tuple | list | int | bool
def Ty.nm : Ty → String
  | .str => "str"
  | .tuple => "tuple"
  | .list => "list"
  | .int => "int"
  | .bool => "bool"
def isD (T : Ty) (d : Dv) : Option Bool := match d, T with
  | .str _, .str => some true
  | .tup _, .tuple => some true
  | .tux _, .tuple => some true
  | .rol _, .list => some true
  | .fro _, .list => some true
  | .ref _, .list => some true
  | .int _, .int => some true
  | .bl _, .int => some true
  | .bl _, .bool => some true
  | .obj _ _ _, _ => none
  | .dic _ _, _ => none
  | .tuk _, _ => none
  | _, _ => some false
theorem kit_all : ∀ (a : String) (T : Ty), (a = "NoneType" ∨ a = "bool" ∨ a = "int" ∨ a = "str" ∨ a = "tuple" ∨ a = "list") →
    kitB a T.nm = some (match a, T with | "str", .str => true | "tuple", .tuple => true | "list", .list => true | "int", .int => true | "bool", .int => true | "bool", .bool => true | _, _ => false) := by
  intro a T h
  rcases h with rfl | rfl | rfl | rfl | rfl | rfl <;> cases T <;> decide +kernel
theorem tyx {d : Dv} {v : V} {T : Ty} {b : Bool} (r : RS K ex f st H) (rd : RD K ex f st.length H d v) (h : isD T d = some b) : ∃ t, TyX K H v (.type t) ∧ PySem.W.kitOne K (.type t) (.type T.nm) = some b := by
  cases rd with
  | non => exact ⟨_, .base .non, kit_ty (by rw [kit_all _ T (.inl rfl)]; cases T <;> simpa [isD] using h)⟩
  | bl x => exact ⟨_, .base (.bl x), kit_ty (by rw [kit_all _ T (.inr (.inl rfl))]; cases T <;> simpa [isD] using h)⟩
  | int i => exact ⟨_, .base (.int i), kit_ty (by rw [kit_all _ T (.inr (.inr (.inl rfl)))]; cases T <;> simpa [isD] using h)⟩
  | str s => exact ⟨_, .base (.str s), kit_ty (by rw [kit_all _ T (.inr (.inr (.inr (.inl rfl))))]; cases T <;> simpa [isD] using h)⟩
  | tup e hs =>
    rename_i xs a vs
    have z : TyX K H (.ref a) (.type "tuple") := by
      rcases e with (e | ⟨o, e⟩) | ⟨o, its, n, e, c, _⟩
      · exact .base (.tup e)
      · exact .fTuple e
      · exact .kTuple e c
    exact ⟨_, z, kit_ty (by rw [kit_all _ T (.inr (.inr (.inr (.inr (.inl rfl)))))]; cases T <;> simpa [isD] using h)⟩
  | tux e hs =>
    obtain ⟨o, e, _⟩ := e
    exact ⟨_, .fTuple e, kit_ty (by rw [kit_all _ T (.inr (.inr (.inr (.inr (.inl rfl)))))]; cases T <;> simpa [isD] using h)⟩
  | rol e he hn hs => exact ⟨_, .base (.lst e), kit_ty (by rw [kit_all _ T (.inr (.inr (.inr (.inr (.inr rfl)))))]; cases T <;> simpa [isD] using h)⟩
  | fro e hs =>
    rename_i xs a vs
    have z : TyX K H (.ref a) (.type "list") := by
      rcases e with ⟨e | ⟨o, e⟩, _⟩ | ⟨o, its, n, e, c, _⟩
      · exact .base (.lst e)
      · exact .base (.frz e)
      · exact .kList e c
    exact ⟨_, z, kit_ty (by rw [kit_all _ T (.inr (.inr (.inr (.inr (.inr rfl)))))]; cases T <;> simpa [isD] using h)⟩
  | obj e hn hs => simp [isD] at h
  | dic e hn hs => simp [isD] at h
  | tuk e hs => simp [isD] at h
  | ref n hn =>
    obtain ⟨vs, e⟩ := r.cel n hn
    exact ⟨_, .base (.lst e), kit_ty (by rw [kit_all _ T (.inr (.inr (.inr (.inr (.inr rfl)))))]; cases T <;> simpa [isD] using h)⟩
abbrev wIsi (T : Ty) (w : DTE) : DTE := fun σ st Q => w σ st fun d st1 => match isD T d with | some b => Q (.bl b) st1 | none => False
theorem de_isi (T : Ty) {e : Expr} {w : DTE} {x : Str} {p p2 pos : Pos} (hg : Gl X "isinstance") (hm : X.mg "isinstance" = none) (hgT : Gl X x) (hmT : X.mg x = none) (hvT : bootBuiltins x = some (.type T.nm)) (he : DE X e w)
    (hnT : x ≠ "__name__" := by decide) (hdT : (x == ("__debug__" : Str)) = false := by decide)
    (hs : starEach [e, .Name x p2] X.env = (false, eval e X.env) :: starEach [.Name x p2] X.env := by rfl) (hs2 : starEach [.Name x p2] X.env = (false, eval (.Name x p2) X.env) :: starEach [] X.env := by rfl)
    (hpl : (backTo pos (starEach [.Name x p2] X.env)).any (·.1) = false := by rfl) : DE X (.Call (.Name "isinstance" p) [e, .Name x p2] [] pos) (wIsi T w) := by
  have hb : bootBuiltins ("isinstance" : Str) = some (.builtin "isinstance") := by decide +kernel
  refine ⟨(pe_callB call_isi hg hm hb (pa_cons he.pe (pa_cons (pe_bltn (v := .ty T.nm) hgT hmT hvT rfl hnT hdT) pa_nil hs2) hs) (by decide) (by decide) hs hpl).imp fun τ H Q h => ?_, fun σ st Q Q' q h => he.mono _ _ _ _ (fun d s h1 => ?_) h⟩
  · obtain ⟨ex, f, σ, st, r, er, h⟩ := h
    refine lE.use he.mono r er h fun f1 H1 d st1 v s1 r1 e1 rd h1 => ?_
    split at h1
    · rename_i b hb
      obtain ⟨t, z1, z2⟩ := tyx r1 rd hb
      exact ⟨v, .ty T.nm, _, _, b, rfl, .ty _, z1, z2, h1 f1 H1 _ s1 r1 (.bl b)⟩
    · exact h1.elim
  · split at h1
    · exact q _ _ h1
    · exact h1.elim

/-! ### repr -/
theorem call_repr (hgu : X.A.guards = some []) : CallR X (.builtin "repr") (fun xs H Q => ∃ x d, xs = [x] ∧ Dp X.K H x d ∧ d.showable = true ∧ d.hasDict = false ∧ X.A.units + (d.depth + 1) < cLine ∧ d.shown.length ≤ sizeLine ∧ Q (.str d.shown) H) := by
  intro pins s τ H xs us Q I r h
  obtain ⟨x, d, rfl, hd, hs, hn, hu, hz, q⟩ := h
  obtain ⟨u, rfl, rx⟩ := vals1 r
  cases hd with
  | non =>
    obtain rfl : u = Value.none := rx
    exact P.repr_of_none ⟨.str _, H, I.tok _, ⟨_, rfl⟩, by simpa [PyData.shown] using q⟩
  | bl b =>
    obtain rfl : u = Value.bool b := rx
    exact P.repr_of_bool ⟨.str _, H, I.tok _, ⟨_, rfl⟩, by simpa [PyData.shown] using q⟩
  | int i =>
    obtain ⟨t, rfl⟩ := rx
    exact P.repr_of_int (by simpa [PyData.showable] using hs) ⟨.str _, H, I.tok _, ⟨_, rfl⟩, by simpa [PyData.shown] using q⟩
  | str z =>
    obtain ⟨t, rfl⟩ := rx
    exact P.repr_of_str ⟨.str _, H, I.tok _, ⟨_, rfl⟩, by simpa [PyData.shown] using q⟩ (by simpa [PyData.shown] using hz)
  | lst h1 h2 =>
    obtain ⟨as, hr⟩ := Dp.reads I _ _ u (Dp.lst h1 h2) rx
    obtain rfl : u = _ := rx
    refine repr_of_reads' hr hs (PyData.noDict_hsm hn) hgu hu (fun _ _ e => e) (fun h' t tk hk => ?_) hz
    exact ⟨.str _, H, I.kept (t' := tk) hk, ⟨_, rfl⟩, q⟩
  | tup h1 h2 =>
    obtain ⟨as, hr⟩ := Dp.reads I _ _ u (Dp.tup h1 h2) rx
    obtain rfl : u = _ := rx
    refine repr_of_reads' hr hs (PyData.noDict_hsm hn) hgu hu (fun _ _ e => e) (fun h' t tk hk => ?_) hz
    exact ⟨.str _, H, I.kept (t' := tk) hk, ⟨_, rfl⟩, q⟩
/-- depth at most 64 -/
def gRepr : Dv → Sto → DK → Prop := fun x st Q => ∃ p, DP st x p ∧ p.showable = true ∧ p.hasDict = false ∧ p.depth ≤ 62 ∧ p.shown.length ≤ sizeLine ∧ Q (.str p.shown) st
theorem cd_repr (hgu : X.A.guards = some []) (hu : X.A.units + 64 < cLine) : CallD X (.builtin "repr") (g1 gRepr) := cd1 (call_repr hgu) (fun x st Q Q' q ⟨p, h1, h2, h3, h4, h5, h6⟩ => ⟨p, h1, h2, h3, h4, h5, q _ _ h6⟩)
  (fun ex f st H x v Q r rd ⟨p, h1, h2, h3, h4, h5, h6⟩ => ⟨v, p, rfl, h1.dp r rd, h2, h3, by omega, h5, h6.self r (.str _)⟩)

/-! ### texts: join -/
abbrev wJoin (a b : DTE) : DTE := fun σ st Q => a σ st fun d st1 => match d with
  | .str s => b σ st1 fun x st2 => ∃ ys : List Str, seqD st2 x = some (ys.map Dv.str) ∧ (ys.map (·.length)).sum + ys.length * s.length ≤ 16777216 ∧ Q (.str (Txt.join s ys)) st2
  | _ => False
theorem de_join {o e : Expr} {wo we : DTE} {apos pos : Pos} (ho : DE X o wo) (he : DE X e we) (hs : starEach [e] X.env = [(false, eval e X.env)] := by rfl) (hbase : attributeBase o "join" X.env (eval o X.env) = eval o X.env := by rfl) (hline : (apos.endLine == pos.line) = true := by rfl) :
    DE X (.Call (.Attribute o "join" apos) [e] [] pos) (wJoin wo we) := by
  refine ⟨(pe_join ho.pe he.pe hs hbase hline).imp fun τ H Q h => ?_, fun σ st Q Q' q h => ho.mono _ _ _ _ (fun d s h1 => ?_) h⟩
  · obtain ⟨ex, f, σ, st, r, er, h⟩ := h
    refine lE.use ho.mono r er h fun f1 H1 d st1 v s1 r1 e1 rd h1 => ?_
    split at h1
    · cases rd
      refine ⟨⟨_, rfl⟩, lE.use he.mono r1 e1 h1 fun f2 H2 x st2 u s2 r2 e2 rx h2 => ?_⟩
      obtain ⟨ys, h3, h4, h5⟩ := h2
      obtain ⟨p, vs, rfl, q, hs⟩ := seq_of r2 rx h3
      obtain rfl := RDs.strs_inv hs
      exact ⟨_, p, ys, rfl, rfl, q, h4, h5 f2 H2 _ (s1.trans s2) r2 (.str _)⟩
    · exact h1.elim
  · split at h1
    · exact he.mono _ _ _ _ (fun x s2 ⟨ys, h3, h4, h5⟩ => ⟨ys, h3, h4, q _ _ h5⟩) h1
    · exact h1.elim

/-! ### methods of cells -/
theorem tyV_cel {n : Nat} (r : RS K ex f st H) (hn : n < st.length) : tyV K "list" (.ref (f n)) H := by
  obtain ⟨vs, e⟩ := r.cel n hn
  exact .inl ⟨rfl, vs, .inl (.inl e)⟩
theorem cel_at {n : Nat} {xs : List Dv} (r : RS K ex f st H) (h : st[n]? = some (.lst xs)) : ∃ vs, H (f n) = some (.lst vs) ∧ RDs K ex f st.length H xs vs := by
  cases r.obj n _ h with
  | lst e hs => exact ⟨_, e, hs⟩
/-- what is written to a cell -/
theorem Af.wrote {n : Nat} {xs : List Dv} {vs : List V} {d : Dv} {v : V} {Q : VK} (h : Af K ex f st.length H Q d (st.set n (.lst xs))) (r : RS K ex f st H) (hn : n < st.length) (hx : RDs K ex f st.length H xs vs) (hd : RD K ex f st.length H d v) : Q v (upd H (f n) (.lst vs)) := by
  have e : (st.set n (Co.lst xs)).length = st.length := by simp
  refine h f _ v (by rw [e]; exact Stp.write hn) (r.write hn hx) ?_
  rw [e]
  exact hd.mono (Stp.write hn) r.cel
abbrev wApp (a b : DTE) : DTE := fun σ st Q => a σ st fun d st1 => match d with
  | .ref n => b σ st1 fun y st2 => ∃ xs, st2[n]? = some (.lst xs) ∧ xs.length < sizeLine ∧ Q .non (st2.set n (.lst (xs ++ [y])))
  | _ => False
theorem de_app {o e : Expr} {wo we : DTE} {apos pos : Pos} (ho : DE X o wo) (he : DE X e we) (hs : starEach [e] X.env = (false, eval e X.env) :: starEach [] X.env := by rfl) (hbase : attributeBase o "append" X.env (eval o X.env) = eval o X.env := by rfl)
    (hfew : ((backTo pos (starEach [e] X.env)).all (fun x => !x.1) && (backToKw pos (keywordEach [] X.env)).all (fun x => x.1.isSome) && decide ([e].length + ([] : List Keyword).length + (if ([] : List Keyword).isEmpty then 0 else 1) < 30)) = true := by rfl)
    (hline : (apos.endLine == pos.line) = true := by rfl) : DE X (.Call (.Attribute o "append" apos) [e] [] pos) (wApp wo we) := by
  refine ⟨(pe_bm PySem.F.plainAttrs_list PySem.F.slot_list_append PySem.F.type_list_append mt_append ho.pe (pa_cons he.pe pa_nil hs) hbase hfew hline hs rfl).imp fun τ H Q h => ?_, fun σ st Q Q' q h => ho.mono _ _ _ _ (fun d s h1 => ?_) h⟩
  · obtain ⟨ex, f, σ, st, r, er, h⟩ := h
    refine lE.use ho.mono r er h fun f1 H1 d st1 v s1 r1 e1 rd h1 => ?_
    split at h1
    · rename_i n
      cases rd with
      | ref _ hn =>
        refine ⟨tyV_cel r1 hn, lE.use he.mono r1 e1 h1 fun f2 H2 y st2 u s2 r2 e2 ry ⟨xs, h2, h3, h4⟩ => ?_⟩
        obtain ⟨vs, e3, hs3⟩ := cel_at r2 h2
        rw [← s2.agree n hn]
        exact ⟨_, vs, u, rfl, rfl, e3, by rw [← hs3.length]; exact h3, (Af.later h4 (s1.trans s2)).wrote r2 (List.getElem?_eq_some_iff.mp h2).1 (hs3.append (.cons ry .nil)) .non⟩
    · exact h1.elim
  · split at h1
    · exact he.mono _ _ _ _ (fun x s2 ⟨xs, h3, h4, h5⟩ => ⟨xs, h3, h4, q _ _ h5⟩) h1
    · exact h1.elim
abbrev wPop (a : DTE) : DTE := fun σ st Q => a σ st fun d st1 => match d with
  | .ref n => ∃ xs y, st1[n]? = some (.lst xs) ∧ xs[xs.length - 1]? = some y ∧ Q y (st1.set n (.lst xs.dropLast))
  | _ => False
theorem RDs.dropLast {ds : List Dv} {vs : List V} (h : RDs K ex f k H ds vs) : RDs K ex f k H ds.dropLast vs.dropLast := by
  rw [List.dropLast_eq_take, List.dropLast_eq_take, ← h.length]
  exact h.take _
theorem de_pop {o : Expr} {wo : DTE} {apos pos : Pos} (ho : DE X o wo) (hbase : attributeBase o "pop" X.env (eval o X.env) = eval o X.env := by rfl) (hline : (apos.endLine == pos.line) = true := by rfl) : DE X (.Call (.Attribute o "pop" apos) [] [] pos) (wPop wo) := by
  refine ⟨(pe_bm0 PySem.F.plainAttrs_list PySem.F.slot_list_pop PySem.F.type_list_pop mt_pop ho.pe hbase hline).imp fun τ H Q h => ?_, fun σ st Q Q' q h => ho.mono _ _ _ _ (fun d s h1 => ?_) h⟩
  · obtain ⟨ex, f, σ, st, r, er, h⟩ := h
    refine lE.use ho.mono r er h fun f1 H1 d st1 v s1 r1 e1 rd h1 => ?_
    split at h1
    · rename_i n
      cases rd with
      | ref _ hn =>
        obtain ⟨xs, y, h2, h3, h4⟩ := h1
        obtain ⟨vs, e3, hs3⟩ := cel_at r1 h2
        obtain ⟨u, e4, ru⟩ := hs3.get h3
        exact ⟨tyV_cel r1 hn, _, vs, u, rfl, rfl, e3, by rw [← hs3.length]; exact e4, (Af.later h4 s1).wrote r1 hn hs3.dropLast ru⟩
    · exact h1.elim
  · split at h1
    · obtain ⟨xs, y, h3, h4, h5⟩ := h1
      exact ⟨xs, y, h3, h4, q _ _ h5⟩
    · exact h1.elim
/-- o.insert(i, e) -/
abbrev wIns (a b c : DTE) : DTE := fun σ st Q => a σ st fun d st1 => match d with
  | .ref n => b σ st1 fun i st2 => c σ st2 fun y st3 => ∃ xs j, i = .int j ∧ st3[n]? = some (.lst xs) ∧ xs.length < sizeLine ∧ 0 ≤ j ∧ j < 2 ^ 63 ∧ Q .non (st3.set n (.lst (xs.take j.toNat ++ [y] ++ xs.drop j.toNat)))
  | _ => False
theorem de_ins {o e e' : Expr} {wo we wf : DTE} {apos pos : Pos} (ho : DE X o wo) (he : DE X e we) (hf : DE X e' wf) (hs : starEach [e, e'] X.env = (false, eval e X.env) :: starEach [e'] X.env := by rfl) (hs2 : starEach [e'] X.env = (false, eval e' X.env) :: starEach [] X.env := by rfl) (hbase : attributeBase o "insert" X.env (eval o X.env) = eval o X.env := by rfl)
    (hfew : ((backTo pos (starEach [e, e'] X.env)).all (fun x => !x.1) && (backToKw pos (keywordEach [] X.env)).all (fun x => x.1.isSome) && decide ([e, e'].length + ([] : List Keyword).length + (if ([] : List Keyword).isEmpty then 0 else 1) < 30)) = true := by rfl)
    (hline : (apos.endLine == pos.line) = true := by rfl) (hpl : (backTo pos (starEach [e'] X.env)).any (·.1) = false := by rfl) : DE X (.Call (.Attribute o "insert" apos) [e, e'] [] pos) (wIns wo we wf) := by
  refine ⟨(pe_bm PySem.F.plainAttrs_list PySem.F.slot_list_insert PySem.F.type_list_insert mt_insert ho.pe (pa_cons he.pe (pa_cons hf.pe pa_nil hs2) hs) hbase hfew hline hs hpl).imp fun τ H Q h => ?_, fun σ st Q Q' q h => ho.mono _ _ _ _ (fun d s h1 => ?_) h⟩
  · obtain ⟨ex, f, σ, st, r, er, h⟩ := h
    refine lE.use ho.mono r er h fun f1 H1 d st1 v s1 r1 e1 rd h1 => ?_
    split at h1
    · rename_i n
      cases rd with
      | ref _ hn =>
        refine ⟨tyV_cel r1 hn, lE.use he.mono r1 e1 h1 fun f2 H2 i st2 u s2 r2 e2 ri h2 => ?_⟩
        refine lE.use hf.mono r2 e2 h2 fun f3 H3 y st3 z s3 r3 e3 ry ⟨xs, j, ej, h3, h4, h5, h6, h7⟩ => ?_
        subst ej
        cases ri
        obtain ⟨vs, e4, hs4⟩ := cel_at r3 h3
        rw [← s2.agree n hn, ← s3.agree n (Nat.lt_of_lt_of_le hn s2.len)]
        exact ⟨_, vs, j, z, rfl, rfl, e4, by rw [← hs4.length]; exact h4, h5, h6, (Af.later h7 ((s1.trans s2).trans s3)).wrote r3 (List.getElem?_eq_some_iff.mp h3).1 (((hs4.take _).append (.cons ry .nil)).append (hs4.drop _)) .non⟩
    · exact h1.elim
  · split at h1
    · exact he.mono _ _ _ _ (fun x s2 h2 => hf.mono _ _ _ _ (fun y s3 ⟨xs, j, h3, h4, h5, h6, h7, h8⟩ => ⟨xs, j, h3, h4, h5, h6, h7, q _ _ h8⟩) h2) h1
    · exact h1.elim
/-- o[i] = e of a cell -/
abbrev wSto (e a b : DTE) : DTS := fun D σ st => e σ st fun y st1 => a σ st1 fun d st2 => b σ st2 fun i st3 => match d, i with
  | .ref n, .int j => ∃ xs m, st3[n]? = some (.lst xs) ∧ ixN xs.length j = some m ∧ D.nx σ (st3.set n (.lst (xs.set m y)))
  | _, _ => False
theorem ds_sto {o i e : Expr} {wo wi we : DTE} {pos p2 : Pos} (he : DE X e we) (ho : DE X o wo) (hi : DE X i wi) (hs : swapsWithSole [.Subscript o i p2] e pos.line X.env = pure false := by rfl) (hw : swappedStores [.Subscript o i p2] e X.env = pure none := by rfl)
    (h1 : (assignEach [Expr.Subscript o i p2] X.env).map (·.2) = [assign (.Subscript o i p2) X.env] := by rfl)
    (ha : ∀ v, assign (.Subscript o i p2) X.env v = (do
      let ov ← holding [v] (eval o X.env)
      let iv ← holding [v, ov] (eval i X.env)
      standAt p2
      holding [v, ov, iv] (setItem ov iv v)
      release [v, ov, iv] []) := by intro _; rfl) : DS X (.Assign [.Subscript o i p2] e pos) (wSto we wo wi) := by
  refine ⟨(ps_asg he.pe (pg_sub ho.pe hi.pe set_list ha) hs hw h1).imp fun D τ H h => ?_, fun σ st D D' l h => he.mono _ _ _ _ (fun y s h1 => ho.mono _ _ _ _ (fun d s2 h2 => hi.mono _ _ _ _ (fun j s3 h3 => ?_) h2) h1) h⟩
  · obtain ⟨ex, f, σ, st, r, er, h⟩ := h
    refine lE.use he.mono r er h fun f1 H1 y st1 v s1 r1 e1 ry h1 => ?_
    refine lE.use ho.mono r1 e1 h1 fun f2 H2 d st2 u s2 r2 e2 rd h2 => ?_
    refine lE.use hi.mono r2 e2 h2 fun f3 H3 j st3 z s3 r3 e3 rj h3 => ?_
    split at h3
    · rename_i n j
      cases rd with
      | ref _ hn =>
        cases rj
        obtain ⟨xs, m, h4, h5, h6⟩ := h3
        obtain ⟨vs, e4, hs4⟩ := cel_at r3 h4
        rw [← s3.agree n hn]
        refine ⟨_, vs, _, m, rfl, rfl, e4, by rw [← hs4.length]; exact h5, ?_⟩
        have hl := (List.getElem?_eq_some_iff.mp h4).1
        have eq : (st3.set n (Co.lst (xs.set m y))).length = st3.length := by simp
        refine h6 f3 _ τ (by rw [eq]; exact ((s1.trans s2).trans s3).trans (Stp.write hl)) (r3.write hl (RDs.set ((ry.mono s2 r1.cel).mono s3 r2.cel) m hs4)) ?_
        rw [eq]
        exact e3.mono (Stp.write hl) r3.cel
    · exact h3.elim
  · split at h3
    · obtain ⟨xs, m, h4, h5, h6⟩ := h3
      exact ⟨xs, m, h4, h5, l.nx _ _ h6⟩
    · exact h3.elim

/-! ### a tuple taken apart -/
abbrev wAsgT (t : Tg) (a : DTE) : DTS := fun D σ st => a σ st fun d st1 => ∃ σ2, tgD t d σ = some σ2 ∧ D.nx σ2 st1
theorem ds_asgT {tg e : Expr} {w : DTE} {t : Tg} {pos : Pos} (he : DE X e w) (hg : PG X tg (tgV X.K t)) (hs : swapsWithSole [tg] e pos.line X.env = pure false := by rfl) (hw : swappedStores [tg] e X.env = pure none := by rfl)
    (h1 : (assignEach [tg] X.env).map (·.2) = [assign tg X.env] := by rfl) : DS X (.Assign [tg] e pos) (wAsgT t w) := by
  refine ⟨(ps_asg he.pe hg hs hw h1).imp fun D τ H h => ?_, fun σ st D D' l h => he.mono _ _ _ _ (fun d s ⟨σ2, h1, h2⟩ => ⟨σ2, h1, l.nx _ _ h2⟩) h⟩
  obtain ⟨ex, f, σ, st, r, er, h⟩ := h
  refine lE.use he.mono r er h fun f1 H1 d st1 v s1 r1 e1 rd ⟨σ2, h1, h2⟩ => ?_
  exact tg_ok e1 rd h1 fun τ' e' _ => h2 f1 H1 τ' s1 r1 e'
abbrev wPar3 (i j l : Nat) (a b c : DTE) : DTS := fun D σ st => a σ st fun d st1 => b σ st1 fun e st2 => c σ st2 fun g st3 => D.nx (((σ.set i (some d)).set j (some e)).set l (some g)) st3
theorem ds_par3 {i j l : Nat} {x y z : Str} {a b c : Expr} {wa wb wc : DTE} {px py pz pt pos : Pos} {kt k2 pt2} (h : ∀ {ta : TA}, PA X [a, b, c] ta → PS X (.Assign [.Tuple [.Name x px, .Name y py, .Name z pz] kt pt] (.Tuple [a, b, c] k2 pt2) pos) (tPar3 i j l ta)) (ha : DE X a wa) (hb : DE X b wb) (hc : DE X c wc)
    (h1 : starEach [a, b, c] X.env = (false, eval a X.env) :: starEach [b, c] X.env := by rfl) (h2 : starEach [b, c] X.env = (false, eval b X.env) :: starEach [c] X.env := by rfl) (h3 : starEach [c] X.env = (false, eval c X.env) :: starEach [] X.env := by rfl) :
    DS X (.Assign [.Tuple [.Name x px, .Name y py, .Name z pz] kt pt] (.Tuple [a, b, c] k2 pt2) pos) (wPar3 i j l wa wb wc) := by
  refine ⟨(h (pa_cons ha.pe (pa_cons hb.pe (pa_cons hc.pe pa_nil h3) h2) h1)).imp fun D τ H h => ?_, fun σ st D D' l h => ha.mono _ _ _ _ (fun d s h1 => hb.mono _ _ _ _ (fun e s2 h2 => hc.mono _ _ _ _ (fun g s3 => l.nx _ _) h2) h1) h⟩
  obtain ⟨ex, f, σ, st, r, er, h⟩ := h
  refine lE.use ha.mono r er h fun f1 H1 d st1 v s1 r1 e1 rd h1 => ?_
  refine lE.use hb.mono r1 e1 h1 fun f2 H2 e st2 u s2 r2 e2 re h2 => ?_
  refine lE.use hc.mono r2 e2 h2 fun f3 H3 g st3 t s3 r3 e3 rg h3 => ?_
  exact ⟨v, u, t, rfl, h3 f3 H3 _ ((s1.trans s2).trans s3) r3 (((e3.set ((rd.mono s2 r1.cel).mono s3 r2.cel)).set (re.mono s3 r2.cel)).set rg)⟩

/-! ### instances that never change -/
def spIni (C : Addr) (ns : List Str) : Sp := fun vs H Q _ => ∃ (p dx : Addr) (as : List V), vs = .ref p :: as ∧ as.length = ns.length ∧ H p = some (.ins C dx []) ∧ Q .non (upd H p (.ins C dx (ns.zip as)))
abbrev wMake (C : Addr) (ns : List Str) (a : DTA) : DTE := fun σ st Q => a σ st fun ds st1 => ds.length = ns.length ∧ Q (.obj C ns ds) st1
theorem de_make {C g : Addr} {kk : Nat} {fd : FuncData} {ps ns : List Str} {x : Str} {p pos : Pos} {e : Expr} {es : List Expr} {wa : DTA} (M : Mk X.K C g) (F : FnOk X.prog X.w X.K X.mg X.base CX0 kk g fd ps (spIni C ns)) (hr : Room (kk + 1) X.A) (hg : Gl X x) (hm : X.mg x = some (.ref C)) (hb : Binds X.K fd ps [])
    (ha : DA X (e :: es) wa) (hdb : (x == ("__debug__" : Str)) = false := by decide) (he : starEach (e :: es) X.env = (false, eval e X.env) :: starEach es X.env := by rfl) (hpl : (backTo pos (starEach es X.env)).any (·.1) = false := by rfl) :
    DE X (.Call (.Name x p) (e :: es) [] pos) (wMake C ns wa) := by
  refine ⟨(pe_make M F hr hg hm hb .nil pass0 ha.pa hdb he hpl).imp fun τ H Q h => ?_, fun σ st Q Q' q h => ha.mono _ _ _ _ (fun ds s h1 => ⟨h1.1, q _ _ h1.2⟩) h⟩
  obtain ⟨ex, f, σ, st, r, er, h⟩ := h
  refine lA.use ha.mono r er h fun f1 H1 ds st1 vs s1 r1 e1 rds ⟨h1, h2⟩ y dx ny ndx ne => ?_
  rw [List.append_nil]
  refine ⟨y, dx, vs, rfl, by rw [← rds.length]; exact h1, upd_same, rfl, ?_⟩
  rw [upd_upd]
  have n2 : (upd H1 dx (.own y)) y = none := by rw [upd_ne (Ne.symm ne)]; exact ny
  have S1 : Stp f1 st1.length H1 f1 st1.length (upd H1 dx (.own y)) := Stp.new ndx
  have S2 : Stp f1 st1.length (upd H1 dx (.own y)) f1 st1.length (upd (upd H1 dx (.own y)) y (.ins C dx (ns.zip vs))) := Stp.new n2
  have r2 := (r1.new (o := .own y) ndx).new (o := .ins C dx (ns.zip vs)) n2
  have hl := rds.length
  refine h2 f1 _ _ ((s1.trans S1).trans S2) r2 (.obj upd_same (List.map_fst_zip (by omega)) ?_)
  rw [List.map_snd_zip (by omega)]
  exact (rds.mono S1 r1.cel).mono S2 (r1.new (o := .own y) ndx).cel
theorem obj_lookup {fl : Str} {d : Dv} : ∀ {fs : List (Str × V)} {xs : List Dv}, RDs K ex f k H xs (fs.map (·.2)) → ((fs.map (·.1)).zip xs).lookup fl = some d → ∃ v, fs.lookup fl = some v ∧ RD K ex f k H d v
  | [], _, _, e => by simp at e
  | (g, v) :: fs, x :: xs, .cons h hs, e => by
    simp only [List.map_cons, List.zip_cons_cons, List.lookup_cons] at e ⊢
    cases hb : fl == g with
    | true =>
      rw [hb] at e
      cases e
      exact ⟨v, rfl, h⟩
    | false =>
      rw [hb] at e
      exact obj_lookup hs e
abbrev wFld (C : Addr) (fl : Str) (a : DTE) : DTE := fun σ st Q => a σ st fun d st1 => match d with
  | .obj C' ns xs => C' = C ∧ ∃ v, (ns.zip xs).lookup fl = some v ∧ Q v st1
  | _ => False
theorem de_fld {C : Addr} {fl : Str} {e : Expr} {w : DTE} {pos : Pos} (c : Cls X.K C) (n : NoAttr X.K C fl) (he : DE X e w) (hb : attributeBase e fl X.env (eval e X.env) = eval e X.env := by rfl) : DE X (.Attribute e fl pos) (wFld C fl w) := by
  refine ⟨(pe_fld he.pe hb).imp fun τ H Q h => ?_, fun σ st Q Q' q h => he.mono _ _ _ _ (fun d s h1 => ?_) h⟩
  · obtain ⟨ex, f, σ, st, r, er, h⟩ := h
    refine lE.use he.mono r er h fun f1 H1 d st1 v s1 r1 e1 rd h1 => ?_
    split at h1
    · obtain ⟨rfl, y, h2, h3⟩ := h1
      cases rd with
      | obj ea en hs =>
        subst en
        obtain ⟨u, h4, ru⟩ := obj_lookup hs h2
        exact ⟨_, _, _, _, u, rfl, ea, c, n, h4, h3 f1 H1 u s1 r1 ru⟩
    · exact h1.elim
  · split at h1
    · obtain ⟨h2, v, h3, h4⟩ := h1
      exact ⟨h2, v, h3, q _ _ h4⟩
    · exact h1.elim

/-! ### methods of a tuple whose object is known -/
theorem pe_tm {o e : Expr} {es : List Expr} {to : TE} {t : TA} {name : Str} {apos cpos : Pos} {id : String} {r : V → List V → Hp → VK → Prop} (slot : Slot "tuple" name id) (hty : typeOf (.builtin id) = pure (.type "method_descriptor")) (hm : MtR X id r) (ho : PE X o to) (ha : PA X (e :: es) t)
    (hbase : attributeBase o name X.env (eval o X.env) = eval o X.env := by rfl)
    (hfew : ((backTo cpos (starEach (e :: es) X.env)).all (fun x => !x.1) && (backToKw cpos (keywordEach [] X.env)).all (fun x => x.1.isSome) && decide ((e :: es).length + ([] : List Keyword).length + (if ([] : List Keyword).isEmpty then 0 else 1) < 30)) = true := by rfl)
    (hline : (apos.endLine == cpos.line) = true := by rfl) (hs : starEach (e :: es) X.env = (false, eval e X.env) :: starEach es X.env := by rfl) (hplain : (backTo cpos (starEach es X.env)).any (·.1) = false := by rfl) :
    PE X (.Call (.Attribute o name apos) (e :: es) [] cpos) (fun τ H Q => to τ H fun x H1 => (∃ a ob vs, x = .ref a ∧ H1 a = some (.frz ob (.tup vs)) ∧ ob.dict = none) ∧ t τ H1 fun xs H2 => r x xs H2 Q) := by
  refine ⟨fun pins s τ H Q I h => ?_⟩
  refine wpAny_Call_method_late hbase hfew hline rfl (thn (ho.run pins s τ H _ I h) fun v s1 z => ?_)
  obtain ⟨x, H1, I1, r1, ⟨a, ob, vs, rfl, eo, hd⟩, q1⟩ := z
  obtain rfl : v = Value.ref a := r1
  obtain ⟨h1, _, its, _, ob2, h2, hc, _⟩ := (show ObjOk X.prog X.w H1 s1.heap a (.frz ob (.tup vs)) from I1.hok a _ eo)
  rw [h1] at h2
  cases h2
  refine ⟨"tuple", id, PySem.F.plainAttrs_tuple, slot, hty, ⟨ob, h1, hc⟩, fun b e2 => ?_, ?_⟩
  · cases e2
    exact ⟨ob, h1, hd⟩
  · have hA := ha.run cpos pins s1 τ H1 _ I1 q1
    rw [hs] at hA ⊢
    refine Calls.callWith_builtin (by show (false || (backTo cpos (starEach es X.env)).any (·.1)) = false; rw [hplain] <;> rfl) (Calls.evalArgs_plain (thn hA fun us s2 y => ?_))
    obtain ⟨ys, H2, I2, r2, q2⟩ := y
    exact hm pins s2 τ H2 (.ref a) ys _ us Q I2 (show L2.RelV (.ref a) (Value.ref a) from rfl) r2 q2
abbrev wTix (a b : DTE) : DTE := fun σ st Q => a σ st fun d st1 => match d with
  | .tux xs => b σ st1 fun y st2 => ∃ (ys : List Str) (z : Str) (j : Nat), xs = ys.map Dv.str ∧ y = .str z ∧ ys[j]? = some z ∧ (∀ m, m < j → ys[m]? ≠ some z) ∧ Q (.int (j : Nat)) st2
  | _ => False
theorem de_tix {o e : Expr} {wo we : DTE} {apos pos : Pos} (ho : DE X o wo) (he : DE X e we) (hs : starEach [e] X.env = (false, eval e X.env) :: starEach [] X.env := by rfl) (hbase : attributeBase o "index" X.env (eval o X.env) = eval o X.env := by rfl)
    (hfew : ((backTo pos (starEach [e] X.env)).all (fun x => !x.1) && (backToKw pos (keywordEach [] X.env)).all (fun x => x.1.isSome) && decide ([e].length + ([] : List Keyword).length + (if ([] : List Keyword).isEmpty then 0 else 1) < 30)) = true := by rfl)
    (hline : (apos.endLine == pos.line) = true := by rfl) : DE X (.Call (.Attribute o "index" apos) [e] [] pos) (wTix wo we) := by
  refine ⟨(pe_tm PySem.F.slot_tuple_index PySem.F.type_tuple_index mt_tup_index ho.pe (pa_cons he.pe pa_nil hs) hbase hfew hline hs rfl).imp fun τ H Q h => ?_, fun σ st Q Q' q h => ho.mono _ _ _ _ (fun d s h1 => ?_) h⟩
  · obtain ⟨ex, f, σ, st, r, er, h⟩ := h
    refine lE.use ho.mono r er h fun f1 H1 d st1 v s1 r1 e1 rd h1 => ?_
    split at h1
    · cases rd with
      | tux ea hsx =>
        obtain ⟨ob, ea, hd⟩ := ea
        refine ⟨⟨_, ob, _, rfl, ea, hd⟩, lE.use he.mono r1 e1 h1 fun f2 H2 y st2 u s2 r2 e2 ry ⟨ys, z, j, h2, h3, h4, h5, h6⟩ => ?_⟩
        subst h2
        subst h3
        cases ry
        have rd2 := (RD.tux ⟨ob, ea, hd⟩ hsx).mono s2 r1.cel
        cases rd2 with
        | tux eb hsb =>
          obtain rfl := RDs.strs_inv hsb
          exact ⟨_, ys, z, j, rfl, rfl, .inl (.inr (eb.imp fun _ q => q.1)), h4, h5, h6 f2 H2 _ (s1.trans s2) r2 (.int _)⟩
    · exact h1.elim
  · split at h1
    · exact he.mono _ _ _ _ (fun x s2 ⟨ys, z, j, h2, h3, h4, h5, h6⟩ => ⟨ys, z, j, h2, h3, h4, h5, q _ _ h6⟩) h1
    · exact h1.elim
end

/-! ### the law's end -/
def sLawOf (Sc : List Int → Prop) : Spec := ⟨List Int, fun ns => [.fro (ns.map Dv.int)], fun _ => [], fun ns => ns.length ≤ 63 ∧ Sc ns, fun _ d st => d = .bl true⟩
abbrev sLaw0 : Spec := sLawOf fun _ => True
theorem law_end {P : Program} {w : World} {K : PySem.W.Frag} {mg mb : Str → Option Value} {k : Nat} {fa a : Addr} {fd : FuncData} {x : Str} {s₁ : Shared} {vs : List Value} {ns : List Int}
    (KX : K.In s₁.heap) (hns : s₁.heap.Ns mainGlobals mg) (hb : s₁.heap.Ns builtinsNs mb) (hbb : ∀ x : Str, x ≠ "__name__" → mb x = bootBuiltins x) (hlim : s₁.heap.NoLimit) (hg : s₁.gens = #[])
    (ha : s₁.heap.get? a = some { cls := .type "list", data := .seq vs.toArray }) (hi : IntsAre vs ns) (hl : ns.length ≤ 63) (hr : Room k callerA)
    (F : ∀ base : Heap, K.In base → base.Ns mainGlobals mg → DFn P w K mg base k fa fd [x] sLaw0) (hbind : ∀ (s : Shared) (u : Value), BindsTo s fd ⟨[u], []⟩ [(x, u)]) :
    codeAny (model P w) callerA (.call (.ref fa) ⟨[.ref a], []⟩) (fun r s' => r = .ok (.ret (.bool true)) ∧ OldK s₁.heap s'.heap ∧ s'.os = s₁.os ∧ AllBare s'.gens) s₁ := by
  have rv : Vals (ns.map V.int) vs := vals_ints hi
  have hz : ns.length ≤ sizeLine := Nat.le_trans hl (by decide)
  -- the abstract heap: the script alone (or nothing, where it is one of the written things)
  have main : ∀ H0 : Hp, (∀ b u, H0 b = some u → b = a ∧ K.lookup a = none ∧ ∃ o xs, u = .frz o (.lst xs)) → (Rd H0 a (.lst (ns.map V.int)) ∨ KL K a (ns.map V.int)) → HOk P w H0 s₁.heap →
      codeAny (model P w) callerA (.call (.ref fa) ⟨[.ref a], []⟩) (fun r s' => r = .ok (.ret (.bool true)) ∧ OldK s₁.heap s'.heap ∧ s'.os = s₁.os ∧ AllBare s'.gens) s₁ := by
    intro H0 h0 hs hok
    have free : ∀ b, b ≠ a → H0 b = none := fun b hb => by
      cases q : H0 b with
      | none => rfl
      | some u => exact absurd (h0 b u q).1 hb
    have freeD : ∀ b o es ep, s₁.heap.get? b = some o → o.data = .dict es ep → H0 b = none := fun b o es ep e d => free b fun z => by
      rw [z, ha] at e
      cases e
      cases d
    have nsB : ∀ {b : Addr} {m : Str → Option Value}, s₁.heap.Ns b m → (hidT s₁.heap H0).Ns b m := fun {b m} z => by
      obtain ⟨o, es, ep, e, d, r⟩ := z
      exact ⟨o, es, ep, hidT_get e (freeD b o es ep e d), d, r⟩
    have kB : K.In (hidT s₁.heap H0) := fun b o e => hidT_get (KX b o e) (by
      cases q : H0 b with
      | none => rfl
      | some u =>
        obtain ⟨rfl, hk, _⟩ := h0 b u q
        rw [hk] at e
        cases e)
    obtain ⟨mc, hc1, hc2⟩ := hlim
    have e0 : Env0 P w K mg (hidT s₁.heap H0) callerA [] s₁ H0 :=
      ⟨rfl, ⟨kB, nsB hns, ⟨mb, nsB hb, hbb⟩, ⟨mc, nsB hc1, hc2⟩⟩, fun b o e => of_hidT e, Nat.le_of_eq (hidT_size _ _), trivial, fun b hb => absurd hb List.not_mem_nil, hok, .of_eq hg⟩
    have hsp : lSp K sLaw0 [.ref a] H0 (fun v _ => v = .bl true) (fun _ _ _ => False) := by
      refine ⟨fun _ => False, fun _ => 0, ns, ⟨fun m n hm => absurd hm (Nat.not_lt_zero _), fun n c e => absurd (show ([] : List Co)[n]? = some c from e) (by rw [List.getElem?_nil]; exact fun z => nomatch z), fun a q => q.elim, fun n hn => absurd hn (Nat.not_lt_zero _)⟩, .cons (.fro ?_ (RDs.ints ns)) .nil, ⟨hl, trivial⟩, fun d st' f' H' v hd s r rd => ?_⟩
      · exact hs.imp (fun q => ⟨q, fun z => z, fun n hn => absurd hn (Nat.not_lt_zero _)⟩) id
      · rw [show d = .bl true from hd] at rd
        cases rd
        rfl
    refine codeAny_mono ((F _ kB (nsB hns)).run callerA [] s₁ H0 ⟨[.ref a], []⟩ [.ref a] [.ref a] _ _ rfl hr e0 (hbind s₁ (.ref a)) (.cons rfl .nil) hsp) fun r s' h => ?_
    cases r with
    | error e => exact h.elim
    | ok fl =>
      cases fl with
      | ret u =>
        obtain ⟨v, H', os, bare, un, hok', r', q⟩ := h
        obtain rfl : v = .bl true := q
        obtain rfl : u = Value.bool true := r'
        refine ⟨rfl, OldK.of_keep fun b o e => ?_, os, bare⟩
        cases q : H0 b with
        | none => exact un.keep b o e q List.not_mem_nil List.not_mem_nil
        | some u =>
          obtain ⟨_, _, ob, xs, rfl⟩ := h0 b u q
          have z1 := (hok b _ q).1
          have z2 := (hok' b _ (un.frzs b ob _ q)).1
          rw [e] at z1
          cases z1
          exact z2
      | _ => exact h.elim
  cases hk : K.lookup a with
  | some o =>
    have e := KX a o hk
    rw [ha] at e
    cases e
    exact main (fun _ => none) (fun b u z => nomatch z) (.inr ⟨_, vs.toArray, _, hk, rfl, rfl, rfl, by rw [List.size_toArray, hi.length]; exact hz, rv⟩) fun b u z => nomatch z
  | none =>
    have hat : ∀ b u, (if b = a then some (HO.frz { cls := .type "list", data := .seq vs.toArray } (.lst (ns.map V.int))) else none) = some u → b = a ∧ u = .frz { cls := .type "list", data := .seq vs.toArray } (.lst (ns.map V.int)) := fun b u z => by
      split at z
      · rename_i hb
        cases z
        exact ⟨hb, rfl⟩
      · cases z
    refine main (fun b => if b = a then some (.frz { cls := .type "list", data := .seq vs.toArray } (.lst (ns.map V.int))) else none) (fun b u z => ?_) (.inl (.inr ⟨_, if_pos rfl⟩)) fun b u z => ?_
    · obtain ⟨h1, h2⟩ := hat b u z
      exact ⟨h1, hk, _, _, h2⟩
    · obtain ⟨rfl, rfl⟩ := hat b u z
      exact ⟨ha, by rw [List.length_map]; exact hz, vs, _, rv, ha⟩
theorem walkD {l : PySem.W.OpenLaw} {k : Nat} {q : Program} {loose : List Str} {XP : (Str → Option Value) → Heap → Prop} {YP : World → Heap → Prop} {d : DefRec} {K : Params → PySem.W.Frag} {x : Str}
    (hn : l.most = some 63) (hdf : d.params.defaults = []) (hr : Room k callerA) (hY : ∀ (w : World) (h : Heap), YP w h → (K w.params).In h)
    (F : ∀ (w : World) (mg : Str → Option Value) (fa : Addr) (h : Heap), (K w.params).In h → h.Ns mainGlobals mg → mg d.name = some (.ref fa) →
      ∃ fd : FuncData, (∀ (s : Shared) (u : Value), BindsTo s fd ⟨[u], []⟩ [(x, u)]) ∧ ∀ base : Heap, (K w.params).In base → base.Ns mainGlobals mg → DFn l.prog w (K w.params) mg base k fa fd [x] sLaw0) :
    PySem.W.WalkO q loose XP YP l.row.toRowW d [] (fun f vs => PySem.call f vs) := by
  refine Att.attach_call hn hdf fun w s₀ s₁ mg mb fa o pm cd doc a vs ns G Y ho hd hcd hmg hobj hints hlen hg => ?_
  obtain ⟨fd, hb, hF⟩ := F w mg fa _ (hY w _ Y) G.T.g hmg
  exact law_end (hY w _ Y) G.T.g G.T.b G.T.builtins G.T.nolimit hg hobj hints hlen hr hF hb
end D2

/-! DL, part g: promises of two kinds (a function of its arguments; a draw), their calls; comprehensions and loops by turns. -/
namespace D2
open PySem PySem.Spec PyProof.Rows L2

/-- a def as the program's top has written it -/
structure Fn1 (K : PySem.W.Frag) (mg : Str → Option Value) (x : Str) (st : Stmt) (ps : List Str) where
  f : Addr
  fd : FuncData
  F : Fun K x x st f fd
  b : Binds K fd ps []
  m : mg x = some (.ref f)

theorem DE.imp {X : Cx} {e : Expr} {w u : DTE} (h : DE X e w) (m : MonoE u) (i : ∀ σ st Q, u σ st Q → w σ st Q) : DE X e u :=
  ⟨h.pe.imp fun τ H Q ⟨ex, f, σ, st, r, er, q⟩ => ⟨ex, f, σ, st, r, er, i _ _ _ q⟩, m⟩

/-! ### a function of its arguments -/
def Spec.fn {I : Type} (args : I → List Dv) (pre : I → Prop) (F : I → Dv → Prop) : Spec := ⟨I, args, fun _ => [], pre, fun i d st => st = [] ∧ Nr d ∧ F i d⟩
abbrev wFn {I : Type} (args : I → List Dv) (pre : I → Prop) (F : I → Dv → Prop) (a : DTA) : DTE := fun σ st Q => a σ st fun ds st1 => ∃ i, ds = args i ∧ Nrs ds ∧ pre i ∧ ∀ d, Nr d → F i d → Q d st1
theorem wFn_mono {I : Type} {args : I → List Dv} {pre : I → Prop} {F : I → Dv → Prop} {a : DTA} (m : MonoA a) : MonoE (wFn args pre F a) :=
  fun σ st Q Q' q h => m _ _ _ _ (fun ds s1 ⟨i, h1, h2, h3, h4⟩ => ⟨i, h1, h2, h3, fun d n hp => q _ _ (h4 d n hp)⟩) h
theorem DE.fn {X : Cx} {e : Expr} {I : Type} {args : I → List Dv} {pre : I → Prop} {F : I → Dv → Prop} {a : DTA} (h : DE X e (wPure (Spec.fn args pre F) a)) (m : MonoA a) : DE X e (wFn args pre F a) :=
  h.imp (wFn_mono m) fun σ st Q q => m _ _ _ _ (fun ds s1 ⟨i, h1, h2, h3, h4⟩ => ⟨i, h1, h2, rfl, h3, fun d st2 hp => ⟨hp.1, hp.2.1, h4 d hp.2.1 hp.2.2⟩⟩) q

/-! ### a draw -/
def DSt (b : Int) (cs : List Int) (rest : Sto) : Sto := .lst (cs.map Dv.int) :: .lst [.ref 0, .int b] :: rest
def okD (b : Int) (cs : List Int) : Prop := 0 ≤ b ∧ b < 2147483647 ∧ (∀ c ∈ cs, 0 ≤ c) ∧ cs.length ≤ 63
/-- a store from which one draws: its other cells are rest -/
def Dr (rest : Sto) (st : Sto) : Prop := ∃ b cs, okD b cs ∧ st = DSt b cs rest
def Spec.dr {I : Type} (args : I → List Dv) (pre : Sto → I → Prop) (F : I → Dv → Prop) : Spec :=
  ⟨Int × List Int × Sto × I, fun i => .ref 1 :: args i.2.2.2, fun i => DSt i.1 i.2.1 i.2.2.1, fun i => okD i.1 i.2.1 ∧ pre i.2.2.1 i.2.2.2, fun i d st => Dr i.2.2.1 st ∧ F i.2.2.2 d⟩
abbrev wDr {I : Type} (args : I → List Dv) (pre : Sto → I → Prop) (F : I → Dv → Prop) (a : DTA) : DTE := fun σ st Q => a σ st fun ds st1 => ∃ rest i, Dr rest st1 ∧ ds = .ref 1 :: args i ∧ pre rest i ∧ ∀ d st2, Dr rest st2 → F i d → Q d st2
theorem wDr_mono {I : Type} {args : I → List Dv} {pre : Sto → I → Prop} {F : I → Dv → Prop} {a : DTA} (m : MonoA a) : MonoE (wDr args pre F a) :=
  fun σ st Q Q' q h => m _ _ _ _ (fun ds s1 ⟨r, i, h1, h2, h3, h4⟩ => ⟨r, i, h1, h2, h3, fun d n h5 hp => q _ _ (h4 d n h5 hp)⟩) h
theorem DE.dr {X : Cx} {e : Expr} {I : Type} {args : I → List Dv} {pre : Sto → I → Prop} {F : I → Dv → Prop} {a : DTA} (h : DE X e (wCall (Spec.dr args pre F) a)) (m : MonoA a) : DE X e (wDr args pre F a) :=
  h.imp (wDr_mono m) fun σ st Q q => m _ _ _ _ (fun ds s1 ⟨r, i, ⟨b, cs, ok, e⟩, h2, h3, h4⟩ => ⟨(b, cs, r, i), h2, e, ⟨ok, h3⟩, fun d st2 hp => h4 d st2 hp.1 hp.2⟩) q

/-! ### the calls, as rules -/
section
variable {X : Cx} {k : Nat} {fa : Addr} {fd : FuncData} {ps ks : List Str} {x : Str} {p pos : Pos} {e : Expr} {es : List Expr} {kws : List Keyword} {wa wk : DTA} {I : Type} {args : I → List Dv} {pre : I → Prop} {preD : Sto → I → Prop} {R : I → Dv → Prop}
theorem de_fn (F : DFn X.prog X.w X.K X.mg X.base k fa fd ps (Spec.fn args pre R)) (hgu : X.A.guards = some []) (hr : Room k X.A) (hg : Gl X x) (hm : X.mg x = some (.ref fa)) (hk : PySem.W.keepIn X.K (.ref fa) = true) (hb : Binds X.K fd ps [])
    (ha : DA X (e :: es) wa) (hdb : (x == ("__debug__" : Str)) = false := by decide) (he : starEach (e :: es) X.env = (false, eval e X.env) :: starEach es X.env := by rfl) (hpl : (backTo pos (starEach es X.env)).any (·.1) = false := by rfl) :
    DE X (.Call (.Name x p) (e :: es) [] pos) (wFn args pre R wa) := (de_pure F hgu hr hg hm hk hb ha hdb he hpl).fn ha.mono
theorem de_dr (F : DFn X.prog X.w X.K X.mg X.base k fa fd ps (Spec.dr args preD R)) (hgu : X.A.guards = some []) (hr : Room k X.A) (hg : Gl X x) (hm : X.mg x = some (.ref fa)) (hk : PySem.W.keepIn X.K (.ref fa) = true) (hb : Binds X.K fd ps [])
    (ha : DA X (e :: es) wa) (hdb : (x == ("__debug__" : Str)) = false := by decide) (he : starEach (e :: es) X.env = (false, eval e X.env) :: starEach es X.env := by rfl) (hpl : (backTo pos (starEach es X.env)).any (·.1) = false := by rfl) :
    DE X (.Call (.Name x p) (e :: es) [] pos) (wDr args preD R wa) := (de_call F hgu hr hg hm hk hb ha hdb he hpl).dr ha.mono
variable {g : List Value → List Value → List Value} {gV : List V → List V → List V} {gD : List Dv → List Dv → List Dv}
theorem de_fn0 (F : DFn X.prog X.w X.K X.mg X.base k fa fd ps (Spec.fn args pre R)) (hgu : X.A.guards = some []) (hr : Room k X.A) (hg : Gl X x) (hm : X.mg x = some (.ref fa)) (hk : PySem.W.keepIn X.K (.ref fa) = true) (hb : KB fd ps ks 0 g gV) (hG : GRel 0 ks.length gD gV)
    (hkw : DK1 X kws wk) (hall : (backToKw pos (keywordEach kws X.env)).all (·.1.isSome) = true := by rfl) (hks : (backToKw pos (keywordEach kws X.env)).filterMap (·.1) = ks := by rfl)
    (hdb : (x == ("__debug__" : Str)) = false := by decide) (hpl : ((backTo pos (starEach [] X.env)).any (·.1) || (backToKw pos (keywordEach kws X.env)).any (·.1.isNone)) = false := by rfl) :
    DE X (.Call (.Name x p) [] kws pos) (wFn args pre R (wOrd 0 ks.length gD wNil wk)) := (de_pure0 F hgu hr hg hm hk hb hG hkw hall hks hdb hpl).fn (wOrd_mono (da_nil (X := X)).mono hkw.mono)
end

/-! ### comprehensions by turns -/
/-- each turn makes one item, the cells as in R -/
theorem lc_all {t : Tg} {we : DTE} {vs : List Nat} {σ : En} {st1 : Sto} {Q : List Dv → Sto → Prop} {xs : List Dv} {R : Sto → Prop} {P : Nat → Dv → Prop}
    (h0 : R st1) (hz : xs.length ≤ sizeLine)
    (turn : ∀ (i : Nat) (x : Dv) (st' : Sto), xs[i]? = some x → R st' → ∃ σ2, tgD t x (wipeD σ vs) = some σ2 ∧ ∀ Q' : DK, (∀ y st3, P i y → R st3 → Q' y st3) → we σ2 st' Q')
    (fin : ∀ ys st', R st' → ys.length = xs.length → (∀ i y, ys[i]? = some y → P i y) → Q ys st') : lcIn t wYes we vs σ Q xs none st1 := by
  unfold lcIn
  refine ⟨fun i acc st' => R st' ∧ acc.length = i ∧ ∀ j y, acc[j]? = some y → P j y, ⟨h0, rfl, fun j y e => by simp at e⟩, fun _ _ _ _ n e => (nomatch e), fun i x acc st' e ⟨hR, hl, hP⟩ => ?_, fun acc st' ⟨hR, hl, hP⟩ => fin acc st' hR hl hP⟩
  have hi2 : i < xs.length := (List.getElem?_eq_some_iff.mp e).1
  refine ⟨by omega, ?_⟩
  obtain ⟨σ2, h1, h2⟩ := turn i x st' e hR
  refine ⟨σ2, h1, ?_⟩
  simp only [wYes, ↓reduceIte]
  refine h2 _ (fun y st3 h3 hR3 => ⟨hR3, by simp [hl], fun j z ez => ?_⟩)
  by_cases hj : j < acc.length
  · rw [List.getElem?_append_left hj] at ez
    exact hP j z ez
  · rw [List.getElem?_append_right (by omega)] at ez
    have e0 : j - acc.length = 0 := by
      have := (List.getElem?_eq_some_iff.mp ez).1
      simp at this
      omega
    rw [e0] at ez
    cases ez
    have : j = i := by omega
    subst this
    exact h3
/-- the same, with a test: what is kept fulfils P -/
theorem lc_some {t : Tg} {wt : DTT} {we : DTE} {vs : List Nat} {σ : En} {st1 : Sto} {Q : List Dv → Sto → Prop} {xs : List Dv} {R : Sto → Prop} {P : Dv → Prop}
    (h0 : R st1) (hz : xs.length ≤ sizeLine)
    (turn : ∀ (i : Nat) (x : Dv) (st' : Sto), xs[i]? = some x → R st' → ∃ σ2, tgD t x (wipeD σ vs) = some σ2 ∧ ∀ QT : Bool → Sto → Prop, (∀ st2, R st2 → QT false st2) → (∀ st2, R st2 → (∀ Q' : DK, (∀ y st3, P y → R st3 → Q' y st3) → we σ2 st2 Q') → QT true st2) → wt σ2 st' QT)
    (fin : ∀ ys st', R st' → ys.length ≤ xs.length → (∀ y ∈ ys, P y) → Q ys st') : lcIn t wt we vs σ Q xs none st1 := by
  unfold lcIn
  refine ⟨fun i acc st' => R st' ∧ acc.length ≤ i ∧ ∀ y ∈ acc, P y, ⟨h0, Nat.le_refl _, fun y hy => by simp at hy⟩, fun _ _ _ _ n e => (nomatch e), fun i x acc st' e ⟨hR, hl, hP⟩ => ?_, fun acc st' ⟨hR, hl, hP⟩ => fin acc st' hR hl hP⟩
  have hi2 : i < xs.length := (List.getElem?_eq_some_iff.mp e).1
  refine ⟨by omega, ?_⟩
  obtain ⟨σ2, h1, h2⟩ := turn i x st' e hR
  refine ⟨σ2, h1, h2 _ (fun st2 hR2 => ?_) fun st2 hR2 hw => ?_⟩
  · rw [if_neg (by simp)]
    exact ⟨hR2, by omega, hP⟩
  · rw [if_pos rfl]
    refine hw _ (fun y st3 h3 hR3 => ⟨hR3, by simp; omega, fun z hz => ?_⟩)
    rcases List.mem_append.mp hz with q | q
    · exact hP z q
    · simp at q
      rw [q]
      exact h3

/-! ### Nr by computing -/
theorem Nr.ints (l : List Int) : Nrs (l.map Dv.int) := Nrs.of fun d hd => by
  obtain ⟨i, _, rfl⟩ := List.mem_map.mp hd
  exact .int i
theorem Nr.strs (l : List Str) : Nrs (l.map Dv.str) := Nrs.of fun d hd => by
  obtain ⟨i, _, rfl⟩ := List.mem_map.mp hd
  exact .str i
theorem Nrs.append {xs ys : List Dv} (a : Nrs xs) (b : Nrs ys) : Nrs (xs ++ ys) := Nrs.of fun d hd => (List.mem_append.mp hd).elim (a.mem d) (b.mem d)
theorem Nrs.get {xs : List Dv} {i : Nat} {d : Dv} (a : Nrs xs) (h : xs[i]? = some d) : Nr d := a.mem d (List.mem_of_getElem? h)
/-! ### keywords in the parameters' order -/
def ordL {α : Type} (ix : List Nat) : List α → List α → List α := fun xs ys => ix.filterMap fun i => (xs ++ ys)[i]?
theorem RDs.pick {K : PySem.W.Frag} {ex : Addr → Prop} {f : Nat → Addr} {k : Nat} {H : Hp} {ds : List Dv} {vs : List V} (h : RDs K ex f k H ds vs) : ∀ ix : List Nat, RDs K ex f k H (ix.filterMap fun i => ds[i]?) (ix.filterMap fun i => vs[i]?)
  | [] => .nil
  | i :: ix => by
    cases e : ds[i]? with
    | none =>
      have e2 : vs[i]? = none := by
        rw [List.getElem?_eq_none_iff] at *
        rw [← h.length]
        exact e
      rw [List.filterMap_cons_none e, List.filterMap_cons_none e2]
      exact RDs.pick h ix
    | some d =>
      obtain ⟨v, e2, r⟩ := h.get e
      rw [List.filterMap_cons_some e, List.filterMap_cons_some e2]
      exact .cons r (RDs.pick h ix)
theorem grel_ord {n m : Nat} (ix : List Nat) : GRel n m (ordL ix) (ordL ix) := fun K ex f k H xs ys vs zs _ _ h1 h2 => (h1.append h2).pick ix
theorem vals_pick {vs : List V} {us : List Value} (h : Vals vs us) : ∀ ix : List Nat, Vals (ix.filterMap fun i => vs[i]?) (ix.filterMap fun i => us[i]?)
  | [] => .nil
  | i :: ix => by
    cases e : vs[i]? with
    | none =>
      have e2 : us[i]? = none := by
        rw [List.getElem?_eq_none_iff] at *
        rw [← h.length]
        exact e
      rw [List.filterMap_cons_none e, List.filterMap_cons_none e2]
      exact vals_pick h ix
    | some v =>
      obtain ⟨u, e2, r⟩ := h.get e
      rw [List.filterMap_cons_some e, List.filterMap_cons_some e2]
      exact .cons r (vals_pick h ix)
theorem KB.ord {fd : FuncData} {ps ks : List Str} {n : Nat} {ix : List Nat} (to : ∀ (s : Shared) (us ws : List Value), us.length = n → ws.length = ks.length → BindsTo s fd ⟨us, ks.zip ws⟩ (ps.zip (ordL ix us ws))) : KB fd ps ks n (ordL ix) (ordL ix) :=
  ⟨to, fun h1 h2 h3 h4 => vals_pick (h3.append h4) ix⟩
theorem kb_by {K : PySem.W.Frag} {x qual : Str} {st : Stmt} {f : Addr} {fd : FuncData} {ps ks : List Str} {n : Nat} {ix : List Nat} (F : Fun K x qual st f fd)
    (h : ∀ (kV doc pm : Value) (an : Option Addr) (cdv ct : Value) (us ws : List Value), us.length = n → ws.length = ks.length → bindArgs (PySem.W.fnOf x qual (defArgs st) (defBody st) (defScope st) .none kV doc pm an cdv ct) ⟨us, ks.zip ws⟩ = pure (ps.zip (ordL ix us ws))) : KB fd ps ks n (ordL ix) (ordL ix) := by
  obtain ⟨oc, od, kV, doc, pm, an, cdv, ct, osl, rfl, lk, hcd⟩ := F.ex
  exact .ord fun s us ws h1 h2 => .of_eq (h kV doc pm an cdv ct us ws h1 h2)
/-- what is asked of a def's body -/
def PL (N : List Str) (W : DTS) (S : Spec) : Prop := ∀ i, S.pre i → W { nx := fun _ st' => Back (S.st i).length (S.post i) .non st', rt := Back (S.st i).length (S.post i) } (startD N (S.args i)) (S.st i)
/-- nothing is promised -/
theorem dfn_never {P : Program} {w : World} {K : PySem.W.Frag} {mg : Str → Option Value} {base : Heap} {k : Nat} {f : Addr} {fd : FuncData} {ps : List Str} {S : Spec} (h : ∀ i, ¬ S.pre i) : DFn P w K mg base k f fd ps S :=
  ⟨fun vs H Q E ⟨_, _, i, _, _, p, _⟩ => absurd p (h i), fun A outer s H args us vs Q E hg hr he hb hv ⟨_, _, i, _, _, p, _⟩ => absurd p (h i)⟩
/-- ways to end -/
theorem back_fn {I : Type} {args : I → List Dv} {pre : I → Prop} {F : I → Dv → Prop} {i : I} {d : Dv} (n : Nr d) (h : F i d) : Back ((Spec.fn args pre F).st i).length ((Spec.fn args pre F).post i) d [] := .inl ⟨⟨rfl, n, h⟩, Nat.le_refl _⟩
theorem back_dr {I : Type} {args : I → List Dv} {pre : Sto → I → Prop} {F : I → Dv → Prop} {b : Int} {cs : List Int} {rest : Sto} {i : I} {d : Dv} {st : Sto} (h : Dr rest st) (hF : F i d) : Back ((Spec.dr args pre F).st (b, cs, rest, i)).length ((Spec.dr args pre F).post (b, cs, rest, i)) d st := by
  refine .inl ⟨⟨h, hF⟩, ?_⟩
  obtain ⟨b2, cs2, _, rfl⟩ := h
  exact Nat.le_refl _
end D2

/-! DL, part h: small steps of a reading; the draws. -/
namespace D2
open PySem PySem.Spec PyProof.Rows L2
section
variable {st : Sto} {Q : DK}
theorem ix {x d : Dv} {xs : List Dv} {i : Int} (h : seqD st x = some xs) (e : atI xs i = some d) (q : Q d st) : gIx x (.int i) st Q := by
  unfold gIx
  cases x <;> first | exact ⟨xs, d, h, e, q⟩ | (simp [seqD, tupD, lstD] at h)
theorem ixS {z : Str} {i : Int} {c : Nat} (hz : z.length ≤ sizeLine) (e : atI z.cps.toList i = some c) (q : Q (.str ⟨#[c]⟩) st) : gIx (.str z) (.int i) st Q := by
  unfold gIx
  exact ⟨hz, c, e, q⟩
theorem len {x : Dv} {xs : List Dv} (h : seqD st x = some xs) (q : Q (.int xs.length) st) : gLen x st Q := by
  unfold gLen
  cases x <;> first | exact ⟨xs, h, q⟩ | (simp [seqD, tupD, lstD] at h)
theorem lenS {z : Str} (hz : z.length ≤ sizeLine) (q : Q (.int z.length) st) : gLen (.str z) st Q := by
  unfold gLen
  exact ⟨hz, q⟩
theorem eqI {a b : Int} {neg : Bool} (q : Q (.bl (if neg then !decide (a = b) else decide (a = b))) st) : gEq neg (.int a) (.int b) st Q := by
  unfold gEq
  exact q
theorem eqS {a b : Str} {neg : Bool} (q : Q (.bl (if neg then !decide (a = b) else decide (a = b))) st) : gEq neg (.str a) (.str b) st Q := by
  unfold gEq
  exact q
theorem eqB {a b : Bool} {neg : Bool} (q : Q (.bl (if neg then !decide (a = b) else decide (a = b))) st) : gEq neg (.bl a) (.bl b) st Q := by
  unfold gEq
  exact q
theorem eqT {a b : List Dv} {p q : List PyData} {neg : Bool} (h1 : DPs st a p) (h2 : DPs st b q) (s1 : SeqAt.shaped (.tuple p) = true) (s2 : SeqAt.shaped (.tuple q) = true) (k : Q (.bl (if neg then !PyData.eqv (.tuple p) (.tuple q) else PyData.eqv (.tuple p) (.tuple q))) st) : gEq neg (.tup a) (.tup b) st Q := by
  unfold gEq
  exact ⟨_, _, .tup rfl h1, .tup rfl h2, s1, s2, k⟩
theorem addI {a b : Int} (q : Q (.int (a + b)) st) : gAdd (.int a) (.int b) st Q := by
  unfold gAdd
  exact q
theorem addS {a b : Str} (h : a.length + b.length ≤ sizeLine) (q : Q (.str (a ++ b)) st) : gAdd (.str a) (.str b) st Q := by
  unfold gAdd
  exact ⟨h, q⟩
theorem addT {a b : List Dv} (h : a.length + b.length ≤ sizeLine) (q : Q (.tup (a ++ b)) st) : gAdd (.tup a) (.tup b) st Q := by
  unfold gAdd
  exact ⟨h, q⟩
theorem addL {a b : List Dv} (h : a.length + b.length ≤ sizeLine) (q : Q (.rol (a ++ b)) st) : gAdd (.rol a) (.rol b) st Q := by
  unfold gAdd
  exact ⟨a, b, rfl, rfl, h, q⟩
theorem mulI {a b : Int} (h : CMul a b) (q : Q (.int (a * b)) st) : gMul (.int a) (.int b) st Q := by
  unfold gMul
  exact ⟨h, q⟩
theorem mulT {xs : List Dv} {n : Int} (h : xs ≠ [] ∧ 2 ≤ n ∧ n ≤ 1000 ∧ xs.length ≤ 1000) (q : Q (.tup (List.replicate n.toNat xs).flatten) st) : gMul (.tup xs) (.int n) st Q := by
  unfold gMul
  exact ⟨h, q⟩
theorem opI2 {C : Int → Int → Prop} {g : Int → Int → Int} {a b : Int} (h : C a b) (q : Q (.int (g a b)) st) : gI C g (.int a) (.int b) st Q := by
  unfold gI
  exact ⟨h, q⟩
theorem modI {a b : Int} (h : 0 < b) (q : Q (.int (a % b)) st) : gI (fun _ j => 0 < j) (fun a b => a % b) (.int a) (.int b) st Q := by
  unfold gI
  exact ⟨h, q⟩
theorem divI {a b : Int} (h : CDiv a b) (q : Q (.int (a / b)) st) : gI CDiv (fun a b => a / b) (.int a) (.int b) st Q := by
  unfold gI
  exact ⟨h, q⟩
theorem subI {a b : Int} (q : Q (.int (a - b)) st) : gI (fun _ _ => True) (fun a b => a - b) (.int a) (.int b) st Q := by
  unfold gI
  exact ⟨trivial, q⟩
theorem powI {a b : Int} (h : CPow a b) (q : Q (.int (a ^ b.toNat)) st) : gI CPow (fun a b => a ^ b.toNat) (.int a) (.int b) st Q := by
  unfold gI
  exact ⟨h, q⟩
theorem opB2 {g : Int → Int → Bool} {a b : Int} (q : Q (.bl (g a b)) st) : gB g (.int a) (.int b) st Q := by
  unfold gB
  exact q
theorem inS {a : Str} {y : Dv} {ys : List Str} {neg : Bool} (h : seqD st y = some (ys.map Dv.str)) (q : Q (.bl (if neg then !decide (a ∈ ys) else decide (a ∈ ys))) st) : gIn neg (.str a) y st Q := by
  unfold gIn
  cases y <;> first | exact ⟨ys, h, q⟩ | (simp [seqD, tupD, lstD] at h)
theorem inI {a : Int} {y : Dv} {ys : List Int} {neg : Bool} (h : seqD st y = some (ys.map Dv.int)) (q : Q (.bl (if neg then !decide (a ∈ ys) else decide (a ∈ ys))) st) : gIn neg (.int a) y st Q := by
  unfold gIn
  cases y <;> first | exact ⟨ys, h, q⟩ | (simp [seqD, tupD, lstD] at h)
theorem tupL {x : Dv} {xs : List Dv} (h : lstD st x = some xs) (q : Q (.tup xs) st) : gTuple x st Q := by
  unfold gTuple
  cases x <;> first | exact ⟨xs, h, q⟩ | (simp [lstD] at h)
theorem slS {z : Str} {lo hi : Option Int} (h : z.length ≤ sizeLine) (q : Q (.str (cutS z lo hi)) st) : gSl (.str z) lo hi st Q := by
  unfold gSl
  exact ⟨h, q⟩
theorem slT {xs : List Dv} {lo hi : Option Int} (q : Q (.tup (cutD xs lo hi)) st) : gSl (.tup xs) lo hi st Q := by
  unfold gSl
  exact q
theorem eqIt {a b : Int} (h : a = b) (q : Q (.bl true) st) : gEq false (.int a) (.int b) st Q := eqI (by rw [decide_eq_true h]; exact q)
theorem eqIf {a b : Int} (h : a ≠ b) (q : Q (.bl false) st) : gEq false (.int a) (.int b) st Q := eqI (by rw [decide_eq_false h]; exact q)
theorem neS {a b : Str} (h : a = b) (q : Q (.bl false) st) : gEq true (.str a) (.str b) st Q := eqS (by rw [decide_eq_true h]; exact q)
theorem neB {a b : Bool} (h : a = b) (q : Q (.bl false) st) : gEq true (.bl a) (.bl b) st Q := eqB (by rw [decide_eq_true h]; exact q)
theorem isN {d : Dv} {neg : Bool} (h : d ≠ .non) (q : Q (.bl neg) st) : gIs neg d .non st Q := by
  unfold gIs
  cases d <;> first | exact q | exact absurd rfl h
theorem isNon {neg : Bool} (q : Q (.bl (!neg)) st) : gIs neg .non .non st Q := by
  unfold gIs
  exact q
theorem iteC {k : Bool} {A B : Prop} (h1 : k = true → A) (h2 : k = false → B) : if k = true then A else B := by
  cases k with
  | true => exact h1 rfl
  | false => exact h2 rfl
theorem iteT {k : Bool} {A B : Prop} (hk : k = true) (h : A) : if k = true then A else B := by
  rw [if_pos hk]
  exact h
theorem iteF {k : Bool} {A B : Prop} (hk : k = false) (h : B) : if k = true then A else B := by
  rw [hk]
  exact h
end
theorem mod_nat {r n : Int} (h : 0 < n) : ∃ k : Nat, (k : Int) < n ∧ r % n = k := ⟨(r % n).toNat, by have := Int.emod_lt_of_pos r h; have := Int.emod_nonneg r (Int.ne_of_gt h); omega, by have := Int.emod_nonneg r (Int.ne_of_gt h); omega⟩

/-! ### a list of ints against [] -/
theorem DPs.ints (st : Sto) : ∀ cs : List Int, DPs st (cs.map Dv.int) (cs.map PyData.int)
  | [] => .nil
  | c :: cs => .cons (.int c) (DPs.ints st cs)
theorem lay_ints : ∀ cs : List Int, PyData.canLayAll0 (cs.map PyData.int) = true
  | [] => rfl
  | c :: cs => by simp only [List.map_cons, PyData.canLayAll0, PyData.canLay0, lay_ints cs, Bool.and_self]
theorem dep_ints : ∀ cs : List Int, PyData.depthAll (cs.map PyData.int) = 0
  | [] => rfl
  | c :: cs => by simp only [List.map_cons, PyData.depthAll, PyData.depth, dep_ints cs, Nat.max_self]
theorem shp_ints (cs : List Int) : SeqAt.shaped (.list (cs.map PyData.int)) = true := by
  unfold SeqAt.shaped
  rw [PyData.canLay0, PyData.depth, lay_ints, dep_ints]
  rfl
theorem eq_cs {b : Int} {cs : List Int} {rest : Sto} {Q : DK} (q : Q (.bl (!cs.isEmpty)) (DSt b cs rest)) : gEq true (.ref 0) (.rol []) (DSt b cs rest) Q := by
  unfold gEq
  refine ⟨.list (cs.map .int), .list [], .lst rfl (DPs.ints _ cs), .lst rfl .nil, shp_ints cs, rfl, ?_⟩
  cases cs with
  | nil => exact q
  | cons c cs => exact q
theorem at_last (cs : List Int) (c : Int) : atI ((cs ++ [c]).map Dv.int) (-1) = some (.int c) := by
  rw [List.map_append]
  exact atI_last _ _
theorem okD.drop {b : Int} {cs : List Int} {c : Int} (h : okD b (cs ++ [c])) : okD b cs := ⟨h.1, h.2.1, fun x hx => h.2.2.1 x (by simp [hx]), by have := h.2.2.2; simp at this; omega⟩

/-! ### one draw: the def _law_any(draws, bound) -/
def nat (n : Nat) : Dv := .int (n : Int)
abbrev A_law_any (n : Nat) : List Dv := [nat n]
abbrev P_law_any (_ : Sto) (n : Nat) : Prop := 0 < n ∧ n < 1073741824
abbrev R_law_any (n : Nat) (d : Dv) : Prop := ∃ r : Nat, r < n ∧ d = nat r
abbrev W_anyC (c : Int) : DTS :=
  (wSeq (wWhile (wAnd (wB (w2 (gEq true) (w2 gIx (wVar 0) (wC (.int 0))) (wRol wNil))) (wB (w2 (gEq false) (w2 gIx (w2 gIx (wVar 0) (wC (.int 0))) (wNeg (wC (.int 1)))) (wC (.int 0))))) (wDrop (wPop (w2 gIx (wVar 0) (wC (.int 0))))))
  (wSeq (wIf (wB (w2 (gEq true) (w2 gIx (wVar 0) (wC (.int 0))) (wRol wNil))) (wSeq (wSet 2 (wCB (g1 gInt) (wCons (wPop (w2 gIx (wVar 0) (wC (.int 0)))) wNil)))
  (wSeq (wDrop (wApp (w2 gIx (wVar 0) (wC (.int 0))) (w2 (gI CDiv fun a b => a / b) (wVar 2) (wVar 1))))
  (wRet (w2 (gI (fun _ j => 0 < j) fun a b => a % b) (wVar 2) (wVar 1))))) wNext)
  (wSeq (wSto (w2 (gI (fun _ j => 0 < j) fun a b => a % b) (wCB (g1 gInt) (wCons (w2 gAdd (w2 gMul (w2 gIx (wVar 0) (wC (.int 1))) (wC (.int 48271))) (wC (.int c))) wNil)) (wC (.int 2147483647))) (wVar 0) (wC (.int 1)))
  (wRet (w2 (gI (fun _ j => 0 < j) fun a b => a % b) (wCB (g1 gInt) (wCons (w2 (gI CDiv fun a b => a / b) (w2 gIx (wVar 0) (wC (.int 1))) (wC (.int 64))) wNil)) (wVar 1))))))
abbrev N_law_any : List Str := ["draws", "bound", "rest"]
theorem p_anyC (c0 : Int) : PL N_law_any (W_anyC c0) (D2.Spec.dr A_law_any P_law_any R_law_any) := by
  rintro ⟨b, cs, rest, n⟩ ⟨ok, hn⟩
  have hn0 : 0 < n := hn.1
  have hn1 : n < 1073741824 := hn.2
  clear hn
  show W_anyC c0 _ [some (.ref 1), some (nat n), none] (DSt b cs rest)
  generalize hD : ({ nx := _, rt := _ } : DEnds) = D
  have fin : ∀ d st', Dr rest st' → R_law_any n d → D.rt d st' := fun d st' h1 h2 => by
    rw [← hD]
    exact back_dr h1 h2
  have D0 : ∀ (r : Int) st', Dr rest st' → D.rt (.int (r % (n : Int))) st' := fun r st' h => by
    obtain ⟨k, h1, h2⟩ := mod_nat (r := r) (n := (n : Int)) (by omega)
    exact fin _ _ h ⟨k, by omega, by rw [h2]; rfl⟩
  clear hD fin
  -- the loop takes zeros away
  refine Exists.intro (fun m σ st => σ = [some (.ref 1), some (nat n), none] ∧ ∃ cs, m = cs.length ∧ okD b cs ∧ st = DSt b cs rest) (And.intro ⟨cs.length, rfl, cs, rfl, ok, rfl⟩ ?_)
  rintro m σ st ⟨rfl, cs, rfl, ok, rfl⟩
  refine ix (xs := [.ref 0, .int b]) rfl rfl ?_
  refine And.intro (Nat.zero_le _) ?_
  refine eq_cs ?_
  -- behind the loop, no zero at its end
  have after : ∀ cs, okD b cs → (wSeq (wIf (wB (w2 (gEq true) (w2 gIx (wVar 0) (wC (.int 0))) (wRol wNil))) (wSeq (wSet 2 (wCB (g1 gInt) (wCons (wPop (w2 gIx (wVar 0) (wC (.int 0)))) wNil)))
      (wSeq (wDrop (wApp (w2 gIx (wVar 0) (wC (.int 0))) (w2 (gI CDiv fun a b => a / b) (wVar 2) (wVar 1))))
      (wRet (w2 (gI (fun _ j => 0 < j) fun a b => a % b) (wVar 2) (wVar 1))))) wNext)
      (wSeq (wSto (w2 (gI (fun _ j => 0 < j) fun a b => a % b) (wCB (g1 gInt) (wCons (w2 gAdd (w2 gMul (w2 gIx (wVar 0) (wC (.int 1))) (wC (.int 48271))) (wC (.int c0))) wNil)) (wC (.int 2147483647))) (wVar 0) (wC (.int 1)))
      (wRet (w2 (gI (fun _ j => 0 < j) fun a b => a % b) (wCB (g1 gInt) (wCons (w2 (gI CDiv fun a b => a / b) (w2 gIx (wVar 0) (wC (.int 1))) (wC (.int 64))) wNil)) (wVar 1))))) D [some (.ref 1), some (nat n), none] (DSt b cs rest) := by
    intro cs ok
    refine ix (xs := [.ref 0, .int b]) rfl rfl ?_
    refine And.intro (Nat.zero_le _) ?_
    refine eq_cs ?_
    rcases List.eq_nil_or_concat cs with rfl | ⟨cs, c, rfl⟩
    · refine iteF rfl ?_
      -- draws[1] = ..
      refine ix (xs := [.ref 0, .int b]) rfl rfl ?_
      refine mulI (.inr (show -(2 ^ 64) < (48271 : Int) ∧ (48271 : Int) < 2 ^ 64 by decide)) ?_
      refine addI ?_
      refine modI (by decide) ?_
      refine Exists.intro [.ref 0, .int b] ?_
      refine Exists.intro 1 ?_
      refine And.intro rfl ?_
      refine And.intro rfl ?_
      refine ix (xs := [.ref 0, .int ((b * 48271 + c0) % 2147483647)]) rfl rfl ?_
      refine divI ⟨by decide, by decide⟩ ?_
      refine modI (show (0 : Int) < (n : Int) by omega) ?_
      refine D0 _ _ ⟨(b * 48271 + c0) % 2147483647, [], ⟨by omega, by omega, fun c hc => by simp at hc, by simp⟩, rfl⟩
    · rw [List.concat_eq_append] at *
      refine iteT (by simp) ?_
      -- the last one: its rest by bound, what is left goes back
      refine ix (xs := [.ref 0, .int b]) rfl rfl ?_
      refine Exists.intro ((cs ++ [c]).map Dv.int) ?_
      refine Exists.intro (.int c) ?_
      refine And.intro rfl ?_
      refine And.intro (by simp) ?_
      refine ix (xs := [.ref 0, .int b]) rfl rfl ?_
      refine divI (show CDiv _ (n : Int) from ⟨by omega, by omega⟩) ?_
      have e : ((cs ++ [c]).map Dv.int).dropLast = cs.map Dv.int := by simp
      have hl := ok.2.2.2
      have hc := ok.2.2.1 c (by simp)
      refine Exists.intro (((cs ++ [c]).map Dv.int).dropLast) (And.intro rfl (And.intro ?_ ?_))
      · rw [e]
        simp at hl ⊢
        have : (64 : Nat) ≤ sizeLine := by decide
        omega
      · refine modI (show (0 : Int) < (n : Int) by omega) ?_
        refine (D0 _ _ ⟨b, cs ++ [c / (n : Int)], ⟨ok.1, ok.2.1, fun x hx => ?_, by simpa using hl⟩, ?_⟩)
        · rcases List.mem_append.mp hx with h | h
          · exact ok.2.2.1 x (by simp [h])
          · simp at h
            rw [h]
            exact Int.ediv_nonneg hc (by omega)
        · rw [e]
          simp [DSt]
  rcases List.eq_nil_or_concat cs with rfl | ⟨cs, c, rfl⟩
  · refine iteF rfl ?_
    exact iteF rfl (after [] ok)
  · rw [List.concat_eq_append] at *
    refine iteT (by simp) ?_
    refine ix (xs := [.ref 0, .int b]) rfl rfl ?_
    refine ix (xs := (cs ++ [c]).map Dv.int) rfl (at_last cs c) ?_
    refine eqI ?_
    refine iteC (fun _ => ?_) (fun _ => after _ ok)
    refine ix (xs := [.ref 0, .int b]) rfl rfl ?_
    refine Exists.intro ((cs ++ [c]).map Dv.int) ?_
    refine Exists.intro (.int c) ?_
    refine And.intro rfl ?_
    refine And.intro (by simp) ?_
    refine ⟨cs.length, by simp, rfl, cs, rfl, ok.drop, ?_⟩
    simp [DSt]

abbrev W_law_any : DTS := W_anyC 37
theorem p_law_any : PL N_law_any W_law_any (D2.Spec.dr A_law_any P_law_any R_law_any) := p_anyC 37

/-! ### one of them: the def _law_of(draws, some) -/
def srcL : Dv → Option (List Dv)
  | .tup xs => some xs
  | .tux xs => some xs
  | .rol xs => some xs
  | .str z => some (signs z)
  | _ => none
abbrev A_law_of (i : Dv × List Dv) : List Dv := [i.1]
abbrev P_law_of (_ : Sto) (i : Dv × List Dv) : Prop := srcL i.1 = some i.2 ∧ 0 < i.2.length ∧ i.2.length ≤ 1000
abbrev R_law_of (i : Dv × List Dv) (d : Dv) : Prop := d ∈ i.2
abbrev W_law_of : DTS :=
  (wRet (w2 gIx (wVar 1) (wDr A_law_any P_law_any R_law_any (wCons (wVar 0) (wCons (wCB (g1 gLen) (wCons (wVar 1) wNil)) wNil)))))
abbrev N_law_of : List Str := ["draws", "some"]
theorem back_dr' {I : Type} {args : I → List Dv} {pre : Sto → I → Prop} {F : I → Dv → Prop} {b : Int} {cs : List Int} {rest : Sto} {i : I} {d : Dv} {st : Sto} (h : Dr rest st) (hF : F i d) :
    { nx := fun _ st' => Back ((Spec.dr args pre F).st (b, cs, rest, i)).length ((Spec.dr args pre F).post (b, cs, rest, i)) .non st', rt := Back ((Spec.dr args pre F).st (b, cs, rest, i)).length ((Spec.dr args pre F).post (b, cs, rest, i)) : DEnds}.rt d st := back_dr h hF
theorem at_nat {α : Type} {xs : List α} {j : Nat} {v : α} (h : xs[j]? = some v) : atI xs (j : Int) = some v := atI_nat h
theorem p_law_of : PL N_law_of W_law_of (D2.Spec.dr A_law_of P_law_of R_law_of) := by
  rintro ⟨b, cs, rest, x, xs⟩ ⟨ok, h1, h2, h3⟩
  show W_law_of _ [some (.ref 1), some x] (DSt b cs rest)
  have big : (1000 : Nat) ≤ sizeLine := by decide
  have h2 : 0 < xs.length := h2
  have h3 : xs.length ≤ 1000 := h3
  -- the draw
  have key : ∀ (Q : DK), (∀ (j : Nat) st2, Dr rest st2 → j < xs.length → gIx x (.int (j : Int)) st2 Q) → gLen x (DSt b cs rest) (fun y st1 => ∃ rest2 i, Dr rest2 st1 ∧ [.ref 1, y] = .ref 1 :: A_law_any i ∧ P_law_any rest2 i ∧ ∀ d st2, Dr rest2 st2 → R_law_any i d → gIx x d st2 Q) := by
    intro Q hQ
    have go : ∀ y : Dv, y = .int xs.length → ∃ rest2 i, Dr rest2 (DSt b cs rest) ∧ [.ref 1, y] = .ref 1 :: A_law_any i ∧ P_law_any rest2 i ∧ ∀ d st2, Dr rest2 st2 → R_law_any i d → gIx x d st2 Q := by
      rintro y rfl
      refine ⟨rest, xs.length, ⟨b, cs, ok, rfl⟩, rfl, ⟨h2, by omega⟩, fun d st2 hd hr => ?_⟩
      obtain ⟨j, hj, rfl⟩ := hr
      exact hQ j st2 hd hj
    cases x with
    | str z =>
      have e : signs z = xs := Option.some.inj h1
      have el : z.length = xs.length := by
        rw [← e]
        simp [signs, Str.length]
      exact lenS (by omega) (go _ (by rw [el]))
    | tup ys => exact len (xs := xs) (by rw [← h1]; rfl) (go _ rfl)
    | tux ys => exact len (xs := xs) (by rw [← h1]; rfl) (go _ rfl)
    | rol ys => exact len (xs := xs) (by rw [← h1]; rfl) (go _ rfl)
    | _ => simp [srcL] at h1
  refine key _ fun j st2 hd hj => ?_
  have hm : xs[j]? = some xs[j] := by simp
  have fin : Back ((Spec.dr A_law_of P_law_of R_law_of).st (b, cs, rest, x, xs)).length ((Spec.dr A_law_of P_law_of R_law_of).post (b, cs, rest, x, xs)) xs[j] st2 := back_dr hd (List.getElem_mem hj)
  cases x with
  | str z =>
    have e : signs z = xs := Option.some.inj h1
    subst e
    have el : z.length = (signs z).length := by simp [signs, Str.length]
    have hc : z.cps.toList[j]? = some (z.cps.toList[j]'(by simpa [signs] using hj)) := by simp
    have e2 : (signs z)[j] = .str ⟨#[z.cps.toList[j]'(by simpa [signs] using hj)]⟩ := by simp [signs]
    rw [e2] at fin
    exact ixS (by omega) (atI_nat hc) fin
  | tup ys => exact ix (xs := xs) (by rw [← h1]; rfl) (atI_nat hm) fin
  | tux ys => exact ix (xs := xs) (by rw [← h1]; rfl) (atI_nat hm) fin
  | rol ys => exact ix (xs := xs) (by rw [← h1]; rfl) (atI_nat hm) fin
  | _ => simp [srcL] at h1
/-! ### lists of one kind -/
theorem ints_of : ∀ {ys : List Dv} {P : Int → Prop}, (∀ y ∈ ys, ∃ c : Int, P c ∧ y = .int c) → ∃ cs : List Int, ys = cs.map Dv.int ∧ ∀ c ∈ cs, P c
  | [], _, _ => ⟨[], rfl, fun c hc => by simp at hc⟩
  | y :: ys, P, h => by
    obtain ⟨c, hc, rfl⟩ := h y (by simp)
    obtain ⟨cs, e, hcs⟩ := ints_of (ys := ys) (P := P) fun y hy => h y (by simp [hy])
    exact ⟨c :: cs, by rw [e]; rfl, fun x hx => by
      rcases List.mem_cons.mp hx with rfl | hx
      · exact hc
      · exact hcs x hx⟩
theorem nats_of : ∀ {ys : List Dv} {P : Nat → Prop}, (∀ y ∈ ys, ∃ c : Nat, P c ∧ y = nat c) → ∃ cs : List Nat, ys = cs.map nat ∧ ∀ c ∈ cs, P c
  | [], _, _ => ⟨[], rfl, fun c hc => by simp at hc⟩
  | y :: ys, P, h => by
    obtain ⟨c, hc, rfl⟩ := h y (by simp)
    obtain ⟨cs, e, hcs⟩ := nats_of (ys := ys) (P := P) fun y hy => h y (by simp [hy])
    exact ⟨c :: cs, by rw [e]; rfl, fun x hx => by
      rcases List.mem_cons.mp hx with rfl | hx
      · exact hc
      · exact hcs x hx⟩
theorem strs_of : ∀ {ys : List Dv} {P : Str → Prop}, (∀ y ∈ ys, ∃ c : Str, P c ∧ y = .str c) → ∃ cs : List Str, ys = cs.map Dv.str ∧ ∀ c ∈ cs, P c
  | [], _, _ => ⟨[], rfl, fun c hc => by simp at hc⟩
  | y :: ys, P, h => by
    obtain ⟨c, hc, rfl⟩ := h y (by simp)
    obtain ⟨cs, e, hcs⟩ := strs_of (ys := ys) (P := P) fun y hy => h y (by simp [hy])
    exact ⟨c :: cs, by rw [e]; rfl, fun x hx => by
      rcases List.mem_cons.mp hx with rfl | hx
      · exact hc
      · exact hcs x hx⟩
theorem mem_at {ys : List Dv} {P : Dv → Prop} (h : ∀ (i : Nat) y, ys[i]? = some y → P y) : ∀ y ∈ ys, P y := fun y hy => by
  obtain ⟨i, e⟩ := List.getElem?_of_mem hy
  exact h i y e
theorem cutD_le (xs : List Dv) (lo hi : Option Int) : (cutD xs lo hi).length ≤ xs.length := by
  unfold cutD
  rw [List.length_take, List.length_drop]
  omega
theorem cutD_mem {xs : List Dv} {lo hi : Option Int} {y : Dv} (h : y ∈ cutD xs lo hi) : y ∈ xs := List.mem_of_mem_drop (List.mem_of_mem_take h)
theorem line64 {n : Nat} (h : n ≤ 1000) : n ≤ sizeLine := Nat.le_trans h (by decide)
theorem rng_at {n i : Nat} {x : Dv} (h : (rng 0 n)[i]? = some x) : i < n ∧ x = nat i := by
  have hi := (List.getElem?_eq_some_iff.mp h).1
  rw [rng_length] at hi
  rw [rng_get hi] at h
  cases h
  exact ⟨hi, by simp [nat]⟩
/-- texts -/
def Nm (s : Str) : Prop := s.length ≤ 100 ∧ ∀ c ∈ s.cps.toList, c < 128
def Nm1 (s : Str) : Prop := s.length = 1 ∧ ∀ c ∈ s.cps.toList, c < 128
theorem join0_len (ys : List Str) : (Txt.join "" ys).length ≤ (ys.map (·.length)).sum := by
  unfold Txt.join
  rw [StrLaws.glued_eq_join]
  have h := StrLaws.join_length_le "" ys
  have e : ("" : Str).length = 0 := rfl
  rw [e, Nat.mul_zero, Nat.add_zero] at h
  exact h
theorem join0_mem {ys : List Str} {c : Nat} (h : c ∈ (Txt.join "" ys).cps.toList) : ∃ t ∈ ys, c ∈ t.cps.toList := by
  unfold Txt.join at h
  rw [StrLaws.glued_eq_join] at h
  rcases (mem_join "" c ys).mp h with h | h
  · exact h
  · exact absurd h.2 (by have e : ("" : Str).cps.toList = [] := rfl; rw [e]; simp)
theorem sum_ones {ys : List Str} (h : ∀ s ∈ ys, s.length = 1) : (ys.map (·.length)).sum = ys.length := by
  induction ys with
  | nil => rfl
  | cons y r ih =>
    rw [List.map_cons, List.sum_cons, h y (by simp), ih fun s hs => h s (by simp [hs]), List.length_cons]
    omega

/-! ### what is shown: short data -/
-- data without dicts, texts of signs below 128, ints below a hundred
mutual
def tame : PyData → Bool
  | .none | .bool _ => true
  | .int i => decide (-1 ≤ i) && decide (i < 1000)
  | .str x => decide (x.length ≤ 100) && x.cps.toList.all (· < 128)
  | .list xs | .tuple xs => tames xs
  | .dict _ => false
def tames : List PyData → Bool
  | [] => true
  | x :: xs => tame x && tames xs
end
theorem tames_of : ∀ {xs : List PyData}, (∀ x ∈ xs, tame x = true) → tames xs = true
  | [], _ => rfl
  | x :: xs, h => by
    simp only [tames, Bool.and_eq_true]
    exact ⟨h x (by simp), tames_of fun y hy => h y (by simp [hy])⟩
theorem shown100 : ∀ n : Nat, n < 1000 → (PyData.shown (.int n)).length ≤ 8 ∧ PyData.showable (.int n) = true := by
  decide +kernel
mutual
theorem tame_leaf : ∀ d : PyData, tame d = true → d.leavesShort 8 = true ∧ d.showable = true ∧ d.hasDict = false ∧ d.canLay0 = true
  | .none, _ => ⟨rfl, rfl, rfl, rfl⟩
  | .bool _, _ => ⟨rfl, rfl, rfl, rfl⟩
  | .int i, h => by
    simp only [tame, Bool.and_eq_true, decide_eq_true_eq] at h
    by_cases hm : i = -1
    · subst hm
      exact ⟨by decide +kernel, by decide +kernel, rfl, rfl⟩
    have e : i = ((i.toNat : Nat) : Int) := by omega
    obtain ⟨h1, h2⟩ := shown100 i.toNat (by omega)
    rw [← e] at h1 h2
    exact ⟨by simp only [PyData.leavesShort]; exact decide_eq_true h1, h2, rfl, rfl⟩
  | .str x, h => by
    simp only [tame, Bool.and_eq_true, decide_eq_true_eq, List.all_eq_true] at h
    refine ⟨?_, rfl, rfl, ?_⟩
    · simp only [PyData.leavesShort, List.all_eq_true, decide_eq_true_eq]
      intro c hc
      exact Nat.lt_trans (h.2 c hc) (by decide)
    · simp only [PyData.canLay0, PyData.strOk, Array.all_eq_true', decide_eq_true_eq]
      intro c hc
      exact Nat.lt_trans (h.2 c (by simpa using hc)) (by decide)
  | .list xs, h => by
    simp only [tame] at h
    have := tames_leaf xs h
    simpa only [PyData.leavesShort, PyData.showable, PyData.hasDict, PyData.canLay0] using this
  | .tuple xs, h => by
    simp only [tame] at h
    have := tames_leaf xs h
    simpa only [PyData.leavesShort, PyData.showable, PyData.hasDict, PyData.canLay0] using this
  | .dict _, h => by simp [tame] at h
theorem tames_leaf : ∀ xs : List PyData, tames xs = true → PyData.leavesShortAll 8 xs = true ∧ PyData.showableAll xs = true ∧ PyData.hasDictAll xs = false ∧ PyData.canLayAll0 xs = true
  | [], _ => ⟨rfl, rfl, rfl, rfl⟩
  | x :: xs, h => by
    simp only [tames, Bool.and_eq_true] at h
    obtain ⟨a1, a2, a3, a4⟩ := tame_leaf x h.1
    obtain ⟨b1, b2, b3, b4⟩ := tames_leaf xs h.2
    simp only [PyData.leavesShortAll, PyData.showableAll, PyData.hasDictAll, PyData.canLayAll0, a1, a2, a3, a4, b1, b2, b3, b4]
    exact ⟨rfl, rfl, rfl, rfl⟩
end
/-- repr of it -/
theorem reprT2 {d : Dv} {p : PyData} {st : Sto} {Q : DK} (h : DP st d p) (t : tame p = true) (hd : p.depth ≤ 62) (hw : p.weight ≤ 2 ^ 20) (q : Q (.str p.shown) st) : gRepr d st Q := by
  obtain ⟨h1, h2, h3, _⟩ := tame_leaf p t
  exact ⟨p, h, h2, h3, hd, PyData.shown_fits (B := 8) (by decide) (by decide) h1 hw, q⟩
theorem reprT {d : Dv} {p : PyData} {st : Sto} {Q : DK} (h : DP st d p) (t : tame p = true) (hd : p.depth ≤ 60) (hw : p.weight ≤ 2 ^ 20) (q : Q (.str p.shown) st) : gRepr d st Q := reprT2 h t (Nat.le_trans hd (by decide)) hw q
theorem shapedT {p : PyData} (t : tame p = true) (hd : p.depth ≤ 60) : SeqAt.shaped p = true := by
  obtain ⟨_, _, _, h⟩ := tame_leaf p t
  unfold SeqAt.shaped
  rw [h, decide_eq_true (by omega : p.depth ≤ 64)]
  rfl
/-- a list of small ints -/
def pn (n : Nat) : PyData := .int (n : Int)
theorem DPs.nats (st : Sto) : ∀ l : List Nat, DPs st (l.map nat) (l.map pn)
  | [] => .nil
  | c :: cs => .cons (.int c) (DPs.nats st cs)
theorem tame_nats {l : List Nat} (h : ∀ x ∈ l, x < 100) : tames (l.map pn) = true := tames_of fun x hx => by
  obtain ⟨n, hn, rfl⟩ := List.mem_map.mp hx
  have := h n hn
  simp only [pn, tame, Bool.and_eq_true, decide_eq_true_eq]
  omega
theorem dep_nats : ∀ l : List Nat, PyData.depthAll (l.map pn) = 0
  | [] => rfl
  | c :: cs => by simp only [List.map_cons, pn, PyData.depthAll, PyData.depth, Nat.zero_max]; exact dep_nats cs
theorem log100 {n : Nat} (h : n < 100) : PyData.weight (pn n) ≤ 7 := by
  unfold pn PyData.weight
  split
  · omega
  · have : ((n : Int)).natAbs.log2 < 7 := by
      rw [Int.natAbs_natCast, Nat.log2_lt (by rename_i h0; intro e; subst e; simp at h0)]
      omega
    omega
theorem wt_nats : ∀ {l : List Nat}, (∀ x ∈ l, x < 100) → PyData.weightAll (l.map pn) ≤ 8 * l.length
  | [], _ => by simp [PyData.weightAll]
  | c :: cs, h => by
    have h1 := log100 (h c (by simp))
    have h2 := wt_nats (l := cs) fun x hx => h x (by simp [hx])
    simp only [List.map_cons, PyData.weightAll, List.length_cons]
    omega
end D2

/-! SX: sets of keys of any one kind that can be scanned (texts, ints), with what a walk over them needs; sorted of a set of texts. -/
namespace SX
open PySem PySem.Spec PyProof.Rows L2
section
variable {P : Program} {w : World} {κ : Type} [DecidableEq κ] (knd : KeyKind P w κ)
/-- an entry holds a key -/
structure Ent (e : Int × Value) (k : κ) : Prop where
  is : knd.is k e.2 = true
  hash : e.1 = knd.hash k
  sc : e.2.scannable = true
/-- entries and keys, in step -/
inductive Ents : List (Int × Value) → List κ → Prop
  | nil : Ents [] []
  | cons {e : Int × Value} {k : κ} {es : List (Int × Value)} {ks : List κ} : Ent knd e k → Ents es ks → Ents (e :: es) (k :: ks)
variable {knd}
theorem Ents.len {es : List (Int × Value)} {ks : List κ} (h : Ents knd es ks) : es.length = ks.length := by
  induction h with
  | nil => rfl
  | cons _ _ ih => rw [List.length_cons, List.length_cons, ih]
theorem Ents.perm {es es' : List (Int × Value)} (p : es'.Perm es) : ∀ {ks : List κ}, Ents knd es ks → ∃ ks', ks'.Perm ks ∧ Ents knd es' ks' := by
  induction p with
  | nil => exact fun h => ⟨_, .refl _, h⟩
  | @cons x l1 l2 p ih =>
    intro ks h
    cases h with
    | cons h1 h2 =>
      obtain ⟨ks', p', h'⟩ := ih h2
      exact ⟨_, p'.cons _, .cons h1 h'⟩
  | swap x y l =>
    intro ks h
    cases h with
    | cons h1 h2 =>
      cases h2 with
      | cons h3 h4 => exact ⟨_, .swap _ _ _, .cons h3 (.cons h1 h4)⟩
  | trans p1 p2 ih1 ih2 =>
    intro ks h
    obtain ⟨k1, q1, h1⟩ := ih2 h
    obtain ⟨k2, q2, h2⟩ := ih1 h1
    exact ⟨k2, q2.trans q1, h2⟩
theorem Ents.elems {es : List (Int × Value)} {ks : List κ} (h : Ents knd es ks) : ElemsOf knd es := by
  induction h with
  | nil => exact fun e he => nomatch he
  | @cons e k es ks h1 h2 ih =>
    intro x hx
    rcases List.mem_cons.mp hx with rfl | hx
    · exact ⟨⟨k, h1.is, h1.hash⟩, h1.sc⟩
    · exact ih x hx
theorem Ents.mem {es : List (Int × Value)} {ks : List κ} (h : Ents knd es ks) (k : κ) : k ∈ ks ↔ ∃ e ∈ es, knd.is k e.2 = true := by
  induction h with
  | nil => simp
  | @cons e j es ks h1 h2 ih =>
    rw [List.mem_cons, ih]
    constructor
    · rintro (rfl | ⟨x, hx, q⟩)
      · exact ⟨e, by simp, h1.is⟩
      · exact ⟨x, by simp [hx], q⟩
    · rintro ⟨x, hx, q⟩
      rcases List.mem_cons.mp hx with rfl | hx
      · exact .inl (knd.inj _ _ _ q h1.is)
      · exact .inr ⟨x, hx, q⟩
/-- a table of entries holds these keys -/
structure Tb (knd : KeyKind P w κ) (es : Array (Int × Value)) (t : SetTable) (ks : List κ) : Prop where
  ents : Ents knd es.toList ks
  nd : ks.Nodup
  few : es.size < scanBound
  fits : t.fits es.size = true
  ris : Ris t.place.toList
  led : w.params.followText "set-order" = true ∨ t.led = true
/-- the set at a -/
def St (knd : KeyKind P w κ) (h : Heap) (a : Addr) (ks : List κ) : Prop := ∃ o es ep t, h.get? a = some o ∧ o.ExactSet ∧ o.data = .set es ep t ∧ Tb knd es t ks
theorem St.keep {h h' : Heap} {a : Addr} {ks : List κ} (R : St knd h a ks) (k : ∀ o, h.get? a = some o → h'.get? a = some o) : St knd h' a ks := by
  obtain ⟨o, es, ep, t, ho, r⟩ := R
  exact ⟨o, es, ep, t, k o ho, r⟩
theorem Tb.size {es : Array (Int × Value)} {t : SetTable} {ks : List κ} (h : Tb knd es t ks) : es.size = ks.length := by
  rw [← Array.length_toList]
  exact h.ents.len
/-- a store of entries -/
theorem stored {h : Heap} {a : Addr} {o : Obj} {es es' : Array (Int × Value)} {ep : Nat} {t t' : SetTable} {ks : List κ} (ho : h.get? a = some o) (hx : o.ExactSet) (hd : o.data = .set es ep t) (T : Tb knd es' t' ks) : St knd (h.update a (Obj.putSet es' t')) a ks := by
  refine ⟨{ o with data := .set es' (ep + 1) t' }, es', ep + 1, t', ?_, hx, rfl, T⟩
  have q := Heap.get?_update_self (Obj.putSet es' t') ho (by rw [putSet_of es' t' hd]; rfl)
  rwa [putSet_of es' t' hd] at q
variable {A : Around} {E : Value → Shared → Prop} {s : Shared}
/-- what follows an insertion: the table is laid, and laid again where it is full -/
theorem lay_tail {g : Bool → Sem Unit} (hg : ∀ (b : Bool) (s₁ : Shared) (Q' : Unit → Shared → Prop), Q' () s₁ → wpAny (model P w) A (g b) Q' E s₁) {a : Addr} {ks : List κ} {es es1 : Array (Int × Value)} {t1 : SetTable} {o : Obj} {ep : Nat} {t : SetTable}
    (ho : s.heap.get? a = some o) (hx : o.ExactSet) (hd : o.data = .set es ep t) (T : Tb knd es1 t1 ks) {dm : Bool} {R : Option Bool → Shared → Prop} (hR : ∀ h' ks', Heap.SameBut a s.heap h' → ks'.Perm ks → St knd h' a ks' → R (some true) { s with heap := h' }) :
    wpAny (model P w) A (storeSet a es1 t1 >>= fun _ => if (!dm && t1.tooFull) = true then g (relayAll t1 es1 (SetTable.grown es1.size)).2.2 >>= fun _ => storeSet a (relayAll t1 es1 (SetTable.grown es1.size)).1 (relayAll t1 es1 (SetTable.grown es1.size)).2.1 >>= fun _ => pure (some true) else pure (some true)) R E s := by
  refine wpAny_bind (wpAny_storeSet_of ho hd ?_ (fits_of_scanBound T.few))
  have b1 := Heap.SameBut.update s.heap a (Obj.putSet es1 t1)
  have S1 := stored ho hx hd T
  by_cases hf : (!dm && t1.tooFull) = true
  · rw [if_pos hf]
    obtain ⟨o2, es2, ep2, t2, ho2, hx2, hd2, T2⟩ := S1
    have pm := relayAll_perm t1 es1 (SetTable.grown es1.size)
    obtain ⟨ks', pk, E'⟩ := T.ents.perm pm
    have hs : (relayAll t1 es1 (SetTable.grown es1.size)).1.size = es1.size := by rw [← Array.length_toList, pm.length_eq, Array.length_toList]
    have T3 : Tb knd (relayAll t1 es1 (SetTable.grown es1.size)).1 (relayAll t1 es1 (SetTable.grown es1.size)).2.1 ks' := ⟨E', pk.nodup_iff.mpr T.nd, by rw [hs]; exact T.few, relayAll_fits _ _ _, relayAll_ris _ _ _, T.led.imp id fun z => by rw [relayAll_led]; exact z⟩
    refine wpAny_bind (hg _ _ _ (wpAny_bind (wpAny_storeSet_of ho2 hd2 (wpAny_pure (hR _ ks' (b1.trans (Heap.SameBut.update _ a _)) pk (stored ho2 hx2 hd2 T3))) (fits_of_scanBound T3.few))))
  · rw [if_neg hf]
    exact wpAny_pure (hR _ ks b1 (.refl _) S1)
/-- a key comes in -/
theorem add_hashed {a : Addr} {x : Value} {k : κ} {ks : List κ} {Q : Bool → Shared → Prop} (hk : knd.is k x = true) (hs : x.scannable = true) (R : St knd s.heap a ks) (room : ks.length + 1 < scanBound)
    (hQ : ∀ b h' ks', Heap.SameBut a s.heap h' → St knd h' a ks' → (∀ j, j ∈ ks' ↔ j = k ∨ j ∈ ks) → ks'.length ≤ ks.length + 1 → Q b { s with heap := h' }) : wpAny (model P w) A (setAddHashed a x (knd.hash k)) Q E s := by
  obtain ⟨o, es, ep, t, ho, hx, hd, T⟩ := R
  have el := T.ents.elems
  have gv : ∀ (b : Bool) (s₁ : Shared) (Q' : Unit → Shared → Prop), Q' () s₁ → wpAny (model P w) A (match b with | true => rule "set.scan.the-table-gave-way" | false => pure ()) Q' E s₁ := fun b s₁ Q' q => by
    cases b with
    | true => exact wpAny_rule q
    | false => exact wpAny_pure q
  unfold setAddHashed setAddHashedIn
  refine wpAny_holding (wpAny_bind (wpAny_setState_of ho hd T.fits ?_))
  dsimp only
  rw [byScan_of hs T.few el]
  simp only [↓reduceIte]
  unfold setAddByScan
  refine wpAny_bind (wpAny_bind (wpAny_rule (wpAny_bind (wpAny_setScan_of hk ho hd T.fits el ?_))))
  cases hf : List.findIdx? (fun e => knd.is k e.2) es.toList with
  | some j =>
    dsimp only
    obtain ⟨hj, pj, _⟩ := List.findIdx?_eq_some_iff_getElem.mp hf
    have hm : k ∈ ks := (T.ents.mem k).mpr ⟨_, List.getElem_mem hj, pj⟩
    refine wpAny_pure (wpAny_pure (hQ _ s.heap ks (Heap.SameBut.refl a s.heap) ⟨o, es, ep, t, ho, hx, hd, T⟩ (fun i => ⟨.inr, fun q => q.elim (fun q => by rw [q]; exact hm) id⟩) (Nat.le_succ _)))
  | none =>
    dsimp only
    have hm : k ∉ ks := fun q => by
      obtain ⟨e, he, q⟩ := (T.ents.mem k).mp q
      have c := List.findIdx?_eq_none_iff.mp hf e he
      rw [q] at c
      cases c
    have pm := layNew_perm t es (knd.hash k) x
    rw [Array.toList_push] at pm
    obtain ⟨ks1, pk, E1⟩ := Ents.perm (pm.trans (List.perm_append_singleton _ _)) (Ents.cons (e := (knd.hash k, x)) ⟨hk, rfl, hs⟩ T.ents)
    have hsz : (layNew t es (knd.hash k) x).1.size = ks.length + 1 := by rw [← Array.length_toList, E1.len, pk.length_eq, List.length_cons]
    have T1 : Tb knd (layNew t es (knd.hash k) x).1 (layNew t es (knd.hash k) x).2.1 ks1 := ⟨E1, pk.nodup_iff.mpr (List.nodup_cons.mpr ⟨hm, T.nd⟩), by rw [hsz]; exact room, layNew_fits _ _ _ _, layNew_ris _ _ _ _ T.ris, T.led.imp id fun z => by rw [layNew_led]; exact z⟩
    have fin : ∀ b h' ks', Heap.SameBut a s.heap h' → ks'.Perm ks1 → St knd h' a ks' → Q b { s with heap := h' } := fun b h' ks' sb p r => by
      have pp := p.trans pk
      exact hQ b h' ks' sb r (fun i => by rw [pp.mem_iff, List.mem_cons]) (by rw [pp.length_eq, List.length_cons]; exact Nat.le_refl _)
    generalize layNew t es (knd.hash k) x = Z at T1 ⊢
    obtain ⟨es1, t1, dm, gave⟩ := Z
    dsimp only at T1 ⊢
    refine wpAny_bind (gv _ _ _ ?_)
    split
    · refine wpAny_bind ?_
      rw [hashByValue_scannable 8 hs]
      refine wpAny_pure ?_
      refine lay_tail gv ho hx hd (ks := ks1) ?_ fun h' ks' sb p r => by dsimp only; exact wpAny_pure (fin _ h' ks' sb p r)
      split
      · exact T1
      · exact ⟨T1.ents, T1.nd, T1.few, SetTable.fits_plain_off T1.fits, T1.ris, T1.led⟩
    · refine wpAny_bind (wpAny_pure ?_)
      simp only [↓reduceIte]
      exact lay_tail gv ho hx hd T1 fun h' ks' sb p r => by dsimp only; exact wpAny_pure (fin _ h' ks' sb p r)
end
end SX

/-! SY: set(list), sorted(set) for SX's sets. -/
namespace SX
open PySem PySem.Spec PyProof.Rows L2
section
variable {P : Program} {w : World} {κ : Type} [DecidableEq κ] {knd : KeyKind P w κ} {A : Around} {E : Value → Shared → Prop} {s : Shared}
theorem take_succ_mem {ks : List κ} {i : Nat} {k : κ} (h : ks[i]? = some k) (j : κ) : j ∈ ks.take (i + 1) ↔ j = k ∨ j ∈ ks.take i := by
  rw [List.take_add_one, h, Option.toList_some, List.mem_append, List.mem_singleton]
  exact Or.comm
/-- the walk that fills a set -/
theorem fill {I : Addr} {fp wr : List Addr} {G : Array GenState → Array GenState → Prop} {n : Nat} {Pv : Nat → Value → Prop} {Sw : Nat → Shared → Prop} {R : Result → Shared → Prop} (W : WalksS P w A.in1 I fp wr G n Pv Sw) (a : Addr) (ha : a ∉ fp) (ks : List κ) (hn : n = ks.length)
    (few : ks.length + 1 < scanBound) (hv : ∀ (i : Nat) v, Pv i v → ∃ k, ks[i]? = some k ∧ knd.is k v = true ∧ v.scannable = true) :
    ∀ (m i : Nat) (s : Shared), n - i = m → i ≤ n → Sw i s → (∃ l, St knd s.heap a l ∧ (∀ j, j ∈ l ↔ j ∈ ks.take i) ∧ l.length ≤ i) →
      (∀ s' l, Moved (a :: wr) G s s' → St knd s'.heap a l → (∀ j, j ∈ l ↔ j ∈ ks) → R (.ok (.ret .none)) s') → codeAny (model P w) A (.builtin "set.update.loop" ⟨[.ref a, .ref I], []⟩) R s := by
  have aw : a ∉ wr := fun q => ha (W.sub _ q)
  have up : ∀ b ∈ wr, b ∈ a :: wr := fun b hb => List.mem_cons_of_mem _ hb
  intro m
  induction m with
  | zero =>
    intro i s e hi hs ⟨l, S, hm, _⟩ hR
    obtain rfl : i = n := by omega
    refine codeAny_builtin F.entry_set_update_loop ?_
    rw [Around.under_plainId F.plain_set_update_loop _]
    show wpAny _ A.in1 (pyNext (.ref I) >>= _) _ _ s
    refine wpAny_bind (W.done s _ _ hs fun s' mv => ?_)
    show wpAny _ A.in1 (ret Value.none) _ _ s'
    refine wpAny_pure (hR s' l (mv.mono up) (S.keep fun o q => mv.heap a o aw q) fun j => ?_)
    rw [hm j, hn, List.take_length]
  | succ m ih =>
    intro i s e hi hs ⟨l, S, hm, hl⟩ hR
    have lt : i < n := by omega
    refine codeAny_builtin F.entry_set_update_loop ?_
    rw [Around.under_plainId F.plain_set_update_loop _]
    show wpAny _ A.in1 (pyNext (.ref I) >>= _) _ _ s
    refine wpAny_bind (W.item i s _ _ lt hs fun v s' hp hs' mv => ?_)
    obtain ⟨k, ek, hk, sc⟩ := hv i v hp
    show wpAny _ A.in1 (holding [v] (setAdd a v) >>= _) _ _ s'
    refine wpAny_bind (wpAny_holding ?_)
    unfold setAdd
    refine wpAny_holding (wpAny_bind (knd.pyHash hk ?_))
    refine add_hashed (s := { s' with toks := s'.toks + 1 }) hk sc (S.keep fun o q => mv.heap a o aw q) (by omega) fun b h' l' sb S' hm' hl' => ?_
    refine wpAny_pure ⟨plainId_quiet F.plain_set_update_loop _, ih (i + 1) _ (by omega) lt (W.frame _ s' _ _ hs' (Nat.le_succ _) fun b hb o q => ?_) ⟨l', S', fun j => by rw [hm' j, hm j, take_succ_mem ek], by omega⟩ fun s2 l2 mv2 S2 hm2 => ?_⟩
    · exact (sb.2 b fun z => ha (by rw [← z]; exact hb)).trans q
    · refine hR s2 l2 (Moved.trans W.gtrans ((mv.mono up).then_heap (Nat.le_succ _) fun b o hb q => ?_) mv2) S2 hm2
      exact (sb.2 b fun z => hb (by rw [z]; exact List.mem_cons_self)).trans q
theorem fresh {h : Heap} {a : Addr} (ho : h.get? a = some { cls := .type "set", dict := none, data := .set #[] 0 (.fresh 0 0 (!w.params.followText "set-order")) }) : St knd h a [] :=
  ⟨_, #[], 0, _, ho, ⟨rfl, rfl, rfl⟩, rfl, .nil, List.nodup_nil, by decide, by rfl, List.Pairwise.nil, by
    show _ ∨ (!w.params.followText "set-order") = true
    cases w.params.followText "set-order" with
    | false => exact .inr rfl
    | true => exact .inl rfl⟩
/-- set(xs) of a list -/
theorem set_list {l : Addr} {items : Array Value} {ks : List κ} {Q : Value → Shared → Prop} (hh : A.handled = none) (hl : s.heap.IsList l items) (hz : items.size = ks.length) (few : ks.length + 1 < scanBound)
    (hv : ∀ (i : Nat) v, items[i]? = some v → ∃ k, ks[i]? = some k ∧ knd.is k v = true ∧ v.scannable = true)
    (h : ∀ (h' : Heap) (tk : Nat) (m : List κ), St knd h' s.heap.objs.size m → (∀ j, j ∈ m ↔ j ∈ ks) → (∀ b o, s.heap.get? b = some o → h'.get? b = some o) → Q (.ref s.heap.objs.size) { s with heap := h', toks := tk }) :
    wpAny (model P w) A (call (.type "set") [.ref l]) Q E s := by
  obtain ⟨c, tl, hmro⟩ := PySem.F.called_set.mro
  have hmade := PySem.F.called_set.made
  have hsub := PySem.F.called_set.sub
  refine wpAny_call (codeAny_of_tree ?_)
  show wpAny _ _ (callAny (.type "set") _) _ _ _
  refine wpAny_pure ⟨Code.quiet_builtin _ (by decide +kernel), codeAny_builtin PySem.F.entry_type_call ?_⟩
  rw [Around.under_plain (weight_type_call_type "set" [.ref l] []) rfl]
  have h1 := PySem.F.called_set.notType
  have h2 := PySem.F.called_set.canCreate
  have hct := PySem.F.typeCall_set_1 (.ref l)
  repeat (any_goals (first | assumption | wp_step))
  refine codeAny_mono (code_set_led1 (.ref l) (E := E) (Q₁ := fun v s₁ => v = .ref s.heap.objs.size ∧ s₁ = { s with heap := s.heap.push { cls := .type "set", dict := none, data := .set #[] 0 (.fresh 0 0 (!w.params.followText "set-order")) } }) ⟨rfl, rfl⟩) fun r s₁ hr => ?_
  cases r with
  | error e => exact hr
  | ok fl =>
    cases fl with
    | ret v =>
      obtain ⟨rfl, rfl⟩ := hr
      have hS : (s.heap.push { cls := .type "set", dict := none, data := .set #[] 0 (.fresh 0 0 (!w.params.followText "set-order")) }).get? s.heap.objs.size = some { cls := .type "set", dict := none, data := .set #[] 0 (.fresh 0 0 (!w.params.followText "set-order")) } := Heap.get?_push_size _ rfl
      have hT : Shared.TypeIs { s with heap := s.heap.push { cls := .type "set", dict := none, data := .set #[] 0 (.fresh 0 0 (!w.params.followText "set-order")) } } (.ref s.heap.objs.size) "set" := ⟨_, hS, rfl⟩
      have hli := PySem.F.called_set.init.lookup
      have hbi := PySem.F.called_set.init.bind (.ref s.heap.objs.size)
      repeat (any_goals (first | assumption | wp_step))
      refine codeAny_mono (codeAny_call_builtin (R := wants (fun r s₂ => r = .none ∧ ∃ h' tk m, s₂ = { s with heap := h', toks := tk } ∧ St knd h' s.heap.objs.size m ∧ (∀ j, j ∈ m ↔ j ∈ ks) ∧ (∀ b o, s.heap.get? b = some o → h'.get? b = some o)) E)
        PySem.F.called_set.init.plain PySem.F.entry_set_init (check_set_init_1 hT ?_)) fun r₂ s₂ hr₂ => ?_
      · obtain ⟨ol, hol, hcl, nl, hdl⟩ := hl
        obtain ⟨ocls, odict, odata, oslots⟩ := ol
        simp only at hcl hdl
        subst hcl hdl
        have hol2 : (s.heap.push { cls := .type "set", dict := none, data := .set #[] 0 (.fresh 0 0 (!w.params.followText "set-order")) }).get? l = some { cls := .type "list", dict := odict, data := .seq items nl, slots := oslots } := Heap.get?_push_of_some _ hol
        have q1 := PySem.F.sub_list_set
        have q2 := PySem.F.sub_list_frozenset
        have q3 : (Value.type "list" == Value.type "dict") = false := by decide
        have hl1 : (s.heap.push { cls := .type "set", dict := none, data := .set #[] 0 (.fresh 0 0 (!w.params.followText "set-order")) }).IsList l items := ⟨_, hol2, rfl, nl, rfl⟩
        have lt := Heap.lt_size hol
        unfold Builtin.«set.__init__» noKeywords Builtin.Frozenset.updateFrom
        generalize hPI : pyIter = PI
        wp_walk
        subst hPI
        refine wpAny_pyIter_list hl1 ?_
        refine wpAny_bind (wpAny_runValue ?_)
        have hneI : l ≠ (s.heap.push { cls := .type "set", dict := none, data := .set #[] 0 (.fresh 0 0 (!w.params.followText "set-order")) }).objs.size := by
          rw [Heap.size_push]
          exact Nat.ne_of_lt (Nat.lt_succ_of_lt lt)
        refine fill ((Walks.list (A := A.in1.in1.in1) (by simp [hh]) _ l hneI items).toS) s.heap.objs.size (by
          rw [Heap.size_push]
          simp only [List.mem_cons, List.not_mem_nil, or_false, not_or]
          exact ⟨Nat.ne_of_lt (Nat.lt_succ_self _), Nat.ne_of_gt lt⟩) ks hz few (fun i v q => hv i v q) (items.size - 0) 0 _ (by omega) (Nat.zero_le _)
          ⟨⟨_, Heap.get?_push_size _ rfl, rfl, rfl⟩, hl1.push _⟩ ⟨[], ?_, fun j => by simp, Nat.le_refl _⟩ fun s' m mv S hm => ?_
        · exact fresh (Heap.get?_push_of_some _ hS)
        · obtain ⟨h', g', d', tk', os'⟩ := s'
          have eg : g' = s.gens := mv.gens
          have ed : d' = s.drawn := mv.drawn
          have eo : os' = s.os := mv.os
          subst eg ed eo
          show wpAny _ _ _ _ _ _
          refine wpAny_pure ?_
          show wpAny _ _ (ret Value.none) _ _ _
          refine wpAny_pure ⟨rfl, h', tk', m, rfl, S, hm, fun b o q => mv.heap b o ?_ (Heap.get?_push_of_some _ (Heap.get?_push_of_some _ q))⟩
          have lq := Heap.lt_size q
          rw [Heap.size_push]
          simp only [List.mem_cons, List.not_mem_nil, or_false, not_or]
          exact ⟨Nat.ne_of_lt lq, Nat.ne_of_lt (Nat.lt_succ_of_lt lq)⟩
      · cases r₂ with
        | error e => exact hr₂
        | ok fl₂ =>
          cases fl₂ with
          | ret r =>
            obtain ⟨rfl, h', tk, m, rfl, S, hm, hkp⟩ := hr₂
            repeat (any_goals (first | assumption | wp_step))
            exact h _ _ m S hm hkp
          | _ => exact hr₂.elim
    | _ => exact hr.elim
end
end SX

/-! SZ: sorted of a set of texts; the rules over the hand layer. -/
namespace SX
open PySem PySem.Spec PyProof.Rows L2
def txt (v : Value) : Str := match v with | .str k _ => k | _ => Str.empty
theorem strs_map : ∀ {vs : List Value}, (∀ v ∈ vs, ∃ k t, v = .str k t) → StrsAre vs (vs.map txt)
  | [], _ => .nil
  | v :: vs, h => by
    obtain ⟨k, t, rfl⟩ := h v (by simp)
    exact .cons k t (strs_map fun x hx => h x (by simp [hx]))
section
variable {P : Program} {w : World} {A : Around} {E : Value → Shared → Prop} {s : Shared}
theorem ents_txt {es : List (Int × Value)} {ks : List Str} (h : Ents (PySem.strKind P w) es ks) : (es.map (·.2)).map txt = ks ∧ ∀ e ∈ es, ∃ k t, e.2 = .str k t := by
  induction h with
  | nil => exact ⟨rfl, fun e he => nomatch he⟩
  | @cons e k es ks h1 h2 ih =>
    obtain ⟨t, q⟩ := Value.isStrOf_shape (show Value.isStrOf k e.2 = true from h1.is)
    refine ⟨?_, fun x hx => ?_⟩
    · rw [List.map_cons, List.map_cons, ih.1, q]
      rfl
    · rcases List.mem_cons.mp hx with rfl | hx
      · exact ⟨k, t, q⟩
      · exact ih.2 x hx
theorem sorted_texts {a : Addr} {ks : List Str} {Q : Value → Shared → Prop} (R : St (PySem.strKind P w) s.heap a ks) (hh : A.handled = none)
    (hQ : ∀ s' p (out : Array Value) (c : Nat) (ys : List Str), (∀ b o, s.heap.get? b = some o → s'.heap.get? b = some o) → s'.gens = s.gens → s'.os = s.os → s.heap.objs.size ≤ p → s'.heap.get? p = some (seqObj "list" out c) →
      StrsAre out.toList ys → ys.Perm ks → sortedS ys = true → Q (.ref p) s') : wpAny (model P w) A (call (.builtin "sorted") [.ref a]) Q E s := by
  obtain ⟨o, es, ep, t, ho, hx, hd, T⟩ := R
  refine Calls.call_function_entry kind_sorted plain_sorted entry_sorted (args_sorted1 _) ?_
  unfold Builtin.«sorted»
  refine wpAny_bind (m := checkCount "sorted" 1 1 _) (wpAny_pure ?_)
  refine wpAny_bind (collect_set (A := A.in1) hh ⟨o, ho, hx.1, hd⟩ T.fits T.few T.ris T.led fun s1 vs k1 hz g1 o1 pm => ?_)
  obtain ⟨e1, e2⟩ := ents_txt T.ents
  have hS : StrsAre vs (vs.map txt) := strs_map fun v hv => by
    obtain ⟨e, he, q⟩ := List.mem_map.mp (pm.mem_iff.mp hv)
    rw [← q]
    exact e2 e he
  have pk : (vs.map txt).Perm ks := by
    have q := pm.map txt
    rwa [e1] at q
  have hvl : vs.length ≤ sizeLine := by
    have q := pk.length_eq
    rw [List.length_map] at q
    rw [q, ← T.size]
    exact fits_of_scanBound T.few
  refine wpAny_bind (wpAny_newList ?_ hvl)
  have hoL : (s1.heap.push (seqObj "list" vs.toArray 0)).get? s1.heap.objs.size = some (seqObj "list" vs.toArray 0) := Heap.get?_push_size _ rfl
  refine wpAny_bind (wpAny_holding (wpAny_call_entry slot_list_sort ⟨_, hoL, rfl⟩ entry_list_sort (list_sort_treeKAny strKind_oneLt hoL hS.keysOf (fun v₁ v₂ rest e => keyKind_strs (by rw [← e]; exact hS)) hvl fun st' hp hs => ⟨_, rfl, ?_⟩) (args_list_sort _)))
  obtain ⟨ys, h1, h2, h3⟩ := sorted_out_str hS hp hs
  obtain ⟨c, hc⟩ := sortedHeap_at (vs := vs) (out := (arrOf st').map (·.2)) hoL
  refine wpAny_pure ⟨_, rfl, hQ _ s1.heap.objs.size _ c ys (fun b u e => ?_) g1 o1 hz hc h1 (h2.trans pk) h3⟩
  have q := k1 b u e
  have lt := Heap.lt_size q
  show (sortedHeap (s1.heap.push (seqObj "list" vs.toArray 0)) s1.heap.objs.size vs _).get? b = some u
  rw [sortedHeap_old (Nat.ne_of_lt lt) (by rw [size_push']; exact Nat.lt_succ_of_lt lt)]
  exact Heap.get?_push_of_some _ q
end
/-- a set of texts, as an object of the hand layer -/
def SetT (P : Program) (w : World) (a : Addr) (ks : List Str) : HO := .ext fun h => St (PySem.strKind P w) h a ks
section
variable {X : Cx}
theorem setT_ok {P : Program} {w : World} {H : Hp} {h : Heap} {a : Addr} {ks : List Str} (R : St (PySem.strKind P w) h a ks) : ObjOk P w H h a (SetT P w a ks) :=
  ⟨R, R.imp fun o q => q.choose_spec.choose_spec.choose_spec.1, fun h1 h2 p k => p.keep k⟩
/-- set(xs) of a list of texts -/
theorem cr_setTx : CallR X (.type "set") (fun xs H Q => ∃ (l : Addr) (ks : List Str), xs = [.ref l] ∧ SqL X.K H l (ks.map V.str) ∧ ks.length + 1 < scanBound ∧ X.calm = true ∧ ∀ a m, H a = none → (∀ j, j ∈ m ↔ j ∈ ks) → m.Nodup → Q (.ref a) (upd H a (SetT X.prog X.w a m))) := by
  intro pins s σ H xs us Q I r h
  obtain ⟨l, ks, rfl, hl, few, hc, q⟩ := h
  rw [Vals.ref1 r]
  obtain ⟨its, rv, pl, hz⟩ := I.list hl
  have len := rv.length
  rw [List.length_map] at len
  refine set_list (knd := PySem.strKind X.prog X.w) (ks := ks) (I.ok.hd hc) pl.isList (by rw [List.size_toArray, len]) few (fun i v e => ?_) fun h' tk m R hm k => ?_
  · have e2 : its[i]? = some v := by simpa using e
    have hi : i < ks.length := by
      have := (List.getElem?_eq_some_iff.mp e2).1
      omega
    obtain ⟨u, e3, t, rfl⟩ := rv.get (i := i) (x := .str ks[i]) (by rw [List.getElem?_map, List.getElem?_eq_getElem hi]; rfl)
    rw [e2] at e3
    cases e3
    exact ⟨ks[i], List.getElem?_eq_getElem hi, strKind_is _ _ _ _, rfl⟩
  · have nd : m.Nodup := by
      obtain ⟨o, es, ep, t, ho, hx, hd, T⟩ := R
      exact T.nd
    exact ⟨.ref s.heap.objs.size, upd H s.heap.objs.size (SetT X.prog X.w s.heap.objs.size m), I.laid (t' := tk) k (Nat.le_refl _) (setT_ok R), rfl, q _ m (I.hok.fresh (Nat.le_refl _)) hm nd⟩
/-- sorted(set) -/
theorem cr_sortTx : CallR X (.builtin "sorted") (fun xs H Q => ∃ (a : Addr) (ks : List Str), xs = [.ref a] ∧ H a = some (SetT X.prog X.w a ks) ∧ X.calm = true ∧ ∀ ys p, ys.Perm ks → sortedS ys = true → H p = none → Q (.ref p) (upd H p (.lst (ys.map V.str)))) := by
  intro pins s σ H xs us Q I r h
  obtain ⟨a, ks, rfl, ha, hc, q⟩ := h
  have R : St (PySem.strKind X.prog X.w) s.heap a ks := (I.hok a _ ha).1
  have few : ks.length < scanBound := by
    obtain ⟨o, es, ep, t, ho, hx, hd, T⟩ := R
    rw [← T.size]
    exact T.few
  rw [Vals.ref1 r]
  refine sorted_texts R (I.ok.hd hc) fun s' p out c ys k g o hp hg hS pm hs => ?_
  have hn : H p = none := I.hok.fresh hp
  have hl : (ys.map V.str).length ≤ sizeLine := by
    rw [List.length_map, pm.length_eq]
    exact fits_of_scanBound few
  exact ⟨.ref p, upd H p (.lst (ys.map V.str)), I.call' (ch := []) o (Un.laid k hp hn) (I.hok.laid k hp ⟨hl, out.toList, c, vals_of_strs hS, hg⟩) (by rw [g]; exact I.bare) (fun _ z => nomatch z), rfl, q ys p pm hs hn⟩
end
end SX

/-! TR: t[::-1] of a tuple; xs.extend(t) of a tuple. -/
namespace TR
open PySem PySem.Spec PyProof.Rows L2 HT
section
variable {prog : Program} {w : World} {A : Around} {E : Value → Shared → Prop} {s : Shared}
theorem adjust_rev (n : Nat) : Builtin.Slice.sliceAdjust none none (-1) (n : Int) = ((n : Int) - 1, -1) := by
  unfold Builtin.Slice.sliceAdjust
  simp <;> omega
theorem places_rev (n : Nat) : Builtin.Slice.slicePlaces ((n : Int) - 1) (-1) (-1) = n := by
  unfold Builtin.Slice.slicePlaces
  simp
  omega
theorem pick_rev (xs : Array Value) : ((List.range xs.size).filterMap fun (m : Nat) => xs[(((xs.size : Int) - 1) + (m : Int) * (-1)).toNat]?).toArray = xs.toList.reverse.toArray := by
  congr 1
  have e : ∀ l : List Nat, (∀ m ∈ l, m < xs.size) → (l.filterMap fun (m : Nat) => xs[(((xs.size : Int) - 1) + (m : Int) * (-1)).toNat]?) = l.map fun m => xs.toList.reverse.getD m .none := by
    intro l
    induction l with
    | nil => intro _; rfl
    | cons m l ih =>
      intro h
      have hm := h m (by simp)
      have e1 : ((((xs.size : Int) - 1) + (m : Int) * (-1)).toNat) = xs.size - 1 - m := by omega
      have e2 : xs[xs.size - 1 - m]? = some (xs.toList.reverse.getD m .none) := by
        rw [List.getD_eq_getElem?_getD, List.getElem?_reverse (by simpa using hm), Array.length_toList, Array.getElem?_toList]
        have : xs.size - 1 - m < xs.size := by omega
        rw [Array.getElem?_eq_getElem this]
        rfl
      rw [List.filterMap_cons_some (by rw [e1]; exact e2), List.map_cons, ih fun x hx => h x (by simp [hx])]
  rw [e _ fun m hm => by simpa using hm]
  refine List.ext_getElem (by simp) fun i h1 h2 => ?_
  simp at h1
  have : i < xs.toList.reverse.length := by simpa using h1
  rw [List.getElem_map, List.getElem_range, List.getD_eq_getElem?_getD, List.getElem?_eq_getElem this]
  rfl
theorem applied_rev {sl : Addr} {vl vu vs : Value} {n : Nat} {Q : Int × Int × Nat → Shared → Prop} (hs : s.heap.IsSliceOf sl vl vu vs) (pl : IsPart vl none) (pu : IsPart vu none) (ps : IsPart vs (some (-1))) (h : Q ((n : Int) - 1, -1, n) s) :
    wpAny (model prog w) A (Builtin.Slice.sliceApplied (.ref sl) (pure (n : Int))) Q E s := by
  obtain ⟨os, hos, hcs, hds⟩ := id hs
  unfold Builtin.Slice.sliceApplied Builtin.Slice.sliceFields
  refine wpAny_bind (wpAny_bind (wpAny_field hos hds (x := vl) rfl (wpAny_bind (wpAny_field hos hds (x := vu) rfl (wpAny_bind (wpAny_field hos hds (x := vs) rfl (wpAny_pure ?_)))))))
  refine wpAny_bind (slicePart_ ps ?_)
  show wpAny _ _ (if ((-1 : Int) == 0) = true then _ else _) _ _ s
  rw [if_neg (by decide)]
  refine wpAny_bind (slicePart_ pl (wpAny_bind (slicePart_ pu (wpAny_bind (wpAny_pure ?_)))))
  show wpAny _ _ (match Builtin.Slice.sliceAdjust none none (-1) (n : Int) with | (lo, hi) => pure (lo, (-1 : Int), Builtin.Slice.slicePlaces lo hi (-1))) _ _ s
  rw [adjust_rev]
  show wpAny _ _ (pure ((n : Int) - 1, (-1 : Int), Builtin.Slice.slicePlaces ((n : Int) - 1) (-1) (-1))) _ _ s
  rw [places_rev]
  exact wpAny_pure h
theorem getItem_rev {t sl : Addr} {items : Array Value} {vl vu vs : Value} {Q : Value → Shared → Prop} (ht : IsTup s.heap t items) (hs : s.heap.IsSliceOf sl vl vu vs) (pl : IsPart vl none) (pu : IsPart vu none) (ps : IsPart vs (some (-1)))
    (h : Q (.ref s.heap.objs.size) { s with heap := s.heap.push { cls := .type "tuple", data := .seq items.toList.reverse.toArray } }) (hsz : items.size ≤ sizeLine) : wpAny (model prog w) A (getItem (.ref t) (.ref sl)) Q E s := by
  obtain ⟨os, hos, hcs, hds⟩ := id hs
  have hTs : s.TypeIs (.ref sl) "slice" := ⟨os, hos, hcs⟩
  have htake : sizeOk (.seq items.toList.reverse.toArray) := by
    show items.toList.reverse.toArray.size ≤ sizeLine
    simpa using hsz
  unfold getItem
  try with_reducible refine wpAny_holding ?_
  first | refine wpAny_bind (wpAny_pure ?_) | skip
  refine wpAny_bind (wpAny_sequenceKey ht.typeIs (by decide) ?_)
  refine wpAny_bind (wpAny_callSpecial?_slot (name := Str.ofString "__getitem__") ht.typeIs PyProof.Rows.slot_tuple_getitem
    (wpAny_call_entry PyProof.Rows.slot_tuple_getitem ht.typeIs entry_tuple_getitem ?_ (args_tuple_getitem _ _)))
  show wpAny _ _ (Builtin.Tuple.tupleItemsOf (.ref t) >>= _) _ _ s
  refine wpAny_bind (tupleItemsOf_ ht ?_)
  refine wpAny_bind (wpAny_typeOf hTs ?_)
  rw [if_pos (by decide)]
  refine wpAny_bind (applied_rev hs pl pu ps ?_)
  have hno : ¬ ((((items.size : Int) - 1) == 0 && (-1 : Int) == 1 && items.size == items.size) = true) := by
    rw [show ((-1 : Int) == 1) = false from rfl]
    simp
  show wpAny _ _ (if (((items.size : Int) - 1) == 0 && (-1 : Int) == 1 && items.size == items.size) = true then _ else _) _ _ s
  rw [if_neg hno, pick_rev]
  first
    | exact wpAny_bind (m := Builtin.Tuple.tupleExact _) (wpAny_newObj_type (wpAny_pure ⟨_, rfl, wpAny_pure h⟩) htake)
    | exact wpAny_bind (m := Builtin.Tuple.tupleExact _) (wpAny_newObj_type (wpAny_bind (wpAny_pure (wpAny_pure ⟨_, rfl, wpAny_pure h⟩))) htake)
    | exact wpAny_bind (wpAny_bind (m := Builtin.Tuple.tupleExact _) (wpAny_newObj_type (wpAny_pure (wpAny_pure ⟨_, rfl, wpAny_pure h⟩)) htake))
    | exact wpAny_bind (wpAny_bind (m := Builtin.Tuple.tupleExact _) (wpAny_newObj_type (wpAny_pure ⟨_, rfl, wpAny_pure h⟩) htake))
end
section
variable {X : Cx}
def tRevT (K : PySem.W.Frag) (te : TE) : TE := fun σ H Q => te σ H fun x H1 => ∃ a xs, x = .ref a ∧ SqT K H1 a xs ∧ ∀ p, H1 p = none → Q (.ref p) (upd H1 p (.tup xs.reverse))
theorem pe_revT {e : Expr} {te : TE} {k : Nat} {p1 p2 p3 pos : Pos} (he : PE X e te) : PE X (.Subscript e (.Slice none none (some (.UnaryOp .USub (.Constant (.int 1) k p1) p2)) p3) pos) (tRevT X.K te) := by
  refine ⟨fun pins s σ H Q I h => Subscript_ (thn (he.run pins s σ H _ I h) fun v s1 ⟨x, H1, I1, r1, a, xs, ex, hx, q⟩ => ?_)⟩
  subst ex
  cases r1
  have step : PO X (some (.UnaryOp .USub (.Constant (.int 1) k p1) p2)) (tPart (tUn (rU fun i => .int (-i)) (tC (.int 1)))) := po_some (pe_un un_neg pe_int)
  refine wpAny_Slice (thn (po_none.run pins s1 σ H1 (fun o H2 => o = none ∧ H2 = H1) I1 ⟨rfl, rfl⟩) fun vl s2 ⟨l, H2, I2, pl, el, e2⟩ => ?_)
  subst el e2
  refine thn (po_none.run pins s2 σ H2 (fun o H3 => o = none ∧ H3 = H2) I2 ⟨rfl, rfl⟩) fun vu s3 ⟨u, H3, I3, pu, eu, e3⟩ => ?_
  subst eu e3
  refine thn (step.run pins s3 σ H3 (fun o H4 => o = some (-1) ∧ H4 = H3) I3 ⟨1, rfl, -1, rfl, rfl, rfl⟩) fun vs s4 ⟨o, H4, I4, ps, eo, e4⟩ => ?_
  subst eo e4
  have I5 : Inv X pins σ H4 { s4 with heap := s4.heap.push { cls := .type "slice", data := .fields #[vl, vu, vs] } } := I4.kept (t' := s4.toks) fun b ob q => Heap.get?_push_of_some _ q
  obtain ⟨its, r, ht, hz⟩ := I5.tuple hx
  have hlen := r.length
  show wpAny (model X.prog X.w) X.A (subscriptTail e (.Slice none none (some (.UnaryOp .USub (.Constant (.int 1) k p1) p2)) p3) (.ref a) (.ref s4.heap.objs.size)) (EP X pins σ Q) X.xe { s4 with heap := s4.heap.push { cls := .type "slice", data := .fields #[vl, vu, vs] } }
  refine tail_any (ops := [.ref a, .ref s4.heap.objs.size]) (show Shared.TypeIs _ (.ref a) "tuple" from ht.typeIs) (PyProof.Rows.slot_tuple_getitem.lookup) ?_ (by with_unfolding_all rfl)
  refine getItem_rev ht (Heap.IsSliceOf.new _ vl vu vs) pl pu ps ?_ (by rw [List.size_toArray]; omega)
  refine ⟨.ref _, upd H4 _ (.tup xs.reverse), I5.laid (t' := s4.toks) (o := .tup xs.reverse) (fun b ob q => Heap.get?_push_of_some _ q) (Nat.le_refl _) ?_, rfl, q _ (I5.hok.fresh (Nat.le_refl _))⟩
  exact ⟨by rw [List.length_reverse]; exact hz, its.reverse, r.reverse, IsTup.new _ _⟩
/-- xs.extend(t), the tuple's object of any kind -/
theorem ext_meets (l : Addr) (items : Array Value) (n : Nat) (b : Addr) (items2 : Array Value) (n2 : Nat) (dd : Option Addr) (slo : Array (Option Value)) (h0 : ¬(!items.isEmpty && Builtin.List.listTooLong (items.size + items2.size)) = true) (h1 : items.size ≤ sizeLine) (h2 : items.size + items2.size ≤ sizeLine + 1) :
    Meets (Builtin.«list.extend» ⟨[.ref l, .ref b], []⟩) (fun _ R s => s.heap.get? l = some { cls := .type "list", dict := none, data := .seq items n, slots := #[] } ∧ s.heap.get? b = some { cls := .type "tuple", dict := dd, data := .seq items2 n2, slots := slo } ∧ R (.ok (.ret Value.none)) { s with heap := s.heap.update l (Obj.mapSeq fun x => x ++ items2), toks := s.toks }) :=
  .of_wp fun prog w A R s h => by
    obtain ⟨hp, g, d, tk, os⟩ := s
    obtain ⟨hl, hb, h⟩ := h
    have f1 := AutoSeq1.idx_int
    have f2 := AutoSeq1.sub_tuple_tuple
    have f3 := AutoSeq1.sub_list_list
    have f4 := AutoSeq1.sub_tuple_list
    have f5 := AutoSeq1.sub_list_tuple
    have hz : (items ++ items2).size ≤ sizeLine + 1 := by
      rw [Array.size_append]
      exact h2
    wp_walk using (wpAny_updateSeq hl rfl (hz := h1) (_hz' := hz)), wpAny_loadPart' hl, wpAny_loadPart' hb
    exact ⟨_, rfl, h⟩
def rExtT (K : PySem.W.Frag) : V → List V → Hp → VK → Prop := fun x vs H Q => ∃ l b xs zs, x = .ref l ∧ vs = [.ref b] ∧ H l = some (.lst xs) ∧ SqT K H b zs ∧ xs.length + zs.length ≤ sizeLine ∧ Q .non (upd H l (.lst (xs ++ zs)))
theorem mt_extT : MtR X "list.extend" (rExtT X.K) := by
  intro pins s σ H x vs v us Q I rx rv h
  obtain ⟨l, b, xs, zs, rfl, rfl, hH, hB, hz, q⟩ := h
  cases rx
  obtain ⟨u, rfl, ru⟩ := rv.one
  cases ru
  obtain ⟨z, its, n, r, hl, e⟩ := I.lstM hH
  obtain ⟨its2, r2, ⟨⟨cls, dd, data, slo⟩, ho, hc, n2, hd⟩, hz2⟩ := I.tuple hB
  simp only at hc hd
  subst hc hd
  have l1 := r.length
  have l2 := r2.length
  have hsz : its.toArray.size + its2.toArray.size ≤ sizeLine := by rw [List.size_toArray, List.size_toArray]; omega
  have hlong : ¬ (!its.toArray.isEmpty && Builtin.List.listTooLong (its.toArray.size + its2.toArray.size)) = true := by
    rw [notLongL hsz, Bool.and_false]
    exact Bool.false_ne_true
  refine call_meets F.slot_list_extend ⟨_, e, rfl⟩ F.entry_list_extend (F.args_list_extend_2 _ _) (ext_meets l its.toArray n b its2.toArray n2 dd slo hlong (by rw [List.size_toArray]; omega) (by omega)) ⟨e, ho, ?_⟩
  refine ⟨.non, upd H l (.lst (xs ++ zs)), I.lset (its' := its ++ its2) hH e (by simp) (r.append r2) ?_, rfl, q⟩
  rw [List.length_append]
  omega
end
end TR

/-! DL, part i: chains, x += e, or by truth; all, sum, max, sorted; extend, tuples turned about; sorted(set(..)). -/
namespace D2
open PySem PySem.Spec PyProof.Rows L2
section
variable {X : Cx} {K : PySem.W.Frag} {ex : Addr → Prop} {f : Nat → Addr} {k : Nat} {H : Hp} {σ : En} {τ : L2.St} {st : Sto}
/-! ### a op b op' c -/
def wChain (g g' : G2) (wa wb wc : DTE) : DTE := fun σ st Q => wa σ st fun x st1 => wb σ st1 fun y st2 => g x y st2 fun z st3 => match z with | .bl true => wc σ st3 fun u st4 => g' y u st4 Q | .bl false => Q (.bl false) st3 | _ => False
theorem wChain_mono {g g' : G2} {wa wb wc : DTE} (mg : Mono2 g) (mg' : Mono2 g') (ma : MonoE wa) (mb : MonoE wb) (mc : MonoE wc) : MonoE (wChain g g' wa wb wc) := fun σ st Q Q' q h => ma _ _ _ _ (fun x s h1 => mb _ _ _ _ (fun y s2 h2 => mg _ _ _ _ _ (fun z s3 h3 => by
  split at h3
  · exact mc _ _ _ _ (fun u s4 h4 => mg' _ _ _ _ _ q h4) h3
  · exact q _ _ h3
  · exact h3.elim) h2) h1) h
theorem chain_lift {F F' : Value → Value → Sem Value} {g g' : G2} {wa wb wc : DTE} {r r' : R2} (q : ∀ ex f st H x y vx vy Q, RS X.K ex f st H → RD X.K ex f st.length H x vx → RD X.K ex f st.length H y vy → g x y st (Af X.K ex f st.length H Q) → r vx vy H Q)
    (q' : ∀ ex f st H x y vx vy Q, RS X.K ex f st H → RD X.K ex f st.length H x vx → RD X.K ex f st.length H y vy → g' x y st (Af X.K ex f st.length H Q) → r' vx vy H Q)
    (keep : ∀ x y st Q, g x y st Q → g x y st fun z st3 => Q z st3 ∧ st3 = st) (mg : Mono2 g) (mg' : Mono2 g') (ma : MonoE wa) (mb : MonoE wb) (mc : MonoE wc) (τ : L2.St) (H : Hp) (Q : VK) (h : lE X.K (wChain g g' wa wb wc) τ H Q) : tChain r r' (lE X.K wa) (lE X.K wb) (lE X.K wc) τ H Q := by
  obtain ⟨ex, f, σ, st, rs, er, h⟩ := h
  refine lE.use ma rs er h fun f1 H1 x st1 vx s1 r1 e1 rx h1 => ?_
  refine lE.use mb r1 e1 h1 fun f2 H2 y st2 vy s2 r2 e2 ry h2 => ?_
  refine q ex f2 st2 H2 x y vx vy _ r2 (rx.mono s2 r1.cel) ry (mg _ _ _ _ _ (fun z s3 h3 => ?_) (keep _ _ _ _ h2))
  obtain ⟨h3, rfl⟩ := h3
  intro f3 H3 v s3 r3 rz
  split at h3
  · cases rz
    refine ⟨true, rfl, ?_⟩
    rw [if_pos rfl]
    refine lE.use mc r3 (e2.mono s3 r2.cel) h3 fun f4 H4 u st4 vu s4 r4 e4 ru h4 => ?_
    exact q' ex f4 st4 H4 y u vy vu Q r4 ((ry.mono s3 r2.cel).mono s4 r3.cel) ru (mg' _ _ _ _ _ (fun d s hd => hd.later (((s1.trans s2).trans s3).trans s4)) h4)
  · cases rz
    refine ⟨false, rfl, ?_⟩
    rw [if_neg (by simp)]
    exact h3 f3 H3 _ ((s1.trans s2).trans s3) r3 (.bl false)
  · exact h3.elim
/-- comparisons of ints only (they leave the cells) -/
theorem gB_keep {g : Int → Int → Bool} (x y : Dv) (st : Sto) (Q : DK) (h : gB g x y st Q) : gB g x y st fun z st3 => Q z st3 ∧ st3 = st := by
  unfold gB at *
  split at h
  · exact ⟨h, rfl⟩
  · exact h.elim
theorem de_chain {op op' : CmpOp} {g g' : Int → Int → Bool} {a b c : Expr} {wa wb wc : DTE} {pos : Pos} (o : OpD X (compareOp op) (gB g)) (o' : OpD X (compareOp op') (gB g')) (ha : DE X a wa) (hb : DE X b wb) (hc : DE X c wc) (hm : lastMarks [op, op'] [b, c] = false := by with_unfolding_all rfl) :
    DE X (.Compare a [op, op'] [b, c] pos) (wChain (gB g) (gB g') wa wb wc) := by
  obtain ⟨mg, r, ho, q⟩ := o
  obtain ⟨mg', r', ho', q'⟩ := o'
  exact ⟨(pe_chain ho ho' ha.pe hb.pe hc.pe hm).imp (chain_lift (F := compareOp op) (F' := compareOp op') q q' gB_keep mg mg' ha.mono hb.mono hc.mono), wChain_mono mg mg' ha.mono hb.mono hc.mono⟩
theorem dt_chain {op op' : CmpOp} {g g' : Int → Int → Bool} {a b c : Expr} {wa wb wc : DTE} {pos : Pos} (o : OpD X (compareOp op) (gB g)) (o' : OpD X (compareOp op') (gB g')) (ha : DE X a wa) (hb : DE X b wb) (hc : DE X c wc) (hm : lastMarks [op, op'] [b, c] = false := by with_unfolding_all rfl) :
    DT X (.Compare a [op, op'] [b, c] pos) (wB (wChain (gB g) (gB g') wa wb wc)) := by
  obtain ⟨mg, r, ho, q⟩ := o
  obtain ⟨mg', r', ho', q'⟩ := o'
  have m := wChain_mono mg mg' ha.mono hb.mono hc.mono
  refine ⟨(pt_chain ho ho' ha.pe hb.pe hc.pe hm).imp fun τ H Q h => ?_, wB_mono m⟩
  obtain ⟨ex, f, σ, st, rs, er, h⟩ := h
  refine chain_lift (F := compareOp op) (F' := compareOp op') q q' gB_keep mg mg' ha.mono hb.mono hc.mono τ H (fun x H' => ∃ k, x = .bl k ∧ Q k H') ⟨ex, f, σ, st, rs, er, m _ _ _ _ (fun d s h1 f' H' v s' r' rd => ?_) h⟩
  split at h1
  · cases rd
    exact ⟨_, rfl, h1 f' H' s' r'⟩
  · exact h1.elim
/-! ### x += e, ints -/
def wAugI (i : Nat) (w : DTE) : DTS := fun D σ st => match σ[i]? with
  | some (some (.int a)) => w σ st fun d st1 => match d with | .int b => D.nx (σ.set i (some (.int (a + b)))) st1 | _ => False
  | _ => False
theorem ds_augI {i : Nat} {x : Str} {e : Expr} {w : DTE} {pos pos' : Pos} (hN : X.N.Nodup) (hi : X.N[i]? = some x) (hx : Loc X.env.scope x) (he : DE X e w) (hf : X.fn x = true ∨ X.env.scope.names.lookup x = some .local := by first | exact .inl rfl | exact .inr rfl | assumption) :
    DS X (.AugAssign (.Name x pos') .Add e pos) (wAugI i w) := by
  refine ⟨(ps_aug hN hi hx he.pe ip_add hf).imp fun D τ H h => ?_, fun σ st D D' l h => ?_⟩
  · obtain ⟨ex, f, σ, st, r, er, h⟩ := h
    unfold wAugI at h
    split at h
    · rename_i a ea
      obtain ⟨v, h1, h2⟩ := er.at_ i _ ea
      cases h2
      refine ⟨.int a, h1, lE.use he.mono r er h fun f1 H1 d st1 v s1 r1 e1 rd h3 => ?_⟩
      split at h3
      · cases rd
        exact ⟨_, _, rfl, rfl, h3 f1 H1 _ s1 r1 (e1.set (.int _))⟩
      · exact h3.elim
    · exact h.elim
  · unfold wAugI at *
    split at h
    · exact he.mono _ _ _ _ (fun d s h1 => by
        split at h1
        · exact l.nx _ _ h1
        · exact h1.elim) h
    · exact h.elim
/-! ### built-ins over lists -/
def gAll : Dv → Sto → DK → Prop := fun x st Q => ∃ bs : List Bool, lstD st x = some (bs.map Dv.bl) ∧ Q (.bl (bs.all id)) st
theorem RDs.bls_inv : ∀ {bs : List Bool} {vs : List V}, RDs K ex f k H (bs.map Dv.bl) vs → vs = bs.map V.bl
  | [], _, .nil => rfl
  | b :: bs, _, .cons h hs => by
    cases h
    rw [RDs.bls_inv hs]
    rfl
theorem cd_all (hc : X.calm = true) : CallD X (.builtin "all") (g1 gAll) := cd1 (cr_all hc) (fun x st Q Q' q ⟨bs, h1, h2⟩ => ⟨bs, h1, q _ _ h2⟩) (fun ex f st H x v Q r rd ⟨bs, h1, h2⟩ => by
  obtain ⟨a, vs, rfl, q, hs⟩ := lst_of r rd h1
  obtain rfl := RDs.bls_inv hs
  exact ⟨a, bs, rfl, q, h2.self r (.bl _)⟩)
def gSum : Dv → Sto → DK → Prop := fun x st Q => ∃ ns : List Int, lstD st x = some (ns.map Dv.int) ∧ Q (.int ns.sum) st
theorem cd_sum (hc : X.calm = true) : CallD X (.builtin "sum") (g1 gSum) := cd1 (cr_sum hc) (fun x st Q Q' q ⟨bs, h1, h2⟩ => ⟨bs, h1, q _ _ h2⟩) (fun ex f st H x v Q r rd ⟨bs, h1, h2⟩ => by
  obtain ⟨a, vs, rfl, q, hs⟩ := lst_of r rd h1
  obtain rfl := RDs.ints_inv hs
  exact ⟨a, bs, rfl, q, h2.self r (.int _)⟩)
def gMax : Dv → Sto → DK → Prop := fun x st Q => ∃ ns : List Int, lstD st x = some (ns.map Dv.int) ∧ 0 < ns.length ∧ ∀ m, m ∈ ns → (∀ y, y ∈ ns → y ≤ m) → Q (.int m) st
theorem cd_max (hc : X.calm = true) : CallD X (.builtin "max") (g1 gMax) := cd1 (cr_max hc) (fun x st Q Q' q ⟨bs, h1, h2, h3⟩ => ⟨bs, h1, h2, fun m h4 h5 => q _ _ (h3 m h4 h5)⟩) (fun ex f st H x v Q r rd ⟨bs, h1, h2, h3⟩ => by
  obtain ⟨a, vs, rfl, q, hs⟩ := lst_of r rd h1
  obtain rfl := RDs.ints_inv hs
  exact ⟨a, bs, rfl, q, h2, fun m h4 h5 => (h3 m h4 h5).self r (.int _)⟩)
abbrev gSortS : List Dv → Sto → (List Dv → Sto → Prop) → Prop := n1 fun x st Q => ∃ ss : List Str, lstD st x = some (ss.map Dv.str) ∧ ss.length < 64 ∧ ∀ ys : List Str, ys.Perm ss → sortedS ys = true → Q (ys.map Dv.str) st
/-- sorted of a list of fewer than 64 texts -/
theorem cn_sortS : CallN X (.builtin "sorted") gSortS := by
  refine ⟨fun xs st Q Q' z h => ?_, _, cr_sortedS, fun ex f st H xs vs Q rs rd h => ?_⟩
  · unfold gSortS n1 at *
    split at h
    · obtain ⟨ss, h1, h2, h3⟩ := h
      exact ⟨ss, h1, h2, fun ys h4 h5 => z _ _ (h3 ys h4 h5)⟩
    · exact h.elim
  · unfold gSortS n1 at h
    split at h
    · cases rd with
      | cons h1 h2 =>
        cases h2
        obtain ⟨ss, h3, h4, h5⟩ := h
        obtain ⟨a, vs, rfl, q, hs⟩ := lst_of rs h1 h3
        obtain rfl := RDs.strs_inv hs
        exact ⟨a, ss, rfl, q, h4, fun ys p h6 h7 hp => (h5 ys h6 h7).laid rs hp (RDs.strs ys)⟩
    · exact h.elim
theorem dn_callB {x : Str} {p pos : Pos} {e : Expr} {es : List Expr} {a : DTA} {id : String} {g : List Dv → Sto → (List Dv → Sto → Prop) → Prop} (c : CallN X (.builtin id) g) (hg : Gl X x) (hm : X.mg x = none) (hv : bootBuiltins x = some (.builtin id)) (ha : DA X (e :: es) a) (hn : x ≠ "__name__" := by decide) (hdb : (x == ("__debug__" : Str)) = false := by decide)
    (he : starEach (e :: es) X.env = (false, eval e X.env) :: starEach es X.env := by rfl) (hpl : (backTo pos (starEach es X.env)).any (·.1) = false := by rfl) : DN X (.Call (.Name x p) (e :: es) [] pos) (wCN g a) := by
  obtain ⟨mg, r, hr, q⟩ := c
  refine ⟨(pe_callB hr hg hm hv ha.pa hn hdb he hpl).imp fun τ H Q h => ?_, fun σ st Q Q' z h => ha.mono _ _ _ _ (fun xs s h1 => mg _ _ _ _ z h1) h⟩
  obtain ⟨ex, f, σ, st, rs, er, h⟩ := h
  refine lA.use ha.mono rs er h fun f1 H1 xs st1 vs s1 r1 e1 rd h1 => ?_
  exact q ex f1 st1 H1 xs vs Q r1 rd (mg _ _ _ _ (fun d s hd => hd.later s1) h1)
/-! ### sorted(set(xs)) of a list of texts -/
def wSS (w : DTE) : DTA := fun σ st Q => w σ st fun d st1 => ∃ ss : List Str, lstD st1 d = some (ss.map Dv.str) ∧ ss.length + 1 < scanBound ∧ ∀ ys : List Str, ys.Nodup → (∀ j, j ∈ ys ↔ j ∈ ss) → sortedS ys = true → Q (ys.map Dv.str) st1
theorem dn_ss {e : Expr} {w : DTE} {p p2 pos pos2 : Pos} (hc : X.calm = true) (hg : Gl X "sorted") (hm : X.mg "sorted" = none) (hg2 : Gl X "set") (hm2 : X.mg "set" = none) (he : DE X e w) (na : starEach [e] X.env = (false, eval e X.env) :: starEach [] X.env := by rfl)
    (nb : starEach [Expr.Call (.Name "set" p2) [e] [] pos2] X.env = (false, eval (Expr.Call (.Name "set" p2) [e] [] pos2) X.env) :: starEach [] X.env := by rfl) (n1 : (backTo pos2 (starEach [] X.env)).any (·.1) = false := by rfl) (n2 : (backTo pos (starEach [] X.env)).any (·.1) = false := by rfl) :
    DN X (.Call (.Name "sorted" p) [.Call (.Name "set" p2) [e] [] pos2] [] pos) (wSS w) := by
  refine ⟨(pe_callB (id := "sorted") SX.cr_sortTx hg hm (by decide +kernel) (pa_cons (pe_callTy (T := "set") SX.cr_setTx hg2 hm2 (by decide +kernel) (pa_cons he.pe pa_nil na) (by decide) (by decide) na n1) pa_nil nb) (by decide) (by decide) nb n2).imp fun τ H Q h => ?_, fun σ st Q Q' q h => he.mono _ _ _ _ (fun d s ⟨ss, h1, h2, h3⟩ => ⟨ss, h1, h2, fun ys h4 h5 h6 => q _ _ (h3 ys h4 h5 h6)⟩) h⟩
  obtain ⟨ex, f, σ, st, r, er, h⟩ := h
  refine lE.use he.mono r er h fun f1 H1 d st1 v s1 r1 e1 rd ⟨ss, h1, h2, h3⟩ => ?_
  obtain ⟨a, vs, rfl, q, hs⟩ := lst_of r1 rd h1
  obtain rfl := RDs.strs_inv hs
  refine ⟨a, ss, rfl, q, h2, hc, fun b m hb hm nd => ?_⟩
  refine ⟨b, m, rfl, upd_same, hc, fun ys p pm so hp => ?_⟩
  have S1 : Stp f1 st1.length H1 f1 st1.length (upd H1 b (SX.SetT X.prog X.w b m)) := Stp.new hb
  have r2 := r1.new (o := SX.SetT X.prog X.w b m) hb
  exact ((h3 ys (pm.nodup_iff.mpr nd) (fun j => (pm.mem_iff).trans (hm j)) so).later (s1.trans S1)).laid r2 hp (RDs.strs ys)
/-! ### a statement that is never reached -/
abbrev wDead : DTS := fun _ _ _ => False
theorem ds_dead {s : Stmt} : DS X s wDead := ⟨⟨fun pins sh τ H D I h => (by obtain ⟨ex, f, σ, st, r, er, h⟩ := h; exact h.elim)⟩, fun σ st D D' l h => h⟩
/-! ### t[::-1] -/
def wRevT (w : DTE) : DTE := fun σ st Q => w σ st fun d st1 => match d with | .tup xs => Q (.tup xs.reverse) st1 | _ => False
theorem de_revT {e : Expr} {w : DTE} {k : Nat} {p1 p2 p3 pos : Pos} (he : DE X e w) : DE X (.Subscript e (.Slice none none (some (.UnaryOp .USub (.Constant (.int 1) k p1) p2)) p3) pos) (wRevT w) := by
  refine ⟨(TR.pe_revT he.pe).imp fun τ H Q h => ?_, fun σ st Q Q' q h => he.mono _ _ _ _ (fun d s h1 => ?_) h⟩
  · obtain ⟨ex, f, σ, st, r, er, h⟩ := h
    refine lE.use he.mono r er h fun f1 H1 d st1 v s1 r1 e1 rd h1 => ?_
    split at h1
    · cases rd with
      | tup ha hs => exact ⟨_, _, rfl, ha, fun p hp => (Af.later h1 s1).newTup r1 hp hs.reverse⟩
    · exact h1.elim
  · split at h1
    · exact q _ _ h1
    · exact h1.elim
/-! ### xs.extend(ys) of a cell -/
def wExt (a b : DTE) : DTE := fun σ st Q => a σ st fun d st1 => match d with
  | .ref n => b σ st1 fun y st2 => ∃ xs ys, st2[n]? = some (.lst xs) ∧ tupD y = some ys ∧ xs.length + ys.length ≤ sizeLine ∧ Q .non (st2.set n (.lst (xs ++ ys)))
  | _ => False
theorem de_ext {o e : Expr} {wo we : DTE} {apos pos : Pos} (ho : DE X o wo) (he : DE X e we) (hs : starEach [e] X.env = (false, eval e X.env) :: starEach [] X.env := by rfl) (hbase : attributeBase o "extend" X.env (eval o X.env) = eval o X.env := by rfl)
    (hfew : ((backTo pos (starEach [e] X.env)).all (fun x => !x.1) && (backToKw pos (keywordEach [] X.env)).all (fun x => x.1.isSome) && decide ([e].length + ([] : List Keyword).length + (if ([] : List Keyword).isEmpty then 0 else 1) < 30)) = true := by rfl)
    (hline : (apos.endLine == pos.line) = true := by rfl) : DE X (.Call (.Attribute o "extend" apos) [e] [] pos) (wExt wo we) := by
  refine ⟨(pe_bm PySem.F.plainAttrs_list PySem.F.slot_list_extend PySem.F.type_list_extend TR.mt_extT ho.pe (pa_cons he.pe pa_nil hs) hbase hfew hline hs rfl).imp fun τ H Q h => ?_, fun σ st Q Q' q h => ho.mono _ _ _ _ (fun d s h1 => ?_) h⟩
  · obtain ⟨ex, f, σ, st, r, er, h⟩ := h
    refine lE.use ho.mono r er h fun f1 H1 d st1 v s1 r1 e1 rd h1 => ?_
    split at h1
    · rename_i n
      cases rd with
      | ref _ hn =>
        refine ⟨tyV_cel r1 hn, lE.use he.mono r1 e1 h1 fun f2 H2 y st2 u s2 r2 e2 ry ⟨xs, ys, h2, h3, h4, h5⟩ => ?_⟩
        obtain ⟨vs, e3, hs3⟩ := cel_at r2 h2
        obtain ⟨a, zs, rfl, hq, hz⟩ := tup_of ry h3
        rw [← s2.agree n hn]
        exact ⟨_, a, vs, zs, rfl, rfl, e3, hq, by rw [← hs3.length, ← hz.length]; exact h4, (Af.later h5 (s1.trans s2)).wrote r2 (List.getElem?_eq_some_iff.mp h2).1 (hs3.append hz) .non⟩
    · exact h1.elim
  · split at h1
    · exact he.mono _ _ _ _ (fun x s2 ⟨xs, ys, h3, h4, h5, h6⟩ => ⟨xs, ys, h3, h4, h5, q _ _ h6⟩) h1
    · exact h1.elim
end
end D2

/-! MD: max(xs, default = d) of a list of ints. -/
namespace MD
open PySem PySem.Spec PyProof.Rows L2
/-- the greatest of some ints, d where there is none -/
def top (d : Int) : List Int → Int
  | [] => d
  | x :: xs => xs.foldl (fun a b => if b > a then b else a) x
section
variable {P : Program} {w : World} {A : Around} {E : Value → Shared → Prop} {s : Shared}
def held : Option Int → Nat → Array Value
  | none, _ => #[]
  | some m, t => #[.int m t, .int m t]
theorem held_le (c : Option Int) (t : Nat) : (held c t).size ≤ sizeLine := by
  cases c with
  | none => exact Nat.zero_le _
  | some m => exact (show 2 ≤ sizeLine by decide)
def next (c : Option Int) (x : Int) : Int := match c with
  | none => x
  | some m => if x > m then x else m
theorem loop {R : Result → Shared → Prop} {I : Addr} {fp wr : List Addr} {n : Nat} {Pv : Nat → Value → Prop} {Sw : Nat → Heap → Prop} (W : Walks P w A.in1 I fp wr n Pv Sw) (S : Addr) (hS : S ∉ fp) (ns : List Int) (hn : n = ns.length) (hv : ∀ i v, Pv i v → ∃ t, v = .int (ns.getD i 0) t) (d : Int) (td : Tok) :
    ∀ (k i : Nat) (s : Shared) (c : Option Int) (t e : Nat), n - i = k → i ≤ n → Sw i s.heap → s.heap.get? S = some { cls := .type "list", dict := none, data := .seq (held c t) e, slots := #[] } →
      (∀ v h' tk, (∃ t', v = .int ((ns.drop i).foldl (fun c x => some (next c x)) c |>.getD d) t') → (∀ b o, b ∉ wr → b ≠ S → s.heap.get? b = some o → h'.get? b = some o) → R (.ok (.ret v)) { s with heap := h', toks := tk }) →
      codeAny (model P w) A (.builtin "max.loop" ⟨[.ref I, .none, .ref S], [("default", .int d td)]⟩) R s := by
  have hw : S ∉ wr := fun h => hS (W.sub _ h)
  have hname : (toString "max" ++ toString ".loop" : String) = "max.loop" := by decide
  intro k
  induction k with
  | zero =>
    intro i s c t e hk hi hst hs hR
    have hin : i = n := by omega
    have hd : ns.drop i = [] := by rw [hin, hn]; exact List.drop_length
    rw [hd] at hR
    refine codeAny_builtin PySem.F.entry_max_loop ?_
    rw [Around.under_plainId PySem.F.plain_max_loop _]
    show wpAny _ A.in1 (seqItems? (.ref S) >>= _) _ _ s
    refine wpAny_bind (wpAny_seqItems hs rfl ?_)
    show wpAny _ A.in1 (tryCatch (pyNext (.ref I)) _ >>= _) _ _ s
    refine wpAny_bind (wpAny_tryCatch (W.done s _ _ (hin ▸ hst) fun h' tk hk' => ?_))
    cases c with
    | none =>
      show wpAny _ A.in1 (rule _ >>= fun _ => ret (Value.int d td)) _ _ _
      exact wpAny_bind (wpAny_rule (wpAny_pure (hR _ h' tk ⟨_, rfl⟩ fun b o hb _ q => hk' b o hb q)))
    | some m =>
      have hs' := hk' S _ hw hs
      show wpAny _ A.in1 (updateSeq S (fun _ => #[]) >>= _) _ _ _
      refine wpAny_bind ?_
      refine wpAny_updateSeq (hz := held_le _ _) hs' rfl (wpAny_bind (wpAny_letGo (wpAny_pure ?_)))
      exact hR _ _ tk ⟨t, rfl⟩ fun b o hb hbS q => (Heap.get?_update_other _ _ (Ne.symm hbS)).trans (hk' b o hb q)
  | succ k ih =>
    intro i s c t e hk hi hst hs hR
    have hlt : i < n := by omega
    have hx : ns.drop i = ns.getD i 0 :: ns.drop (i + 1) := by
      have h1 : i < ns.length := by omega
      rw [List.drop_eq_getElem_cons h1, List.getD_eq_getElem?_getD, List.getElem?_eq_getElem h1]
      rfl
    rw [hx, List.foldl_cons] at hR
    refine codeAny_builtin PySem.F.entry_max_loop ?_
    rw [Around.under_plainId PySem.F.plain_max_loop _]
    show wpAny _ A.in1 (seqItems? (.ref S) >>= _) _ _ s
    refine wpAny_bind (wpAny_seqItems hs rfl ?_)
    show wpAny _ A.in1 (tryCatch (pyNext (.ref I)) _ >>= _) _ _ s
    refine wpAny_bind (wpAny_tryCatch (W.item i s _ _ hlt hst fun v h' tk hP hst' hk' => ?_))
    obtain ⟨tv, rfl⟩ := hv i v hP
    have hs' := hk' S _ hw hs
    -- the new best stands in S
    have lay : ∀ t', (next c (ns.getD i 0) = ns.getD i 0) → codeAny (model P w) A (.builtin "max.loop" ⟨[.ref I, .none, .ref S], [("default", .int d td)]⟩) R { s with heap := h'.update S (Obj.mapSeq fun _ => #[.int (ns.getD i 0) t', .int (ns.getD i 0) t']), toks := tk } := fun t' hnx => by
      refine ih (i + 1) _ (some (ns.getD i 0)) t' _ (by omega) hlt (W.frame _ _ _ hst' fun b hb o q => ?_) (Heap.get?_update_self _ hs' rfl) fun v' h2 tk2 hv2 hk2 => ?_
      · exact (Heap.get?_update_other _ _ (fun z : S = b => hS (by rw [z]; exact hb))).trans q
      · rw [hnx] at hR
        exact hR v' h2 tk2 hv2 fun b o hb hbS q => hk2 b o hb hbS ((Heap.get?_update_other _ _ (Ne.symm hbS)).trans (hk' b o hb q))
    cases c with
    | none =>
      show wpAny _ A.in1 (updateSeq S (fun _ => #[.int (ns.getD i 0) tv, .int (ns.getD i 0) tv]) >>= _) _ _ _
      refine wpAny_bind ?_
      refine wpAny_updateSeq (hz := held_le _ _) hs' rfl ?_
      rw [hname]
      exact wpAny_pure ⟨plainId_quiet PySem.F.plain_max_loop _, lay tv rfl⟩
    | some m =>
      show wpAny _ A.in1 (tryCatch (holding [.int (ns.getD i 0) tv, .int (ns.getD i 0) tv] (richCompare .Gt (.int (ns.getD i 0) tv) (.int m t) >>= _)) _ >>= _) _ _ _
      have hc : CmpOf P w A.in1 .Gt (fun (j : Nat) (v : Value) => ∃ t, v = .int (if j = 0 then ns.getD i 0 else m) t) (fun i' j' => decide ((if i' = 0 then ns.getD i 0 else m) > (if j' = 0 then ns.getD i 0 else m))) := CmpOf.ints_gt (fun j => if j = 0 then ns.getD i 0 else m) fun _ _ h => h
      refine wpAny_bind (wpAny_tryCatch (wpAny_holding (wpAny_bind (hc 0 1 _ _ _ _ _ ⟨tv, rfl⟩ ⟨t, rfl⟩ ?_))))
      refine wpAny_bind (wpAny_holding (wpAny_truthy_bool ?_))
      refine wpAny_bind (wpAny_letGo (wpAny_pure ?_))
      show wpAny _ A.in1 (if decide (ns.getD i 0 > m) = true then _ else _) _ _ _
      by_cases hb : ns.getD i 0 > m
      · rw [if_pos (decide_eq_true hb)]
        refine wpAny_bind ?_
        refine wpAny_updateSeq (hz := held_le _ _) hs' rfl (wpAny_bind (wpAny_letGo ?_))
        rw [hname]
        exact wpAny_pure ⟨plainId_quiet PySem.F.plain_max_loop _, lay tv (if_pos hb)⟩
      · rw [if_neg (by simpa using hb)]
        refine wpAny_bind (wpAny_letGo ?_)
        rw [hname]
        refine wpAny_pure ⟨plainId_quiet PySem.F.plain_max_loop _, ih (i + 1) _ (some m) t e (by omega) hlt hst' hs' fun v' h2 tk2 hv2 hk2 => ?_⟩
        refine hR v' h2 tk2 ?_ fun b o hbw hbS q => hk2 b o hbw hbS (hk' b o hbw q)
        rw [show next (some m) (ns.getD i 0) = m from if_neg hb]
        exact hv2
theorem ints_at {vs : List Value} {ns : List Int} (h : IntsAre vs ns) : ∀ (i : Nat) (v : Value), vs[i]? = some v → ∃ t, v = .int (ns.getD i 0) t := by
  induction h with
  | nil => exact fun i v e => by simp at e
  | cons n t hr ih =>
    intro i v e
    cases i with
    | zero =>
      simp at e
      exact ⟨t, by rw [← e]; rfl⟩
    | succ i =>
      obtain ⟨t', q⟩ := ih i v (by simpa using e)
      exact ⟨t', by rw [q]; rfl⟩
/-- max(xs, default = d) -/
theorem call_max_d {l : Addr} {its : List Value} {ns : List Int} {d : Int} {td : Tok} {Q : Value → Shared → Prop} (hh : A.handled = none) (hl : s.heap.IsList l its.toArray) (hi : IntsAre its ns)
    (h : ∀ h' tk t', (∀ b o, s.heap.get? b = some o → h'.get? b = some o) → Q (.int (ns.foldl (fun c x => some (next c x)) none |>.getD d) t') { s with heap := h', toks := tk }) :
    wpAny (model P w) A (call (.builtin "max") [.ref l] [("default", .int d td)]) Q E s := by
  have hname : (toString "max" ++ toString ".loop" : String) = "max.loop" := by decide
  have ha : argsOk "max" ⟨[.ref l], [(Str.ofString "default", .int d td)]⟩ := by unfold argsOk; kernel_rfl
  refine wpAny_call (codeAny_call_builtin PySem.F.plain_max PySem.F.entry_max ?_)
  simp only [checkBuiltinCall, PySem.F.kind_max]
  have go : wpAny (model P w) A.in1 (Builtin.«max» ⟨[.ref l], [(Str.ofString "default", .int d td)]⟩) (fun fin s' => match fin with
      | .done f => (match (Except.ok f : Result) with | .ok (.ret v) => Q v s' | .ok _ => False | .error e => E e s')
      | .again c' => c'.quiet = true ∧ codeAny (model P w) A c' (fun r s' => match r with | .ok (.ret v) => Q v s' | .ok _ => False | .error e => E e s') s') E s := by
    show wpAny _ A.in1 (Builtin.Builtins.bindParams "max" ["key", "default"] 0 ⟨[], [(Str.ofString "default", .int d td)]⟩ >>= _) _ _ s
    refine wpAny_bind (wpAny_of_eq (show Builtin.Builtins.bindParams "max" ["key", "default"] 0 ⟨[], [(Str.ofString "default", .int d td)]⟩ = pure [none, some (.int d td)] from rfl) ?_)
    refine wpAny_bind (wpAny_pure ?_)
    have lt : l < s.heap.objs.size := by
      obtain ⟨_, e, _⟩ := hl
      exact Heap.lt_size e
    refine wpAny_bind ?_
    refine wpAny_pyIter_list hl ?_
    refine wpAny_bind (wpAny_newObj_type ?_)
    rw [hname]
    refine wpAny_pure ⟨plainId_quiet PySem.F.plain_max_loop _, ?_⟩
    generalize hIt : ({ cls := .type "list_iterator", data := .fields #[.ref l, .int 0 0] } : Obj) = It
    have e1 : (s.heap.push It).get? s.heap.objs.size = some It := Heap.get?_push_size _ (by rw [← hIt]; rfl)
    have sz : (s.heap.push It).objs.size = s.heap.objs.size + 1 := Heap.size_push ..
    rw [sz]
    refine loop (Walks.list (A := A.in1) hh s.heap.objs.size l (Nat.ne_of_lt lt) its.toArray) (s.heap.objs.size + 1) ?_ ns (by rw [List.size_toArray]; exact hi.length) (fun i v hv => ints_at hi i v (by simpa using hv)) d td _ 0 _ none 0 0 rfl (Nat.zero_le _)
      ⟨⟨It, Heap.get?_push_of_some _ e1, by rw [← hIt], by rw [← hIt]; rfl⟩, (hl.push _).push _⟩ ?_ fun v h' tk hv hk => ?_
    · simp only [List.mem_cons, List.not_mem_nil, or_false, not_or]
      exact ⟨Nat.ne_of_gt (Nat.lt_succ_self _), Nat.ne_of_gt (Nat.lt_succ_of_lt lt)⟩
    · rw [← sz]
      exact Heap.get?_push_size _ rfl
    · obtain ⟨t', rfl⟩ := hv
      rw [List.drop_zero]
      refine h h' tk t' fun b o q => hk b o ?_ ?_ (Heap.get?_push_of_some _ (Heap.get?_push_of_some _ q))
      · simp only [List.mem_cons, List.not_mem_nil, or_false]
        exact Nat.ne_of_lt (Heap.lt_size q)
      · exact Nat.ne_of_lt (Nat.lt_succ_of_lt (Heap.lt_size q))
  cases hsig : Manifest.signature? "max" with
  | none => exact wpAny_pure go
  | some sig =>
    simp only [argsOk, hsig] at ha
    have h2 : Bind.checkArgs "max" sig ⟨[.ref l], [(Str.ofString "default", .int d td)]⟩ = pure () := ha
    show wpAny _ A.in1 (Bind.checkArgs "max" sig ⟨[.ref l], [(Str.ofString "default", .int d td)]⟩) _ _ s
    rw [h2]
    exact wpAny_pure go
end
end MD

/-! DL, part j: max(xs, default = d); sets of texts that grow (over the hand layer). -/
namespace SX
open PySem PySem.Spec PyProof.Rows L2
section
variable {X : Cx}
theorem setT_get {pins : List (Addr × Obj)} {σ : L2.St} {H : Hp} {s : Shared} {a : Addr} {ks : List Str} (I : Inv X pins σ H s) (ha : H a = some (SetT X.prog X.w a ks)) : St (PySem.strKind X.prog X.w) s.heap a ks := (I.hok a _ ha).1
/-- set() -/
theorem cr_set0 : CallR X (.type "set") (fun xs H Q => xs = [] ∧ ∀ p, H p = none → Q (.ref p) (upd H p (SetT X.prog X.w p []))) := by
  intro pins s σ H xs us Q I r h
  obtain ⟨rfl, q⟩ := h
  cases r
  refine setR_new fun _ => ?_
  have new : St (PySem.strKind X.prog X.w) (s.heap.push { cls := .type "set", dict := none, data := .set #[] 0 (.fresh 0 0 (!X.w.params.followText "set-order")) }) s.heap.objs.size [] := fresh (Heap.get?_push_size _ rfl)
  exact ⟨.ref _, upd H s.heap.objs.size (SetT X.prog X.w s.heap.objs.size []), I.laid (t' := s.toks) (fun b u e => Heap.get?_push_of_some _ e) (Nat.le_refl _) (setT_ok new), rfl, q _ (I.hok.fresh (Nat.le_refl _))⟩
theorem St.setOf {P : Program} {w : World} {κ : Type} [DecidableEq κ] {knd : KeyKind P w κ} {h : Heap} {a : Addr} {ks : List κ} (R : St knd h a ks) : h.SetOf knd a (fun k => decide (k ∈ ks)) ks.length := by
  obtain ⟨o, es, ep, t, ho, hx, hd, T⟩ := R
  exact ⟨o, es, ep, t, ho, hx, hd, T.ents.elems, fun k => by rw [decide_eq_true_eq]; exact T.ents.mem k, T.few, T.fits, T.size⟩
theorem call_add {P : Program} {w : World} {A : Around} {E : Value → Shared → Prop} {s : Shared} {κ : Type} [DecidableEq κ] {knd : KeyKind P w κ} {a : Addr} {x : Value} {k : κ} {ks : List κ} {Q : Value → Shared → Prop} (hk : knd.is k x = true) (hs : x.scannable = true) (R : St knd s.heap a ks) (room : ks.length + 1 < scanBound)
    (h : ∀ h' ks', Heap.SameBut a s.heap h' → St knd h' a ks' → (∀ j, j ∈ ks' ↔ j = k ∨ j ∈ ks) → ks'.length ≤ ks.length + 1 → Q .none { s with heap := h', toks := s.toks + 1 }) : wpAny (model P w) A (call (.builtin "set.add") [.ref a, x]) Q E s := by
  refine wpAny_call_entry PySem.F.slot_set_add R.setOf.typeIs PySem.F.entry_set_add ?_ (PySem.F.args_set_add_2 _ _)
  unfold Builtin.«set.add» Builtin.Frozenset.oneOther
  simp only [List.isEmpty_nil, bind_assoc]
  unfold Builtin.Frozenset.addrOf setAdd
  refine wpAny_bind (wpAny_pure ?_)
  try dsimp only
  refine wpAny_bind (wpAny_pure ?_)
  try dsimp only
  refine wpAny_bind (wpAny_holding (wpAny_bind (knd.pyHash hk ?_)))
  refine add_hashed (s := { s with toks := s.toks + 1 }) hk hs R room fun b h' ks' sb R' hm hl => ?_
  show wpAny _ _ (ret Value.none) _ _ _
  exact wpAny_pure ⟨_, rfl, h h' ks' sb R' hm hl⟩
/-- found.add(x) -/
def tAddTx (P : Program) (w : World) (to te : TE) : TE := fun σ H Q => to σ H fun x H1 => ∃ (a : Addr) (ks : List Str), x = .ref a ∧ H1 a = some (SetT P w a ks) ∧ te σ H1 fun y H2 => ∃ (k : Str), y = .str k ∧ H2 a = some (SetT P w a ks) ∧ ks.length + 1 < scanBound ∧
  ∀ ks', (∀ j, j ∈ ks' ↔ j = k ∨ j ∈ ks) → ks'.length ≤ ks.length + 1 → ks'.Nodup → Q .non (upd H2 a (SetT P w a ks'))
theorem pe_addTx {o e : Expr} {to te : TE} {apos cpos : Pos} (ho : PE X o to) (he : PE X e te) (hbase : attributeBase o "add" X.env (eval o X.env) = eval o X.env := by rfl)
    (hfew : ((backTo cpos (starEach [e] X.env)).all (fun x => !x.1) && (backToKw cpos (keywordEach [] X.env)).all (fun x => x.1.isSome) && decide ([e].length + ([] : List Keyword).length + (if ([] : List Keyword).isEmpty then 0 else 1) < 30)) = true := by rfl)
    (hline : (apos.endLine == cpos.line) = true := by rfl) (hs : starEach [e] X.env = (false, eval e X.env) :: starEach [] X.env := by rfl) (hplain : (backTo cpos (starEach [] X.env)).any (·.1) = false := by rfl) :
    PE X (.Call (.Attribute o "add" apos) [e] [] cpos) (tAddTx X.prog X.w to te) := by
  refine ⟨fun pins s σ H Q I h => wpAny_Call_method_late hbase hfew hline rfl (thn (ho.run pins s σ H _ I h) fun v s1 ⟨x, H1, I1, r1, a, ks, ex, ha, q1⟩ => ?_)⟩
  subst ex
  cases r1
  have hS := (setT_get I1 ha).setOf
  refine ⟨"set", "set.add", PySem.F.plainAttrs_set, PySem.F.slot_set_add, PySem.F.type_set_add, hS.typeIs, hS.noDict, ?_⟩
  have hA := (pa_cons he pa_nil hs).run cpos pins s1 σ H1 (fun vs H2 => match vs with | [y] => ∃ k : Str, y = .str k ∧ H2 a = some (SetT X.prog X.w a ks) ∧ ks.length + 1 < scanBound ∧ ∀ ks', (∀ j, j ∈ ks' ↔ j = k ∨ j ∈ ks) → ks'.length ≤ ks.length + 1 → ks'.Nodup → Q .non (upd H2 a (SetT X.prog X.w a ks')) | _ => False) I1 q1
  rw [hs] at hA ⊢
  refine Calls.callWith_builtin (by show (false || (backTo cpos (starEach [] X.env)).any (·.1)) = false; rw [hplain] <;> rfl) (Calls.evalArgs_plain ?_)
  refine thn hA fun us s2 ⟨vs, H2, I2, r2, hq⟩ => ?_
  dsimp only at hq
  split at hq
  · obtain ⟨k, ek, ha2, room, q⟩ := hq
    subst ek
    obtain ⟨u, rfl, t, rfl⟩ := r2.one
    have R := setT_get I2 ha2
    refine call_add (knd := PySem.strKind X.prog X.w) (strKind_is _ _ _ _) rfl R room fun h' ks' sb R' hm hl => ?_
    have nd : ks'.Nodup := by
      obtain ⟨o, es, ep, t, ho, hx, hd, T⟩ := R'
      exact T.nd
    have he2 : ∃ u, h'.get? a = some u := R'.imp fun o q => q.choose_spec.choose_spec.choose_spec.1
    exact ⟨.non, upd H2 a (SetT X.prog X.w a ks'), I2.write (e := a) (t' := s2.toks + 1) (by rw [ha2]; trivial) (.inl rfl) (fun b u hb hu => (sb.2 b hb).trans hu) he2 (setT_ok R'), rfl, q ks' hm hl nd⟩
  · exact hq.elim
end
end SX
namespace D2
open PySem PySem.Spec PyProof.Rows L2
section
variable {X : Cx} {K : PySem.W.Frag} {ex : Addr → Prop} {f : Nat → Addr} {k : Nat} {H : Hp} {σ : En} {τ : L2.St} {st : Sto}
/-- the greatest, d where there is none -/
def maxD (d : Int) (ns : List Int) : Int := (ns.foldl (fun c x => some (MD.next c x)) none).getD d
theorem cr_maxD (hc : X.calm = true) : CallRK X (.builtin "max") [Str.ofString "default"] (fun xs zs H Q => ∃ (a : Addr) (ns : List Int) (d : Int), xs = [.ref a] ∧ zs = [.int d] ∧ SqL X.K H a (ns.map V.int) ∧ Q (.int (maxD d ns)) H) := by
  intro pins s σ H xs zs us ws Q I r r2 h
  obtain ⟨a, ns, d, rfl, rfl, hs, q⟩ := h
  obtain ⟨its, rv, hl, _⟩ := I.list hs
  rw [Vals.ref1 r]
  obtain ⟨u, rfl, t, rfl⟩ := r2.one
  exact MD.call_max_d (I.ok.hd hc) hl.isList rv.ints fun h' tk t' hk => ⟨.int _, H, I.kept hk, ⟨_, rfl⟩, q⟩
def wMaxD (a b : DTA) : DTE := fun σ st Q => a σ st fun xs st1 => b σ st1 fun zs st2 => match xs, zs with | [x], [.int d] => ∃ ns : List Int, lstD st2 x = some (ns.map Dv.int) ∧ Q (.int (maxD d ns)) st2 | _, _ => False
theorem de_maxD {p pos : Pos} {e : Expr} {kws : List Keyword} {a b : DTA} (hc : X.calm = true) (hg : Gl X "max") (hm : X.mg "max" = none) (ha : DA X [e] a) (hb : DK1 X kws b) (he : backTo pos (starEach [e] X.env) = (false, eval e X.env) :: backTo pos (starEach [] X.env) := by rfl) (hpl : (backTo pos (starEach [e] X.env)).any (·.1) = false := by rfl)
    (hall : (backToKw pos (keywordEach kws X.env)).all (·.1.isSome) = true := by rfl) (hnone : (backToKw pos (keywordEach kws X.env)).any (·.1.isNone) = false := by rfl) (hks : (backToKw pos (keywordEach kws X.env)).filterMap (·.1) = [Str.ofString "default"] := by rfl) :
    DE X (.Call (.Name "max" p) [e] kws pos) (wMaxD a b) := by
  refine ⟨(pe_callBK (cr_maxD hc) hg hm (by decide +kernel) ha.pa hb.pk (by decide) (by decide) he hpl hall hnone hks).imp fun τ H Q h => ?_, fun σ st Q Q' q h => ha.mono _ _ _ _ (fun xs s h1 => hb.mono _ _ _ _ (fun zs s2 h2 => ?_) h1) h⟩
  · obtain ⟨ex, f, σ, st, r, er, h⟩ := h
    refine lA.use ha.mono r er h fun f1 H1 xs st1 vs s1 r1 e1 rd1 h1 => ?_
    refine lA.use hb.mono r1 e1 h1 fun f2 H2 zs st2 ws s2 r2 e2 rd2 h2 => ?_
    have rd1 := rd1.mono s2 r1.cel
    split at h2
    · obtain ⟨ns, h3, h4⟩ := h2
      cases rd1 with
      | cons q1 q2 =>
        cases q2
        cases rd2 with
        | cons q3 q4 =>
          cases q3
          cases q4
          obtain ⟨p, us, rfl, hq, hs⟩ := lst_of r2 q1 h3
          obtain rfl := RDs.ints_inv hs
          exact ⟨p, ns, _, rfl, rfl, hq, h4 f2 H2 _ (s1.trans s2) r2 (.int _)⟩
    · exact h2.elim
  · split at h2
    · obtain ⟨ns, h3, h4⟩ := h2
      exact ⟨ns, h3, q _ _ h4⟩
    · exact h2.elim
end
end D2

/-! EN: enumerate of a tuple (the hand layer has it for lists), enumerate of any data, zip of two tuples, as walks over data. -/
namespace EN
open PySem PySem.Spec PyProof.Rows L2
theorem meets_enum1 {v : Value} {o : Obj} {H : Heap → Prop} (B : Begins v o H) :
    Meets (Builtin.«enumerate.__new__» ⟨[.type "enumerate", v], []⟩) (fun _ R s => H s.heap ∧
      R (.ok (.ret (.ref (s.heap.push o).objs.size))) { s with heap := (s.heap.push o).push { cls := .type "enumerate", data := .fields #[.none, .bool false, .ref s.heap.objs.size, rawInt 0, .none, .none] } }) :=
  .of_wp fun prog w A R s h => by
    obtain ⟨hp, g, d, tk, os⟩ := s; obtain ⟨h1, h⟩ := h
    have hsub := sub_enumerate
    have q1 : ∀ {A' : Around} {E : Value → Shared → Prop} {Q : Value → Shared → Prop}, Q (.ref hp.objs.size) ⟨hp.push o, g, d, tk, os⟩ → wpAny (model prog w) A' (pyIter v) Q E ⟨hp, g, d, tk, os⟩ :=
      fun q => B.iter prog w _ _ ⟨hp, g, d, tk, os⟩ _ h1 q
    wp_walk using q1
    refine wpAny_stack_any fun st => wpAny_pure ?_
    split
    · rename_i c _ _ _ _ _
      cases (c == Value.type "enumerate")
      · wp_walk using q1
        exact ⟨_, rfl, h⟩
      · wp_walk using q1
        exact ⟨_, rfl, h⟩
    · wp_walk using q1
      exact ⟨_, rfl, h⟩
section
variable {prog : Program} {w : World} {A : Around} {E : Value → Shared → Prop} {s : Shared}
theorem call_enum1 {v : Value} {o : Obj} {H : Heap → Prop} {Q : Value → Shared → Prop} (B : Begins v o H) (h1 : H s.heap)
    (h : ∀ h', IsEnum h' (s.heap.objs.size + 1) s.heap.objs.size 0 .none → h'.get? s.heap.objs.size = some o → h'.objs.size = s.heap.objs.size + 2 →
      (∀ b o, s.heap.get? b = some o → h'.get? b = some o) → Q (.ref (s.heap.objs.size + 1)) { s with heap := h' }) :
    wpAny (model prog w) A (call (.type "enumerate") [v]) Q E s := by
  refine callType_new F.called_enumerate (by decide) (F.typeCall_enumerate_1 _) (F.newCall_enumerate_1 _) (fun obj => F.args_object_init_2 obj _) F.entry_enumerate_new
    (meets_enum1 B) ⟨h1, ?_⟩
  have hz : (s.heap.push o).objs.size = s.heap.objs.size + 1 := Heap.size_push ..
  show _ ∧ _
  rw [hz]
  have he : IsEnum ((s.heap.push o).push { cls := .type "enumerate", data := .fields #[.none, .bool false, .ref s.heap.objs.size, rawInt 0, .none, .none] }) (s.heap.objs.size + 1) s.heap.objs.size 0 .none := by
    have := Heap.get?_push_size (s.heap.push o) (o := { cls := .type "enumerate", data := .fields #[.none, .bool false, .ref s.heap.objs.size, rawInt 0, .none, .none] }) rfl
    rw [hz] at this; exact this
  refine ⟨⟨_, he, rfl⟩, h _ he (Heap.get?_push_of_some _ (Heap.get?_push_size _ B.free)) (by rw [Heap.size_push, hz]) fun b o x => Heap.get?_push_of_some _ (Heap.get?_push_of_some _ x)⟩
end
/-- the tuple at a at each turn, each item in a new pair -/
def IteT (K : PySem.W.Frag) (a : Addr) : It :=
  ⟨fun i H => ∃ (xs : List V) (x : V), SqT K H a xs ∧ xs[i]? = some x, fun i H v H' => ∃ T x, v = .ref T ∧ H T = none ∧ H' = upd H T (.tup [.int (i : Nat), x]) ∧ ∀ xs, SqT K H a xs → xs[i]? = some x, fun i H => ∃ xs : List V, SqT K H a xs ∧ xs.length = i⟩
theorem turn_enumT {P : Program} {w : World} {K : PySem.W.Frag} {elts : List Expr} {kk : Nat} {tpos : Pos} (a e it : Addr) :
    Turn P w K (.Tuple elts kk tpos) (IteT K a) [e, it] e (fun i h => (∃ old, IsEnum h e it ((i : Nat) : Int) old) ∧ h.IsTupleIter it a i ∧ e ≠ it ∧ e ≠ a ∧ a ≠ it) where
  mem := by simp
  obj := fun i h st b hb => by
    obtain ⟨⟨old, he⟩, ⟨o, ho, hc, hd⟩, _⟩ := st
    have e' : b = e ∨ b = it := by simpa using hb
    rcases e' with z | z
    · rw [z]; exact ⟨_, he, fun v q => nomatch q⟩
    · rw [z]; exact ⟨o, ho, fun v q => by rw [hd] at q; cases q⟩
  keep := fun i h h' st k => let ⟨⟨old, he⟩, hi, hne⟩ := st; ⟨⟨old, k e (by simp) _ he⟩, hi.at fun o q => k it (by simp) o q, hne⟩
  item := by
    intro X hP hw hK hc i pins s σ H E I hf st hg
    subst hP hw hK
    obtain ⟨⟨old, he⟩, hit, hne, hea, hai⟩ := st
    obtain ⟨xs, x, hq, hx⟩ := hg
    obtain ⟨its, rv, p, hz⟩ := I.tuple hq
    have pt : s.heap.IsTuple a its.toArray := p
    obtain ⟨u, hu, ru⟩ := rv.get hx
    have hel : e < s.heap.objs.size := Heap.lt_size he
    have hil : it < s.heap.objs.size := by obtain ⟨_, q, _⟩ := hit; exact Heap.lt_size q
    have hlt : i < its.toArray.size := by
      have := (List.getElem?_eq_some_iff.mp hu).1
      simpa using this
    have D := Draws.tuple (prog := X.prog) (w := X.w) (A := X.A.in1) (I.ok.hd hc) it a hai its.toArray
    refine wpAny_pyNext_enum_itemD D he (i := i) ⟨hit, pt⟩ hlt hne (by simp [hne, hea]) fun y h' tk hy ho hst hT hsz hk => ?_
    have ey : y = u := by
      have q : its.toArray[i]? = some u := by simpa using hu
      rw [q] at hy
      exact (Option.some.inj hy).symm
    subst ey
    refine ⟨_, rfl, wpAny_letOwnedTupleGo_enum (s := { s with heap := h', toks := tk + 1 }) ho fun h'' he' sb => ?_⟩
    have hT2 : h''.get? s.heap.objs.size = some { cls := .type "tuple", data := .seq #[.int i tk, y] } := (sb.2 _ (Nat.ne_of_gt hel)).trans hT
    have new : ObjOk X.prog X.w (upd H s.heap.objs.size (.tup [.int (i : Nat), x])) h'' s.heap.objs.size (.tup [.int (i : Nat), x]) :=
      ⟨by show 2 ≤ sizeLine; decide, [.int i tk, y], .cons ⟨_, rfl⟩ (.cons ru .nil), ⟨_, hT2, rfl, _, rfl⟩⟩
    have I1 : Inv X pins σ (upd H s.heap.objs.size (.tup [.int (i : Nat), x])) { s with heap := h'', toks := tk + 1 } :=
      I.turnedNew (ch := [e, it]) (fun b ob hb q => (sb.2 b (fun z => hb (by simp [z]))).trans (hk b ob (fun z => hb (by simp [z])) (fun z => hb (by simp [z])) q)) hf (Nat.le_refl _) new
    refine ⟨.ref s.heap.objs.size, _, I1, rfl, ⟨_, x, rfl, I.hok.fresh (Nat.le_refl _), rfl, fun ys hy => by rw [I.tuple_inj hy hq]; exact hx⟩, ⟨⟨y, ?_⟩, hst.1.at fun o q => (sb.2 it (Ne.symm hne)).trans q, hne, hea, hai⟩, fun b hb => ?_⟩
    · have e1 : ((i + 1 : Nat) : Int) = (i : Int) + 1 := by omega
      rw [e1]; exact he'
    · have hb' : b < s.heap.objs.size := by
        have e' : b = e ∨ b = it := by simpa using hb
        rcases e' with z | z
        · rw [z]; exact hel
        · rw [z]; exact hil
      rw [upd_ne (Nat.ne_of_lt hb')]
      exact (hf b hb).1
  done := by
    intro X hP hw hK hc i pins s σ H E I hf st hg
    subst hP hw hK
    obtain ⟨⟨old, he⟩, hit, hne, hea, hai⟩ := st
    obtain ⟨xs, hq, hx⟩ := hg
    obtain ⟨its, rv, p, hz⟩ := I.tuple hq
    have pt : s.heap.IsTuple a its.toArray := p
    obtain ⟨f0, f1, f2, f3, f4, f5⟩ := hf it (by simp)
    have hl := rv.length
    have D := Draws.tuple (prog := X.prog) (w := X.w) (A := X.A.in1) (I.ok.hd hc) it a hai its.toArray
    have en : i = its.toArray.size := by simp; omega
    subst en
    exact wpAny_pyNext_enum_endD D he ⟨hit, pt⟩ fun h' eb => ⟨rfl, I.turned (t' := s.toks) (fun b o hb q => eb b o hb q) f0 f1 f3 f4 f5⟩
  self := fun A i s Q E st h => let ⟨⟨_, he⟩, _⟩ := st; wpAny_pyIter_enum he h
/-- enumerate of a list or of a tuple -/
def iEnumA (K : PySem.W.Frag) (ta : TA) : TI := fun σ H R => ta σ H fun vs H1 => ∃ a xs, vs = [.ref a] ∧ ((SqL K H1 a xs ∧ R (Ite K a) H1) ∨ (SqT K H1 a xs ∧ R (IteT K a) H1))
theorem pi_enumA {X : Cx} {e : Expr} {ta : TA} {p pos tpos : Pos} {elts : List Expr} {kk : Nat} (hg : Gl X "enumerate") (hm : X.mg "enumerate" = none) (ha : PA X [e] ta) (hs : starEach [e] X.env = [(false, eval e X.env)] := by rfl) :
    PI X (.Tuple elts kk tpos) (.Call (.Name "enumerate" p) [e] [] pos) (iEnumA X.K ta) := by
  refine ⟨fun pins s σ H R I h => ?_⟩
  refine Call_ (ld_blt I hg hm boot_enumerate (PyProof.Rows.callWith_type1 (thn (ha.run pos pins s σ H _ I h) fun us s1 ⟨vs, H1, I1, r1, q1⟩ => ?_) hs rfl))
  obtain ⟨a, xs, ex, q1⟩ := q1
  subst ex
  cases r1 with
  | cons r rr =>
    cases rr
    cases r
    have hfp : ∀ b ∈ [s1.heap.objs.size + 1, s1.heap.objs.size], FpOk X pins H1 b := fun b hb => by
      have e' : b = s1.heap.objs.size + 1 ∨ b = s1.heap.objs.size := by simpa using hb
      have hle : s1.heap.objs.size ≤ b := by
        rcases e' with z | z
        · rw [z]; exact Nat.le_add_right _ _
        · rw [z]; exact Nat.le_refl _
      exact I1.fpOk hle (I1.hok.fresh hle)
    rcases q1 with ⟨hq, q⟩ | ⟨hq, q⟩
    · obtain ⟨its, rv, p', hz⟩ := I1.list hq
      refine call_enumerate_list p'.isList fun h' he hit hsz hk => wpAny_pyIter_enum he ?_
      have I2 : Inv X pins σ H1 { s1 with heap := h' } := I1.kept (t' := s1.toks) hk
      exact ⟨s1.heap.objs.size + 1, [s1.heap.objs.size + 1, s1.heap.objs.size], _, _, H1, rfl, I2, turn_enum a (s1.heap.objs.size + 1) s1.heap.objs.size, ⟨⟨.none, he⟩, hit, Nat.succ_ne_self _⟩, hfp, q⟩
    · obtain ⟨its, rv, p', hz⟩ := I1.tuple hq
      have pt : s1.heap.IsTuple a its.toArray := p'
      obtain ⟨o1, ho1, _⟩ := id pt
      have hlt := Heap.lt_size ho1
      refine call_enum1 (begins_tuple a its.toArray) pt fun h' he hob hsz hk => wpAny_pyIter_enum he ?_
      have I2 : Inv X pins σ H1 { s1 with heap := h' } := I1.kept (t' := s1.toks) hk
      exact ⟨s1.heap.objs.size + 1, [s1.heap.objs.size + 1, s1.heap.objs.size], _, _, H1, rfl, I2, turn_enumT a (s1.heap.objs.size + 1) s1.heap.objs.size, ⟨⟨.none, he⟩, ⟨_, hob, rfl, rfl⟩, Nat.succ_ne_self _, Nat.ne_of_gt (Nat.lt_succ_of_lt hlt), Nat.ne_of_lt hlt⟩, hfp, q⟩
end EN
namespace D2
open PySem PySem.Spec PyProof.Rows L2
section
variable {X : Cx} {K : PySem.W.Frag} {ex : Addr → Prop} {f : Nat → Addr} {k : Nat} {H : Hp} {σ : En} {τ : L2.St} {st : Sto}
/-- pairs of places and items -/
def enumD (xs : List Dv) : List Dv := xs.mapIdx fun i x => .tup [.int (i : Nat), x]
theorem enumD_len (xs : List Dv) : (enumD xs).length = xs.length := by simp [enumD]
theorem enumD_at {xs : List Dv} {i : Nat} : (enumD xs)[i]? = xs[i]?.map fun x => .tup [.int (i : Nat), x] := by simp [enumD]
/-- a new pair that a walk makes -/
theorem yld_new {f2 : Nat → Addr} {st2 : Sto} {H2 : Hp} {ex2 : Addr → Prop} {T : Addr} {d1 d2 : Dv} {v1 v2 : V} (r : RS K ex2 f2 st2 H2) (hT : H2 T = none) (h1 : RD K ex2 f2 st2.length H2 d1 v1) (h2 : RD K ex2 f2 st2.length H2 d2 v2) :
    Stp f2 st2.length H2 f2 st2.length (upd H2 T (.tup [v1, v2])) ∧ RS K ex2 f2 st2 (upd H2 T (.tup [v1, v2])) ∧ RD K ex2 f2 st2.length (upd H2 T (.tup [v1, v2])) (.tup [d1, d2]) (.ref T) :=
  ⟨Stp.new hT, r.new hT, .tup (.inl (.inl upd_same)) (.cons (h1.mono (Stp.new hT) r.cel) (.cons (h2.mono (Stp.new hT) r.cel) .nil))⟩
theorem wk_enumL {a : Addr} {xs : List Dv} {src : Option Nat} (hq : ∀ (ex2 : Addr → Prop) f2 (st2 : Sto) H2, (∀ a, ex2 a → ex a ∨ H a = none) → Stp f k H f2 st2.length H2 → RS K ex2 f2 st2 H2 → SrcOk src xs st2 → ∃ ws, SqL K H2 a ws ∧ RDs K ex2 f2 st2.length H2 xs ws) :
    WkD K ex (Ite K a) (enumD xs) src f k H → WkD K ex (Ite K a) (enumD xs) src f k H := id
end
end D2

/-! DL, part k: enumerate, zip of tuples; a dict of the top with text keys; lists times a number; extend by a list; nested targets; is of bools; cells that are done with, in the midst of a def. -/
namespace D2
open PySem PySem.Spec PyProof.Rows L2
section
variable {X : Cx} {K : PySem.W.Frag} {ex : Addr → Prop} {f : Nat → Addr} {k : Nat} {H : Hp} {σ : En} {τ : L2.St} {st : Sto}
/-! ### enumerate -/
/-- what enumerate walks: no cell -/
def enuD (d : Dv) : Option (List Dv) := match d with
  | .tup xs => some xs
  | .tux xs => some xs
  | .rol xs => some xs
  | .fro xs => some xs
  | _ => none
abbrev wEnum (a : DTA) : DTI := fun σ st Q => a σ st fun ds st1 => match ds with | [d] => (match enuD d with | some xs => Q (enumD xs) none st1 | none => False) | _ => False
theorem wk_enL {a : Addr} {xs : List Dv} (hq : ∀ (ex2 : Addr → Prop) f2 (st2 : Sto) H2, (∀ a, ex2 a → ex a ∨ H a = none) → Stp f k H f2 st2.length H2 → ∃ ws, SqL K H2 a ws ∧ RDs K ex2 f2 st2.length H2 xs ws) : WkD K ex (Ite K a) (enumD xs) none f k H := by
  refine ⟨fun ex2 i f2 st2 H2 hx hi s r _ => ?_, fun ex2 f2 st2 H2 hx s r _ => ?_, fun ex2 i f2 st2 H2 x H3 hx hi s r _ y => ?_⟩
  · obtain ⟨ws, h1, h2⟩ := hq ex2 f2 st2 H2 hx s
    have hl := h2.length
    rw [enumD_len] at hi
    exact ⟨ws, ws[i]'(by omega), h1, by simp⟩
  · obtain ⟨ws, h1, h2⟩ := hq ex2 f2 st2 H2 hx s
    exact ⟨ws, h1, by rw [enumD_len, h2.length]; exact Nat.le_refl _⟩
  · obtain ⟨ws, h1, h2⟩ := hq ex2 f2 st2 H2 hx s
    obtain ⟨T, v, rfl, hT, rfl, y⟩ := y
    obtain ⟨d, e1, e2⟩ := h2.get' (y ws h1)
    obtain ⟨q1, q2, q3⟩ := yld_new r hT (.int (i : Nat)) e2
    exact ⟨_, by rw [enumD_at, e1]; rfl, q1, q2, q3⟩
theorem wk_enT {a : Addr} {xs : List Dv} (hq : ∀ (ex2 : Addr → Prop) f2 (st2 : Sto) H2, (∀ a, ex2 a → ex a ∨ H a = none) → Stp f k H f2 st2.length H2 → ∃ ws, SqT K H2 a ws ∧ RDs K ex2 f2 st2.length H2 xs ws) : WkD K ex (EN.IteT K a) (enumD xs) none f k H := by
  refine ⟨fun ex2 i f2 st2 H2 hx hi s r _ => ?_, fun ex2 f2 st2 H2 hx s r _ => ?_, fun ex2 i f2 st2 H2 x H3 hx hi s r _ y => ?_⟩
  · obtain ⟨ws, h1, h2⟩ := hq ex2 f2 st2 H2 hx s
    have hl := h2.length
    rw [enumD_len] at hi
    exact ⟨ws, ws[i]'(by omega), h1, by simp⟩
  · obtain ⟨ws, h1, h2⟩ := hq ex2 f2 st2 H2 hx s
    exact ⟨ws, h1, by rw [enumD_len, h2.length]⟩
  · obtain ⟨ws, h1, h2⟩ := hq ex2 f2 st2 H2 hx s
    obtain ⟨T, v, rfl, hT, rfl, y⟩ := y
    obtain ⟨d, e1, e2⟩ := h2.get' (y ws h1)
    obtain ⟨q1, q2, q3⟩ := yld_new r hT (.int (i : Nat)) e2
    exact ⟨_, by rw [enumD_at, e1]; rfl, q1, q2, q3⟩
theorem di_enum {p pos tpos : Pos} {e : Expr} {elts : List Expr} {kk : Nat} {a : DTA} (hg : Gl X "enumerate") (hm : X.mg "enumerate" = none) (ha : DA X [e] a) (hs : starEach [e] X.env = [(false, eval e X.env)] := by rfl) :
    DI X (.Tuple elts kk tpos) (.Call (.Name "enumerate" p) [e] [] pos) (wEnum a) := by
  refine ⟨(EN.pi_enumA hg hm ha.pa hs).imp fun τ H R hh => ?_, fun σ st Q Q' q h => ha.mono _ _ _ _ (fun ds s h1 => ?_) h⟩
  · obtain ⟨ex, f, σ, st, r, er, hh⟩ := hh
    refine lA.use ha.mono r er hh fun f1 H1 ds st1 vs s1 r1 e1 rds h1 => ?_
    split at h1
    · split at h1
      · rename_i d xs hxs
        cases rds with
        | cons rd rn =>
          cases rn
          cases rd with
          | tup hq hs =>
            cases hxs
            refine ⟨_, _, rfl, .inr ⟨hq, h1 f1 H1 _ s1 r1 (fun n e => nomatch e) (wk_enT fun ex2 f2 st2 H2 hx s => ?_)⟩⟩
            have z := RD.mono2 s r1.cel hx (RD.tup hq hs)
            cases z with
            | tup a b => exact ⟨_, a, b⟩
          | tux hq hs =>
            cases hxs
            refine ⟨_, _, rfl, .inr ⟨.inl (.inr (hq.imp fun _ q => q.1)), h1 f1 H1 _ s1 r1 (fun n e => nomatch e) (wk_enT fun ex2 f2 st2 H2 hx s => ?_)⟩⟩
            have z := RD.mono2 s r1.cel hx (RD.tux hq hs)
            cases z with
            | tux a b => exact ⟨_, .inl (.inr (a.imp fun _ q => q.1)), b⟩
          | rol hq hx hn hs =>
            cases hxs
            refine ⟨_, _, rfl, .inl ⟨.inl (.inl hq), h1 f1 H1 _ s1 r1 (fun n e => nomatch e) (wk_enL fun ex2 f2 st2 H2 hx2 s => ?_)⟩⟩
            have z := RD.mono2 s r1.cel hx2 (RD.rol hq hx hn hs)
            cases z with
            | rol a _ _ b => exact ⟨_, .inl (.inl a), b⟩
          | fro hq hs =>
            cases hxs
            refine ⟨_, _, rfl, .inl ⟨hq.imp (fun q => q.1) id, h1 f1 H1 _ s1 r1 (fun n e => nomatch e) (wk_enL fun ex2 f2 st2 H2 hx2 s => ?_)⟩⟩
            have z := RD.mono2 s r1.cel hx2 (RD.fro hq hs)
            cases z with
            | fro a b => exact ⟨_, a.imp (fun q => q.1) id, b⟩
          | _ => cases hxs
      · exact h1.elim
    · exact h1.elim
  · split at h1
    · split at h1
      · exact q _ _ _ h1
      · exact h1.elim
    · exact h1.elim
/-! ### zip of two tuples -/
def zipD (xs ys : List Dv) : List Dv := (xs.zip ys).map fun p => .tup [p.1, p.2]
theorem zipD_len (xs ys : List Dv) : (zipD xs ys).length = min xs.length ys.length := by simp [zipD]
theorem zipD_at {xs ys : List Dv} {i : Nat} {x y : Dv} (h1 : xs[i]? = some x) (h2 : ys[i]? = some y) : (zipD xs ys)[i]? = some (.tup [x, y]) := by
  unfold zipD
  have e : (xs.zip ys)[i]? = some (x, y) := List.getElem?_zip_eq_some.mpr ⟨h1, h2⟩
  rw [List.getElem?_map, e]
  rfl
abbrev wZip (a : DTA) : DTI := fun σ st Q => a σ st fun ds st1 => match ds with | [.tup xs, .tup ys] => Q (zipD xs ys) none st1 | _ => False
theorem wk_zip {a b : Addr} {xs ys : List Dv} (hq : ∀ (ex2 : Addr → Prop) f2 (st2 : Sto) H2, (∀ a, ex2 a → ex a ∨ H a = none) → Stp f k H f2 st2.length H2 → (∃ ws, SqT K H2 a ws ∧ RDs K ex2 f2 st2.length H2 xs ws) ∧ ∃ ws, SqT K H2 b ws ∧ RDs K ex2 f2 st2.length H2 ys ws) : WkD K ex (RZ.ItzT K a b) (zipD xs ys) none f k H := by
  refine ⟨fun ex2 i f2 st2 H2 hx hi s r _ => ?_, fun ex2 f2 st2 H2 hx s r _ => ?_, fun ex2 i f2 st2 H2 x H3 hx hi s r _ y => ?_⟩
  · obtain ⟨⟨ws, h1, h2⟩, zs, h3, h4⟩ := hq ex2 f2 st2 H2 hx s
    have hl := h2.length
    have hl2 := h4.length
    rw [zipD_len] at hi
    exact ⟨ws, zs, ws[i]'(by omega), zs[i]'(by omega), h1, h3, by simp, by simp⟩
  · obtain ⟨⟨ws, h1, h2⟩, zs, h3, h4⟩ := hq ex2 f2 st2 H2 hx s
    refine ⟨ws, zs, h1, h3, ?_⟩
    rw [zipD_len, ← h2.length, ← h4.length]
    omega
  · obtain ⟨⟨ws, h1, h2⟩, zs, h3, h4⟩ := hq ex2 f2 st2 H2 hx s
    obtain ⟨T, v, u, rfl, hT, rfl, y1, y2⟩ := y
    obtain ⟨d, e1, e2⟩ := h2.get' (y1 ws h1)
    obtain ⟨d', e3, e4⟩ := h4.get' (y2 zs h3)
    obtain ⟨q1, q2, q3⟩ := yld_new r hT e2 e4
    exact ⟨_, zipD_at e1 e3, q1, q2, q3⟩
theorem di_zip {p pos tpos : Pos} {e e2 : Expr} {elts : List Expr} {kk : Nat} {a : DTA} (hg : Gl X "zip") (hm : X.mg "zip" = none) (ha : DA X [e, e2] a)
    (hs : starEach [e, e2] X.env = (false, eval e X.env) :: starEach [e2] X.env := by rfl) (hpl : (backTo pos (starEach [e2] X.env)).any (·.1) = false := by rfl) :
    DI X (.Tuple elts kk tpos) (.Call (.Name "zip" p) [e, e2] [] pos) (wZip a) := by
  refine ⟨(RZ.pi_zipA hg hm ha.pa hs hpl).imp fun τ H R hh => ?_, fun σ st Q Q' q h => ha.mono _ _ _ _ (fun ds s h1 => ?_) h⟩
  · obtain ⟨ex, f, σ, st, r, er, hh⟩ := hh
    refine lA.use ha.mono r er hh fun f1 H1 ds st1 vs s1 r1 e1 rds h1 => ?_
    split at h1
    · cases rds with
      | cons rd rn =>
        cases rn with
        | cons rd2 rn =>
          cases rn
          cases rd with
          | tup hq hs =>
            cases rd2 with
            | tup hq2 hs2 =>
              refine ⟨_, _, _, _, rfl, .inr ⟨hq, hq2, h1 f1 H1 _ s1 r1 (fun n e => nomatch e) (wk_zip fun ex2 f2 st2 H2 hx s => ?_)⟩⟩
              have z := RD.mono2 s r1.cel hx (RD.tup hq hs)
              have z2 := RD.mono2 s r1.cel hx (RD.tup hq2 hs2)
              cases z with
              | tup a b =>
                cases z2 with
                | tup a2 b2 => exact ⟨⟨_, a, b⟩, _, a2, b2⟩
    · exact h1.elim
  · split at h1
    · exact q _ _ _ h1
    · exact h1.elim
/-! ### a dict of the top with text keys and numbers -/
structure KTab (X : Cx) (nm : Str) (kvs : List (Str × Int)) where
  d : Addr
  es : Array DictEntry
  n : Nat
  D : KDict X.K X.w d es n
  m : X.mg nm = some (.ref d)
  vals : ∀ z v, kvs.lookup z = some v → ∃ t, PySem.W.nsIn X.K d z = some (some (.int v t))
abbrev wKIn (neg : Bool) (kvs : List (Str × Int)) (a : DTE) : DTE := fun σ st Q => a σ st fun x st1 => match x with | .str z => (kvs.lookup z).isSome = true ∧ Q (.bl (!neg)) st1 | _ => False
theorem de_kin (neg : Bool) {nm : Str} {kvs : List (Str × Int)} (T : KTab X nm kvs) (hg : Gl X nm) {a : Expr} {wa : DTE} {p pos : Pos} (ha : DE X a wa) (hd : (nm == ("__debug__" : Str)) = false := by decide)
    (hm : behindInMarks (if neg then CmpOp.NotIn else .In) (.Name nm p) = false := by with_unfolding_all rfl) : DE X (.Compare a [if neg then .NotIn else .In] [.Name nm p] pos) (wKIn neg kvs wa) := by
  have m : MonoE (wKIn neg kvs wa) := fun σ st Q Q' q h => ha.mono _ _ _ _ (fun x s h1 => by
    split at h1
    · exact ⟨h1.1, q _ _ h1.2⟩
    · exact h1.elim) h
  cases neg with
  | false =>
    refine ⟨(pe_cmpR (op_in_kd T.D) ha.pe (pe_glob hg T.m (v := .ref T.d) rfl hd) hm).imp fun τ H Q h => ?_, m⟩
    obtain ⟨ex, f, σ, st, r, er, h⟩ := h
    refine lE.use ha.mono r er h fun f1 H1 x st1 vx s1 r1 e1 rx h1 => ?_
    split at h1
    · rename_i z
      cases rx
      obtain ⟨h1, h2⟩ := h1
      obtain ⟨v, hv⟩ := Option.isSome_iff_exists.mp h1
      obtain ⟨t, e⟩ := T.vals z v hv
      exact ⟨z, _, rfl, rfl, e, h2 f1 H1 _ s1 r1 (.bl _)⟩
    · exact h1.elim
  | true =>
    refine ⟨(pe_cmpR (op_notIn_kd T.D) ha.pe (pe_glob hg T.m (v := .ref T.d) rfl hd) hm).imp fun τ H Q h => ?_, m⟩
    obtain ⟨ex, f, σ, st, r, er, h⟩ := h
    refine lE.use ha.mono r er h fun f1 H1 x st1 vx s1 r1 e1 rx h1 => ?_
    split at h1
    · rename_i z
      cases rx
      obtain ⟨h1, h2⟩ := h1
      obtain ⟨v, hv⟩ := Option.isSome_iff_exists.mp h1
      obtain ⟨t, e⟩ := T.vals z v hv
      exact ⟨z, _, rfl, rfl, e, h2 f1 H1 _ s1 r1 (.bl _)⟩
    · exact h1.elim
theorem dt_kin (neg : Bool) {nm : Str} {kvs : List (Str × Int)} (T : KTab X nm kvs) (hg : Gl X nm) {a : Expr} {wa : DTE} {p pos : Pos} (ha : DE X a wa) (hd : (nm == ("__debug__" : Str)) = false := by decide)
    (hm : behindInMarks (if neg then CmpOp.NotIn else .In) (.Name nm p) = false := by with_unfolding_all rfl) : DT X (.Compare a [if neg then .NotIn else .In] [.Name nm p] pos) (wB (wKIn neg kvs wa)) := by
  have m : MonoE (wKIn neg kvs wa) := (de_kin neg T hg ha (pos := pos) hd hm).mono
  have go : ∀ {op : CmpOp} {r : R2}, (∀ z v t y H Q, kvs.lookup z = some v → PySem.W.nsIn X.K T.d z = some (some (.int v t)) → y = V.bl (!neg) → Q y H → r (.str z) (.ref T.d) H Q) → ∀ τ H Q, lT X.K (wB (wKIn neg kvs wa)) τ H Q → tTest (tOp r (lE X.K wa) (tC (.ref T.d))) τ H Q := by
    intro op r hr τ H Q h
    obtain ⟨ex, f, σ, st, rs, er, h⟩ := h
    refine lE.use ha.mono rs er h fun f1 H1 x st1 vx s1 r1 e1 rx h1 => ?_
    split at h1
    · rename_i z
      cases rx
      obtain ⟨h1, h2⟩ := h1
      obtain ⟨v, hv⟩ := Option.isSome_iff_exists.mp h1
      obtain ⟨t, e⟩ := T.vals z v hv
      exact hr z v t _ _ _ hv e rfl ⟨_, rfl, h2 f1 H1 s1 r1⟩
    · exact h1.elim
  cases neg with
  | false => exact ⟨(pt_cmpR (op_in_kd T.D) ha.pe (pe_glob hg T.m (v := .ref T.d) rfl hd) hm).imp (go (op := .In) fun z v t y H Q _ e1 e2 q => ⟨z, _, rfl, rfl, e1, by rw [e2] at q; exact q⟩), wB_mono m⟩
  | true => exact ⟨(pt_cmpR (op_notIn_kd T.D) ha.pe (pe_glob hg T.m (v := .ref T.d) rfl hd) hm).imp (go (op := .In) fun z v t y H Q _ e1 e2 q => ⟨z, _, rfl, rfl, e1, by rw [e2] at q; exact q⟩), wB_mono m⟩
abbrev wKIx (kvs : List (Str × Int)) (a : DTE) : DTE := fun σ st Q => a σ st fun x st1 => match x with | .str z => ∃ v, kvs.lookup z = some v ∧ Q (.int v) st1 | _ => False
theorem de_kix {nm : Str} {kvs : List (Str × Int)} (T : KTab X nm kvs) (hg : Gl X nm) {a : Expr} {wa : DTE} {p pos : Pos} (ha : DE X a wa) (hd : (nm == ("__debug__" : Str)) = false := by decide) (hs : PlainIx a := by exact fun _ _ => rfl) :
    DE X (.Subscript (.Name nm p) a pos) (wKIx kvs wa) := by
  refine ⟨(pe_ix ix_kdict (pe_glob hg T.m (v := .ref T.d) rfl hd) ha.pe hs).imp fun τ H Q h => ?_, fun σ st Q Q' q h => ha.mono _ _ _ _ (fun x s h1 => by
    split at h1
    · obtain ⟨v, h2, h3⟩ := h1
      exact ⟨v, h2, q _ _ h3⟩
    · exact h1.elim) h⟩
  obtain ⟨ex, f, σ, st, r, er, h⟩ := h
  refine lE.use ha.mono r er h fun f1 H1 x st1 vx s1 r1 e1 rx h1 => ?_
  split at h1
  · rename_i z
    cases rx
    obtain ⟨v, h2, h3⟩ := h1
    obtain ⟨t, e⟩ := T.vals z v h2
    exact ⟨T.d, z, .int v, rfl, rfl, ⟨T.es, T.n, .int v t, T.D.at_, T.D.lit, e, ⟨t, rfl⟩⟩, h3 f1 H1 _ s1 r1 (.int v)⟩
  · exact h1.elim
/-! ### a list times a number; xs.extend(list); is of bools -/
abbrev gMulL : G2 := fun x y st Q => ∃ xs n, lsuD st x = some xs ∧ y = .int n ∧ -(2 ^ 63) ≤ n ∧ n < 2 ^ 63 ∧ xs.length * n.toNat ≤ sizeLine ∧ Q (.rol (List.replicate n.toNat xs).flatten) st
theorem od_mulL : OpD X (binaryOp .Mult) gMulL := by
  refine ⟨fun x y st Q Q' q ⟨xs, n, h1, h2, h3, h4, h5, h6⟩ => ⟨xs, n, h1, h2, h3, h4, h5, q _ _ h6⟩, _, op_rep, fun ex f st H x y vx vy Q r rx ry ⟨xs, n, h1, h2, h3, h4, h5, h6⟩ => ?_⟩
  subst h2
  cases ry
  obtain ⟨a, vs, rfl, e, hs⟩ := lsu_of r rx h1
  exact ⟨a, n, vs, rfl, rfl, e, h3, h4, by rw [← hs.length]; exact h5, fun p hp => h6.newRol r hp (hs.rep _)⟩
abbrev wExtL (a b : DTE) : DTE := fun σ st Q => a σ st fun d st1 => match d with
  | .ref n => b σ st1 fun y st2 => ∃ xs ys, st2[n]? = some (.lst xs) ∧ lsuD st2 y = some ys ∧ xs.length + ys.length ≤ sizeLine ∧ Q .non (st2.set n (.lst (xs ++ ys)))
  | _ => False
theorem de_extL {o e : Expr} {wo we : DTE} {apos pos : Pos} (ho : DE X o wo) (he : DE X e we) (hs : starEach [e] X.env = (false, eval e X.env) :: starEach [] X.env := by rfl) (hbase : attributeBase o "extend" X.env (eval o X.env) = eval o X.env := by rfl)
    (hfew : ((backTo pos (starEach [e] X.env)).all (fun x => !x.1) && (backToKw pos (keywordEach [] X.env)).all (fun x => x.1.isSome) && decide ([e].length + ([] : List Keyword).length + (if ([] : List Keyword).isEmpty then 0 else 1) < 30)) = true := by rfl)
    (hline : (apos.endLine == pos.line) = true := by rfl) : DE X (.Call (.Attribute o "extend" apos) [e] [] pos) (wExtL wo we) := by
  refine ⟨(pe_bm PySem.F.plainAttrs_list PySem.F.slot_list_extend PySem.F.type_list_extend mt_extend ho.pe (pa_cons he.pe pa_nil hs) hbase hfew hline hs rfl).imp fun τ H Q h => ?_, fun σ st Q Q' q h => ho.mono _ _ _ _ (fun d s h1 => ?_) h⟩
  · obtain ⟨ex, f, σ, st, r, er, h⟩ := h
    refine lE.use ho.mono r er h fun f1 H1 d st1 v s1 r1 e1 rd h1 => ?_
    split at h1
    · rename_i n
      cases rd with
      | ref _ hn =>
        refine ⟨tyV_cel r1 hn, lE.use he.mono r1 e1 h1 fun f2 H2 y st2 u s2 r2 e2 ry ⟨xs, ys, h2, h3, h4, h5⟩ => ?_⟩
        obtain ⟨vs, e3, hs3⟩ := cel_at r2 h2
        obtain ⟨a, zs, rfl, hq, hz⟩ := lsu_of r2 ry h3
        rw [← s2.agree n hn]
        exact ⟨_, a, vs, zs, rfl, rfl, e3, hq, by rw [← hs3.length, ← hz.length]; exact h4, (Af.later h5 (s1.trans s2)).wrote r2 (List.getElem?_eq_some_iff.mp h2).1 (hs3.append hz) .non⟩
    · exact h1.elim
  · split at h1
    · exact he.mono _ _ _ _ (fun x s2 ⟨xs, ys, h3, h4, h5, h6⟩ => ⟨xs, ys, h3, h4, h5, q _ _ h6⟩) h1
    · exact h1.elim
abbrev gIsB (neg : Bool) : G2 := fun x y st Q => match x, y with | .bl a, .bl b => Q (.bl (if neg then !decide (a = b) else decide (a = b))) st | _, _ => False
theorem od_isB (neg : Bool) : OpD X (compareOp (if neg then .IsNot else .Is)) (gIsB neg) := by
  have m : Mono2 (gIsB neg) := fun x y st Q Q' q h => by
    unfold gIsB at *
    split at h
    · exact q _ _ h
    · exact h.elim
  cases neg with
  | false =>
    refine ⟨m, _, op_isBl, fun ex f st H x y vx vy Q r rx ry h => ?_⟩
    unfold gIsB at h
    split at h
    · cases rx
      cases ry
      exact ⟨_, _, rfl, rfl, h.self r (.bl _)⟩
    · exact h.elim
  | true =>
    refine ⟨m, _, op_notBl, fun ex f st H x y vx vy Q r rx ry h => ?_⟩
    unfold gIsB at h
    split at h
    · cases rx
      cases ry
      exact ⟨_, _, rfl, rfl, h.self r (.bl _)⟩
    · exact h.elim
/-! ### two targets, each a name or names in a row -/
abbrev wAsgN (t u : Tg) (a : DTE) : DTS := fun D σ st => a σ st fun d st1 => match d with
  | .tup [d1, d2] => ∃ σ1 σ2, tgD t d1 σ = some σ1 ∧ tgD u d2 σ1 = some σ2 ∧ D.nx σ2 st1
  | _ => False
theorem ds_asgN {t1 t2 e : Expr} {w : DTE} {t u : Tg} {kt : Nat} {pt pos : Pos} (he : DE X e w) (hp : PG X (.Tuple [t1, t2] kt pt) (gTup X.K 2 (gCons (tgV X.K t) (gCons (tgV X.K u) gNil)))) (hs : swapsWithSole [.Tuple [t1, t2] kt pt] e pos.line X.env = pure false := by rfl) (hw : swappedStores [.Tuple [t1, t2] kt pt] e X.env = pure none := by rfl)
    (h3 : (assignEach [.Tuple [t1, t2] kt pt] X.env).map (·.2) = [assign (.Tuple [t1, t2] kt pt) X.env] := by rfl) : DS X (.Assign [.Tuple [t1, t2] kt pt] e pos) (wAsgN t u w) := by
  refine ⟨(ps_asg he.pe hp hs hw h3).imp fun D τ H h => ?_, fun σ st D D' l h => he.mono _ _ _ _ (fun d s h1 => ?_) h⟩
  · obtain ⟨ex, f, σ, st, r, er, h⟩ := h
    refine lE.use he.mono r er h fun f1 H1 d st1 v s1 r1 e1 rd h1 => ?_
    split at h1
    · obtain ⟨σ1, σ2, q1, q2, q3⟩ := h1
      cases rd with
      | tup hq hs =>
        cases hs with
        | cons ra rs =>
          cases rs with
          | cons rb rs =>
            cases rs
            refine ⟨_, _, rfl, hq, rfl, _, _, rfl, tg_ok e1 ra q1 fun τ1 e2 _ => ⟨_, _, rfl, tg_ok e2 rb q2 fun τ2 e3 _ => ⟨rfl, q3 f1 H1 τ2 s1 r1 e3⟩⟩⟩
    · exact h1.elim
  · split at h1
    · obtain ⟨σ1, σ2, q1, q2, q3⟩ := h1
      exact ⟨σ1, σ2, q1, q2, l.nx _ _ q3⟩
    · exact h1.elim
/-! ### cells that are done with, in the midst of a def -/
theorem wp_execs_app {M : Model} {Γ : _root_.PySem.Ctx} {env : PySem.Env} {b : List Stmt} {Q : Flow → Pos → Shared → Prop} {E : Value → Pos → Shared → Prop} : ∀ (a : List Stmt) (p : Pos) (s : Shared),
    Sem.wp M Γ (execs a env) (fun f p' s' => match f with | .next => Sem.wp M Γ (execs b env) Q E p' s' | f => Q f p' s') E p s → Sem.wp M Γ (execs (a ++ b) env) Q E p s
  | [], p, s, h => by
    rw [execs_nil, Sem.wp_pure'] at h
    exact h
  | x :: a, p, s, h => by
    rw [execs_cons, Sem.wp_bind'] at h
    rw [List.cons_append, execs_cons, Sem.wp_bind']
    refine Sem.wp_mono M Γ _ (fun f p' s' h' => ?_) (fun _ _ _ h' => h') _ _ h
    cases f with
    | next => exact wp_execs_app a p' s' h'
    | _ => exact h'
theorem wpAny_execs_app {M : Model} {A : Around} {env : PySem.Env} {a b : List Stmt} {Q : Flow → Shared → Prop} {E : Value → Shared → Prop} {s : Shared} (h : wpAny M A (execs a env) (fun f s' => match f with | .next => wpAny M A (execs b env) Q E s' | f => Q f s') E s) :
    wpAny M A (execs (a ++ b) env) Q E s := fun Γ p hΓ => by
  refine wp_execs_app a p s (Sem.wp_mono M Γ _ (fun f p' s' h' => ?_) (fun _ _ _ h' => h') _ _ (h Γ p hΓ))
  cases f with
  | next => exact h' Γ p' hΓ
  | _ => exact h'
theorem pss_app {a b : List Stmt} {t u : TS} (h1 : PSs X a t) (h2 : PSs X b u) : PSs X (a ++ b) (L2.tSeq t u) := by
  refine ⟨fun pins s σ H D I h => ?_⟩
  refine wpAny_execs_app (thn (h1.run pins s σ H { D with nx := u D } I h) fun f s1 q => ?_)
  cases f with
  | next =>
    obtain ⟨σ', H', I', q⟩ := q
    exact h2.run pins s1 σ' H' D I' q
  | ret v => exact q
  | brk => exact q
  | cont => exact q
/-- what is known of the slots, the cells beyond the first ones forgotten -/
structure FgE (σ : En) (st : Sto) (σ2 : En) (st2 : Sto) : Prop where
  len : st2.length ≤ st.length
  cel : ∀ n xs, n < st2.length → st[n]? = some (.lst xs) → ∃ ys, st2[n]? = some (.lst ys) ∧ Fzs st st2.length xs ys
  num : σ2.length = σ.length
  val : ∀ (i : Nat) d2, σ2[i]? = some (some d2) → ∃ d, σ[i]? = some (some d) ∧ Fz st st2.length d d2
theorem ER.fg {σ2 : En} {st2 : Sto} (r : RS K ex f st H) (e : ER K ex f st.length H σ τ) (g : FgE σ st σ2 st2) : ER K ex f st2.length H σ2 τ := by
  refine ⟨g.num.trans e.len, fun i d2 h => ?_⟩
  obtain ⟨d, h1, h2⟩ := g.val i d2 h
  obtain ⟨v, h3, h4⟩ := e.at_ i d h1
  exact ⟨v, h3, RD.fz r g.len h2 h4⟩
/-- the first statements; the cells that they made are done with; the others -/
abbrev wCut (a b : DTS) : DTS := fun D σ st => a { D with nx := fun σ1 st1 => ∃ σ2 st2, FgE σ1 st1 σ2 st2 ∧ st.length ≤ st2.length ∧ b D σ2 st2 } σ st
theorem dss_cut {l : List Stmt} (n : Nat) {w u : DTS} (h1 : DSs X (l.take n) w) (h2 : DSs X (l.drop n) u) : DSs X l (wCut w u) := by
  have h3 := pss_app h1.ps h2.ps
  rw [List.take_append_drop] at h3
  refine ⟨h3.imp fun D τ H h => ?_, fun σ st D D' l h => h1.mono σ st { D with nx := fun σ1 st1 => ∃ σ2 st2, FgE σ1 st1 σ2 st2 ∧ st.length ≤ st2.length ∧ u D σ2 st2 } { D' with nx := fun σ1 st1 => ∃ σ2 st2, FgE σ1 st1 σ2 st2 ∧ st.length ≤ st2.length ∧ u D' σ2 st2 } ⟨fun σ1 st1 ⟨σ2, st2, z1, z2, z3⟩ => ⟨σ2, st2, z1, z2, h2.mono _ _ _ _ l z3⟩, l.rt, l.bk, l.ct⟩ h⟩
  obtain ⟨ex, f, σ, st, r, er, h⟩ := h
  refine lS.use h1.mono r er h ⟨fun σ' st' ⟨σ2, st2, z1, z2, z3⟩ f' H' τ' s' r' er' => ?_, fun _ _ q => q, fun _ _ q => q, fun _ _ q => q⟩
  exact lS.use h2.mono (r'.fg z1.len z1.cel) (ER.fg r' er' z1) z3 (AfE.later (s'.fg z2 z1.len))
end
end D2

/-! DL, part m: list + list as a new list (a value or a cell); pop(i); max(m, n). -/
namespace D2
open PySem PySem.Spec PyProof.Rows L2
section
variable {X : Cx} {K : PySem.W.Frag} {ex : Addr → Prop} {f : Nat → Addr} {k : Nat} {H : Hp} {σ : En} {τ : L2.St} {st : Sto}
abbrev wCatN (a b : DTE) : DTA := fun σ st Q => a σ st fun x st1 => b σ st1 fun y st2 => ∃ xs ys, lsuD st2 x = some xs ∧ lsuD st2 y = some ys ∧ xs.length + ys.length ≤ sizeLine ∧ Q (xs ++ ys) st2
theorem dn_cat {a b : Expr} {wa wb : DTE} {pos : Pos} (ha : DE X a wa) (hb : DE X b wb) : DN X (.BinOp a .Add b pos) (wCatN wa wb) := by
  refine ⟨(pe_op op_cat ha.pe hb.pe).imp fun τ H Q h => ?_, fun σ st Q Q' q h => ha.mono _ _ _ _ (fun x s h1 => hb.mono _ _ _ _ (fun y s2 ⟨xs, ys, h2, h3, h4, h5⟩ => ⟨xs, ys, h2, h3, h4, q _ _ h5⟩) h1) h⟩
  obtain ⟨ex, f, σ, st, r, er, h⟩ := h
  refine lE.use ha.mono r er h fun f1 H1 x st1 vx s1 r1 e1 rx h1 => ?_
  refine lE.use hb.mono r1 e1 h1 fun f2 H2 y st2 vy s2 r2 e2 ry ⟨xs, ys, h2, h3, h4, h5⟩ => ?_
  obtain ⟨p, vs, rfl, q1, hs1⟩ := lsu_of r2 (rx.mono s2 r1.cel) h2
  obtain ⟨q, ws, rfl, q2, hs2⟩ := lsu_of r2 ry h3
  exact ⟨_, _, _, _, rfl, rfl, q1, q2, by rw [← hs1.length, ← hs2.length]; exact h4, fun p hp => (AfN.later h5 (s1.trans s2)).laid r2 hp (hs1.append hs2)⟩
/-- o.pop(i) -/
abbrev wPopI (a b : DTE) : DTE := fun σ st Q => a σ st fun d st1 => match d with
  | .ref n => b σ st1 fun y st2 => ∃ (xs : List Dv) (j : Nat) (z : Dv), y = .int (j : Nat) ∧ st2[n]? = some (.lst xs) ∧ xs[j]? = some z ∧ xs.length < 2 ^ 62 ∧ Q z (st2.set n (.lst (xs.eraseIdx j)))
  | _ => False
theorem RDs.eraseIdx {ds : List Dv} {vs : List V} (h : RDs K ex f k H ds vs) (j : Nat) : RDs K ex f k H (ds.eraseIdx j) (vs.eraseIdx j) := by
  rw [List.eraseIdx_eq_take_drop_succ, List.eraseIdx_eq_take_drop_succ]
  exact (h.take _).append (h.drop _)
theorem de_popI {o e : Expr} {wo we : DTE} {apos pos : Pos} (ho : DE X o wo) (he : DE X e we) (hs : starEach [e] X.env = (false, eval e X.env) :: starEach [] X.env := by rfl) (hbase : attributeBase o "pop" X.env (eval o X.env) = eval o X.env := by rfl)
    (hfew : ((backTo pos (starEach [e] X.env)).all (fun x => !x.1) && (backToKw pos (keywordEach [] X.env)).all (fun x => x.1.isSome) && decide ([e].length + ([] : List Keyword).length + (if ([] : List Keyword).isEmpty then 0 else 1) < 30)) = true := by rfl)
    (hline : (apos.endLine == pos.line) = true := by rfl) : DE X (.Call (.Attribute o "pop" apos) [e] [] pos) (wPopI wo we) := by
  refine ⟨(pe_bm PySem.F.plainAttrs_list PySem.F.slot_list_pop PySem.F.type_list_pop mt_popAt ho.pe (pa_cons he.pe pa_nil hs) hbase hfew hline hs rfl).imp fun τ H Q h => ?_, fun σ st Q Q' q h => ho.mono _ _ _ _ (fun d s h1 => ?_) h⟩
  · obtain ⟨ex, f, σ, st, r, er, h⟩ := h
    refine lE.use ho.mono r er h fun f1 H1 d st1 v s1 r1 e1 rd h1 => ?_
    split at h1
    · rename_i n
      cases rd with
      | ref _ hn =>
        refine ⟨tyV_cel r1 hn, lE.use he.mono r1 e1 h1 fun f2 H2 y st2 u s2 r2 e2 ry ⟨xs, j, z, h2, h3, h4, h5, h6⟩ => ?_⟩
        subst h2
        cases ry
        obtain ⟨vs, e3, hs3⟩ := cel_at r2 h3
        obtain ⟨vz, e4, rz⟩ := hs3.get h4
        have hj := (List.getElem?_eq_some_iff.mp h4).1
        rw [← s2.agree n hn]
        refine ⟨_, vs, (j : Int), j, vz, rfl, rfl, e3, by omega, by omega, ?_, e4, (Af.later h6 (s1.trans s2)).wrote r2 (List.getElem?_eq_some_iff.mp h3).1 (hs3.eraseIdx j) rz⟩
        rw [← hs3.length]
        unfold seqIndex?
        simp
        omega
    · exact h1.elim
  · split at h1
    · exact he.mono _ _ _ _ (fun x s2 ⟨xs, j, z, h2, h3, h4, h5, h6⟩ => ⟨xs, j, z, h2, h3, h4, h5, q _ _ h6⟩) h1
    · exact h1.elim
/-- max(m, n) -/
abbrev wMax2 (a : DTA) : DTE := fun σ st Q => a σ st fun ds st1 => match ds with | [.int i, .int j] => Q (.int (if j > i then j else i)) st1 | _ => False
theorem de_max2 {p pos : Pos} {e : Expr} {es : List Expr} {a : DTA} (hc : X.calm = true) (hg : Gl X "max") (hm : X.mg "max" = none) (ha : DA X (e :: es) a) (he : starEach (e :: es) X.env = (false, eval e X.env) :: starEach es X.env := by rfl) (hpl : (backTo pos (starEach es X.env)).any (·.1) = false := by rfl) :
    DE X (.Call (.Name "max" p) (e :: es) [] pos) (wMax2 a) := by
  refine ⟨(pe_callB (id := "max") (call_max2 hc) hg hm (by decide +kernel) ha.pa (by decide) (by decide) he hpl).imp fun τ H Q h => ?_, fun σ st Q Q' q h => ha.mono _ _ _ _ (fun ds s h1 => ?_) h⟩
  · obtain ⟨ex, f, σ, st, r, er, h⟩ := h
    refine lA.use ha.mono r er h fun f1 H1 ds st1 vs s1 r1 e1 rds h1 => ?_
    split at h1
    · cases rds with
      | cons q1 q2 =>
        cases q1
        cases q2 with
        | cons q3 q4 =>
          cases q3
          cases q4
          exact ⟨_, _, rfl, h1 f1 H1 _ s1 r1 (.int _)⟩
    · exact h1.elim
  · split at h1
    · exact q _ _ h1
    · exact h1.elim
end
end D2

/-! DL, part n: bools in a list, list.index of a bool, text * number. -/
namespace D2
open PySem PySem.Spec PyProof.Rows L2
section
variable {X : Cx} {K : PySem.W.Frag} {ex : Addr → Prop} {f : Nat → Addr} {k : Nat} {H : Hp}
abbrev gInBl : G2 := fun x y st Q => ∃ (a : Bool) (ys : List Bool), x = .bl a ∧ seqD st y = some (ys.map Dv.bl) ∧ Q (.bl (decide (a ∈ ys))) st
theorem inV_bl (a : Bool) (ys : List Bool) : inV (.bl a) (ys.map V.bl) = decide (a ∈ ys) := by
  unfold inV
  rw [List.any_map, Bool.eq_iff_iff, List.any_eq_true, decide_eq_true_eq]
  constructor
  · rintro ⟨y, hy, e⟩
    have e2 : y = a := by simpa [eqV] using e
    rw [← e2]
    exact hy
  · intro h
    exact ⟨a, h, by simp [eqV]⟩
theorem od_inBl : OpD X (compareOp .In) gInBl := by
  refine ⟨fun x y st Q Q' q ⟨a, ys, h1, h2, h3⟩ => ⟨a, ys, h1, h2, q _ _ h3⟩, _, op_in_seq, fun ex f st H x y vx vy Q r rx ry ⟨a, ys, h1, h2, h3⟩ => ?_⟩
  subst h1
  cases rx
  obtain ⟨p, vs, rfl, q, hs⟩ := seq_of r ry h2
  obtain rfl := RDs.bls_inv hs
  refine ⟨p, _, rfl, q, rfl, by simp [flatV], ?_⟩
  rw [inV_bl]
  exact h3.self r (.bl _)
/-- xs.index(b) -/
abbrev wLixB (a b : DTE) : DTE := fun σ st Q => a σ st fun d st1 => ∃ ys : List Bool, d = .rol (ys.map Dv.bl) ∧ b σ st1 fun y st2 => ∃ (z : Bool) (j : Nat), y = .bl z ∧ ys[j]? = some z ∧ (∀ m, m < j → ys[m]? ≠ some z) ∧ Q (.int (j : Nat)) st2
theorem de_lixB {o e : Expr} {wo we : DTE} {apos pos : Pos} (ho : DE X o wo) (he : DE X e we) (hs : starEach [e] X.env = (false, eval e X.env) :: starEach [] X.env := by rfl) (hbase : attributeBase o "index" X.env (eval o X.env) = eval o X.env := by rfl)
    (hfew : ((backTo pos (starEach [e] X.env)).all (fun x => !x.1) && (backToKw pos (keywordEach [] X.env)).all (fun x => x.1.isSome) && decide ([e].length + ([] : List Keyword).length + (if ([] : List Keyword).isEmpty then 0 else 1) < 30)) = true := by rfl)
    (hline : (apos.endLine == pos.line) = true := by rfl) : DE X (.Call (.Attribute o "index" apos) [e] [] pos) (wLixB wo we) := by
  refine ⟨(pe_bm PySem.F.plainAttrs_list PySem.F.slot_list_index PySem.F.type_list_index mt_index ho.pe (pa_cons he.pe pa_nil hs) hbase hfew hline hs rfl).imp fun τ H Q h => ?_,
    fun σ st Q Q' q h => ho.mono _ _ _ _ (fun d s ⟨ys, h1, h2⟩ => ⟨ys, h1, he.mono _ _ _ _ (fun y s2 ⟨z, j, h3, h4, h5, h6⟩ => ⟨z, j, h3, h4, h5, q _ _ h6⟩) h2⟩) h⟩
  obtain ⟨ex, f, σ, st, r, er, h⟩ := h
  refine lE.use ho.mono r er h fun f1 H1 d st1 v s1 r1 e1 rd ⟨ys, h1, h2⟩ => ?_
  subst h1
  have rd0 := rd
  cases rd with
  | rol ea _ _ hsx =>
    refine ⟨.inl ⟨rfl, _, SqL.of ea⟩, lE.use he.mono r1 e1 h2 fun f2 H2 y st2 u s2 r2 e2 ry ⟨z, j, h3, h4, h5, h6⟩ => ?_⟩
    subst h3
    cases ry
    have rd2 := rd0.mono s2 r1.cel
    cases rd2 with
    | rol eb _ _ hsb =>
      obtain rfl := RDs.bls_inv hsb
      refine ⟨_, _, .bl z, j, .bl z, rfl, rfl, SqL.of eb, rfl, by simp [flatV], by rw [List.getElem?_map, h4]; rfl, by simp [eqV], fun m z' hm hz => ?_, h6 f2 H2 _ (s1.trans s2) r2 (.int _)⟩
      rw [List.getElem?_map] at hz
      cases hy : ys[m]? with
      | none => rw [hy] at hz; cases hz
      | some b =>
        rw [hy] at hz
        cases hz
        have ne : b ≠ z := fun e => h5 m hm (by rw [hy, e])
        simp [eqV, ne]
theorem size_rep (a : Array Nat) : ∀ (n : Nat) (acc : Array Nat), ((List.replicate n a).foldl (· ++ ·) acc).size = acc.size + n * a.size
  | 0, acc => by simp
  | n + 1, acc => by
    rw [List.replicate_succ, List.foldl_cons, size_rep a n, Array.size_append, Nat.succ_mul]
    omega
/-- a short text times a small number -/
def repS (x : Str) (n : Int) : Str := if n < 1 then Str.empty else if (n == 1 || x.length == 0) = true then x else ⟨(List.replicate n.toNat x.cps).foldl (· ++ ·) #[]⟩
abbrev gMulSt : G2 := fun x y st Q => ∃ s n, x = .str s ∧ y = .int n ∧ 0 ≤ n ∧ n ≤ 100 ∧ s.length ≤ 100 ∧ Q (.str (repS s n)) st
theorem op_mulSt : OpR X (binaryOp .Mult) (fun x y H Q => ∃ s n, x = .str s ∧ y = .int n ∧ 0 ≤ n ∧ n ≤ 100 ∧ s.length ≤ 100 ∧ Q (.str (repS s n)) H) := by
  intro pins s σ H x y v u Q I rx ry ⟨a, n, h1, h2, h3, h4, h5, q⟩
  subst h1 h2
  obtain ⟨t, rfl⟩ := rx
  obtain ⟨t', rfl⟩ := ry
  refine PySem.P.mul_str (by rw [decide_eq_false (by omega), decide_eq_false (by omega)]; rfl) (fun h _ => ?_) (fun _ _ => ?_) ?_
  · have : (2 ^ 63 - 1 : Int) / n ≥ 1000 := by
      refine (Int.le_ediv_iff_mul_le (by omega)).mpr ?_
      omega
    have : (a.length : Int) ≤ 100 := by omega
    omega
  · have h7 : a.length * n.toNat ≤ 100 * 100 := Nat.mul_le_mul h5 (by omega)
    show decide (a.length * n.toNat > sizeLine) = false
    rw [sizeLine_eq, decide_eq_false]
    omega
  · unfold repS at q
    split
    · rename_i h1
      rw [if_pos h1] at q
      exact ⟨by decide, .str _, H, I.tok _, ⟨_, rfl⟩, q⟩
    · rename_i h1
      rw [if_neg h1] at q
      split
      · rename_i h2
        rw [if_pos h2] at q
        exact ⟨.str _, H, I, ⟨_, rfl⟩, q⟩
      · rename_i h2
        rw [if_neg h2] at q
        refine ⟨?_, .str _, H, I.tok _, ⟨_, rfl⟩, q⟩
        have h7 : n.toNat * a.length ≤ 100 * 100 := Nat.mul_le_mul (by omega) h5
        show Array.size _ ≤ sizeLine
        rw [size_rep, sizeLine_eq]
        show #[].size + n.toNat * a.length ≤ _
        simp
        omega
theorem od_mulSt : OpD X (binaryOp .Mult) gMulSt := by
  refine ⟨fun x y st Q Q' q ⟨a, ys, h1, h2, h3, h4, h5, h6⟩ => ⟨a, ys, h1, h2, h3, h4, h5, q _ _ h6⟩, _, op_mulSt, fun ex f st H x y vx vy Q r rx ry ⟨a, n, h1, h2, h3, h4, h5, h6⟩ => ?_⟩
  subst h1 h2
  cases rx
  cases ry
  exact ⟨a, n, rfl, rfl, h3, h4, h5, h6.self r (.str _)⟩
end
end D2

/-! DL, part o: a list taken apart by a tuple of names. -/
namespace D2
open PySem PySem.Spec PyProof.Rows L2
section
variable {X : Cx}
abbrev wAsgL (is : List Nat) (a : DTE) : DTS := fun D σ st => a σ st fun d st1 => ∃ xs, lstD st1 d = some xs ∧ xs.length = is.length ∧ D.nx (setAll σ is xs) st1
theorem ds_asgL {tg e : Expr} {w : DTE} {is : List Nat} {pos : Pos} (he : DE X e w) (hg : PG X tg (gLst X.K is.length (gl is))) (hs : swapsWithSole [tg] e pos.line X.env = pure false := by rfl) (hw : swappedStores [tg] e X.env = pure none := by rfl)
    (h1 : (assignEach [tg] X.env).map (·.2) = [assign tg X.env] := by rfl) : DS X (.Assign [tg] e pos) (wAsgL is w) := by
  refine ⟨(ps_asg he.pe hg hs hw h1).imp fun D τ H h => ?_, fun σ st D D' l h => he.mono _ _ _ _ (fun d s ⟨xs, h1, h2, h3⟩ => ⟨xs, h1, h2, l.nx _ _ h3⟩) h⟩
  obtain ⟨ex, f, σ, st, r, er, h⟩ := h
  refine lE.use he.mono r er h fun f1 H1 d st1 v s1 r1 e1 rd ⟨xs, h1, h2, h3⟩ => ?_
  obtain ⟨a, vs, rfl, q, hs⟩ := lst_of r1 rd h1
  exact ⟨a, vs, rfl, q, by rw [← hs.length]; exact h2, gl_ok is vs τ H1 _ (by rw [← hs.length]; exact h2) (h3 f1 H1 _ s1 r1 (ER.setAll e1 hs))⟩
end
end D2

/-! DLp: dicts as data (Dv.dic): a display of constants, k in d, d[k], d.get(k, x), with texts as keys. -/
namespace D2
open PySem PySem.Spec PyProof.Rows L2
section
variable {X : Cx}
/-- {'a': 1, ..}: written constants -/
abbrev wDicC (kvs : List (Str × Int)) : DTE := fun _ st Q => Q (.dic (.k (kvs.map fun p => Sum.inr p.1)) (kvs.map fun p => .int p.2)) st
theorem tPairs_c : ∀ (kvs : List (Str × Int)) (σ : L2.St) (H : Hp) (Q : List (V × V) → Hp → Prop), Q (kvs.map fun p => (V.str p.1, V.int p.2)) H → tPairs (kvs.map fun p => (tC (.str p.1), tC (.int p.2))) σ H Q
  | [], _, _, _, h => h
  | p :: r, σ, H, Q, h => tPairs_c r σ H (fun ps H3 => Q ((V.str p.1, V.int p.2) :: ps) H3) h
theorem putK_new {κ : Type} [DecidableEq κ] {kvs : List (κ × V)} {k : κ} {v : V} (h : ∀ q ∈ kvs, q.1 ≠ k) : putK kvs k v = kvs ++ [(k, v)] := by
  unfold putK
  rw [if_neg ?_]
  rw [List.any_eq_true]
  rintro ⟨q, hq, e⟩
  exact h q hq (of_decide_eq_true e)
theorem mergeK_new : ∀ (more kvs : List (Key × V)), (∀ q ∈ kvs, ∀ p ∈ more, q.1 ≠ p.1) → (more.map (·.1)).Nodup → mergeK kvs more = kvs ++ more
  | [], kvs, _, _ => by simp [mergeK]
  | p :: r, kvs, h, hn => by
    have e : mergeK kvs (p :: r) = mergeK (putK kvs p.1 p.2) r := rfl
    rw [List.map_cons, List.nodup_cons] at hn
    rw [e, putK_new fun q hq => h q hq p (by simp), mergeK_new r (kvs ++ [(p.1, p.2)]) ?_ hn.2]
    · simp
    · intro q hq s hs
      rcases List.mem_append.mp hq with hq | hq
      · exact h q hq s (by simp [hs])
      · rw [List.mem_singleton.mp hq]
        intro e
        exact hn.1 (List.mem_map.mpr ⟨s, hs, e.symm⟩)
theorem RDs.ints2 {K : PySem.W.Frag} {ex : Addr → Prop} {f : Nat → Addr} {k : Nat} {H : Hp} : ∀ kvs : List (Str × Int), RDs K ex f k H (kvs.map fun p => Dv.int p.2) (kvs.map fun p => V.int p.2)
  | [] => .nil
  | p :: r => .cons (.int p.2) (RDs.ints2 r)
theorem de_dicC {kvs : List (Str × Int)} {pos : Pos} {keys : List (Option Expr)} {values : List Expr} (h : PPs X pos keys values (kvs.map fun p => (tC (.str p.1), tC (.int p.2)))) (hall : keys.all (·.isSome) = true) (hl : keys.length = values.length) (h0 : keys ≠ [])
    (h15 : keys.length ≤ 15) (hk : kvs.length ≤ 15) (hn : (kvs.map (·.1)).Nodup) : DE X (.Dict keys values pos) (wDicC kvs) := by
  refine ⟨(pe_disp h hall hl h0 h15).imp fun τ H Q hh => ?_, fun σ st Q Q' q h => q _ _ h⟩
  obtain ⟨ex, f, σ, st, r, er, hh⟩ := hh
  intro p hp
  refine tPairs_c kvs τ _ _ ⟨upd_same, kvs.map fun p => (Sum.inr p.1, V.int p.2), by rw [List.map_map]; rfl, by simpa using hk, ?_⟩
  have hm : mergeK [] (kvs.map fun p => ((Sum.inr p.1 : Key), V.int p.2)) = kvs.map fun p => ((Sum.inr p.1 : Key), V.int p.2) := by
    rw [mergeK_new _ [] (fun q hq => by cases hq) ?_, List.nil_append]
    rw [List.map_map]
    have e : ((fun x : Key × V => x.1) ∘ fun p : Str × Int => ((Sum.inr p.1 : Key), V.int p.2)) = (fun z : Str => (Sum.inr z : Key)) ∘ fun p : Str × Int => p.1 := rfl
    rw [e, ← List.map_map]
    exact List.Pairwise.map _ (fun a b hab z => hab (Sum.inr.inj z)) hn
  rw [hm, upd_upd]
  refine hh f _ _ (Stp.new hp) (r.new hp) (.dic (vs := kvs.map fun p => V.int p.2) ?_ (by simp [KS.len]) (RDs.ints2 kvs))
  rw [upd_same]
  show some (HO.dK _) = some (HO.dK _)
  congr 2
  rw [List.zip_map']
/-- the value of a key -/
def dicV : List Key → List Dv → Key → Option Dv
  | k :: ks, x :: xs, z => if k = z then some x else dicV ks xs z
  | _, _, _ => none
theorem dicV_rd {K : PySem.W.Frag} {ex : Addr → Prop} {f : Nat → Addr} {n : Nat} {H : Hp} {z : Key} : ∀ {ks : List Key} {xs : List Dv} {vs : List V}, RDs K ex f n H xs vs → ks.length = xs.length →
    (∀ d, dicV ks xs z = some d → ∃ v, valV (ks.zip vs) z = some v ∧ RD K ex f n H d v) ∧ (dicV ks xs z = none → valV (ks.zip vs) z = none)
  | [], _, _, _, _ => by simp [dicV, valV]
  | k :: ks, _, _, .nil, hl => by cases hl
  | k :: ks, _, _, .cons (x := x) (v := v) (vs := vs) h hs, hl => by
    have ih := dicV_rd (z := z) hs (by simpa using hl)
    by_cases e : k = z
    · subst e
      simp only [dicV, if_true]
      refine ⟨fun d hd => ⟨v, by simp [valV], by cases hd; exact h⟩, fun hd => by cases hd⟩
    · simp only [dicV]
      rw [if_neg e]
      have e2 : valV ((k, v) :: ks.zip vs) z = valV (ks.zip vs) z := by
        unfold valV
        rw [List.find?_cons_of_neg (by simpa using e)]
      rw [List.zip_cons_cons, e2]
      exact ih
/-- d[k], a text's key -/
abbrev wDix (a b : DTE) : DTE := fun σ st Q => a σ st fun d st1 => b σ st1 fun y st2 => match d, y with
  | .dic (.k ks) xs, .str z => ∃ x, dicV ks xs (Sum.inr z) = some x ∧ Q x st2
  | _, _ => False
theorem wDix_mono {a b : DTE} (ma : MonoE a) (mb : MonoE b) : MonoE (wDix a b) := fun σ st Q Q' q h => ma _ _ _ _ (fun d s h1 => mb _ _ _ _ (fun y s2 h2 => by
  split at h2
  · exact h2.imp fun x z => ⟨z.1, q _ _ z.2⟩
  · exact h2.elim) h1) h
theorem de_dix {o i : Expr} {wo wi : DTE} {pos : Pos} (hu : X.A.units + 1 < cLine) (ho : DE X o wo) (hi : DE X i wi) (hs : NoSl i) : DE X (.Subscript o i pos) (wDix wo wi) := by
  refine ⟨(pe_dget hu ho.pe hi.pe hs).imp fun τ H Q h => ?_, wDix_mono ho.mono hi.mono⟩
  obtain ⟨ex, f, σ, st, r, er, h⟩ := h
  refine lE.use ho.mono r er h fun f1 H1 d st1 v s1 r1 e1 rd h1 => ?_
  refine lE.use hi.mono r1 e1 h1 fun f2 H2 y st2 u s2 r2 e2 ry h2 => ?_
  split at h2
  · rename_i ks xs z
    obtain ⟨x, hx, hq⟩ := h2
    cases ry
    have rd2 := RD.mono s2 r1.cel rd
    cases rd2 with
    | dic e hl hs2 =>
      obtain ⟨w, hw, rw2⟩ := (dicV_rd (z := Sum.inr z) hs2 hl).1 x hx
      refine ⟨_, w, rfl, ?_, hq f2 H2 w (s1.trans s2) r2 rw2⟩
      have g := DGet.k (k := (Sum.inr z : Key)) e
      rw [hw] at g
      exact g
  · exact h2.elim
/-- k in d, k not in d, a text's key -/
abbrev wDin (neg : Bool) (a b : DTE) : DTE := fun σ st Q => a σ st fun y st1 => b σ st1 fun d st2 => match d, y with
  | .dic (.k ks) xs, .str z => Q (.bl (if neg then !(dicV ks xs (Sum.inr z)).isSome else (dicV ks xs (Sum.inr z)).isSome)) st2
  | _, _ => False
theorem wDin_mono {neg : Bool} {a b : DTE} (ma : MonoE a) (mb : MonoE b) : MonoE (wDin neg a b) := fun σ st Q Q' q h => ma _ _ _ _ (fun d s h1 => mb _ _ _ _ (fun y s2 h2 => by
  split at h2
  · exact q _ _ h2
  · exact h2.elim) h1) h
theorem dt_din {neg : Bool} {a o : Expr} {wa wo : DTE} {pos : Pos} (hu : X.A.units + 1 < cLine) (ha : DE X a wa) (ho : DE X o wo) (h1 : behindInMarks (if neg then CmpOp.NotIn else .In) o = false := by with_unfolding_all rfl) :
    DT X (.Compare a [if neg then .NotIn else .In] [o] pos) (wB (wDin neg wa wo)) := by
  have go : ∀ (g : Option V → Bool) (τ : L2.St) (H : Hp) (Q : Bool → Hp → Prop), (∀ b : Option V, g b = if neg then !b.isSome else b.isSome) → lT X.K (wB (wDin neg wa wo)) τ H Q →
      tB (fun σ H Q => lE X.K wa σ H fun y H1 => lE X.K wo σ H1 fun x H2 => ∃ a o, x = .ref a ∧ DGet H2 a y o ∧ Q (.bl (g o)) H2) τ H Q := by
    intro g τ H Q hg h
    obtain ⟨ex, f, σ, st, r, er, h⟩ := h
    refine lE.use ha.mono r er h fun f1 H1 y st1 u s1 r1 e1 ry hy => ?_
    refine lE.use ho.mono r1 e1 hy fun f2 H2 d st2 v s2 r2 e2 rd h2 => ?_
    split at h2
    · rename_i ks xs z
      have ry2 := RD.mono s2 r1.cel ry
      cases ry2
      cases rd with
      | @dic _ _ _ vs e hl hs2 =>
        have k := dicV_rd (z := Sum.inr z) hs2 hl
        refine ⟨_, _, rfl, DGet.k (k := (Sum.inr z : Key)) e, ?_⟩
        have eb : ∀ o : Option V, (dicV ks xs (Sum.inr z)).isSome = o.isSome → (if neg then !(dicV ks xs (Sum.inr z)).isSome else (dicV ks xs (Sum.inr z)).isSome) = g o := fun o e => by rw [hg, e]
        have e9 : (dicV ks xs (Sum.inr z)).isSome = (valV (ks.zip vs) (Sum.inr z)).isSome := by
          cases hd : dicV ks xs (Sum.inr z) with
          | none =>
            rw [k.2 hd]
            rfl
          | some x =>
            obtain ⟨w, hw, _⟩ := k.1 x hd
            rw [hw]
            rfl
        have e8 := eb _ e9
        rw [e8] at h2
        exact ⟨_, rfl, h2 f2 H2 (s1.trans s2) r2⟩
    · exact h2.elim
  cases neg with
  | false => exact ⟨(pt_cmp (pc_din hu ha.pe ho.pe) h1).imp fun τ H Q h => go (fun o => o.isSome) τ H Q (fun _ => rfl) h, wB_mono (wDin_mono ha.mono ho.mono)⟩
  | true => exact ⟨(pt_cmp (pc_dnotin hu ha.pe ho.pe) h1).imp fun τ H Q h => go (fun o => !o.isSome) τ H Q (fun _ => rfl) h, wB_mono (wDin_mono ha.mono ho.mono)⟩
/-! ### a table of the top, any text -/
def tabOf (e : DictEntry) : Option (Str × Int) := match e.key, e.val with
  | .str x _, .int i _ => some (x, i)
  | _, _ => none
theorem tab_find {z : Str} : ∀ {l : List DictEntry} {kvs : List (Str × Int)}, l.map tabOf = kvs.map some →
    (∀ v, kvs.lookup z = some v → ∃ e t, l.find? (·.key.isStr z) = some e ∧ e.val = .int v t) ∧ (kvs.lookup z = none → l.find? (·.key.isStr z) = none) ∧ l.any (·.refKey) = false
  | [], kvs, h => by
    cases kvs with
    | nil => exact ⟨(fun v e => by simp at e), fun _ => rfl, rfl⟩
    | cons p r => cases h
  | e :: l, [], h => by cases h
  | e :: l, (k, i) :: kvs, h => by
    rw [List.map_cons, List.map_cons] at h
    injection h with h1 h2
    obtain ⟨i1, i2, i3⟩ := tab_find (z := z) h2
    unfold tabOf at h1
    split at h1
    · rename_i x t j u ek ev
      have h4 := Option.some.inj h1
      obtain ⟨rfl, rfl⟩ := Prod.mk.inj h4
      have ks : e.key.isStr z = (x == z) := by rw [ek]; rfl
      have rk : e.refKey = false := by simp [DictEntry.refKey, ek]
      by_cases hz : x = z
      · subst hz
        have kt : e.key.isStr x = true := by rw [ks]; simp
        refine ⟨fun v hv => ⟨e, u, by simp only [List.find?_cons, kt], ?_⟩, fun hv => ?_, by rw [List.any_cons, rk, i3]; rfl⟩
        · simp only [List.lookup_cons, beq_self_eq_true] at hv
          cases hv
          exact ev
        · simp [List.lookup_cons] at hv
      · have kf : e.key.isStr z = false := by rw [ks]; simpa using hz
        have zf : (z == x) = false := by simpa using fun q => hz q.symm
        refine ⟨fun v hv => ?_, fun hv => ?_, by rw [List.any_cons, rk, i3]; rfl⟩
        · simp only [List.find?_cons, kf]
          exact i1 v (by simpa [List.lookup_cons, zf] using hv)
        · simp only [List.find?_cons, kf]
          exact i2 (by simpa [List.lookup_cons, zf] using hv)
    · cases h1
structure KTabA (X : Cx) (nm : Str) (kvs : List (Str × Int)) extends KTab X nm kvs where
  off : ∀ z, kvs.lookup z = none → PySem.W.nsIn X.K d z = some none
theorem tab_off {K : PySem.W.Frag} {d : Addr} {es : Array DictEntry} {n : Nat} {kvs : List (Str × Int)} (hl : K.lookup d = some ⟨.type "dict", none, .dict es n, #[]⟩) (h : es.toList.map tabOf = kvs.map some) (z : Str) (hz : kvs.lookup z = none) : PySem.W.nsIn K d z = some none := by
  obtain ⟨_, h2, h3⟩ := tab_find (z := z) h
  unfold PySem.W.nsIn
  rw [hl]
  dsimp only
  rw [h2 hz, h3]
  rfl
theorem tab_on {K : PySem.W.Frag} {d : Addr} {es : Array DictEntry} {n : Nat} {kvs : List (Str × Int)} (hl : K.lookup d = some ⟨.type "dict", none, .dict es n, #[]⟩) (h : es.toList.map tabOf = kvs.map some) (z : Str) (v : Int) (hz : kvs.lookup z = some v) : ∃ t, PySem.W.nsIn K d z = some (some (.int v t)) := by
  obtain ⟨h1, _, _⟩ := tab_find (z := z) h
  obtain ⟨e, t, he, hv⟩ := h1 v hz
  refine ⟨t, ?_⟩
  unfold PySem.W.nsIn
  rw [hl]
  dsimp only
  rw [he, ← hv]
def ktabA {X : Cx} {nm : Str} {kvs : List (Str × Int)} {d : Addr} {es : Array DictEntry} {n : Nat} (D : KDict X.K X.w d es n) (m : X.mg nm = some (.ref d)) (h : es.toList.map tabOf = kvs.map some) : KTabA X nm kvs :=
  { d := d, es := es, n := n, D := D, m := m, vals := fun z v hz => tab_on D.at_ h z v hz, off := fun z hz => tab_off D.at_ h z hz }
abbrev wKInA (neg : Bool) (kvs : List (Str × Int)) (a : DTE) : DTE := fun σ st Q => a σ st fun x st1 => match x with | .str z => Q (.bl (if neg then !(kvs.lookup z).isSome else (kvs.lookup z).isSome)) st1 | _ => False
theorem dt_kinA (neg : Bool) {nm : Str} {kvs : List (Str × Int)} (T : KTabA X nm kvs) (hg : Gl X nm) {a : Expr} {wa : DTE} {p pos : Pos} (ha : DE X a wa) (hd : (nm == ("__debug__" : Str)) = false := by decide)
    (hm : behindInMarks (if neg then CmpOp.NotIn else .In) (.Name nm p) = false := by with_unfolding_all rfl) : DT X (.Compare a [if neg then .NotIn else .In] [.Name nm p] pos) (wB (wKInA neg kvs wa)) := by
  have m : MonoE (wKInA neg kvs wa) := fun σ st Q Q' q h => ha.mono _ _ _ _ (fun x s h1 => by
    split at h1
    · exact q _ _ h1
    · exact h1.elim) h
  have go : ∀ {r : R2}, (∀ z (o : Option Value) y H Q, PySem.W.nsIn X.K T.d z = some o → o.isSome = (kvs.lookup z).isSome → y = V.bl (if neg then !o.isSome else o.isSome) → Q y H → r (.str z) (.ref T.d) H Q) → ∀ τ H Q, lT X.K (wB (wKInA neg kvs wa)) τ H Q → tTest (tOp r (lE X.K wa) (tC (.ref T.d))) τ H Q := by
    intro r hr τ H Q h
    obtain ⟨ex, f, σ, st, rs, er, h⟩ := h
    refine lE.use ha.mono rs er h fun f1 H1 x st1 vx s1 r1 e1 rx h1 => ?_
    split at h1
    · rename_i z
      cases rx
      cases hv : kvs.lookup z with
      | none =>
        rw [hv] at h1
        exact hr z none _ _ _ (T.off z hv) (by rw [hv]; rfl) rfl ⟨_, rfl, h1 f1 H1 s1 r1⟩
      | some v =>
        rw [hv] at h1
        obtain ⟨t, e⟩ := T.vals z v hv
        exact hr z (some (.int v t)) _ _ _ e (by rw [hv]; rfl) rfl ⟨_, rfl, h1 f1 H1 s1 r1⟩
    · exact h1.elim
  cases neg with
  | false => exact ⟨(pt_cmpR (op_in_kd T.D) ha.pe (pe_glob hg T.m (v := .ref T.d) rfl hd) hm).imp (go fun z o y H Q e1 _ e2 q => ⟨z, o, rfl, rfl, e1, by rw [e2] at q; exact q⟩), wB_mono m⟩
  | true => exact ⟨(pt_cmpR (op_notIn_kd T.D) ha.pe (pe_glob hg T.m (v := .ref T.d) rfl hd) hm).imp (go fun z o y H Q e1 _ e2 q => ⟨z, o, rfl, rfl, e1, by rw [e2] at q; exact q⟩), wB_mono m⟩
end
end D2

namespace L2
open PySem PySem.Spec PyProof.Rows
/-- a test of the form "a if c else b" -/
theorem pt_ifExp {X : Cx} {c a b : Expr} {tc ta tb : TT} {pos : Pos} (hc : PT X c tc) (ha : PT X a ta) (hb : PT X b tb) : PT X (.IfExp c a b pos) (fun σ H Q => tc σ H fun k H1 => if k = true then ta σ H1 Q else tb σ H1 Q) := by
  refine ⟨fun pins s σ H Q I h => ?_⟩
  refine isTrue_IfExp (thn (hc.run pins s σ H _ I h) fun d s1 ⟨H1, I1, q1⟩ => ?_)
  cases d with
  | true => exact ha.run pins s1 σ H1 Q I1 q1
  | false => exact hb.run pins s1 σ H1 Q I1 q1
end L2
namespace D2
open PySem PySem.Spec PyProof.Rows L2
abbrev wIfT (c a b : DTT) : DTT := fun σ st Q => c σ st fun k st1 => if k = true then a σ st1 Q else b σ st1 Q
theorem dt_ife {X : Cx} {c a b : Expr} {wc wa wb : DTT} {pos : Pos} (hc : DT X c wc) (ha : DT X a wa) (hb : DT X b wb) : DT X (.IfExp c a b pos) (wIfT wc wa wb) := by
  refine ⟨(pt_ifExp hc.pt ha.pt hb.pt).imp fun τ H Q h => ?_, fun σ st Q Q' q h => hc.mono _ _ _ _ (fun c s h1 => ?_) h⟩
  · obtain ⟨ex, f, σ, st, r, er, h⟩ := h
    refine lT.use hc.mono r er h fun f1 H1 c st1 s1 r1 e1 h1 => ?_
    cases c with
    | true => exact lT.use ha.mono r1 e1 h1 fun f2 H2 c st2 s2 r2 e2 h2 => h2 f2 H2 (s1.trans s2) r2
    | false => exact lT.use hb.mono r1 e1 h1 fun f2 H2 c st2 s2 r2 e2 h2 => h2 f2 H2 (s1.trans s2) r2
  · cases c with
    | true => exact ha.mono _ _ _ _ q h1
    | false => exact hb.mono _ _ _ _ q h1
end D2

/-! DLr: break and continue -/
namespace D2
open PySem PySem.Spec PyProof.Rows L2
section
variable {X : Cx} {pos : Pos}
abbrev wBrk : DTS := fun D σ st => D.bk σ st
abbrev wCnt : DTS := fun D σ st => D.ct σ st
theorem ds_brk : DS X (.Break pos) wBrk := by
  refine ⟨ps_break.imp fun D τ H h => ?_, fun σ st D D' l h => l.bk _ _ h⟩
  obtain ⟨ex, f, σ, st, r, er, h⟩ := h
  exact h f H τ Stp.refl r er
theorem ds_cnt : DS X (.Continue pos) wCnt := by
  refine ⟨ps_continue.imp fun D τ H h => ?_, fun σ st D D' l h => l.ct _ _ h⟩
  obtain ⟨ex, f, σ, st, r, er, h⟩ := h
  exact h f H τ Stp.refl r er
end
end D2

/-! DT: dicts whose keys are tuples, as data: dict(pairs), d.get(k, x); tuple += tuple. -/
namespace L2
open PySem PySem.Spec PyProof.Rows HT
section
variable {X : Cx}
/-- what pairs tell: the key at b, the value v -/
theorem tpairs_of {pins : List (Addr × Obj)} {σ : St} {H : Hp} {s : Shared} (I : Inv X pins σ H s) : ∀ {ps : List Addr} {kvs : List (List Key × V)}, Paired (fun p kv => ∃ b, SqT X.K H p [.ref b, kv.2] ∧ H b = some (.tup (kv.1.map kV))) ps kvs →
    ∃ prs : List (List Key × Addr × Value), Paired (fun (p : List Key × V) (q : List Key × Addr × Value) => p.1 = q.1 ∧ H q.2.1 = some (.tup (p.1.map kV)) ∧ RelV p.2 q.2.2) kvs prs ∧ prs.length = ps.length ∧ prs.map (·.1) = kvs.map (·.1) ∧
      ∀ (j : Nat) (q : List Key × Addr × Value), prs[j]? = some q → ∃ t : Addr, ps[j]? = some t ∧ IsTup s.heap t #[.ref q.2.1, q.2.2]
  | _, _, .nil => ⟨[], .nil, rfl, rfl, fun j q e => by simp at e⟩
  | _, _, .cons (a := t) (b := kv) ⟨b, h1, h2⟩ r => by
    obtain ⟨prs, p1, p2, p3, p4⟩ := tpairs_of I r
    obtain ⟨its, rv, ht, _⟩ := I.tuple h1
    obtain ⟨u, y, ei, ru, ry⟩ := vals2 rv
    subst ei
    obtain rfl : u = Value.ref b := ru
    refine ⟨(kv.1, b, y) :: prs, .cons ⟨rfl, h2, ry⟩ p1, by simp [p2], by simp [p3], fun j q e => ?_⟩
    match j, e with
    | 0, e =>
      cases e
      exact ⟨t, rfl, ht⟩
    | j + 1, e =>
      obtain ⟨t', e1, e2⟩ := p4 j q (by simpa using e)
      exact ⟨t', by simpa using e1, e2⟩
theorem call_dictPT (hcalm : X.calm = true) (hu : X.A.units + 3 < cLine) : CallR X (.type "dict") (fun xs H Q => ∃ (a : Addr) (ps : List Addr) (kvs : List (List Key × V)), xs = [.ref a] ∧ SqL X.K H a (ps.map V.ref) ∧
    Paired (fun p kv => ∃ b, SqT X.K H p [.ref b, kv.2] ∧ H b = some (.tup (kv.1.map kV))) ps kvs ∧ (kvs.map (·.1)).Nodup ∧ ∀ p, H p = none → Q (.ref p) (upd H p (.dT kvs))) := by
  rintro pins s σ H xs us Q I r ⟨a, ps, kvs, rfl, hq, hp, hn, q⟩
  obtain ⟨u, rfl, rx⟩ := vals1 r
  cases rx
  obtain ⟨its, rv, pl, hz⟩ := I.list hq
  have ei := refs_at rv
  subst ei
  rw [List.length_map] at hz
  obtain ⟨prs, p1, p2, p3, p4⟩ := tpairs_of I hp
  obtain ⟨o, n, ho, hc, hd, hdat⟩ := pl
  have keyIs : ∀ x ∈ prs, (tupleKind (mixKind X.prog X.w)).is s.heap x.1 x.2.1 := by
    have all : ∀ {l : List (List Key × V)} {m : List (List Key × Addr × Value)}, Paired (fun (p : List Key × V) (q : List Key × Addr × Value) => p.1 = q.1 ∧ H q.2.1 = some (.tup (p.1.map kV)) ∧ RelV p.2 q.2.2) l m → ∀ x ∈ m, (tupleKind (mixKind X.prog X.w)).is s.heap x.1 x.2.1 := by
      intro l m z
      induction z with
      | nil => exact fun x hx => nomatch hx
      | @cons k v ks vs hk t ih =>
        intro x hx
        rcases List.mem_cons.mp hx with rfl | hx
        · exact key_of I.hok (by rw [← hk.1]; exact hk.2.1)
        · exact ih x hx
    exact all p1
  have hl : prs.length = ps.length := p2
  have get : ∀ (j : Nat) (kv : Value × Value), (prs.map fun x => (Value.ref x.2.1, x.2.2))[j]? = some kv → ∃ x, prs[j]? = some x ∧ kv = (Value.ref x.2.1, x.2.2) := fun j kv e => by
    rw [List.getElem?_map] at e
    obtain ⟨x, e1, e2⟩ := Option.map_eq_some_iff.mp e
    exact ⟨x, e1, e2.symm⟩
  refine call_dict_pairsH (knd := tupleKind (mixKind X.prog X.w)) (ps := prs) (PairArg.list a (ps.map Value.ref).toArray (fun j => ps.getD j 0) (prs.map fun x => (Value.ref x.2.1, x.2.2))) (I.ok.hd hcalm) ?_ ⟨⟨o, n, ho, hc, hd, hdat⟩, ?_, ?_⟩ ⟨by simp, fun i key v e => ?_⟩ (fun h' hk x hx => ?_) (by simp [hl]; exact hz) fun h' tk hd' hk => ?_
  · show X.A.in1.in1.units < cLine
    exact (show X.A.units + 2 < cLine by omega)
  · simp [hl]
  · intro j k v e
    obtain ⟨x, e1, e2⟩ := get j (k, v) e
    cases e2
    obtain ⟨t, e3, e4⟩ := p4 j x e1
    have e5 : ps.getD j 0 = t := by rw [List.getD_eq_getElem?_getD, e3]; rfl
    dsimp only
    rw [e5]
    exact ⟨by simp [e3], .inl (by obtain ⟨ob, y1, y2, m, y3⟩ := e4; exact ⟨ob, y1, y2, m, y3⟩)⟩
  · obtain ⟨x, e1, e2⟩ := get i (key, v) e
    cases e2
    exact ⟨x.1, x.2.1, e1, rfl⟩
  · obtain ⟨ob, items, m, y1, y2, y3, y4⟩ := keyIs x hx
    exact ⟨ob, items, m, hk _ _ (Nat.ne_of_lt (Heap.lt_size y1)) (by simp) y1, y2, y3, y4⟩
  · have nd : (prs.map (·.1)).Nodup := by rw [p3]; exact hn
    rw [storedAllH_nil_of_nodup _ nd] at hd'
    have hm : (s.heap.objs.size == sysModules) = false := beq_eq_false_iff_ne.mpr (Nat.ne_of_gt I.big)
    have hlen : kvs.length ≤ sizeLine := by
      have := congrArg List.length p3
      simp only [List.length_map] at this
      omega
    have fresh := I.hok.fresh (Nat.le_refl s.heap.objs.size)
    obtain ⟨od, es, ep, z1, z2, z3, z4, _, z6⟩ := hd'
    have pp : ∀ {l : List (List Key × V)} {m : List (List Key × Addr × Value)}, Paired (fun (p : List Key × V) (q : List Key × Addr × Value) => p.1 = q.1 ∧ H q.2.1 = some (.tup (p.1.map kV)) ∧ RelV p.2 q.2.2) l m →
        Paired (fun (p : List Key × V) (q : List Key × Addr × Value) => p.1 = q.1 ∧ (upd H s.heap.objs.size (.dT kvs)) q.2.1 = some (.tup (p.1.map kV)) ∧ RelV p.2 q.2.2) l m := by
      intro l m z
      induction z with
      | nil => exact .nil
      | cons hk t ih =>
        refine .cons ⟨hk.1, ?_, hk.2.2⟩ ih
        rw [upd_ne (fun e => by rw [e, fresh] at hk; cases hk.2.1)]
        exact hk.2.1
    exact ⟨.ref s.heap.objs.size, upd H s.heap.objs.size (.dT kvs), I.laid (t' := tk) (fun b o e => hk b o (by simp) e) (Nat.le_refl _) (show ObjOk X.prog X.w _ _ _ (.dT kvs) from ⟨hlen, hm, prs, pp p1, od, es, ep, z1, z2, z3, z4, z6⟩), rfl, q _ fresh⟩


theorem noI_tuple_add : typeLookup (.type "tuple") (dunderI "add") = pure none := by
  rw [typeLookup_type, builtinLookup_eq_fast]
  kernel_rfl
/-- t += u -/
theorem ip_catA : PIp X .Add (rCatA X.K) := by
  rintro pins s σ H x y v u Q I rx ry ⟨a, b, xs, ys, rfl, rfl, ha, hb, hz, q0, q1, q2⟩
  cases rx
  cases ry
  obtain ⟨its, r1, p1, _⟩ := I.tuple ha
  obtain ⟨its2, r2, p2, _⟩ := I.tuple hb
  obtain ⟨⟨cls, dd, data, sl⟩, ho, hc, n, hd⟩ := id p1
  obtain ⟨⟨cls2, dd2, data2, sl2⟩, ho2, hc2, n2, hd2⟩ := id p2
  simp only at hc hd hc2 hd2
  subst hc hd hc2 hd2
  have e : its.toArray ++ its2.toArray = (its ++ its2).toArray := by simp
  have l1 := r1.length
  have l2 := r2.length
  have call := fun {S : PySem.Spec} (g : Meets (Builtin.«tuple.__add__» ⟨[.ref a, .ref b], []⟩) S) (h : S X.A (wants (EP X pins σ Q) X.xe) s) =>
    wpAny_inplaceOp_concat (M := model X.prog X.w) (a := .ref a) (b := .ref b) ⟨_, ho, rfl⟩ ⟨_, ho2, rfl⟩ noI_tuple_add noFill_tuple_add seq_tuple_add (call_meets (prog := X.prog) (w := X.w) PySem.F.slot_tuple_add ⟨_, ho, rfl⟩ PySem.F.entry_tuple_add (PySem.F.args_tuple_add_2 _ _) g h)
  by_cases hx : its = []
  · have hx2 : xs = [] := List.length_eq_zero_iff.mp (by rw [l1, hx]; rfl)
    exact call (tuple_addW0 a b its.toArray its2.toArray n n2 dd dd2 sl sl2 (by simp [hx])) ⟨ho, ho2, .ref b, H, I, rfl, q0 hx2⟩
  · have hx2 : xs ≠ [] := fun z => hx (List.length_eq_zero_iff.mp (by rw [← l1, z]; rfl))
    by_cases hw : its2 = []
    · have hw2 : ys = [] := List.length_eq_zero_iff.mp (by rw [l2, hw]; rfl)
      exact call (tuple_addW1 a b its.toArray its2.toArray n n2 dd dd2 sl sl2 (by simpa using hx) (by simp [hw])) ⟨ho, ho2, .ref a, H, I, rfl, q1 hx2 hw2⟩
    · have hw2 : ys ≠ [] := fun z => hw (List.length_eq_zero_iff.mp (by rw [← l2, z]; rfl))
      refine call (tuple_addW2 a b its.toArray its2.toArray n n2 dd dd2 sl sl2 (by simpa using hx) (by simpa using hw) (by rw [List.size_toArray, List.size_toArray, ← l1, ← l2]; exact hz)) ⟨ho, ho2, ?_⟩
      rw [e]
      refine ⟨.ref s.heap.objs.size, _, I.laid (t' := s.toks) (o := .tup (xs ++ ys)) (fun b ob q => Heap.get?_push_of_some _ q) (Nat.le_refl _) ?_, rfl, q2 hx2 hw2 _ (I.hok.fresh (Nat.le_refl _))⟩
      exact ⟨by rw [List.length_append]; exact hz, _, r1.append r2, IsTup.new _ _⟩
end
end L2
namespace D2
open PySem PySem.Spec PyProof.Rows L2
/-! ### over data -/
def kD : Key → Dv
  | .inl i => .int i
  | .inr s => .str s
section
variable {X : Cx}
/-- a tuple, as a key of a dict -/
abbrev wTuk (a : DTA) : DTE := fun σ st Q => a σ st fun xs st1 => xs.length ≤ sizeLine ∧ Q (.tuk xs) st1
theorem de_tuk {es : List Expr} {w : DTA} {pos : Pos} {x1} (h : DA X es w) : DE X (.Tuple es x1 pos) (wTuk w) := by
  refine ⟨(pe_tup h.pa).imp fun τ H Q hh => ?_, fun σ st Q Q' q hh => h.mono _ _ _ _ (fun x s h1 => ⟨h1.1, q _ _ h1.2⟩) hh⟩
  obtain ⟨ex, f, σ, st, r, er, hh⟩ := hh
  refine lA.use h.mono r er hh fun f1 H1 xs st1 vs s1 r1 e1 rd h1 => ⟨by rw [← rd.length]; exact h1.1, fun p hp => ?_⟩
  exact (h1.2.later s1) f1 _ _ (Stp.new hp) (r1.new hp) (.tuk upd_same (rd.mono (Stp.new hp) r1.cel))
theorem RDs.keys {K : PySem.W.Frag} {ex : Addr → Prop} {f : Nat → Addr} {k : Nat} {H : Hp} : ∀ {ks : List Key} {vs : List V}, RDs K ex f k H (ks.map kD) vs → vs = ks.map kV
  | [], _, h => by cases h; rfl
  | .inl i :: ks, _, h => by
    cases h with
    | cons h hs =>
      cases h
      rw [RDs.keys hs]
      rfl
  | .inr s :: ks, _, h => by
    cases h with
    | cons h hs =>
      cases h
      rw [RDs.keys hs]
      rfl
/-- the value of a key that is a tuple -/
def dicT : List (List Key) → List Dv → List Key → Option Dv
  | k :: ks, x :: xs, z => if k = z then some x else dicT ks xs z
  | _, _, _ => none
theorem dicT_rd {K : PySem.W.Frag} {ex : Addr → Prop} {f : Nat → Addr} {n : Nat} {H : Hp} {z : List Key} : ∀ {ks : List (List Key)} {xs : List Dv} {vs : List V}, RDs K ex f n H xs vs → ks.length = xs.length →
    (∀ d, dicT ks xs z = some d → ∃ v, valV (ks.zip vs) z = some v ∧ RD K ex f n H d v) ∧ (dicT ks xs z = none → valV (ks.zip vs) z = none)
  | [], _, _, _, _ => by simp [dicT, valV]
  | k :: ks, _, _, .nil, hl => by cases hl
  | k :: ks, _, _, .cons (x := x) (v := v) (vs := vs) h hs, hl => by
    have ih := dicT_rd (z := z) hs (by simpa using hl)
    by_cases e : k = z
    · subst e
      simp only [dicT, if_true]
      refine ⟨fun d hd => ⟨v, by simp [valV], by cases hd; exact h⟩, fun hd => by cases hd⟩
    · simp only [dicT]
      rw [if_neg e]
      have e2 : valV ((k, v) :: ks.zip vs) z = valV (ks.zip vs) z := by
        unfold valV
        rw [List.find?_cons_of_neg (by simpa using e)]
      rw [List.zip_cons_cons, e2]
      exact ih
/-- d.get(k, x), a key that is a tuple -/
abbrev wDgt (a b c : DTE) : DTE := fun σ st Q => a σ st fun d st1 => ∃ ks xs, d = .dic (.t ks) xs ∧ b σ st1 fun y st2 => ∃ key, y = .tuk (key.map kD) ∧ c σ st2 fun z st3 => Q ((dicT ks xs key).getD z) st3
theorem wDgt_mono {a b c : DTE} (ma : MonoE a) (mb : MonoE b) (mc : MonoE c) : MonoE (wDgt a b c) := fun σ st Q Q' q h => ma _ _ _ _ (fun d s ⟨ks, xs, e, h1⟩ => ⟨ks, xs, e, mb _ _ _ _ (fun y s2 ⟨key, e2, h2⟩ => ⟨key, e2, mc _ _ _ _ (fun z s3 h3 => q _ _ h3) h2⟩) h1⟩) h
theorem de_dgt {o e g : Expr} {wo we wg : DTE} {apos cpos : Pos} (hu : X.A.units + 1 < cLine) (ho : DE X o wo) (he : DE X e we) (hg : DE X g wg)
    (base : attributeBase o "get" X.env (eval o X.env) = eval o X.env := by rfl)
    (few : ((backTo cpos (starEach [e, g] X.env)).all (fun x => !x.1) && (backToKw cpos (keywordEach [] X.env)).all (fun x => x.1.isSome) && decide (([e, g] : List Expr).length + ([] : List Keyword).length + (if ([] : List Keyword).isEmpty then 0 else 1) < 30)) = true := by rfl)
    (line : (apos.endLine == cpos.line) = true := by rfl) (trees : backTo cpos (starEach [e, g] X.env) = [(false, eval e X.env), (false, eval g X.env)] := by rfl) :
    DE X (.Call (.Attribute o "get" apos) [e, g] [] cpos) (wDgt wo we wg) := by
  refine ⟨(pe_dget2 hu ho.pe he.pe hg.pe ⟨base, few, line, trees⟩).imp fun τ H Q h => ?_, wDgt_mono ho.mono he.mono hg.mono⟩
  obtain ⟨ex, f, σ, st, r, er, h⟩ := h
  refine lE.use ho.mono r er h fun f1 H1 d st1 v s1 r1 e1 rd ⟨ks, xs, hd, h1⟩ => ?_
  subst hd
  cases rd with
  | @dic _ a _ vs ea hl hs =>
    refine ⟨a, rfl, .inr ⟨_, .inl ea⟩, ?_⟩
    refine lE.use he.mono r1 e1 h1 fun f2 H2 y st2 u s2 r2 e2 ry ⟨key, hy, h2⟩ => ?_
    subst hy
    refine lE.use hg.mono r2 e2 h2 fun f3 H3 z st3 t s3 r3 e3 rz h3 => ?_
    have rd3 := ((RD.dic (K := X.K) ea hl hs).mono s2 r1.cel).mono s3 r2.cel
    have ry3 := ry.mono s3 r2.cel
    cases ry3 with
    | @tuk _ b ws eb hbs =>
      have ew := RDs.keys hbs
      subst ew
      cases rd3 with
      | dic ea3 hl3 hs3 =>
        obtain ⟨g1, g2⟩ := dicT_rd (z := key) hs3 hl3
        refine ⟨_, DGet.t ea3 eb, ?_⟩
        cases hv : dicT ks xs key with
        | some x =>
          obtain ⟨v, h4, h5⟩ := g1 x hv
          rw [h4]
          rw [hv] at h3
          exact h3 f3 H3 v ((s1.trans s2).trans s3) r3 h5
        | none =>
          rw [g2 hv]
          rw [hv] at h3
          exact h3 f3 H3 t ((s1.trans s2).trans s3) r3 rz
/-- dict(pairs), the keys unlike tuples -/
def gDicP : Dv → Sto → DK → Prop := fun x st Q => ∃ kvs : List (List Key × Dv), lstD st x = some (kvs.map fun p => .tup [.tuk (p.1.map kD), p.2]) ∧ (kvs.map (·.1)).Nodup ∧ Q (.dic (.t (kvs.map (·.1))) (kvs.map (·.2))) st
theorem pairs_rd {K : PySem.W.Frag} {ex : Addr → Prop} {f : Nat → Addr} {k : Nat} {H : Hp} : ∀ {kvs : List (List Key × Dv)} {vs : List V}, RDs K ex f k H (kvs.map fun p => .tup [.tuk (p.1.map kD), p.2]) vs →
    ∃ (ps : List Addr) (ws : List (List Key × V)), vs = ps.map V.ref ∧ ws.map (·.1) = kvs.map (·.1) ∧ RDs K ex f k H (kvs.map (·.2)) (ws.map (·.2)) ∧ Paired (fun p kv => ∃ b, SqT K H p [.ref b, kv.2] ∧ H b = some (.tup (kv.1.map kV))) ps ws
  | [], _, h => by
    cases h
    exact ⟨[], [], rfl, rfl, .nil, .nil⟩
  | p :: kvs, _, h => by
    cases h with
    | cons h hs =>
      cases h with
      | @tup _ a _ ea hx =>
        cases hx with
        | cons h1 hx =>
          cases hx with
          | @cons _ _ v _ h2 hx =>
            cases hx
            cases h1 with
            | @tuk _ b ws eb hbs =>
              have ew := RDs.keys hbs
              subst ew
              obtain ⟨ps, ws, rfl, h3, h4, h5⟩ := pairs_rd hs
              exact ⟨a :: ps, (p.1, v) :: ws, rfl, by simp [h3], .cons h2 h4, .cons ⟨b, ea, eb⟩ h5⟩
theorem zip_eta : ∀ ws : List (List Key × V), (ws.map (·.1)).zip (ws.map (·.2)) = ws
  | [] => rfl
  | w :: ws => by simp [zip_eta ws]
theorem cd_dicP (hc : X.calm = true) (hu : X.A.units + 3 < cLine) : CallD X (.type "dict") (g1 gDicP) := cd1 (call_dictPT hc hu) (fun x st Q Q' q ⟨kvs, h1, h2, h3⟩ => ⟨kvs, h1, h2, q _ _ h3⟩) (fun ex f st H x v Q r rd ⟨kvs, h1, h2, h3⟩ => by
  obtain ⟨a, vs, rfl, q, hs⟩ := lst_of r rd h1
  obtain ⟨ps, ws, rfl, h4, h5, h6⟩ := pairs_rd hs
  refine ⟨a, ps, ws, rfl, q, h6, by rw [h4]; exact h2, fun p hp => ?_⟩
  refine h3 f _ _ (Stp.new hp) (r.new hp) (.dic (vs := ws.map (·.2)) ?_ (by simp [KS.len]) (h5.mono (Stp.new hp) r.cel))
  rw [upd_same]
  show some (HO.dT ws) = some (HO.dT _)
  rw [← h4, zip_eta])
/-- a or b, by a's truth -/
abbrev wOrX (a b : DTE) : DTE := fun σ st Q => a σ st fun d st1 => match truD d st1 with | some true => Q d st1 | some false => b σ st1 Q | none => False
theorem wOrX_mono {a b : DTE} (ma : MonoE a) (mb : MonoE b) : MonoE (wOrX a b) := fun σ st Q Q' q h => ma _ _ _ _ (fun c s h1 => by
  split at h1
  · exact q _ _ h1
  · exact mb _ _ _ _ q h1
  · exact h1.elim) h
theorem tru_rd {K : PySem.W.Frag} {ex : Addr → Prop} {f : Nat → Addr} {H : Hp} {st : Sto} {d : Dv} {v : V} {c : Bool} (r : RS K ex f st H) (rd : RD K ex f st.length H d v) (e : truD d st = some c) : TruV K v H c := by
  cases rd with
  | non => cases e; rfl
  | bl b => cases e; rfl
  | int i => cases e; rfl
  | str s => cases e
  | tup h2 hs =>
    cases e
    rw [isEmpty_rds hs]
    exact .inr (.inl ⟨_, h2, rfl⟩)
  | tux h2 hs =>
    cases e
    rw [isEmpty_rds hs]
    exact .inr (.inl ⟨_, .inl (.inr (h2.imp fun _ q => q.1)), rfl⟩)
  | rol h2 hx hn hs =>
    cases e
    rw [isEmpty_rds hs]
    exact .inl ⟨_, .inl (.inl h2), rfl⟩
  | fro h2 hs =>
    cases e
    rw [isEmpty_rds hs]
    exact .inl ⟨_, h2.imp (fun q => q.1) id, rfl⟩
  | obj h2 hn hs => cases e
  | dic h2 hl hs => cases e
  | tuk h2 hs => cases e
  | ref n hn =>
    have h2 : st[n]? = some st[n] := by simp
    have h3 := r.obj n _ h2
    cases h4 : st[n] with
    | lst xs =>
      rw [h4] at h2 h3
      cases h3 with
      | lst q hs =>
        simp only [truD, h2] at e
        cases e
        rw [isEmpty_rds hs]
        exact .inl ⟨_, .inl (.inl q), rfl⟩
theorem de_orX {a b : Expr} {rest : List Expr} {wa wb : DTE} {pos : Pos} (ha : DE X a wa) (hb : DE X (.BoolOp .Or (b :: rest) pos) wb) : DE X (.BoolOp .Or (a :: b :: rest) pos) (wOrX wa wb) := by
  refine ⟨(pe_orT ha.pe hb.pe).imp fun τ H Q h => ?_, wOrX_mono ha.mono hb.mono⟩
  obtain ⟨ex, f, σ, st, r, er, h⟩ := h
  refine lE.use ha.mono r er h fun f1 H1 d st1 v s1 r1 e1 rd h1 => ?_
  split at h1
  · rename_i q
    exact ⟨true, tru_rd r1 rd q, h1 f1 H1 v s1 r1 rd⟩
  · rename_i q
    exact ⟨false, tru_rd r1 rd q, lE.use hb.mono r1 e1 h1 fun f2 H2 d st2 v s2 r2 e2 rd2 h2 => h2 f2 H2 v (s1.trans s2) r2 rd2⟩
  · exact h1.elim
/-- t += u -/
@[irreducible] def wAugT (i : Nat) (w : DTE) : DTS := fun D σ st => match σ[i]? with
  | some (some (.tup xs)) => w σ st fun d st1 => ∃ ys, d = .tup ys ∧ xs.length + ys.length ≤ sizeLine ∧ D.nx (σ.set i (some (.tup (xs ++ ys)))) st1
  | _ => False
theorem ds_augT {i : Nat} {x : Str} {e : Expr} {w : DTE} {pos pos' : Pos} (hN : X.N.Nodup) (hi : X.N[i]? = some x) (hx : Loc X.env.scope x) (he : DE X e w) (hf : X.fn x = true ∨ X.env.scope.names.lookup x = some .local := by first | exact .inl rfl | exact .inr rfl | assumption) :
    DS X (.AugAssign (.Name x pos') .Add e pos) (wAugT i w) := by
  refine ⟨(ps_aug hN hi hx he.pe ip_catA hf).imp fun D τ H h => ?_, fun σ st D D' l h => ?_⟩
  · obtain ⟨ex, f, σ, st, r, er, h⟩ := h
    unfold wAugT at h
    split at h
    · rename_i xs ea
      obtain ⟨v, h1, h2⟩ := er.at_ i _ ea
      refine ⟨v, h1, lE.use he.mono r er h fun f1 H1 d st1 u s1 r1 e1 rd ⟨ys, hd, hz, h3⟩ => ?_⟩
      subst hd
      have h2' := h2.mono s1 r.cel
      cases h2' with
      | tup ha hsa =>
        cases rd with
        | tup hb hsb =>
          refine ⟨_, _, _, _, rfl, rfl, ha, hb, by rw [← hsa.length, ← hsb.length]; exact hz, fun e0 => ?_, fun e0 e2 => ?_, fun e0 e2 p hp => ?_⟩
          · subst e0
            cases hsa
            exact h3 f1 H1 _ s1 r1 (e1.set (.tup hb hsb))
          · subst e2
            cases hsb
            rw [List.append_nil] at h3
            exact h3 f1 H1 _ s1 r1 (e1.set (.tup ha hsa))
          · refine h3 f1 _ _ (s1.trans (Stp.new hp)) (r1.new hp) ((e1.mono (Stp.new hp) r1.cel).set (r1.newTup hp (hsa.append hsb)))
    · exact h.elim
  · unfold wAugT at *
    split at h
    · exact he.mono _ _ _ _ (fun d s ⟨ys, h1, h2, h3⟩ => ⟨ys, h1, h2, l.nx _ _ h3⟩) h
    · exact h.elim
end
end D2

/-! XE: exceptions of the program's own, two classes below Exception, whose __init__ says super().__init__(at); self.at = at. -/
namespace XE
open PySem PySem.Spec PyProof.Rows PySem.Builtin PySem.Builtin.ObjectAttr PySem.W L2
/-- the field that such a class keeps -/
inductive Fld where
  | at_ | word | name
@[reducible] def Fld.s : Fld → Str
  | .at_ => "at"
  | .word => "word"
  | .name => "name"
/-- the text of such an __init__, wherever it stands -/
abbrev iArgs (fl : Fld) (pa pb : Pos) : Arguments := ⟨[], [⟨"self", none, pa⟩, ⟨fl.s, none, pb⟩], none, [], [], none, []⟩
abbrev iScope (fl : Fld) : Scope := ⟨.function, [("self", .local), (fl.s, .local), ("__class__", .free), ("super", .globalImplicit)], false, false, []⟩
abbrev iBody (fl : Fld) (p0 p1 p2 p3 p4 p5 p6 p7 p8 p9 : Pos) : List Stmt :=
  [.Expr (.Call (.Attribute (.Call (.Name "super" p0) [] [] p1) "__init__" p2) [.Name fl.s p3] [] p4) p5, .Assign [.Attribute (.Name "self" p6) fl.s p7] (.Name fl.s p8) p9]
/-- what the written part says of such a class C, right below D, and of its __init__ -/
structure XCl (K : Frag) (P : Program) (C : Addr) (fl : Fld) where
  (D fI cda cc : Addr)
  cls : ∃ nm q N bs sn sub ab col dd k0 k1 k2 k3 k5, K.lookup C = some (excClassObj nm q C N bs (.ref D :: ESX.exTail) true sn sub ab col dd k0 k1 k2 k3 k5 "Exception.__new__")
  bas : ∃ nm q N bs bm ns hd sn sub ab col del dd sl, K.lookup D = some ⟨.type "type", dd, .cls ⟨nm, bs, bm, ns, q, hd, sn, sub, ab, col, del⟩, sl⟩ ∧ bm = .ref D :: ESX.exTail ∧ N = ns
  up : findIn K (.ref D) "__init__" = some (some (.builtin "Exception.__init__"))
  sa : findIn K (.ref C) "__setattr__" = some (some (.builtin "object.__setattr__"))
  ini : findIn K (.ref C) "__init__" = some (some (.ref fI))
  tI : typeIn K (.ref fI) = some (.type "function")
  exC : subIn K (.ref C) (.type "BaseException") = some true
  exE : subIn K (.ref C) (.type "Exception") = some true
  tyC : typeIn K (.ref C) = some (.type "type")
  kC : keepIn K (.ref C) = true
  self : mroIn K C (.ref C) = some true
  no : takerIn K C fl.s = some none
  opq : nsIn K cStatics "thirdparty.any" = some none
  fn : ∃ (qual : Str) (oc dV kV doc pm ct : Value) (od an : Option Addr) (osl : Array (Option Value)) (pa pb p0 p1 p2 p3 p4 p5 p6 p7 p8 p9 : Pos),
    K.lookup fI = some ⟨oc, od, .func (ksFn "__init__" qual (iArgs fl pa pb) (iBody fl p0 p1 p2 p3 p4 p5 p6 p7 p8 p9) (iScope fl) .none kV doc pm an (.ref cda) ct cc), osl⟩ ∧ codeIn K (.ref cda) qual = true ∧ (p2.endLine == p4.line) = true
  code : ∃ (oc : Value) (od : Option Addr) (vs : Array Value) (osl : Array (Option Value)) (file : Str) (tf : Tok), K.lookup cda = some ⟨oc, od, .fields vs, osl⟩ ∧ vs[2]? = some (.str file tf) ∧ ((P.main.file : Str) == file) = true
  cell : ∃ (oc : Value) (od : Option Addr) (osl : Array (Option Value)), K.lookup cc = some ⟨oc, od, .cell (some (.ref C)), osl⟩
  top : (P.main.scope.names.lookup ("super" : Str)).isSome = false
  one : nsIn K mainGlobals "super" = some none

/-- a method call that stands on one line -/
theorem call_eq {o : PySem.Expr} {name : Str} {apos pos : Pos} {args : List PySem.Expr} {env : Env} (hl : (apos.endLine == pos.line) = true) (hf : methodCallForm (args.length + 0) (backTo pos (starEach args env)) [] = true) :
    PySem.eval (.Call (.Attribute o name apos) args [] pos) env = (do
      let ov ← attributeBase o name env (PySem.eval o env)
      standAt apos.atName
      let x ← holding [ov] (getMethod ov name (do return (← importBound o env).getD true))
      callWith pos x.1 x.2 (backTo pos (starEach args env)) []) := by
  have e : methodCallPos true o env apos pos = pure pos := by
    unfold methodCallPos
    rw [hl]
    rfl
  rw [arm_eval_Call]
  unfold methodCall
  rw [show backToKw pos (keywordEach [] env) = [] from rfl, show methodCallForm (args.length + [].length) (backTo pos (starEach args env)) [] = true from hf, e]
  rfl
/-- such a class, by what the written part shows -/
def xcl_mk {K : Frag} {P : Program} {fl : Fld} {C D fI cda cc : Addr} {nm q nm' q' : Str} {N ns' : Addr} {bs bs' : List Value} {sn sn' : List Str} {sub sub' : List Value} {ab ab' hd' del' : Bool} {col col' : Option Bool} {dd dd' : Option Addr} {sl' : Array (Option Value)} {k0 k1 k2 k3 k5 : Option Value}
    (h1 : K.lookup C = some (excClassObj nm q C N bs (.ref D :: ESX.exTail) true sn sub ab col dd k0 k1 k2 k3 k5 "Exception.__new__"))
    (h2 : K.lookup D = some ⟨.type "type", dd', .cls ⟨nm', bs', .ref D :: ESX.exTail, ns', q', hd', sn', sub', ab', col', del'⟩, sl'⟩) (h3 : findIn K (.ref D) "__init__" = some (some (.builtin "Exception.__init__")))
    (h4 : findIn K (.ref C) "__setattr__" = some (some (.builtin "object.__setattr__"))) (h5 : findIn K (.ref C) "__init__" = some (some (.ref fI))) (h6 : typeIn K (.ref fI) = some (.type "function"))
    (h7 : subIn K (.ref C) (.type "BaseException") = some true) (h8 : subIn K (.ref C) (.type "Exception") = some true) (h9 : typeIn K (.ref C) = some (.type "type")) (h10 : keepIn K (.ref C) = true) (h11 : mroIn K C (.ref C) = some true)
    (h12 : takerIn K C fl.s = some none) (h13 : nsIn K cStatics "thirdparty.any" = some none)
    {qual : Str} {oc kV doc pm ct : Value} {od an : Option Addr} {osl : Array (Option Value)} {pa pb p0 p1 p2 p3 p4 p5 p6 p7 p8 p9 : Pos}
    (h14 : K.lookup fI = some ⟨oc, od, .func (ksFn "__init__" qual (iArgs fl pa pb) (iBody fl p0 p1 p2 p3 p4 p5 p6 p7 p8 p9) (iScope fl) .none kV doc pm an (.ref cda) ct cc), osl⟩) (h15 : codeIn K (.ref cda) qual = true) (h16 : (p2.endLine == p4.line) = true)
    {oc2 : Value} {od2 : Option Addr} {vs : Array Value} {osl2 : Array (Option Value)} {file : Str} {tf : Tok} (h17 : K.lookup cda = some ⟨oc2, od2, .fields vs, osl2⟩) (h18 : vs[2]? = some (.str file tf)) (h19 : ((P.main.file : Str) == file) = true)
    {oc3 : Value} {od3 : Option Addr} {osl3 : Array (Option Value)} (h20 : K.lookup cc = some ⟨oc3, od3, .cell (some (.ref C)), osl3⟩) (h21 : (P.main.scope.names.lookup ("super" : Str)).isSome = false) (h22 : nsIn K mainGlobals "super" = some none) : XCl K P C fl where
  D := D
  fI := fI
  cda := cda
  cc := cc
  cls := ⟨_, _, _, _, _, _, _, _, _, _, _, _, _, _, h1⟩
  bas := ⟨_, _, _, _, _, _, _, _, _, _, _, _, _, _, h2, rfl, rfl⟩
  up := h3
  sa := h4
  ini := h5
  tI := h6
  exC := h7
  exE := h8
  tyC := h9
  kC := h10
  self := h11
  no := h12
  opq := h13
  fn := ⟨_, _, .none, _, _, _, _, _, _, _, _, _, _, _, _, _, _, _, _, _, _, _, h14, h15, h16⟩
  code := ⟨_, _, _, _, _, _, h17, h18, h19⟩
  cell := ⟨_, _, _, h20⟩
  top := h21
  one := h22
theorem tail_open : excTail ESX.exTail (.ref 0 :: ESX.exTail) = true := by decide +kernel
theorem tail_has (D : Addr) (T : String) : (Value.ref D :: ESX.exTail).contains (.type T) = ESX.exTail.contains (.type T) := by
  rw [List.contains_cons]
  rfl
section
variable {prog : Program} {w : World} {A : Around} {hp : Heap} {g : Array GenState} {d : Drawn} {t : Nat} {os : OsState} {K : Frag} {C e t0 : Addr} {fl : Fld} {v : Value} {R : Result → Shared → Prop} {E : Value → Shared → Prop}
/-- self.at = v, the first store -/
theorem store_at {Q : Unit → Shared → Prop} (T : XCl K prog C fl) (X : K.In hp) (he : hp.get? e = some (HandSPX.excO C t0))
    (hq : ∀ h' tk dx, (∀ b o, b ≠ e → hp.get? b = some o → h'.get? b = some o) → hp.objs.size ≤ dx → dx ≠ e → h'.get? e = some { cls := .ref C, dict := some dx, data := .fields #[.ref t0, .none, .none, .none, .bool false, .none] } →
      h'.Ns1 dx (fun y => if y = fl.s then some v else none) → Q () ⟨h', g, d, tk, os⟩) : wpAny (model prog w) A (setAttr (.ref e) fl.s v) Q E ⟨hp, g, d, t, os⟩ := by
  obtain ⟨nm, q, N, bs, sn, sub, ab, col, dd, k0, k1, k2, k3, k5, hC⟩ := T.cls
  have hcl : clsIn K C = some ⟨nm, bs, .ref C :: .ref T.D :: ESX.exTail, N, q, true, sn, sub, ab, col, false⟩ := by unfold clsIn; rw [hC]
  have hov : excOver K C ESX.exTail = true := by
    unfold excOver
    rw [hcl]
    simp [excTail]
  have lt : e < hp.objs.size := Heap.lt_size he
  refine set_plain (s := ⟨hp, g, d, t, os⟩) (od := none) X ⟨he, rfl, rfl, trivial⟩ T.sa (osa_openX (od := none) PySem.F.store_Exception X ⟨he, rfl, rfl, trivial⟩ hov T.no fun b => ?_)
  refine wpAny_bind (wpAny_pure (wpAny_bind (instanceDict_exc he (looks_clsIn X hcl) rfl ?_)))
  refine HandSPX.store_in_new ⟨dictOf [] 0, #[], _, (Heap.get?_update_ne _ _ _ _ (Nat.ne_of_gt lt)).trans (Heap.get?_push_at rfl rfl), rfl, (fun y hy => absurd hy (by simp)), fun _ => rfl⟩ fun h' tk hn hs => ?_
  refine hq h' tk hp.objs.size (fun b o hb ho => ?_) (Nat.le_refl _) (Nat.ne_of_gt lt) ?_ hn
  · exact (hs.2 b (Nat.ne_of_lt (Heap.lt_size ho))).trans ((Heap.get?_update_ne _ _ _ _ hb).trans (Heap.get?_push_of_some _ ho))
  · exact (hs.2 e (Nat.ne_of_lt lt)).trans (Heap.get?_update_self _ (Heap.get?_push_of_some _ he) rfl)
/-- the run of __init__ -/
theorem init_run_at_ {mg mb : Str → Option Value} (T : XCl K prog C Fld.at_) (X : K.In hp) (nl : hp.NoLimit) (G : hp.Ns mainGlobals mg) (B : hp.Ns builtinsNs mb) (hb : mb "super" = some (.type "super")) (room : A.depth < recursionLimit)
    (fre : ∀ b o, K.lookup b = some o → b ≠ e) (he : hp.get? e = some (HandSPX.excO C t0))
    (hq : ∀ h' tk dx t1, (∀ b o, b ≠ e → hp.get? b = some o → h'.get? b = some o) → hp.objs.size ≤ dx → dx ≠ e → h'.get? e = some { cls := .ref C, dict := some dx, data := .fields #[.ref t1, .none, .none, .none, .bool false, .none] } →
      h'.Ns1 dx (fun y => if y = (Fld.at_.s) then some v else none) → R (.ok (.ret .none)) ⟨h', g, d, tk, os⟩) :
    codeAny (model prog w) A (.call (.ref T.fI) ⟨[.ref e, v], []⟩) R ⟨hp, g, d, t, os⟩ := by
  obtain ⟨nm, q, N, bs, sn, sub, ab, col, dd, k0, k1, k2, k3, k5, hC⟩ := T.cls
  obtain ⟨qual, oc, dV, kV, doc, pm, ct, od, an, osl, pa, pb, p0, p1, p2, p3, p4, p5, p6, p7, p8, p9, hf, hcd, hln⟩ := T.fn
  obtain ⟨oc2, od2, vs, osl2, file, tf, hcode, hvs, hfile⟩ := T.code
  obtain ⟨oc3, od3, osl3, hcell⟩ := T.cell
  have hcl : clsIn K C = some ⟨nm, bs, .ref C :: .ref T.D :: ESX.exTail, N, q, true, sn, sub, ab, col, false⟩ := by unfold clsIn; rw [hC]
  have lt : e < hp.objs.size := Heap.lt_size he
  have eC : e ≠ C := fun z => by
    rw [z, X _ _ hC] at he
    cases he
  refine ks_codeAny_call_defAt (fd := ksFn "__init__" qual (iArgs Fld.at_ pa pb) (iBody Fld.at_ p0 p1 p2 p3 p4 p5 p6 p7 p8 p9) (iScope Fld.at_) .none kV doc pm an (.ref T.cda) ct T.cc) (body := iBody Fld.at_ p0 p1 p2 p3 p4 p5 p6 p7 p8 p9) (binds := [("self", .ref e), ((Fld.at_.s), v)])
    room (X _ _ hf) rfl nl (codeRec_of X hcd) rfl (BindsTo.of_eq rfl) (show ∀ x ∈ (iScope Fld.at_).names, x.2 ≠ NameKind.cell by decide) (locs rfl) (fun h1 hns k1' => ?_)
  have X1 : K.In h1 := X.keeps k1'
  refine ks_wpAt_execs_cons (ks_wpAt_Expr_any (ks_wpAt_MethodCall ?_ (call_eq hln rfl)))
  refine ks_wpAt_super_base rfl rfl (by decide) rfl (X1 _ _ hf) rfl rfl rfl (X1 _ _ hcode) rfl hvs hfile T.top ?_
  refine ks_loadName_global rfl rfl (Calls.loadGlobal_builtin (G.keeps k1') (mg_none_of X G T.one) (B.keeps k1') hb ⟨rfl, ?_⟩)
  refine wpAny_loadName_free rfl rfl rfl ⟨_, X1 _ _ hcell, rfl⟩ ?_
  refine wpAny_loadName_local rfl rfl hns rfl ?_
  refine ks_wpAny_isType_cls (X1 _ _ hC) rfl ⟨rfl, ?_⟩
  refine ks_wpAny_call_super (X1 _ _ hC) rfl (k1' _ _ he) rfl (fun c z => by cases z) (looks_mroIn X1 T.self) (fun h2 hso k2 => ?_)
  have X2 : K.In h2 := X1.keeps k2
  have he2 := k2 _ _ (k1' _ _ he)
  have al : alongIn K "__init__" (.ref T.D :: ESX.exTail) = some (some (.builtin "Exception.__init__")) := by
    obtain ⟨nm', q', N', bs', bm', ns', hd', sn', sub', ab', col', del', dd', sl', hD, rfl, _⟩ := T.bas
    have z := T.up
    unfold findIn at z
    dsimp only at z
    rw [hD] at z
    exact z
  have I2 : InstAt h2 e (HandSPX.excO C t0) C none := ⟨he2, rfl, rfl, trivial⟩
  refine ESX.getMethod_super hso (looks_opaque X2 T.opq) (l₀ := .ref C :: .ref T.D :: ESX.exTail) (fun A Q E s k q => wpAny_bind ((looks_clsIn X2 hcl) A _ E s k (wpAny_pure q))) (ESX.drop_own C _) X2 al eC (by decide)
    (I2.type.andThen (looks_subIn X2 T.exE)) ?_
  have hu : (h2.push (ESX.bw e)).get? h2.objs.size = some (ESX.bw e) := Heap.get?_push_at rfl rfl
  have k3 : ∀ b o, h2.get? b = some o → (h2.push (ESX.bw e)).get? b = some o := fun b o z => Heap.get?_push_of_some _ z
  have hns3 := (hns.keeps k2).keeps k3
  refine ESX.callWith_bound (x := e) (Calls.spliced_cons (wpAny_Name (wpAny_loadName_local rfl rfl hns3 rfl (Calls.spliced_nil ⟨hu, ?_⟩)) (by decide)))
  refine ESX.call_bw (X2.keeps k3 _ _ hC) (k3 _ _ he2) hu (by rw [sizeLine_eq]; simp) (fun h4 t1 k4 he4 => ?_)
  have X4 : K.In h4 := fun b o z => k4 b o (fre b o z) (X2.keeps k3 _ _ z)
  obtain ⟨oL, es, ep, hL, hr⟩ := hns3
  have neL : hp.objs.size ≠ e := Nat.ne_of_gt lt
  have hns4 : h4.Ns hp.objs.size (fun x => [(("self" : Str), Value.ref e), ((Fld.at_.s), v)].reverse.lookup x) := ⟨oL, es, ep, k4 _ _ neL hL, hr⟩
  refine ks_wpAt_execs_cons (ks_wpAt_Assign_Attr (wpAt_of_wpAny (wpAny_Name (wpAny_loadName_local rfl rfl hns4 rfl ?_) (by decide))))
  refine wpAny_Name (wpAny_loadName_local rfl rfl hns4 rfl ?_) (by decide)
  refine store_at T X4 he4 fun h5 tk dx k5' hdx ne he5 hn5 => ?_
  refine wpAt_of_wpAny (wpAny_execs_nil ?_)
  have kk : ∀ b o, hp.get? b = some o → (h2.push (ESX.bw e)).get? b = some o := fun b o z => k3 _ _ (k2 _ _ (k1' _ _ z))
  have sz : hp.objs.size ≤ h4.objs.size := Nat.le_of_lt (Heap.lt_size (k4 _ _ neL hL))
  exact hq h5 tk dx t1 (fun b o hb z => k5' b o hb (k4 b o hb (kk b o z))) (Nat.le_trans sz hdx) ne he5 hn5
/-- the run of __init__ -/
theorem init_run_word {mg mb : Str → Option Value} (T : XCl K prog C Fld.word) (X : K.In hp) (nl : hp.NoLimit) (G : hp.Ns mainGlobals mg) (B : hp.Ns builtinsNs mb) (hb : mb "super" = some (.type "super")) (room : A.depth < recursionLimit)
    (fre : ∀ b o, K.lookup b = some o → b ≠ e) (he : hp.get? e = some (HandSPX.excO C t0))
    (hq : ∀ h' tk dx t1, (∀ b o, b ≠ e → hp.get? b = some o → h'.get? b = some o) → hp.objs.size ≤ dx → dx ≠ e → h'.get? e = some { cls := .ref C, dict := some dx, data := .fields #[.ref t1, .none, .none, .none, .bool false, .none] } →
      h'.Ns1 dx (fun y => if y = (Fld.word.s) then some v else none) → R (.ok (.ret .none)) ⟨h', g, d, tk, os⟩) :
    codeAny (model prog w) A (.call (.ref T.fI) ⟨[.ref e, v], []⟩) R ⟨hp, g, d, t, os⟩ := by
  obtain ⟨nm, q, N, bs, sn, sub, ab, col, dd, k0, k1, k2, k3, k5, hC⟩ := T.cls
  obtain ⟨qual, oc, dV, kV, doc, pm, ct, od, an, osl, pa, pb, p0, p1, p2, p3, p4, p5, p6, p7, p8, p9, hf, hcd, hln⟩ := T.fn
  obtain ⟨oc2, od2, vs, osl2, file, tf, hcode, hvs, hfile⟩ := T.code
  obtain ⟨oc3, od3, osl3, hcell⟩ := T.cell
  have hcl : clsIn K C = some ⟨nm, bs, .ref C :: .ref T.D :: ESX.exTail, N, q, true, sn, sub, ab, col, false⟩ := by unfold clsIn; rw [hC]
  have lt : e < hp.objs.size := Heap.lt_size he
  have eC : e ≠ C := fun z => by
    rw [z, X _ _ hC] at he
    cases he
  refine ks_codeAny_call_defAt (fd := ksFn "__init__" qual (iArgs Fld.word pa pb) (iBody Fld.word p0 p1 p2 p3 p4 p5 p6 p7 p8 p9) (iScope Fld.word) .none kV doc pm an (.ref T.cda) ct T.cc) (body := iBody Fld.word p0 p1 p2 p3 p4 p5 p6 p7 p8 p9) (binds := [("self", .ref e), ((Fld.word.s), v)])
    room (X _ _ hf) rfl nl (codeRec_of X hcd) rfl (BindsTo.of_eq rfl) (show ∀ x ∈ (iScope Fld.word).names, x.2 ≠ NameKind.cell by decide) (locs rfl) (fun h1 hns k1' => ?_)
  have X1 : K.In h1 := X.keeps k1'
  refine ks_wpAt_execs_cons (ks_wpAt_Expr_any (ks_wpAt_MethodCall ?_ (call_eq hln rfl)))
  refine ks_wpAt_super_base rfl rfl (by decide) rfl (X1 _ _ hf) rfl rfl rfl (X1 _ _ hcode) rfl hvs hfile T.top ?_
  refine ks_loadName_global rfl rfl (Calls.loadGlobal_builtin (G.keeps k1') (mg_none_of X G T.one) (B.keeps k1') hb ⟨rfl, ?_⟩)
  refine wpAny_loadName_free rfl rfl rfl ⟨_, X1 _ _ hcell, rfl⟩ ?_
  refine wpAny_loadName_local rfl rfl hns rfl ?_
  refine ks_wpAny_isType_cls (X1 _ _ hC) rfl ⟨rfl, ?_⟩
  refine ks_wpAny_call_super (X1 _ _ hC) rfl (k1' _ _ he) rfl (fun c z => by cases z) (looks_mroIn X1 T.self) (fun h2 hso k2 => ?_)
  have X2 : K.In h2 := X1.keeps k2
  have he2 := k2 _ _ (k1' _ _ he)
  have al : alongIn K "__init__" (.ref T.D :: ESX.exTail) = some (some (.builtin "Exception.__init__")) := by
    obtain ⟨nm', q', N', bs', bm', ns', hd', sn', sub', ab', col', del', dd', sl', hD, rfl, _⟩ := T.bas
    have z := T.up
    unfold findIn at z
    dsimp only at z
    rw [hD] at z
    exact z
  have I2 : InstAt h2 e (HandSPX.excO C t0) C none := ⟨he2, rfl, rfl, trivial⟩
  refine ESX.getMethod_super hso (looks_opaque X2 T.opq) (l₀ := .ref C :: .ref T.D :: ESX.exTail) (fun A Q E s k q => wpAny_bind ((looks_clsIn X2 hcl) A _ E s k (wpAny_pure q))) (ESX.drop_own C _) X2 al eC (by decide)
    (I2.type.andThen (looks_subIn X2 T.exE)) ?_
  have hu : (h2.push (ESX.bw e)).get? h2.objs.size = some (ESX.bw e) := Heap.get?_push_at rfl rfl
  have k3 : ∀ b o, h2.get? b = some o → (h2.push (ESX.bw e)).get? b = some o := fun b o z => Heap.get?_push_of_some _ z
  have hns3 := (hns.keeps k2).keeps k3
  refine ESX.callWith_bound (x := e) (Calls.spliced_cons (wpAny_Name (wpAny_loadName_local rfl rfl hns3 rfl (Calls.spliced_nil ⟨hu, ?_⟩)) (by decide)))
  refine ESX.call_bw (X2.keeps k3 _ _ hC) (k3 _ _ he2) hu (by rw [sizeLine_eq]; simp) (fun h4 t1 k4 he4 => ?_)
  have X4 : K.In h4 := fun b o z => k4 b o (fre b o z) (X2.keeps k3 _ _ z)
  obtain ⟨oL, es, ep, hL, hr⟩ := hns3
  have neL : hp.objs.size ≠ e := Nat.ne_of_gt lt
  have hns4 : h4.Ns hp.objs.size (fun x => [(("self" : Str), Value.ref e), ((Fld.word.s), v)].reverse.lookup x) := ⟨oL, es, ep, k4 _ _ neL hL, hr⟩
  refine ks_wpAt_execs_cons (ks_wpAt_Assign_Attr (wpAt_of_wpAny (wpAny_Name (wpAny_loadName_local rfl rfl hns4 rfl ?_) (by decide))))
  refine wpAny_Name (wpAny_loadName_local rfl rfl hns4 rfl ?_) (by decide)
  refine store_at T X4 he4 fun h5 tk dx k5' hdx ne he5 hn5 => ?_
  refine wpAt_of_wpAny (wpAny_execs_nil ?_)
  have kk : ∀ b o, hp.get? b = some o → (h2.push (ESX.bw e)).get? b = some o := fun b o z => k3 _ _ (k2 _ _ (k1' _ _ z))
  have sz : hp.objs.size ≤ h4.objs.size := Nat.le_of_lt (Heap.lt_size (k4 _ _ neL hL))
  exact hq h5 tk dx t1 (fun b o hb z => k5' b o hb (k4 b o hb (kk b o z))) (Nat.le_trans sz hdx) ne he5 hn5
/-- the run of __init__ -/
theorem init_run_name {mg mb : Str → Option Value} (T : XCl K prog C Fld.name) (X : K.In hp) (nl : hp.NoLimit) (G : hp.Ns mainGlobals mg) (B : hp.Ns builtinsNs mb) (hb : mb "super" = some (.type "super")) (room : A.depth < recursionLimit)
    (fre : ∀ b o, K.lookup b = some o → b ≠ e) (he : hp.get? e = some (HandSPX.excO C t0))
    (hq : ∀ h' tk dx t1, (∀ b o, b ≠ e → hp.get? b = some o → h'.get? b = some o) → hp.objs.size ≤ dx → dx ≠ e → h'.get? e = some { cls := .ref C, dict := some dx, data := .fields #[.ref t1, .none, .none, .none, .bool false, .none] } →
      h'.Ns1 dx (fun y => if y = (Fld.name.s) then some v else none) → R (.ok (.ret .none)) ⟨h', g, d, tk, os⟩) :
    codeAny (model prog w) A (.call (.ref T.fI) ⟨[.ref e, v], []⟩) R ⟨hp, g, d, t, os⟩ := by
  obtain ⟨nm, q, N, bs, sn, sub, ab, col, dd, k0, k1, k2, k3, k5, hC⟩ := T.cls
  obtain ⟨qual, oc, dV, kV, doc, pm, ct, od, an, osl, pa, pb, p0, p1, p2, p3, p4, p5, p6, p7, p8, p9, hf, hcd, hln⟩ := T.fn
  obtain ⟨oc2, od2, vs, osl2, file, tf, hcode, hvs, hfile⟩ := T.code
  obtain ⟨oc3, od3, osl3, hcell⟩ := T.cell
  have hcl : clsIn K C = some ⟨nm, bs, .ref C :: .ref T.D :: ESX.exTail, N, q, true, sn, sub, ab, col, false⟩ := by unfold clsIn; rw [hC]
  have lt : e < hp.objs.size := Heap.lt_size he
  have eC : e ≠ C := fun z => by
    rw [z, X _ _ hC] at he
    cases he
  refine ks_codeAny_call_defAt (fd := ksFn "__init__" qual (iArgs Fld.name pa pb) (iBody Fld.name p0 p1 p2 p3 p4 p5 p6 p7 p8 p9) (iScope Fld.name) .none kV doc pm an (.ref T.cda) ct T.cc) (body := iBody Fld.name p0 p1 p2 p3 p4 p5 p6 p7 p8 p9) (binds := [("self", .ref e), ((Fld.name.s), v)])
    room (X _ _ hf) rfl nl (codeRec_of X hcd) rfl (BindsTo.of_eq rfl) (show ∀ x ∈ (iScope Fld.name).names, x.2 ≠ NameKind.cell by decide) (locs rfl) (fun h1 hns k1' => ?_)
  have X1 : K.In h1 := X.keeps k1'
  refine ks_wpAt_execs_cons (ks_wpAt_Expr_any (ks_wpAt_MethodCall ?_ (call_eq hln rfl)))
  refine ks_wpAt_super_base rfl rfl (by decide) rfl (X1 _ _ hf) rfl rfl rfl (X1 _ _ hcode) rfl hvs hfile T.top ?_
  refine ks_loadName_global rfl rfl (Calls.loadGlobal_builtin (G.keeps k1') (mg_none_of X G T.one) (B.keeps k1') hb ⟨rfl, ?_⟩)
  refine wpAny_loadName_free rfl rfl rfl ⟨_, X1 _ _ hcell, rfl⟩ ?_
  refine wpAny_loadName_local rfl rfl hns rfl ?_
  refine ks_wpAny_isType_cls (X1 _ _ hC) rfl ⟨rfl, ?_⟩
  refine ks_wpAny_call_super (X1 _ _ hC) rfl (k1' _ _ he) rfl (fun c z => by cases z) (looks_mroIn X1 T.self) (fun h2 hso k2 => ?_)
  have X2 : K.In h2 := X1.keeps k2
  have he2 := k2 _ _ (k1' _ _ he)
  have al : alongIn K "__init__" (.ref T.D :: ESX.exTail) = some (some (.builtin "Exception.__init__")) := by
    obtain ⟨nm', q', N', bs', bm', ns', hd', sn', sub', ab', col', del', dd', sl', hD, rfl, _⟩ := T.bas
    have z := T.up
    unfold findIn at z
    dsimp only at z
    rw [hD] at z
    exact z
  have I2 : InstAt h2 e (HandSPX.excO C t0) C none := ⟨he2, rfl, rfl, trivial⟩
  refine ESX.getMethod_super hso (looks_opaque X2 T.opq) (l₀ := .ref C :: .ref T.D :: ESX.exTail) (fun A Q E s k q => wpAny_bind ((looks_clsIn X2 hcl) A _ E s k (wpAny_pure q))) (ESX.drop_own C _) X2 al eC (by decide)
    (I2.type.andThen (looks_subIn X2 T.exE)) ?_
  have hu : (h2.push (ESX.bw e)).get? h2.objs.size = some (ESX.bw e) := Heap.get?_push_at rfl rfl
  have k3 : ∀ b o, h2.get? b = some o → (h2.push (ESX.bw e)).get? b = some o := fun b o z => Heap.get?_push_of_some _ z
  have hns3 := (hns.keeps k2).keeps k3
  refine ESX.callWith_bound (x := e) (Calls.spliced_cons (wpAny_Name (wpAny_loadName_local rfl rfl hns3 rfl (Calls.spliced_nil ⟨hu, ?_⟩)) (by decide)))
  refine ESX.call_bw (X2.keeps k3 _ _ hC) (k3 _ _ he2) hu (by rw [sizeLine_eq]; simp) (fun h4 t1 k4 he4 => ?_)
  have X4 : K.In h4 := fun b o z => k4 b o (fre b o z) (X2.keeps k3 _ _ z)
  obtain ⟨oL, es, ep, hL, hr⟩ := hns3
  have neL : hp.objs.size ≠ e := Nat.ne_of_gt lt
  have hns4 : h4.Ns hp.objs.size (fun x => [(("self" : Str), Value.ref e), ((Fld.name.s), v)].reverse.lookup x) := ⟨oL, es, ep, k4 _ _ neL hL, hr⟩
  refine ks_wpAt_execs_cons (ks_wpAt_Assign_Attr (wpAt_of_wpAny (wpAny_Name (wpAny_loadName_local rfl rfl hns4 rfl ?_) (by decide))))
  refine wpAny_Name (wpAny_loadName_local rfl rfl hns4 rfl ?_) (by decide)
  refine store_at T X4 he4 fun h5 tk dx k5' hdx ne he5 hn5 => ?_
  refine wpAt_of_wpAny (wpAny_execs_nil ?_)
  have kk : ∀ b o, hp.get? b = some o → (h2.push (ESX.bw e)).get? b = some o := fun b o z => k3 _ _ (k2 _ _ (k1' _ _ z))
  have sz : hp.objs.size ≤ h4.objs.size := Nat.le_of_lt (Heap.lt_size (k4 _ _ neL hL))
  exact hq h5 tk dx t1 (fun b o hb z => k5' b o hb (k4 b o hb (kk b o z))) (Nat.le_trans sz hdx) ne he5 hn5
/-- the run of __init__ -/
theorem init_run {mg mb : Str → Option Value} (T : XCl K prog C fl) (X : K.In hp) (nl : hp.NoLimit) (G : hp.Ns mainGlobals mg) (B : hp.Ns builtinsNs mb) (hb : mb "super" = some (.type "super")) (room : A.depth < recursionLimit)
    (fre : ∀ b o, K.lookup b = some o → b ≠ e) (he : hp.get? e = some (HandSPX.excO C t0))
    (hq : ∀ h' tk dx t1, (∀ b o, b ≠ e → hp.get? b = some o → h'.get? b = some o) → hp.objs.size ≤ dx → dx ≠ e → h'.get? e = some { cls := .ref C, dict := some dx, data := .fields #[.ref t1, .none, .none, .none, .bool false, .none] } →
      h'.Ns1 dx (fun y => if y = fl.s then some v else none) → R (.ok (.ret .none)) ⟨h', g, d, tk, os⟩) :
    codeAny (model prog w) A (.call (.ref T.fI) ⟨[.ref e, v], []⟩) R ⟨hp, g, d, t, os⟩ := by
  cases fl
  · exact init_run_at_ T X nl G B hb room fre he hq
  · exact init_run_word T X nl G B hb room fre he hq
  · exact init_run_name T X nl G B hb room fre he hq
end

/-! ### the rule: C(e) -/
section
variable {X : Cx} {fl : Fld} {C : Addr} {x : Str} {ea : PySem.Expr} {te : TE} {p pos : Pos}
/-- C(e): its dict at dx -/
def tMkC (fl : Fld) (C : Addr) (te : TE) : L2.St → Hp → XK → Prop := fun σ H Q => te σ H fun v H1 => ∀ dx, H1 dx = none → Q (.ref C) (some dx) (upd H1 dx (.xd [(fl.s, v)]))
theorem pmk_c (T : XCl X.K X.prog C fl) (hd : X.A.depth + 3 < recursionLimit) (hg : Gl X x) (hm : X.mg x = some (.ref C)) (ha : PE X ea te) (hdb : (x == ("__debug__" : Str)) = false := by decide)
    (he : starEach [ea] X.env = (false, PySem.eval ea X.env) :: starEach [] X.env := by rfl) : PMk X (.Call (.Name x p) [ea] [] pos) (tMkC fl C te) := by
  intro pins s σ H Q I h
  obtain ⟨nm, q, N, bs, sn, sub, ab, col, dd, k0, k1, k2, k3, k5, hC⟩ := T.cls
  refine wpAny_Call_Name_kw (ld_glob I hg hm ?_ hdb)
  refine callWith_K (h₀ := X.base) I.ok.mod.kin T.kC (thn ((pa_cons ha pa_nil he).run pos pins s σ H (fun vs H1 => match vs with | [v] => ∀ dx, H1 dx = none → Q (.ref C) (some dx) (upd H1 dx (.xd [(fl.s, v)])) | _ => False) I h) fun us s1 hh => ?_) he rfl
  obtain ⟨vs, H1, I1, rv, q1⟩ := hh
  cases rv with
  | nil => exact q1.elim
  | cons r1 rr =>
    cases rr with
    | cons _ _ => exact q1.elim
    | nil =>
      rename_i v u
      refine ⟨I1.kIn, ?_⟩
      show wpAny _ _ (call (.ref C) [u]) _ _ _
      obtain ⟨hp, g, dr, tk, os⟩ := s1
      have hl : (1 : Nat) ≤ sizeLine := by rw [sizeLine_eq]; decide
      have ke : ∀ b o, hp.get? b = some o → ((hp.push (kdv_tup [u])).push (HandSPX.excO C hp.objs.size)).get? b = some o := fun b o e => Heap.get?_push_of_some _ (Heap.get?_push_of_some _ e)
      have hget : ((hp.push (kdv_tup [u])).push (HandSPX.excO C hp.objs.size)).get? (hp.objs.size + 1) = some (HandSPX.excO C hp.objs.size) := by heap_get
      have old : ∀ b o, hp.get? b = some o → b ≠ hp.objs.size + 1 := fun b o z => Nat.ne_of_lt (Nat.lt_succ_of_lt (Heap.lt_size z))
      obtain ⟨mb, hB, hbt⟩ := I1.ok.mod.blt
      have bk : ∀ b o, X.base.get? b = some o → ((hp.push (kdv_tup [u])).push (HandSPX.excO C hp.objs.size)).get? b = some o := fun b o z => ke b o (I1.bk b o z)
      refine wpAny_call (HandSPX.call_own F.excBase_Exception (tail_has T.D) (I1.kIn _ _ hC) (looks_findIn I1.kIn T.ini) (fun self => bind_fn I1.kIn self T.tI) hl ?_)
      refine init_run T (I1.kIn.keeps ke) (I1.nolimit.keeps ke) (I1.ok.mod.glob.keeps bk) (hB.keeps bk) ((hbt "super" (by decide)).trans (by first | boot_by_name | rfl | kernel_rfl)) (by rw [make_depth]; omega) (fun b o z => old b o (I1.kIn _ _ z)) hget ?_
      intro h' tk' dx t1 keep hdx ne he' hns
      have hsz : hp.objs.size ≤ dx := by
        rw [Heap.size_push, Heap.size_push] at hdx
        omega
      have hn : H1 dx = none := I1.hok.fresh hsz
      obtain ⟨G, g1, g2⟩ := restrict h' fun b => decide (b ≠ hp.objs.size + 1)
      have gk : ∀ b, b ≠ hp.objs.size + 1 → G.get? b = h'.get? b := fun b hb => g1 b (decide_eq_true hb)
      have kG : ∀ b o, hp.get? b = some o → G.get? b = some o := fun b o z => (gk b (old b o z)).trans (keep b o (old b o z) (ke b o z))
      have J : Inv X pins σ (upd H1 dx (.xd [(fl.s, v)])) ⟨G, g, dr, tk', os⟩ := I1.laid (t' := tk') (a := dx) (o := .xd [(fl.s, v)]) (h' := G) kG hsz ⟨_, hns.at fun o z => (gk dx ne).trans z, fun f => by
        by_cases hf : f = fl.s
        · subst hf
          simp only [List.lookup, beq_self_eq_true, if_true]
          exact r1
        · have e : (f == (fl.s : Str)) = false := by simpa using hf
          simp [List.lookup, e, hf, RelO]⟩
      refine ⟨rfl, hp.objs.size + 1, _, _, ⟨G, g, dr, tk', os⟩, _, .ref C, some dx, rfl, J, fun b o z => ?_, g2 _ (by simp), he', ⟨rfl, rfl⟩, rfl, rfl, ?_, rfl, J.bare, raises_own T.exC T.tyC, q1 dx hn⟩
      · by_cases hb : b = hp.objs.size + 1
        · rw [hb, g2 _ (by simp)] at z
          cases z
        · exact (gk b hb).symm.trans z
      · rw [upd_ne (Ne.symm ne)]
        exact I1.hok.fresh (Nat.le_succ _)
end
end XE

/-! DX: defs that may raise an exception of the program's own (made as XE has it), over data: readings with a second end, their promises, try. -/
namespace D2
open PySem PySem.Spec PyProof.Rows L2
/-- an exceptional end: the class by its name, at as data, the cells -/
abbrev XD := Str → Dv → Sto → Prop
/-- the field that an exception of the program's own keeps, by its class -/
def fldOf (n : Str) : XE.Fld := if n = "InvalidSize" ∨ n = "Refused" then .word else if n = "NoName" then .name else .at_
abbrev DXE := En → Sto → DK → XD → Prop
abbrev DXA := En → Sto → (List Dv → Sto → Prop) → XD → Prop
abbrev DXS := DEnds → XD → En → Sto → Prop
def AfX (K : PySem.W.Frag) (mg : Str → Option Value) (ex : Addr → Prop) (f : Nat → Addr) (k : Nat) (H : Hp) (E : XK) : XD := fun n d st' => ∀ C f' H' v dx, mg n = some (.ref C) → Stp f k H f' st'.length H' → RS K ex f' st' H' → RD K ex f' st'.length H' d v →
  H' dx = some (.xd [((fldOf n).s, v)]) → E (.ref C) (some dx) H'
theorem AfX.later {K : PySem.W.Frag} {mg : Str → Option Value} {ex : Addr → Prop} {f f1 : Nat → Addr} {k k1 : Nat} {H H1 : Hp} {E : XK} {n : Str} {d : Dv} {st' : Sto} (h : AfX K mg ex f k H E n d st') (s : Stp f k H f1 k1 H1) : AfX K mg ex f1 k1 H1 E n d st' :=
  fun C f' H' v dx hc s' r rd hx => h C f' H' v dx hc (s.trans s') r rd hx
def lXE (K : PySem.W.Frag) (mg : Str → Option Value) (E : XK) (w : DXE) : TE := fun τ H Q => ∃ ex f σ st, RS K ex f st H ∧ ER K ex f st.length H σ τ ∧ w σ st (Af K ex f st.length H Q) (AfX K mg ex f st.length H E)
def lXA (K : PySem.W.Frag) (mg : Str → Option Value) (E : XK) (w : DXA) : TA := fun τ H Q => ∃ ex f σ st, RS K ex f st H ∧ ER K ex f st.length H σ τ ∧ w σ st (AfA K ex f st.length H Q) (AfX K mg ex f st.length H E)
def lXS (K : PySem.W.Frag) (mg : Str → Option Value) (E : XK) (w : DXS) : TS := fun D τ H => ∃ ex f σ st, RS K ex f st H ∧ ER K ex f st.length H σ τ ∧ w (AfE K ex f st.length H D) (AfX K mg ex f st.length H E) σ st
def MonoXE (w : DXE) : Prop := ∀ σ st (Q Q' : DK) (Y Y' : XD), (∀ d s, Q d s → Q' d s) → (∀ n d s, Y n d s → Y' n d s) → w σ st Q Y → w σ st Q' Y'
def MonoXA (w : DXA) : Prop := ∀ σ st (Q Q' : List Dv → Sto → Prop) (Y Y' : XD), (∀ d s, Q d s → Q' d s) → (∀ n d s, Y n d s → Y' n d s) → w σ st Q Y → w σ st Q' Y'
def MonoXS (w : DXS) : Prop := ∀ σ st (D D' : DEnds) (Y Y' : XD), D.le D' → (∀ n d s, Y n d s → Y' n d s) → w D Y σ st → w D' Y' σ st
structure XPE (X : Cx) (E : XK) (e : Expr) (w : DXE) : Prop where
  pe : PE X e (lXE X.K X.mg E w)
  mono : MonoXE w
structure XPA (X : Cx) (E : XK) (es : List Expr) (w : DXA) : Prop where
  pa : PA X es (lXA X.K X.mg E w)
  mono : MonoXA w
structure XPS (X : Cx) (E : XK) (s : Stmt) (w : DXS) : Prop where
  ps : PS X s (lXS X.K X.mg E w)
  mono : MonoXS w
structure XPSs (X : Cx) (E : XK) (s : List Stmt) (w : DXS) : Prop where
  ps : PSs X s (lXS X.K X.mg E w)
  mono : MonoXS w
/-- the context takes E -/
abbrev TakesE (X : Cx) (E : XK) : Prop := Takes X fun c d _ H => E c d H
theorem TakesE.of {X : Cx} {W : WX} (t : Takes X W) : TakesE X fun c d H => ∀ σ : L2.St, σ.length = X.N.length → W c d σ H := fun u s' ⟨a, B, sI, pins, σ, H, cls, d, e, I, nb, up, sky, na, os, ag, w⟩ =>
  t u s' ⟨a, B, sI, pins, σ, H, cls, d, e, I, nb, up, sky, na, os, ag, w σ I.len⟩
section
variable {X : Cx} {E : XK}
theorem TakesE.passes (t : TakesE X E) : Passes (L2.CX X.prog X.w) X E := passes_call t fun _ _ _ _ h => h
theorem _root_.L2.PA.nox {es : List Expr} {t : TA} (h : PA X.nox es t) : PA X es t := ⟨fun pos pins s σ H Q I hw =>
  wpAny_mono (h.run pos pins s σ H Q (I.wish _) hw) (fun _ _ ⟨v, H', I', r, q⟩ => ⟨v, H', I'.unwish, r, q⟩) fun _ _ z => False.elim z⟩
theorem _root_.L2.PK.nox {es : List Keyword} {t : TA} (h : PK X.nox es t) : PK X es t := ⟨fun pos pins s σ H Q I hw =>
  wpAny_mono (h.run pos pins s σ H Q (I.wish _) hw) (fun _ _ ⟨v, H', I', r, q⟩ => ⟨v, H', I'.unwish, r, q⟩) fun _ _ z => False.elim z⟩
theorem _root_.L2.PS.nox {st : Stmt} {t : TS} (h : PS X.nox st t) : PS X st t := ⟨fun pins s σ H D I hw =>
  wpAny_mono (h.run pins s σ H D (I.wish _) hw) (fun f _ q => SP.unwish q) fun _ _ z => False.elim z⟩
variable {K : PySem.W.Frag} {mg : Str → Option Value} {ex : Addr → Prop} {f : Nat → Addr} {H : Hp} {σ : En} {τ : L2.St} {st : Sto}
theorem lXE.use {w : DXE} (m : MonoXE w) (r : RS K ex f st H) (er : ER K ex f st.length H σ τ) {R : DK} {Y : XD} (h : w σ st R Y) {P : VK}
    (q : ∀ f1 H1 d st1 v, Stp f st.length H f1 st1.length H1 → RS K ex f1 st1 H1 → ER K ex f1 st1.length H1 σ τ → RD K ex f1 st1.length H1 d v → R d st1 → P v H1) (y : ∀ n d s, Y n d s → AfX K mg ex f st.length H E n d s) : lXE K mg E w τ H P :=
  ⟨ex, f, σ, st, r, er, m σ st _ _ _ _ (fun d st1 hr f1 H1 v s r1 rd => q f1 H1 d st1 v s r1 (er.mono s r.cel) rd hr) y h⟩
theorem lXA.use {w : DXA} (m : MonoXA w) (r : RS K ex f st H) (er : ER K ex f st.length H σ τ) {R : List Dv → Sto → Prop} {Y : XD} (h : w σ st R Y) {P : List V → Hp → Prop}
    (q : ∀ f1 H1 d st1 v, Stp f st.length H f1 st1.length H1 → RS K ex f1 st1 H1 → ER K ex f1 st1.length H1 σ τ → RDs K ex f1 st1.length H1 d v → R d st1 → P v H1) (y : ∀ n d s, Y n d s → AfX K mg ex f st.length H E n d s) : lXA K mg E w τ H P :=
  ⟨ex, f, σ, st, r, er, m σ st _ _ _ _ (fun d st1 hr f1 H1 v s r1 rd => q f1 H1 d st1 v s r1 (er.mono s r.cel) rd hr) y h⟩
theorem lXS.use {w : DXS} (m : MonoXS w) (r : RS K ex f st H) (er : ER K ex f st.length H σ τ) {D : DEnds} {Y : XD} (h : w D Y σ st) {G : Ends} (le : D.le (AfE K ex f st.length H G)) (y : ∀ n d s, Y n d s → AfX K mg ex f st.length H E n d s) : lXS K mg E w G τ H :=
  ⟨ex, f, σ, st, r, er, m σ st _ _ _ _ le y h⟩
/-! ### what raises nothing -/
abbrev xOf (w : DTE) : DXE := fun σ st Q _ => w σ st Q
abbrev xOfA (w : DTA) : DXA := fun σ st Q _ => w σ st Q
abbrev xOfS (w : DTS) : DXS := fun D _ σ st => w D σ st
theorem xe_of {e : Expr} {w : DTE} (h : DE X.nox e w) : XPE X E e (xOf w) := ⟨h.pe.nox.imp fun τ H Q ⟨ex, f, σ, st, r, er, q⟩ => ⟨ex, f, σ, st, r, er, q⟩, fun σ st Q Q' Y Y' q _ z => h.mono _ _ _ _ q z⟩
theorem xa_of {e : List Expr} {w : DTA} (h : DA X.nox e w) : XPA X E e (xOfA w) := ⟨h.pa.nox.imp fun τ H Q ⟨ex, f, σ, st, r, er, q⟩ => ⟨ex, f, σ, st, r, er, q⟩, fun σ st Q Q' Y Y' q _ z => h.mono _ _ _ _ q z⟩
theorem xs_of {e : Stmt} {w : DTS} (h : DS X.nox e w) : XPS X E e (xOfS w) := ⟨h.ps.nox.imp fun τ H Q ⟨ex, f, σ, st, r, er, q⟩ => ⟨ex, f, σ, st, r, er, q⟩, fun σ st D D' Y Y' q _ z => h.mono _ _ _ _ q z⟩
theorem xss_of {e : List Stmt} {w : DTS} (h : DSs X.nox e w) : XPSs X E e (xOfS w) := ⟨h.ps.nox.imp fun τ H Q ⟨ex, f, σ, st, r, er, q⟩ => ⟨ex, f, σ, st, r, er, q⟩, fun σ st D D' Y Y' q _ z => h.mono _ _ _ _ q z⟩
/-! ### expressions -/
abbrev xIfE (t : DTT) (a b : DXE) : DXE := fun σ st Q Y => t σ st fun c st1 => if c = true then a σ st1 Q Y else b σ st1 Q Y
theorem xe_if {c a b : Expr} {wc : DTT} {wa wb : DXE} {pos : Pos} (hc : DT X.nox c wc) (ha : XPE X E a wa) (hb : XPE X E b wb) : XPE X E (.IfExp c a b pos) (xIfE wc wa wb) := by
  refine ⟨(pe_ifExp hc.pt.nox ha.pe hb.pe).imp fun τ H Q h => ?_, fun σ st Q Q' Y Y' q y h => hc.mono _ _ _ _ (fun c s h1 => ?_) h⟩
  · obtain ⟨ex, f, σ, st, r, er, h⟩ := h
    refine lT.use hc.mono r er h fun f1 H1 c st1 s1 r1 e1 h1 => ?_
    cases c with
    | true => exact lXE.use ha.mono r1 e1 h1 (fun f2 H2 d st2 v s2 r2 e2 rd2 h2 => h2 f2 H2 v (s1.trans s2) r2 rd2) fun _ _ _ z => z.later s1
    | false => exact lXE.use hb.mono r1 e1 h1 (fun f2 H2 d st2 v s2 r2 e2 rd2 h2 => h2 f2 H2 v (s1.trans s2) r2 rd2) fun _ _ _ z => z.later s1
  · cases c with
    | true => exact ha.mono _ _ _ _ _ _ q y h1
    | false => exact hb.mono _ _ _ _ _ _ q y h1
abbrev xNil : DXA := fun _ st Q _ => Q [] st
abbrev xCons (a : DXE) (b : DXA) : DXA := fun σ st Q Y => a σ st (fun x st1 => b σ st1 (fun xs st2 => Q (x :: xs) st2) Y) Y
theorem xa_nil : XPA X E [] xNil := ⟨pa_nil.imp fun τ H Q ⟨ex, f, σ, st, r, er, h⟩ => h f H [] Stp.refl r .nil, fun σ st Q Q' Y Y' q y h => q _ _ h⟩
theorem xa_cons {e : Expr} {es : List Expr} {wa : DXE} {wb : DXA} (ha : XPE X E e wa) (hb : XPA X E es wb) (hs : starEach (e :: es) X.env = (false, eval e X.env) :: starEach es X.env := by rfl) : XPA X E (e :: es) (xCons wa wb) := by
  refine ⟨(pa_cons ha.pe hb.pa hs).imp fun τ H Q h => ?_, fun σ st Q Q' Y Y' q y h => ha.mono _ _ _ _ _ _ (fun x s h1 => hb.mono _ _ _ _ _ _ (fun xs s2 h2 => q _ _ h2) y h1) y h⟩
  obtain ⟨ex, f, σ, st, r, er, h⟩ := h
  refine lXE.use ha.mono r er h (fun f1 H1 d st1 v s1 r1 e1 rd h1 => ?_) fun _ _ _ z => z
  exact lXA.use hb.mono r1 e1 h1 (fun f2 H2 ds st2 vs s2 r2 e2 rds h2 => h2 f2 H2 (v :: vs) (s1.trans s2) r2 (.cons (rd.mono s2 r1.cel) rds)) fun _ _ _ z => z.later s1
abbrev xTup (a : DXA) : DXE := fun σ st Q Y => a σ st (fun xs st1 => xs.length ≤ sizeLine ∧ Q (.tup xs) st1) Y
theorem xe_tup {es : List Expr} {w : DXA} {pos : Pos} {x1} (h : XPA X E es w) : XPE X E (.Tuple es x1 pos) (xTup w) := by
  refine ⟨(pe_tup h.pa).imp fun τ H Q hh => ?_, fun σ st Q Q' Y Y' q y hh => h.mono _ _ _ _ _ _ (fun x s h1 => ⟨h1.1, q _ _ h1.2⟩) y hh⟩
  obtain ⟨ex, f, σ, st, r, er, hh⟩ := hh
  refine lXA.use h.mono r er hh (fun f1 H1 xs st1 vs s1 r1 e1 rd h1 => ⟨by rw [← rd.length]; exact h1.1, fun p hp => ?_⟩) fun _ _ _ z => z
  exact (h1.2.later s1).newTup r1 hp rd
/-! ### blocks, statements -/
abbrev xSeq (a b : DXS) : DXS := fun D Y σ st => a { D with nx := b D Y } Y σ st
theorem xss_cons {s : Stmt} {rest : List Stmt} {w u : DXS} (h1 : XPS X E s w) (h2 : XPSs X E rest u) : XPSs X E (s :: rest) (xSeq w u) := by
  refine ⟨(pss_cons h1.ps h2.ps).imp fun D τ H h => ?_, fun σ st D D' Y Y' l y h => h1.mono σ st { D with nx := u D Y } { D' with nx := u D' Y' } Y Y' ⟨fun σ s => h2.mono σ s D D' Y Y' l y, l.rt, l.bk, l.ct⟩ y h⟩
  obtain ⟨ex, f, σ, st, r, er, h⟩ := h
  refine lXS.use h1.mono r er h ⟨fun σ' st' q f' H' τ' s' r' er' => ?_, fun _ _ q => q, fun _ _ q => q, fun _ _ q => q⟩ fun _ _ _ z => z
  exact lXS.use h2.mono r' er' q (AfE.later s') fun _ _ _ z => z.later s'
theorem xss_one {s : Stmt} {w : DXS} (h1 : XPS X E s w) : XPSs X E [s] w := ⟨pss_one h1.ps, h1.mono⟩
abbrev xDrop (a : DXE) : DXS := fun D Y σ st => a σ st (fun _ st1 => D.nx σ st1) Y
theorem xs_expr {e : Expr} {w : DXE} {pos : Pos} (he : XPE X E e w) (hs : swapsWith e none pos.line X.env = pure false := by rfl) : XPS X E (.Expr e pos) (xDrop w) := by
  refine ⟨(ps_expr he.pe hs).imp fun D τ H h => ?_, fun σ st D D' Y Y' l y h => he.mono _ _ _ _ _ _ (fun d s => l.nx _ _) y h⟩
  obtain ⟨ex, f, σ, st, r, er, h⟩ := h
  exact lXE.use he.mono r er h (fun f1 H1 d st1 v s1 r1 e1 rd h1 => h1 f1 H1 τ s1 r1 e1) fun _ _ _ z => z
abbrev xRet (a : DXE) : DXS := fun D Y σ st => a σ st D.rt Y
theorem xs_ret {e : Expr} {w : DXE} {pos : Pos} (he : XPE X E e w) : XPS X E (.Return (some e) pos) (xRet w) := by
  refine ⟨(ps_ret he.pe).imp fun D τ H h => ?_, fun σ st D D' Y Y' l y h => he.mono _ _ _ _ _ _ (fun d s => l.rt _ _) y h⟩
  obtain ⟨ex, f, σ, st, r, er, h⟩ := h
  exact lXE.use he.mono r er h (fun f1 H1 d st1 v s1 r1 e1 rd h1 => h1 f1 H1 v s1 r1 rd) fun _ _ _ z => z
abbrev xIf (c : DTT) (a b : DXS) : DXS := fun D Y σ st => c σ st fun k st1 => if k = true then a D Y σ st1 else b D Y σ st1
theorem xs_if {c : Expr} {a b : List Stmt} {wc : DTT} {wa wb : DXS} {pos : Pos} (hc : DT X.nox c wc) (ha : XPSs X E a wa) (hb : XPSs X E b wb) : XPS X E (.If c a b pos) (xIf wc wa wb) := by
  refine ⟨(ps_if hc.pt.nox ha.ps hb.ps).imp fun D τ H h => ?_, fun σ st D D' Y Y' l y h => hc.mono _ _ _ _ (fun k s h1 => ?_) h⟩
  · obtain ⟨ex, f, σ, st, r, er, h⟩ := h
    refine lT.use hc.mono r er h fun f1 H1 k st1 s1 r1 e1 h1 => ?_
    cases k with
    | true => exact lXS.use ha.mono r1 e1 h1 (AfE.later s1) fun _ _ _ z => z.later s1
    | false => exact lXS.use hb.mono r1 e1 h1 (AfE.later s1) fun _ _ _ z => z.later s1
  · cases k with
    | true => exact ha.mono _ _ _ _ _ _ l y h1
    | false => exact hb.mono _ _ _ _ _ _ l y h1
abbrev xSet (i : Nat) (a : DXE) : DXS := fun D Y σ st => a σ st (fun d st1 => D.nx (σ.set i (some d)) st1) Y
theorem xs_set {i : Nat} {x : Str} {e : Expr} {w : DXE} {pos pos' : Pos} (hN : X.N.Nodup) (hi : X.N[i]? = some x) (hx : Loc X.env.scope x) (he : XPE X E e w) (hs : swapsWith e (some (.Name x pos')) pos.line X.env = pure false := by rfl)
    (hf : X.fn x = true ∨ X.env.scope.names.lookup x = some .local := by first | exact .inl rfl | exact .inr rfl | assumption) : XPS X E (.Assign [.Name x pos'] e pos) (xSet i w) := by
  refine ⟨(ps_set hN hi hx he.pe hs hf).imp fun D τ H h => ?_, fun σ st D D' Y Y' l y h => he.mono _ _ _ _ _ _ (fun d s => l.nx _ _) y h⟩
  obtain ⟨ex, f, σ, st, r, er, h⟩ := h
  exact lXE.use he.mono r er h (fun f1 H1 d st1 v s1 r1 e1 rd h1 => h1 f1 H1 _ s1 r1 (e1.set rd)) fun _ _ _ z => z
/-- raise C(e) -/
abbrev xRaise (n : Str) (a : DTE) : DXS := fun _ Y σ st => a σ st fun d st1 => Y n d st1
theorem xs_raise {n : Str} {C : Addr} {e : Expr} {w : DTE} {p pos pos' : Pos} (hc : X.calm = true) (tk : TakesE X E) (T : XE.XCl X.K X.prog C (fldOf n)) (hd : X.A.depth + 3 < recursionLimit) (hg : Gl X n) (hm : X.mg n = some (.ref C)) (he : DE X.nox e w)
    (hdb : (n == ("__debug__" : Str)) = false := by decide) (hs : starEach [e] X.env = (false, eval e X.env) :: starEach [] X.env := by rfl) : XPS X E (.Raise (some (.Call (.Name n p) [e] [] pos')) none pos) (xRaise n w) := by
  refine ⟨(ps_raise (W := fun c d _ H => E c d H) hc tk (XE.pmk_c T hd hg hm he.pe.nox hdb hs)).imp fun D τ H h => ?_, fun σ st D D' Y Y' l y h => he.mono _ _ _ _ (fun d s => y _ _ _) h⟩
  obtain ⟨ex, f, σ, st, r, er, h⟩ := h
  refine lE.use he.mono r er h fun f1 H1 d st1 v s1 r1 e1 rd h1 dx hdx => ?_
  have S2 : Stp f1 st1.length H1 f1 st1.length (upd H1 dx (.xd [((fldOf n).s, v)])) := Stp.new hdx
  exact h1 C f1 _ v dx hm (s1.trans S2) (r1.new hdx) (rd.mono S2 r1.cel) upd_same
end

/-! ### promises with a second end -/
structure SpecX extends Spec where
  exc : I → Str → Dv → Sto → Prop
def lSpX (K : PySem.W.Frag) (mg : Str → Option Value) (S : SpecX) : Sp := fun vs H Q E => ∃ ex f i, RS K ex f (S.st i) H ∧ RDs K ex f (S.st i).length H (S.args i) vs ∧ S.pre i ∧
  (∀ d st' f' H' v, S.post i d st' → Stp f (S.st i).length H f' st'.length H' → RS K ex f' st' H' → RD K ex f' st'.length H' d v → Q v H') ∧ ∀ n d st', S.exc i n d st' → AfX K mg ex f (S.st i).length H E n d st'
abbrev DXn (P : Program) (w : World) (K : PySem.W.Frag) (mg : Str → Option Value) (base : Heap) (k : Nat) (f : Addr) (fd : FuncData) (ps : List Str) (S : SpecX) : Prop := FnG P w K mg base (L2.CX P w) k f fd ps (lSpX K mg S)
/-- what a body must reach -/
def BackX (k0 : Nat) (P : Dv → Sto → Prop) : DK := Back k0 P
/-- an exception's end: cells forgotten -/
def BackY (k0 : Nat) (P : Str → Dv → Sto → Prop) : XD := fun n d st => P n d st ∧ k0 ≤ st.length ∨ ∃ st2 d2, Fg st d st2 d2 ∧ k0 ≤ st2.length ∧ P n d2 st2
section
variable {P : Program} {w : World} {K : PySem.W.Frag} {mg : Str → Option Value} {base : Heap} {k : Nat} {f : Addr} {fd : FuncData} {ps : List Str}
theorem dxn_of {x qual : Str} {st : Stmt} {N : List Str} {S : SpecX} (F : Fun K x qual st f fd) (sc : FnScope N ps (defScope st)) (len : ∀ i, S.pre i → (S.args i).length = ps.length)
    (hbody : ∀ (cdv : Value) (A : Around) (outer : List Env) (s : Shared) (H : Hp) (E : XK), A.guards = some [] → Room k (A.deeper (envOfC qual (defScope st) s.heap.objs.size f cdv)) → TakesE (cxOf (L2.CX P w) P w K mg base N qual (defScope st) f cdv A outer s H E) E →
      ∃ W, XPSs (cxOf (L2.CX P w) P w K mg base N qual (defScope st) f cdv A outer s H E) E (defBody st) W ∧
        ∀ i, S.pre i → W { nx := fun _ st' => Back (S.st i).length (S.post i) .non st', rt := Back (S.st i).length (S.post i) } (BackY (S.st i).length (S.exc i)) (startD N (S.args i)) (S.st i)) : DXn P w K mg base (k + 1) f fd ps S := by
  refine fnG_of F sc (fun vs H Q E h => ?_) fun cdv A outer s H vs Q E hg hr h => ?_
  · obtain ⟨ex, f, i, r, rs, p, q⟩ := h
    rw [← rs.length]
    exact len i p
  · obtain ⟨W, hW, hb⟩ := hbody cdv A outer s H E hg hr (takes_of rfl rfl rfl rfl)
    obtain ⟨ex, g, i, r, rs, p, q, y⟩ := h
    refine ⟨_, hW.ps, ?_⟩
    have fin : ∀ {d : Dv} {st' : Sto} {f' : Nat → Addr} {H' : Hp} {v : V}, Back (S.st i).length (S.post i) d st' → Stp g (S.st i).length H f' st'.length H' → RS K ex f' st' H' → RD K ex f' st'.length H' d v → Q v H' := by
      intro d st' f' H' v hb s' r' rd
      rcases hb with hb | ⟨st2, d2, fg, hk, hp⟩
      · exact q d st' f' H' v hb.1 s' r' rd
      · exact q d2 st2 f' H' v hp (s'.fg hk fg.len) (r'.fg fg.len fg.cel) (RD.fz r' fg.len fg.val rd)
    refine lXS.use hW.mono r (er_start rs) (hb i p) ⟨fun σ' st' hb f' H' τ' s' r' er' => fin hb s' r' .non, fun d st' hb f' H' v s' r' rd => fin hb s' r' rd, fun _ _ z => z.elim, fun _ _ z => z.elim⟩ fun n d st' hy => ?_
    intro C f' H' v dx hc s' r' rd hx
    rcases hy with hy | ⟨st2, d2, fg, hk, hp⟩
    · exact y n d st' hy.1 C f' H' v dx hc s' r' rd hx
    · exact y n d2 st2 hp C f' H' v dx hc (s'.fg hk fg.len) (r'.fg fg.len fg.cel) (RD.fz r' fg.len fg.val rd) hx
end
/-- a function of its arguments that may raise -/
def SpecX.fn {I : Type} (args : I → List Dv) (pre : I → Prop) (F : I → Dv → Prop) (G : I → Str → Dv → Prop) : SpecX := { toSpec := Spec.fn args pre F, exc := fun i n d st => st = [] ∧ Nr d ∧ G i n d }
abbrev wFx {I : Type} (args : I → List Dv) (pre : I → Prop) (F : I → Dv → Prop) (G : I → Str → Dv → Prop) (a : DTA) : DXE := fun σ st Q Y => a σ st fun ds st1 => ∃ i, ds = args i ∧ Nrs ds ∧ pre i ∧ (∀ d, Nr d → F i d → Q d st1) ∧ ∀ n d, Nr d → G i n d → Y n d st1
theorem wFx_mono {I : Type} {args : I → List Dv} {pre : I → Prop} {F : I → Dv → Prop} {G : I → Str → Dv → Prop} {a : DTA} (m : MonoA a) : MonoXE (wFx args pre F G a) :=
  fun σ st Q Q' Y Y' q y h => m _ _ _ _ (fun ds s1 ⟨i, h1, h2, h3, h4, h5⟩ => ⟨i, h1, h2, h3, fun d n hp => q _ _ (h4 d n hp), fun n d hn hp => y _ _ _ (h5 n d hn hp)⟩) h
section
variable {X : Cx} {E : XK} {k : Nat} {fa : Addr} {fd : FuncData} {ps ks : List Str} {x : Str} {p pos : Pos} {e : Expr} {es : List Expr} {kws : List Keyword} {wa wk : DTA} {I : Type} {args : I → List Dv} {pre : I → Prop} {R : I → Dv → Prop} {G : I → Str → Dv → Prop}
variable {K : PySem.W.Frag} {ex : Addr → Prop} {f : Nat → Addr} {H : Hp} {st : Sto}
theorem sp_fx {mg : Str → Option Value} {ds : List Dv} {vs : List V} {Q : VK} (r : RS K ex f st H) (rds : RDs K ex f st.length H ds vs)
    (h : ∃ i, ds = args i ∧ Nrs ds ∧ pre i ∧ (∀ d, Nr d → R i d → Af K ex f st.length H Q d st) ∧ ∀ n d, Nr d → G i n d → AfX K mg ex f st.length H E n d st) : lSpX K mg (SpecX.fn args pre R G) vs H Q E := by
  obtain ⟨i, rfl, nr, p, h, y⟩ := h
  have go : ∀ {f' : Nat → Addr} {H' : Hp} {d : Dv} {v : V}, Stp f ([] : Sto).length H f' ([] : Sto).length H' → RS K (fun a => ex a ∨ ∃ n, n < st.length ∧ f n = a) f' [] H' → Nr d → RD K (fun a => ex a ∨ ∃ n, n < st.length ∧ f n = a) f' ([] : Sto).length H' d v →
      Stp f st.length H f st.length H' ∧ RS K ex f st H' ∧ RD K ex f st.length H' d v := by
    intro f' H' d v s r' nd rd
    have S2 : Stp f st.length H f st.length H' := ⟨Nat.le_refl _, fun _ _ => rfl, fun n h1 h2 => by omega, fun b o _ e => s.keep b o (fun n hn => absurd hn (Nat.not_lt_zero _)) e, s.there⟩
    exact ⟨S2, ⟨r.inj, fun n c e => (r.obj n c e).mono S2 r.cel fun ws e2 => s.keep _ _ (fun n hn => absurd hn (Nat.not_lt_zero _)) e2, fun a q z => r.exs a q (s.there a z), r.exc⟩, RD.nr (fun a q => .inl (q.elim (fun q => .inl q) fun q => .inr q)) nd rd⟩
  refine ⟨fun a => ex a ∨ ∃ n, n < st.length ∧ f n = a, f, i, ?_, ?_, p, fun d st' f' H' v hp s r' rd => ?_, fun n d st' hp => ?_⟩
  · refine ⟨fun m n hm => absurd hm (Nat.not_lt_zero _), fun n c e => absurd e (by simp [SpecX.fn, Spec.fn]), fun a q z => ?_, fun n hn => absurd hn (Nat.not_lt_zero _)⟩
    rcases q with q | ⟨n, hn, rfl⟩
    · exact r.exs a q z
    · obtain ⟨ws, e⟩ := r.cel n hn
      rw [e] at z
      cases z
  · exact RDs.nr (fun a q => q.elim id fun ⟨n, hn, _⟩ => absurd hn (Nat.not_lt_zero _)) nr rds
  · obtain ⟨rfl, nd, hq⟩ := hp
    obtain ⟨a, b, c⟩ := go s r' nd rd
    exact h d nd hq f H' v a b c
  · obtain ⟨rfl, nd, hq⟩ := hp
    intro C f' H' v dx hc s r' rd hx
    obtain ⟨a, b, c⟩ := go s r' nd rd
    exact y n d nd hq C f H' v dx hc a b c hx
theorem xe_fx (F : DXn X.prog X.w X.K X.mg X.base k fa fd ps (SpecX.fn args pre R G)) (tk : TakesE X E) (hgu : X.A.guards = some []) (hr : Room k X.A) (hg : Gl X x) (hm : X.mg x = some (.ref fa)) (hk : PySem.W.keepIn X.K (.ref fa) = true) (hb : Binds X.K fd ps [])
    (ha : DA X.nox (e :: es) wa) (hdb : (x == ("__debug__" : Str)) = false := by decide) (he : starEach (e :: es) X.env = (false, eval e X.env) :: starEach es X.env := by rfl) (hpl : (backTo pos (starEach es X.env)).any (·.1) = false := by rfl) :
    XPE X E (.Call (.Name x p) (e :: es) [] pos) (wFx args pre R G wa) := by
  refine ⟨(pe_callG F hgu hr hg hm hk hb tk.passes ha.pa.nox hdb he hpl).imp fun τ H Q hh => ?_, wFx_mono ha.mono⟩
  obtain ⟨ex, f, σ, st, r, er, hh⟩ := hh
  refine lA.use ha.mono r er hh fun f1 H1 ds st1 vs s1 r1 e1 rd ⟨i, h1, h2, h3, h4, h5⟩ => ?_
  rw [List.append_nil]
  exact sp_fx r1 rd ⟨i, h1, h2, h3, fun d n hp => (h4 d n hp).later s1, fun n d hn hp => (h5 n d hn hp).later s1⟩
variable {g : List Value → List Value → List Value} {gV : List V → List V → List V} {gD : List Dv → List Dv → List Dv}
theorem xe_fx0 (F : DXn X.prog X.w X.K X.mg X.base k fa fd ps (SpecX.fn args pre R G)) (tk : TakesE X E) (hgu : X.A.guards = some []) (hr : Room k X.A) (hg : Gl X x) (hm : X.mg x = some (.ref fa)) (hk : PySem.W.keepIn X.K (.ref fa) = true) (hb : KB fd ps ks 0 g gV) (hG : GRel 0 ks.length gD gV)
    (hkw : DK1 X.nox kws wk) (hall : (backToKw pos (keywordEach kws X.env)).all (·.1.isSome) = true := by rfl) (hks : (backToKw pos (keywordEach kws X.env)).filterMap (·.1) = ks := by rfl)
    (hdb : (x == ("__debug__" : Str)) = false := by decide) (hpl : ((backTo pos (starEach [] X.env)).any (·.1) || (backToKw pos (keywordEach kws X.env)).any (·.1.isNone)) = false := by rfl) :
    XPE X E (.Call (.Name x p) [] kws pos) (wFx args pre R G (wOrd 0 ks.length gD wNil wk)) := by
  refine ⟨(pe_callG0 F hgu hr hg hm hk hb tk.passes hkw.pk.nox hall hks hdb hpl).imp fun τ H Q hh => ?_, wFx_mono (wOrd_mono (da_nil (X := X)).mono hkw.mono)⟩
  obtain ⟨ex, f, σ, st, r, er, hh⟩ := hh
  refine lA.use hkw.mono r er hh fun f1 H1 ys st1 zs s1 r1 e1 rd ⟨l1, l2, i, h1, h2, h3, h4, h5⟩ => ?_
  exact ⟨rfl, by rw [← rd.length]; exact l2, sp_fx r1 (hG _ _ _ _ _ [] ys [] zs rfl l2 .nil rd) ⟨i, h1, h2, h3, fun d n hp => (h4 d n hp).later s1, fun n d hn hp => (h5 n d hn hp).later s1⟩⟩
end

/-- what is asked of such a body -/
def PLX (N : List Str) (W : DXS) (S : SpecX) : Prop := ∀ i, S.pre i → W { nx := fun _ st' => Back (S.st i).length (S.post i) .non st', rt := Back (S.st i).length (S.post i) } (BackY (S.st i).length (S.exc i)) (startD N (S.args i)) (S.st i)
theorem dep3 {k : Nat} {A : Around} (r : Room k A) : A.depth + 3 < recursionLimit := by
  have := r.dp
  omega
theorem backY_fn {I : Type} {args : I → List Dv} {pre : I → Prop} {F : I → Dv → Prop} {G : I → Str → Dv → Prop} {i : I} {n : Str} {d : Dv} (h : Nr d) (q : G i n d) : BackY ((SpecX.fn args pre F G).st i).length ((SpecX.fn args pre F G).exc i) n d [] := .inl ⟨⟨rfl, h, q⟩, Nat.le_refl _⟩
theorem back_fx {I : Type} {args : I → List Dv} {pre : I → Prop} {F : I → Dv → Prop} {G : I → Str → Dv → Prop} {i : I} {d : Dv} (h : Nr d) (q : F i d) : Back ((SpecX.fn args pre F G).st i).length ((SpecX.fn args pre F G).post i) d [] := .inl ⟨⟨rfl, h, q⟩, Nat.le_refl _⟩

/-! ### try: body, except C as e: a suite that returns res at -/
abbrev wTry (n : Str) (w : DXS) (res : Dv → Dv) : DTS := fun D σ st => w D (fun m d st' => m = n ∧ D.rt (res d) st') σ st
/-- what the suite's reading must give -/
def SuiteD (fl : XE.Fld) (K : PySem.W.Frag) (C : Addr) (N : List Str) (i : Nat) (ts : Addr → Value → Option Addr → TS) (res : Dv → Dv) : Prop := ∀ (a dx : Addr) (D : Ends) (τ : L2.St) (H : Hp) (ex : Addr → Prop) (f : Nat → Addr) (st : Sto) (d : Dv) (v : V), RS K ex f st H → RD K ex f st.length H d v →
  H dx = some (.xd [(fl.s, v)]) → τ.length = N.length → H a = none → Af K ex f st.length H D.rt (res d) st → ts a (.ref C) (some dx) D (τ.set i (some (.ref a))) H
theorem ds_try {X : Cx} {n x : Str} {C : Addr} {i : Nat} {body suite : List Stmt} {b₀ : Stmt} {np pos pos' : Pos} {w : DXS} {ts : Addr → Value → Option Addr → TS} {res : Dv → Dv} (hs : X.stack = X.env :: X.outer) (hf : X.env.frame = some X.env.locals) (hN : X.N.Nodup) (hi : X.N[i]? = some x)
    (hln : X.env.kindOf x = some .local) (hg : Gl X n) (hdb : (n == ("__debug__" : Str)) = false) (hm : X.mg n = some (.ref C)) (hx : PySem.W.exmOne X.K (.ref C) (.ref C) = some true) (tk : Takes X fun _ _ _ _ => False) (m : MonoXS w)
    (hb : ∀ (E : XK) (pn : List (Addr × Obj)) (xe : Value → Shared → Prop), TakesE (X.tr pn xe) E → PassesOwn (model X.prog X.w) X.A X.env xe → XPSs (X.tr pn xe) E body w)
    (hsu : ∀ (a : Addr) (oe : Obj) (cls : Value) (d : Option Addr) (pn : List (Addr × Obj)), Zc cls d oe → (∃ vs, oe.data = .fields vs) → PSs (X.suite a ((a, oe) :: pn)) (b₀ :: suite) (ts a cls d))
    (hts : SuiteD (fldOf n) X.K C X.N i ts res) : DS X (.Try body [.ExceptHandler (some (.Name n np)) (some x) (b₀ :: suite) pos'] [] [] pos) (wTry n w res) := by
  refine ⟨(ps_try_as (c := .ref C) (i := i) (tb := fun W => lXS X.K X.mg (fun c d H => ∀ σ : L2.St, σ.length = X.N.length → W c d σ H) w) (ts := ts) (Wout := fun _ _ _ _ => False) hs hf hN hi hln ⟨hg, hdb, .inl hm⟩ tk
    (fun W pn xe t po => (hb _ pn xe (TakesE.of t) po).ps) hsu).imp fun D τ H h => ?_, fun σ st D D' l h => m σ st D D' _ _ l (fun k d s z => ⟨z.1, l.rt _ _ z.2⟩) h⟩
  obtain ⟨ex, f, σ, st, r, er, h⟩ := h
  refine lXS.use m r er h ⟨fun _ _ z => z, fun _ _ z => z, fun _ _ z => z, fun _ _ z => z⟩ fun k d st' hz => ?_
  obtain ⟨rfl, hz⟩ := hz
  intro C' f' H' v dx hc s' r' rd hdx τ' hl
  obtain rfl : C' = C := by
    rw [hm] at hc
    exact (Value.ref.inj (Option.some.inj hc)).symm
  refine ⟨true, hx, fun _ a ha => ?_, fun z => by cases z⟩
  exact hts a dx _ τ' H' ex f' st' d v r' rd hdx hl ha (Af.later hz s')
end D2

/-! XF: except suites that return an expression: e.at, isinstance(e, C), isinstance(e, (C, D)), displays, tests; try with such a suite. -/
namespace D2
open PySem PySem.Spec PyProof.Rows L2
/-- what isinstance asks of the class C, and reading e.at -/
structure XIs (K : PySem.W.Frag) (C : Addr) (fl : XE.Fld) : Prop where
  cl : (PySem.W.clsIn K C).isSome = true
  ga : PySem.W.findIn K (.ref C) "__getattribute__" = some (some (.builtin "BaseException.__getattribute__"))
  gg : PySem.W.findIn K (.ref C) "__getattr__" = some none
  sb : PySem.W.subIn K (.ref C) (.type "BaseException") = some true
  hd : PySem.W.hasDictIn K C = true
  cc : PySem.W.findIn K (.ref C) "__class__" = some (some (.builtin "object.__class__"))
  sp : PySem.W.specialIn K (.builtin "object.__class__") "__get__" = some (some (.builtin "getset_descriptor.__get__"))
  tk : PySem.W.takesIn K (.builtin "object.__class__") = some true
  ob : PySem.W.mroIn K C (.type "object") = some true
  no : PySem.W.findIn K (.ref C) fl.s = some none
theorem XIs.xfc {K : PySem.W.Frag} {C : Addr} {fl : XE.Fld} (T : XIs K C fl) : XfC K C := ⟨T.ga, T.gg, T.sb, T.hd⟩
/-- the exception in hand -/
structure Us (K : PySem.W.Frag) (a dx i : Nat) (fl : XE.Fld) (d : Dv) (ex : Addr → Prop) (f : Nat → Addr) (k : Nat) (H : Hp) (τ : L2.St) : Prop where
  sl : τ[i]? = some (some (.ref a))
  at_ : ∃ v, RD K ex f k H d v ∧ H dx = some (.xd [(fl.s, v)])
section
variable {K : PySem.W.Frag} {ex : Addr → Prop} {f f' : Nat → Addr} {k k' a dx i : Nat} {fl : XE.Fld} {d : Dv} {H H' : Hp} {σ : En} {τ : L2.St} {st : Sto}
theorem Us.mono (u : Us K a dx i fl d ex f k H τ) (s : Stp f k H f' k' H') (c : Cel f k H) : Us K a dx i fl d ex f' k' H' τ := by
  obtain ⟨v, rd, e⟩ := u.at_
  refine ⟨u.sl, v, rd.mono s c, s.keep dx _ (fun n hn z => ?_) e⟩
  obtain ⟨vs, q⟩ := c n hn
  rw [z, e] at q
  cases q
def lU (K : PySem.W.Frag) (a dx i : Nat) (fl : XE.Fld) (d : Dv) (w : DTE) : TE := fun τ H Q => ∃ ex f σ st, RS K ex f st H ∧ ER K ex f st.length H σ τ ∧ Us K a dx i fl d ex f st.length H τ ∧ w σ st (Af K ex f st.length H Q)
def lUT (K : PySem.W.Frag) (a dx i : Nat) (fl : XE.Fld) (d : Dv) (w : DTT) : TT := fun τ H Q => ∃ ex f σ st, RS K ex f st H ∧ ER K ex f st.length H σ τ ∧ Us K a dx i fl d ex f st.length H τ ∧ w σ st (AfB K ex f st.length H Q)
def lUA (K : PySem.W.Frag) (a dx i : Nat) (fl : XE.Fld) (d : Dv) (w : DTA) : TA := fun τ H Q => ∃ ex f σ st, RS K ex f st H ∧ ER K ex f st.length H σ τ ∧ Us K a dx i fl d ex f st.length H τ ∧ w σ st (AfA K ex f st.length H Q)
theorem lU.use {w : DTE} (m : MonoE w) (r : RS K ex f st H) (er : ER K ex f st.length H σ τ) (u : Us K a dx i fl d ex f st.length H τ) {R : DK} (h : w σ st R) {P : VK}
    (q : ∀ f1 H1 y st1 v, Stp f st.length H f1 st1.length H1 → RS K ex f1 st1 H1 → ER K ex f1 st1.length H1 σ τ → Us K a dx i fl d ex f1 st1.length H1 τ → RD K ex f1 st1.length H1 y v → R y st1 → P v H1) : lU K a dx i fl d w τ H P :=
  ⟨ex, f, σ, st, r, er, u, m σ st _ _ (fun y st1 hr f1 H1 v s r1 rd => q f1 H1 y st1 v s r1 (er.mono s r.cel) (u.mono s r.cel) rd hr) h⟩
theorem lUT.use {w : DTT} (m : MonoT w) (r : RS K ex f st H) (er : ER K ex f st.length H σ τ) (u : Us K a dx i fl d ex f st.length H τ) {R : Bool → Sto → Prop} (h : w σ st R) {P : Bool → Hp → Prop}
    (q : ∀ f1 H1 b st1, Stp f st.length H f1 st1.length H1 → RS K ex f1 st1 H1 → ER K ex f1 st1.length H1 σ τ → Us K a dx i fl d ex f1 st1.length H1 τ → R b st1 → P b H1) : lUT K a dx i fl d w τ H P :=
  ⟨ex, f, σ, st, r, er, u, m σ st _ _ (fun y st1 hr f1 H1 s r1 => q f1 H1 y st1 s r1 (er.mono s r.cel) (u.mono s r.cel) hr) h⟩
theorem lUA.use {w : DTA} (m : MonoA w) (r : RS K ex f st H) (er : ER K ex f st.length H σ τ) (u : Us K a dx i fl d ex f st.length H τ) {R : List Dv → Sto → Prop} (h : w σ st R) {P : List V → Hp → Prop}
    (q : ∀ f1 H1 y st1 v, Stp f st.length H f1 st1.length H1 → RS K ex f1 st1 H1 → ER K ex f1 st1.length H1 σ τ → Us K a dx i fl d ex f1 st1.length H1 τ → RDs K ex f1 st1.length H1 y v → R y st1 → P v H1) : lUA K a dx i fl d w τ H P :=
  ⟨ex, f, σ, st, r, er, u, m σ st _ _ (fun y st1 hr f1 H1 v s r1 rd => q f1 H1 y st1 v s r1 (er.mono s r.cel) (u.mono s r.cel) rd hr) h⟩
end
/-- the suite's context, its exception: at address a, its object oe, of the class C, its dict at dx -/
structure Hand where
  (X : Cx)
  (a C dx i : Addr)
  fl : XE.Fld
  oe : Obj
  pn : List (Addr × Obj)
  d : Dv
  hz : Zc (.ref C) (some dx) oe
  hf : ∃ vs, oe.data = .fields vs
abbrev Hand.Y (h : Hand) : Cx := h.X.suite h.a ((h.a, h.oe) :: h.pn)
structure UE (h : Hand) (e : Expr) (w : DTE) : Prop where
  pe : PE h.Y e (lU h.X.K h.a h.dx h.i h.fl h.d w)
  mono : MonoE w
structure UT (h : Hand) (e : Expr) (w : DTT) : Prop where
  pt : PT h.Y e (lUT h.X.K h.a h.dx h.i h.fl h.d w)
  mono : MonoT w
structure UW (h : Hand) (e : Expr) (w : DTT) : Prop where
  pw : PW h.Y e (lUT h.X.K h.a h.dx h.i h.fl h.d w)
  mono : MonoT w
structure UA (h : Hand) (e : List Expr) (w : DTA) : Prop where
  pa : PA h.Y e (lUA h.X.K h.a h.dx h.i h.fl h.d w)
  mono : MonoA w
section
variable {h : Hand} {e a b c : Expr} {es : List Expr} {pos : Pos}
theorem ue_of {w : DTE} (q : DE h.Y e w) : UE h e w := ⟨q.pe.imp fun τ H Q ⟨ex, f, σ, st, r, er, _, z⟩ => ⟨ex, f, σ, st, r, er, z⟩, q.mono⟩
theorem ua_nil : UA h [] wNil := ⟨pa_nil.imp fun τ H Q ⟨ex, f, σ, st, r, er, u, z⟩ => z f H [] Stp.refl r .nil, fun σ st Q Q' q h => q _ _ h⟩
theorem ua_cons {wa : DTE} {wb : DTA} (ha : UE h e wa) (hb : UA h es wb) (hs : starEach (e :: es) h.Y.env = (false, eval e h.Y.env) :: starEach es h.Y.env := by rfl) : UA h (e :: es) (wCons wa wb) := by
  refine ⟨(pa_cons ha.pe hb.pa hs).imp fun τ H Q z => ?_, fun σ st Q Q' q h => ha.mono _ _ _ _ (fun x s h1 => hb.mono _ _ _ _ (fun xs s2 h2 => q _ _ h2) h1) h⟩
  obtain ⟨ex, f, σ, st, r, er, u, z⟩ := z
  refine lU.use ha.mono r er u z fun f1 H1 d st1 v s1 r1 e1 u1 rd h1 => ?_
  exact lUA.use hb.mono r1 e1 u1 h1 fun f2 H2 ds st2 vs s2 r2 e2 u2 rds h2 => h2 f2 H2 (v :: vs) (s1.trans s2) r2 (.cons (rd.mono s2 r1.cel) rds)
theorem ue_tup {w : DTA} {x1} (q : UA h es w) : UE h (.Tuple es x1 pos) (wTup w) := by
  refine ⟨(pe_tup q.pa).imp fun τ H Q hh => ?_, fun σ st Q Q' l hh => q.mono _ _ _ _ (fun x s h1 => ⟨h1.1, l _ _ h1.2⟩) hh⟩
  obtain ⟨ex, f, σ, st, r, er, u, hh⟩ := hh
  refine lUA.use q.mono r er u hh fun f1 H1 xs st1 vs s1 r1 e1 u1 rd h1 => ⟨by rw [← rd.length]; exact h1.1, fun p hp => ?_⟩
  exact (h1.2.later s1).newTup r1 hp rd
theorem ue_rol {w : DTA} (q : UA h es w) : UE h (.List es pos) (wRol w) := by
  refine ⟨(pe_lst q.pa).imp fun τ H Q hh => ?_, fun σ st Q Q' l hh => q.mono _ _ _ _ (fun x s h1 => ⟨h1.1, l _ _ h1.2⟩) hh⟩
  obtain ⟨ex, f, σ, st, r, er, u, hh⟩ := hh
  refine lUA.use q.mono r er u hh fun f1 H1 xs st1 vs s1 r1 e1 u1 rd h1 => ⟨by rw [← rd.length]; exact h1.1, fun p hp => ?_⟩
  exact (h1.2.later s1).newRol r1 hp rd
theorem ue_if {wc : DTT} {wa wb : DTE} (hc : UT h c wc) (ha : UE h a wa) (hb : UE h b wb) : UE h (.IfExp c a b pos) (wIfE wc wa wb) := by
  refine ⟨(pe_ifExp hc.pt ha.pe hb.pe).imp fun τ H Q z => ?_, fun σ st Q Q' q h => hc.mono _ _ _ _ (fun c s h1 => ?_) h⟩
  · obtain ⟨ex, f, σ, st, r, er, u, z⟩ := z
    refine lUT.use hc.mono r er u z fun f1 H1 c st1 s1 r1 e1 u1 h1 => ?_
    cases c with
    | true => exact lU.use ha.mono r1 e1 u1 h1 fun f2 H2 d st2 v s2 r2 e2 u2 rd2 h2 => h2 f2 H2 v (s1.trans s2) r2 rd2
    | false => exact lU.use hb.mono r1 e1 u1 h1 fun f2 H2 d st2 v s2 r2 e2 u2 rd2 h2 => h2 f2 H2 v (s1.trans s2) r2 rd2
  · cases c with
    | true => exact ha.mono _ _ _ _ q h1
    | false => exact hb.mono _ _ _ _ q h1
theorem ut_not {w : DTT} (q : UT h a w) : UT h (.UnaryOp .Not a pos) (wNot w) := by
  refine ⟨(pt_not q.pt).imp fun τ H Q z => ?_, wNot_mono q.mono⟩
  obtain ⟨ex, f, σ, st, r, er, u, z⟩ := z
  exact lUT.use q.mono r er u z fun f1 H1 c st1 s1 r1 e1 u1 h1 => h1 f1 H1 s1 r1
theorem uw_one {op : BoolOp} {w : DTT} (ha : UT h a w) : UW h (.BoolOp op [a] pos) w := by
  cases op with
  | And => exact ⟨pw_and1 ha.pt, ha.mono⟩
  | Or => exact ⟨pw_or1 ha.pt, ha.mono⟩
theorem uw_and {rest : List Expr} {wa wb : DTT} (ha : UT h a wa) (hb : UW h (.BoolOp .And (b :: rest) pos) wb) : UW h (.BoolOp .And (a :: b :: rest) pos) (wAnd wa wb) := by
  refine ⟨(pw_and ha.pt hb.pw).imp fun τ H Q z => ?_, wAnd_mono ha.mono hb.mono⟩
  obtain ⟨ex, f, σ, st, r, er, u, z⟩ := z
  refine lUT.use ha.mono r er u z fun f1 H1 c st1 s1 r1 e1 u1 h1 => ?_
  cases c with
  | true => exact lUT.use hb.mono r1 e1 u1 h1 fun f2 H2 c st2 s2 r2 e2 u2 h2 => h2 f2 H2 (s1.trans s2) r2
  | false => exact h1 f1 H1 s1 r1
theorem UW.ut {w : DTT} (q : UW h e w) : UT h e w := ⟨q.pw.pt, q.mono⟩
/-- a value as a test: a bool -/
abbrev wTruB (a : DTE) : DTT := fun σ st Q => a σ st fun d st1 => ∃ k, d = .bl k ∧ Q k st1
theorem ut_tru {w : DTE} (q : UE h e w) (he : ∀ whole, isTrue e h.Y.env whole = (do let v ← whole; standAt e.pos; holding [v] (truthy v)) := by intro _; rfl) : UT h e (wTruB w) := by
  refine ⟨(pt_truth q.pe he).imp fun τ H Q hh => ?_, fun σ st Q Q' l z => q.mono _ _ _ _ (fun d s ⟨k, e, z⟩ => ⟨k, e, l _ _ z⟩) z⟩
  obtain ⟨ex, f, σ, st, r, er, u, hh⟩ := hh
  refine lU.use q.mono r er u hh fun f1 H1 d st1 v s1 r1 e1 u1 rd h1 => ?_
  obtain ⟨k, rfl, z⟩ := h1
  cases rd
  exact ⟨k, rfl, z f1 H1 s1 r1⟩
/-- e.at -/
abbrev wVal (d : Dv) : DTE := fun _ st Q => Q d st
theorem ue_at {x nm : Str} {p : Pos} (en : h.fl.s = nm) (T : XIs h.X.K h.C h.fl) (hi : h.X.N[h.i]? = some x) (hv : Vis h.X.env.scope x) (hd : (x == ("__debug__" : Str)) = false := by decide) (hcd : (x == ("__classdict__" : Str)) = false := by decide)
    (hb : attributeBase (.Name x p) nm h.X.env (eval (.Name x p) h.X.env) = eval (.Name x p) h.X.env := by rfl) : UE h (.Attribute (.Name x p) nm pos) (wVal h.d) := by
  subst en
  refine ⟨(pe_xf (X := h.X) T.xfc T.no h.hz h.hf (pe_var (X := h.Y) hi hv hd hcd) hb).imp fun τ H Q z => ?_, fun σ st Q Q' q z => q _ _ z⟩
  obtain ⟨ex, f, σ, st, r, er, u, z⟩ := z
  obtain ⟨v, rd, e⟩ := u.at_
  refine ⟨.ref h.a, u.sl, rfl, rfl, h.dx, _, v, rfl, e, ?_, z.self r rd⟩
  simp [List.lookup]
/-- isinstance(e, D) -/
def rIsX (K : PySem.W.Frag) (h : Hand) : List V → Hp → VK → Prop := fun xs H Q => ∃ (c : V) (cv : Value) (b : Bool) (fs : List (Str × V)), xs = [.ref h.a, c] ∧ (∀ u, RelV c u → u = cv) ∧ PySem.W.kitOne K (.ref h.C) cv = some b ∧ H h.dx = some (.xd fs) ∧ Q (.bl b) H
/-- isinstance(e, (D, ..)) -/
def rIsXs (K : PySem.W.Frag) (h : Hand) : List V → Hp → VK → Prop := fun xs H Q => ∃ (p : Addr) (cs : List V) (cvs : List Value) (b : Bool) (fs : List (Str × V)), xs = [.ref h.a, .ref p] ∧ H p = some (.tup cs) ∧ (∀ us, Vals cs us → us = cvs) ∧ PySem.W.kitAny K (.ref h.C) cvs = some b ∧ H h.dx = some (.xd fs) ∧ Q (.bl b) H
theorem hand_inst {pins : List (Addr × Obj)} {s : Shared} {σ : L2.St} {H : Hp} {fs : List (Str × V)} (I : Inv h.Y pins σ H s) (ed : H h.dx = some (.xd fs)) : ∃ od, PySem.W.InstAt s.heap h.a h.oe h.C (some od) := by
  obtain ⟨hget, _⟩ := I.pin (h.a, h.oe) (List.mem_append.mpr (.inl List.mem_cons_self))
  obtain ⟨mA, ⟨od, es, ep, e1, e2, _⟩, _⟩ : ∃ mA, s.heap.Ns1 h.dx mA ∧ ∀ f, RelO (fs.lookup f) (mA f) := I.hok h.dx _ ed
  obtain ⟨vs, hv⟩ := h.hf
  have hz := h.hz
  exact ⟨od, hget, hz.1, by unfold PySem.W.notCls; rw [hv] <;> rfl, by rw [hz.2]; exact e1⟩
theorem call_isX (T : XIs h.X.K h.C h.fl) : CallR h.Y (.builtin "isinstance") (rIsX h.X.K h) := by
  intro pins s σ H xs us Q I r z
  obtain ⟨c, cv, b, fs, rfl, hcv, e, ed, q⟩ := z
  cases r with
  | cons rx rr =>
    cases rr with
    | cons rt rr =>
      cases rr
      cases rx
      have ec := hcv _ rt
      subst ec
      obtain ⟨od, J⟩ := hand_inst I ed
      exact PySem.W.kia_one (PySem.W.kitx_exc T.cl T.ga T.gg T.sb T.cc T.sp T.tk T.ob) I.kIn J e (fun z => nomatch z) fun tk => ⟨.bl b, H, I.kept (t' := tk) fun _ _ z => z, rfl, q⟩
theorem call_isXs (T : XIs h.X.K h.C h.fl) : CallR h.Y (.builtin "isinstance") (rIsXs h.X.K h) := by
  intro pins s σ H xs us Q I r z
  obtain ⟨p, cs, cvs, b, fs, rfl, ep, hcv, e, ed, q⟩ := z
  cases r with
  | cons rx rr =>
    cases rr with
    | cons rt rr =>
      cases rr
      cases rx
      cases rt
      obtain ⟨_, its, rv, ⟨o, ho, hc, n, hdt⟩⟩ : cs.length ≤ sizeLine ∧ ∃ its : List Value, Vals cs its ∧ IsTup s.heap p its.toArray := I.hok p _ ep
      have ec := hcv _ rv
      subst ec
      obtain ⟨od, J⟩ := hand_inst I ed
      obtain ⟨oc, odd, oda, osl⟩ := o
      dsimp only at hc hdt
      subst hc hdt
      exact PySem.W.kia_tup (PySem.W.kitx_exc T.cl T.ga T.gg T.sb T.cc T.sp T.tk T.ob) I.kIn J ho e (fun z => nomatch z) fun tk => ⟨.bl b, H, I.kept (t' := tk) fun _ _ z => z, rfl, q⟩
theorem ue_is {x y : Str} {D : Addr} {b : Bool} {p q r : Pos} (T : XIs h.X.K h.C h.fl) (hi : h.X.N[h.i]? = some x) (hv : Vis h.X.env.scope x) (hz : Gl h.X "isinstance") (hm : h.X.mg "isinstance" = none) (hy : Gl h.X y) (hD : h.X.mg y = some (.ref D)) (hk : PySem.W.kitOne h.X.K (.ref h.C) (.ref D) = some b)
    (hd : (x == ("__debug__" : Str)) = false := by decide) (hcd : (x == ("__classdict__" : Str)) = false := by decide) (hd2 : (y == ("__debug__" : Str)) = false := by decide)
    (n1 : starEach [.Name x p, .Name y q] h.X.env = (false, eval (.Name x p) h.X.env) :: starEach [.Name y q] h.X.env := by rfl) (n2 : starEach [.Name y q] h.X.env = (false, eval (.Name y q) h.X.env) :: starEach [] h.X.env := by rfl) :
    UE h (.Call (.Name "isinstance" r) [.Name x p, .Name y q] [] pos) (wC (.bl b)) := by
  refine ⟨(pe_callB (X := h.Y) (id := "isinstance") (call_isX T) hz hm (by decide +kernel) (pa_cons (pe_var (X := h.Y) hi hv hd hcd) (pa_cons (pe_glob (X := h.Y) (v := .ref D) hy hD rfl hd2) pa_nil n2) n1) (by decide) (by decide) n1 (by rfl)).imp fun τ H Q u => ?_, fun σ st Q Q' q z => q _ _ z⟩
  obtain ⟨ex, f, σ, st, rs, er, u, w⟩ := u
  obtain ⟨v, rd, e⟩ := u.at_
  exact ⟨.ref h.a, u.sl, .ref D, .ref D, b, _, rfl, fun _ z => z, hk, e, w.self rs (.bl _)⟩
theorem ue_is2 {x y1 y2 : Str} {B1 B2 : Addr} {b : Bool} {p q1 q2 qt r : Pos} {c1} (T : XIs h.X.K h.C h.fl) (hi : h.X.N[h.i]? = some x) (hv : Vis h.X.env.scope x) (hz : Gl h.X "isinstance") (hm : h.X.mg "isinstance" = none) (hy1 : Gl h.X y1) (hD1 : h.X.mg y1 = some (.ref B1)) (hy2 : Gl h.X y2) (hD2 : h.X.mg y2 = some (.ref B2))
    (hk : PySem.W.kitAny h.X.K (.ref h.C) [.ref B1, .ref B2] = some b)
    (hd : (x == ("__debug__" : Str)) = false := by decide) (hcd : (x == ("__classdict__" : Str)) = false := by decide) (hd1 : (y1 == ("__debug__" : Str)) = false := by decide) (hd2 : (y2 == ("__debug__" : Str)) = false := by decide)
    (n1 : starEach [.Name x p, .Tuple [.Name y1 q1, .Name y2 q2] c1 qt] h.X.env = (false, eval (.Name x p) h.X.env) :: starEach [.Tuple [.Name y1 q1, .Name y2 q2] c1 qt] h.X.env := by rfl)
    (n2 : starEach [.Tuple [.Name y1 q1, .Name y2 q2] c1 qt] h.X.env = (false, eval (.Tuple [.Name y1 q1, .Name y2 q2] c1 qt) h.X.env) :: starEach [] h.X.env := by rfl)
    (n3 : starEach [.Name y1 q1, .Name y2 q2] h.X.env = (false, eval (.Name y1 q1) h.X.env) :: starEach [.Name y2 q2] h.X.env := by rfl) (n4 : starEach [.Name y2 q2] h.X.env = (false, eval (.Name y2 q2) h.X.env) :: starEach [] h.X.env := by rfl) :
    UE h (.Call (.Name "isinstance" r) [.Name x p, .Tuple [.Name y1 q1, .Name y2 q2] c1 qt] [] pos) (wC (.bl b)) := by
  refine ⟨(pe_callB (X := h.Y) (id := "isinstance") (call_isXs T) hz hm (by decide +kernel) (pa_cons (pe_var (X := h.Y) hi hv hd hcd) (pa_cons (pe_tup (X := h.Y) (pa_cons (pe_glob (X := h.Y) (v := .ref B1) hy1 hD1 rfl hd1) (pa_cons (pe_glob (X := h.Y) (v := .ref B2) hy2 hD2 rfl hd2) pa_nil n4) n3)) pa_nil n2) n1) (by decide) (by decide) n1 (by rfl)).imp fun τ H Q u => ?_, fun σ st Q Q' q z => q _ _ z⟩
  obtain ⟨ex, f, σ, st, rs, er, u, w⟩ := u
  obtain ⟨v, rd, e⟩ := u.at_
  refine ⟨.ref h.a, u.sl, by rw [sizeLine_eq]; simp, fun tp htp => ?_⟩
  have S2 : Stp f st.length H f st.length (upd H tp (.tup [.ref B1, .ref B2])) := Stp.new htp
  refine ⟨tp, [.ref B1, .ref B2], [.ref B1, .ref B2], b, _, rfl, upd_same, fun us hu => ?_, hk, by rw [upd_ne (ne_of_none e htp)]; exact e, w f _ _ S2 (rs.new htp) (.bl _)⟩
  cases hu with
  | cons h1 hu =>
    cases hu with
    | cons h2 hu =>
      cases hu
      cases h1
      cases h2
      rfl
end

/-! ### try with such a suite -/
abbrev wTryU (n : Str) (m : Nat) (w : DXS) (u : Dv → DTE) : DTS := fun D σ st => w D (fun k d st' => k = n ∧ u d (List.replicate m none) st' D.rt) σ st
theorem er_none {K : PySem.W.Frag} {ex : Addr → Prop} {f : Nat → Addr} {k : Nat} {H : Hp} {τ : L2.St} {m : Nat} (h : τ.length = m) : ER K ex f k H (List.replicate m none) τ :=
  ⟨by simp [h], fun i d e => by
    rw [List.getElem?_replicate] at e
    split at e <;> cases e⟩
def tsU (fl : XE.Fld) (K : PySem.W.Frag) (C i : Addr) (u : Dv → DTE) : Addr → Value → Option Addr → TS := fun a cls d D τ H => ∃ dx y, cls = .ref C ∧ d = some dx ∧ lU K a dx i fl y (u y) τ H D.rt
theorem ds_tryU {X : Cx} {n x : Str} {C : Addr} {i m : Nat} {body : List Stmt} {e : Expr} {np pos pos' pr : Pos} {w : DXS} {u : Dv → DTE} (hs : X.stack = X.env :: X.outer) (hf : X.env.frame = some X.env.locals) (hN : X.N.Nodup) (hi : X.N[i]? = some x) (hl : X.N.length = m)
    (hln : X.env.kindOf x = some .local) (hg : Gl X n) (hdb : (n == ("__debug__" : Str)) = false) (hm : X.mg n = some (.ref C)) (T : XIs X.K C (fldOf n)) (tyC : PySem.W.typeIn X.K (.ref C) = some (.type "type")) (ss : PySem.W.subIn X.K (.ref C) (.ref C) = some true) (tk : Takes X fun _ _ _ _ => False)
    (hb : ∀ (E : XK) (pn : List (Addr × Obj)) (xe : Value → Shared → Prop), TakesE (X.tr pn xe) E → XPSs (X.tr pn xe) E body w)
    (hu : ∀ (a dx : Addr) (oe : Obj) (pn : List (Addr × Obj)) (d : Dv) (hz : Zc (.ref C) (some dx) oe) (hf : ∃ vs, oe.data = .fields vs), UE ⟨X, a, C, dx, i, fldOf n, oe, pn, d, hz, hf⟩ e (u d)) : DS X (.Try body [.ExceptHandler (some (.Name n np)) (some x) [.Return (some e) pr] pos'] [] [] pos) (wTryU n m w u) := by
  have mw : MonoXS w := (hb (fun _ _ _ => True) [] (fun _ _ => True) (fun _ _ _ => True.intro)).mono
  have mu : ∀ d, MonoE (u d) := fun d => (hu 0 0 ⟨.ref C, some 0, .fields #[], #[]⟩ [] d ⟨rfl, rfl⟩ ⟨_, rfl⟩).mono
  refine ⟨(ps_try_as (c := .ref C) (i := i) (tb := fun W => lXS X.K X.mg (fun c d H => ∀ σ : L2.St, σ.length = X.N.length → W c d σ H) w) (ts := tsU (fldOf n) X.K C i u) (Wout := fun _ _ _ _ => False) hs hf hN hi hln ⟨hg, hdb, .inl hm⟩ tk
    (fun W pn xe t po => (hb _ pn xe (TakesE.of t)).ps) fun a oe cls d pn hz hv => ⟨fun pins s τ H D I z => ?_⟩).imp fun D τ H h => ?_, fun σ st D D' l h => mw σ st D D' _ _ l (fun k d s z => ⟨z.1, mu d _ _ _ _ (fun y s => l.rt y s) z.2⟩) h⟩
  · obtain ⟨dx, y, rfl, rfl, z⟩ := z
    exact (pss_one (ps_ret (hu a dx oe pn y hz hv).pe)).run pins s τ H D I z
  obtain ⟨ex, f, σ, st, r, er, h⟩ := h
  refine lXS.use mw r er h ⟨fun _ _ z => z, fun _ _ z => z, fun _ _ z => z, fun _ _ z => z⟩ fun k d st' hz => ?_
  obtain ⟨rfl, hz⟩ := hz
  intro C' f' H' v dx hc s' r' rd hdx τ' hl'
  obtain rfl : C' = C := by
    rw [hm] at hc
    exact (Value.ref.inj (Option.some.inj hc)).symm
  refine ⟨true, PySem.W.exm_ref T.sb T.hd tyC ss, fun _ a ha => ?_, fun z => by cases z⟩
  have hlt : i < τ'.length := by
    rw [hl']
    exact (List.getElem?_eq_some_iff.mp hi).1
  refine ⟨dx, d, rfl, rfl, ex, f', List.replicate m none, st', r', er_none (by simp [hl', hl]), ⟨by rw [List.getElem?_set_self hlt], v, rd, hdx⟩, ?_⟩
  exact mu d _ _ _ _ (fun y s z => Af.later z s') hz
end D2

namespace K02
open PySem PySem.Spec PyProof.Rows L2 D2
/-! ### the data -/
inductive Th where
  | txt (s : Str) | node (n : Str) (ts : List Th)
mutual
def Th.dv : Th → Dv
  | .txt s => .str s
  | .node n ts => .tup [.str n, .tup (dvs ts)]
def dvs : List Th → List Dv
  | [] => []
  | t :: ts => t.dv :: dvs ts
end
mutual
def Th.dep : Th → Nat
  | .txt _ => 0
  | .node _ ts => deps ts + 1
def deps : List Th → Nat
  | [] => 0
  | t :: ts => max t.dep (deps ts)
end
mutual
def Th.size : Th → Nat
  | .txt _ => 1
  | .node _ ts => sizes ts + 1
def sizes : List Th → Nat
  | [] => 0
  | t :: ts => t.size + sizes ts
end
abbrev letters : Str := "abcdefghijklmnopqrstuvwxyz"
abbrev signs_ : Str := "abcdefghijklmnopqrstuvwxyz0123456789 "
def NmOk (s : Str) : Prop := 1 ≤ s.length ∧ s.length ≤ 8 ∧ ∀ c ∈ s.cps.toList, c ∈ letters.cps.toList
def TxOk (s : Str) : Prop := s.length ≤ 16 ∧ ∀ c ∈ s.cps.toList, c ∈ signs_.cps.toList
mutual
def Th.ok : Th → Prop
  | .txt s => TxOk s
  | .node n ts => NmOk n ∧ oks ts
def oks : List Th → Prop
  | [] => True
  | t :: ts => t.ok ∧ oks ts
end
mutual
def Th.shp : Th → Th
  | .txt _ => .txt ""
  | .node n ts => .node n (shps ts)
def shps : List Th → List Th
  | [] => []
  | t :: ts => t.shp :: shps ts
end
mutual
def Th.nms : Th → List Str
  | .txt _ => []
  | .node n ts => n :: nmss ts
def nmss : List Th → List Str
  | [] => []
  | t :: ts => t.nms ++ nmss ts
end
-- the walk: each thing's name (a text in a list) and depth
structure Wk where
  tx : Bool
  s : Str
  d : Nat
def Wk.dv (w : Wk) : Dv := .tup [if w.tx then .rol [.str w.s] else .str w.s, nat w.d]
mutual
def Th.walk : Th → Nat → List Wk
  | .txt s, d => [⟨true, s, d⟩]
  | .node n ts, d => ⟨false, n, d + 1⟩ :: walks ts (d + 1)
def walks : List Th → Nat → List Wk
  | [], _ => []
  | t :: ts, d => t.walk d ++ walks ts d
end
def isTxt : Th → Bool
  | .txt _ => true
  | _ => false
def chain (ns : List Str) (t : Th) : Nat → Th
  | 0 => t
  | m + 1 => .node (ns.getD (m % ns.length) "") [chain ns t m]
-- names, each once, in order
def NmsOf (t : Th) (ys : List Str) : Prop := ys.Nodup ∧ (∀ j, j ∈ ys ↔ j ∈ t.nms) ∧ sortedS ys = true
def Small (t : Th) : Prop := t.ok ∧ t.size ≤ 120 ∧ t.dep ≤ 30
/-! ### the promises -/
abbrev S_law_source : D2.Spec := ⟨List Int, fun ns => [.fro (ns.map Dv.int)], fun _ => [], fun ns => ns.length ≤ 63, fun _ d st => d = .ref 1 ∧ Dr [] st⟩
abbrev A_is_name (s : Str) : List Dv := [.str s]
abbrev P_is_name (s : Str) : Prop := NmOk s
abbrev R_is_name (_ : Str) (d : Dv) : Prop := d = .bl true
abbrev A_is_text (s : Str) : List Dv := [.str s]
abbrev P_is_text (s : Str) : Prop := TxOk s
abbrev R_is_text (_ : Str) (d : Dv) : Prop := d = .bl true
abbrev A_is_tuple_of (t : Th) : List Dv := [t.dv, .int 2]
abbrev P_is_tuple_of (_ : Th) : Prop := True
abbrev R_is_tuple_of (t : Th) (d : Dv) : Prop := d = .bl (!isTxt t)
abbrev A_is_head (t : Th) : List Dv := [t.dv]
abbrev P_is_head (t : Th) : Prop := t.ok
abbrev R_is_head (t : Th) (d : Dv) : Prop := d = .bl (!isTxt t)
abbrev A_wrong_thing (ts : List Th) : List Dv := [.tup (dvs ts)]
abbrev P_wrong_thing (ts : List Th) : Prop := oks ts ∧ sizes ts ≤ 1000
abbrev R_wrong_thing (_ : List Th) (d : Dv) : Prop := d = .non
abbrev A_is_node (t : Th) : List Dv := [t.dv]
abbrev P_is_node (t : Th) : Prop := t.ok ∧ t.size ≤ 1000
abbrev R_is_node (t : Th) (d : Dv) : Prop := d = .bl (!isTxt t)
abbrev A_forest_size (ts : List Th) : List Dv := [.tup (dvs ts)]
abbrev P_forest_size (ts : List Th) : Prop := sizes ts ≤ 1000
abbrev R_forest_size (ts : List Th) (d : Dv) : Prop := d = nat (sizes ts)
abbrev A_size_of (t : Th) : List Dv := [t.dv]
abbrev P_size_of (t : Th) : Prop := t.size ≤ 1000
abbrev R_size_of (t : Th) (d : Dv) : Prop := d = nat t.size
abbrev A_depth_of (t : Th) : List Dv := [t.dv]
abbrev P_depth_of (n : Nat) (t : Th) : Prop := t.dep < n ∧ t.size ≤ 1000
abbrev R_depth_of (t : Th) (d : Dv) : Prop := d = nat t.dep
abbrev A_names_of (t : Th) : List Dv := [t.dv]
abbrev P_names_of (t : Th) : Prop := t.size ≤ 1000
abbrev R_names_of (t : Th) (d : Dv) : Prop := ∃ ys, NmsOf t ys ∧ d = .tup (ys.map Dv.str)
abbrev A_shape_of (t : Th) : List Dv := [t.dv]
abbrev P_shape_of (n : Nat) (t : Th) : Prop := t.dep < n ∧ t.size ≤ 1000
abbrev R_shape_of (t : Th) (d : Dv) : Prop := d = t.shp.dv
abbrev A_law_names (n : Nat) : List Dv := [nat n]
abbrev P_law_names (r : Sto) (n : Nat) : Prop := r = [] ∧ 1 ≤ n ∧ n ≤ 5
abbrev R_law_names (n : Nat) (d : Dv) : Prop := ∃ ns : List Str, ns.length = n ∧ (∀ s ∈ ns, NmOk s) ∧ d = .rol (ns.map Dv.str)
abbrev A_law_text (_ : Unit) : List Dv := []
abbrev P_law_text (_ : Sto) (_ : Unit) : Prop := True
abbrev R_law_text (_ : Unit) (d : Dv) : Prop := ∃ s : Str, TxOk s ∧ d = .str s
-- a thing that grows, in cells
mutual
def Rep (st : Sto) : Th → Dv → Prop
  | .txt s, d => d = .str s
  | .node n ts, d => ∃ (c l : Nat) (ds : List Dv), d = .ref c ∧ st[c]? = some (.lst [.str n, .ref l]) ∧ st[l]? = some (.lst ds) ∧ Reps st ts ds
def Reps (st : Sto) : List Th → List Dv → Prop
  | [], ds => ds = []
  | t :: ts, ds => ∃ d r, ds = d :: r ∧ Rep st t d ∧ Reps st ts r
end
abbrev S_law_frozen (n : Nat) : D2.Spec := ⟨Sto × Th × Dv, fun i => [i.2.2], fun i => i.1, fun i => Rep i.1 i.2.1 i.2.2 ∧ i.2.1.dep < n ∧ i.2.1.size ≤ 1000, fun i d st => st = i.1 ∧ d = i.2.1.dv⟩
abbrev A_law_grown (i : List Str × Nat × Nat) : List Dv := [.rol (i.1.map Dv.str), nat i.2.1, nat i.2.2]
abbrev P_law_grown (r : Sto) (i : List Str × Nat × Nat) : Prop := r = [] ∧ 0 < i.1.length ∧ i.1.length ≤ 5 ∧ (∀ s ∈ i.1, NmOk s) ∧ 1 ≤ i.2.1 ∧ i.2.1 ≤ 98 ∧ 1 ≤ i.2.2 ∧ i.2.2 ≤ 30
abbrev R_law_grown (i : List Str × Nat × Nat) (d : Dv) : Prop := ∃ n ts, NmOk n ∧ oks ts ∧ sizes ts < i.2.1 ∧ deps ts < i.2.2 ∧ d = (Th.node n ts).dv
abbrev A_law_walk (i : Th × Nat) : List Dv := [i.1.dv, nat i.2]
abbrev P_law_walk (n : Nat) (i : Th × Nat) : Prop := i.1.dep < n ∧ i.1.size ≤ 1000
abbrev R_law_walk (i : Th × Nat) (d : Dv) : Prop := d = .rol ((i.1.walk i.2).map Wk.dv)
abbrev A_law_thing_right (t : Th) : List Dv := [t.dv]
abbrev P_law_thing_right (t : Th) : Prop := Small t
abbrev R_law_thing_right (_ : Th) (d : Dv) : Prop := d = .bl true
abbrev A_law_chain (i : List Str × Nat × Th) : List Dv := [.rol (i.1.map Dv.str), nat i.2.1, i.2.2.dv]
abbrev P_law_chain (i : List Str × Nat × Th) : Prop := 0 < i.1.length ∧ i.2.1 ≤ 30
abbrev R_law_chain (i : List Str × Nat × Th) (d : Dv) : Prop := d = (chain i.1 i.2.2 i.2.1).dv
section
variable (n : Nat)
abbrev Wis_name : DTS :=
  (wSeq (wIf (wOr (wNot (wTru (wIsi .str (wVar 0)))) (wNot (wB (wChain (gB fun a b => decide (a ≤ b)) (gB fun a b => decide (a ≤ b)) (wC (.int 1)) (wCB (g1 gLen) (wCons (wVar 0) wNil)) (wC (.int 8)))))) (wRet (wC (.bl false))) wNext)
  (wRet (wCB (g1 gAll) (wCons (wRl (wLc (wIt (wVar 0)) (.one 1) wYes (w2 (gIn false) (wVar 1) (wC (.str "abcdefghijklmnopqrstuvwxyz"))) [1])) wNil))))
abbrev Nis_name : List Str := ["value", "sign"]
abbrev Wis_text : DTS :=
  (wSeq (wIf (wOr (wNot (wTru (wIsi .str (wVar 0)))) (wB (w2 (gB fun a b => decide (b < a)) (wCB (g1 gLen) (wCons (wVar 0) wNil)) (wC (.int 16))))) (wRet (wC (.bl false))) wNext)
  (wRet (wCB (g1 gAll) (wCons (wRl (wLc (wIt (wVar 0)) (.one 1) wYes (w2 (gIn false) (wVar 1) (wC (.str "abcdefghijklmnopqrstuvwxyz0123456789 "))) [1])) wNil))))
abbrev Nis_text : List Str := ["value", "sign"]
abbrev Wis_tuple_of : DTS :=
  (wRet (wAndV (wIsi .tuple (wVar 0)) (w2 (gEq false) (wCB (g1 gLen) (wCons (wVar 0) wNil)) (wVar 1))))
abbrev Nis_tuple_of : List Str := ["value", "size"]
abbrev Wis_head : DTS :=
  (wRet (wAndV (wFn A_is_tuple_of P_is_tuple_of R_is_tuple_of (wCons (wVar 0) (wCons (wC (.int 2)) wNil))) (wAndV (wFn A_is_name P_is_name R_is_name (wCons (w2 gIx (wVar 0) (wC (.int 0))) wNil)) (wIsi .tuple (w2 gIx (wVar 0) (wC (.int 1)))))))
abbrev Nis_head : List Str := ["value"]
abbrev Wwrong_thing : DTS :=
  (wSeq (wPar 1 2 (wCl (wRevN (wRl (wCN (n1 fun x st Q => ∃ xs, seqD st x = some xs ∧ Q xs st) (wCons (wVar 0) wNil))))) (wC (.int 0)))
  (wSeq (wWhile (wTru (wVar 1)) (wSeq (wSet 3 (wPop (wVar 1)))
  (wSeq (wIf (wTru (wFn A_is_head P_is_head R_is_head (wCons (wVar 3) wNil))) (wDrop (wExt (wVar 1) (wRevT (w2 gIx (wVar 3) (wC (.int 1)))))) (wIf (wNot (wTru (wFn A_is_text P_is_text R_is_text (wCons (wVar 3) wNil)))) (wRet (wVar 2)) wNext))
  (wAugI 2 (wC (.int 1))))))
  (wRet (wC .non))))
abbrev Nwrong_thing : List Str := ["things", "todo", "at", "thing"]
abbrev Wis_node : DTS :=
  (wRet (wAndV (wFn A_is_head P_is_head R_is_head (wCons (wVar 0) wNil)) (w2 (gIs false) (wFn A_wrong_thing P_wrong_thing R_wrong_thing (wCons (wTup (wCons (wVar 0) wNil)) wNil)) (wC .non))))
abbrev Nis_node : List Str := ["value"]
abbrev Wforest_size : DTS :=
  (wSeq (wPar 1 2 (wCl (wCN (n1 fun x st Q => ∃ xs, seqD st x = some xs ∧ Q xs st) (wCons (wVar 0) wNil))) (wC (.int 0)))
  (wSeq (wWhile (wTru (wVar 1)) (wSeq (wSet 3 (wPop (wVar 1)))
  (wSeq (wAugI 2 (wC (.int 1)))
  (wIf (wTru (wIsi .tuple (wVar 3))) (wDrop (wExt (wVar 1) (w2 gIx (wVar 3) (wC (.int 1))))) wNext))))
  (wRet (wVar 2))))
abbrev Nforest_size : List Str := ["forest", "todo", "many", "thing"]
abbrev Wsize_of : DTS :=
  (wRet (wFn A_forest_size P_forest_size R_forest_size (wCons (wTup (wCons (wVar 0) wNil)) wNil)))
abbrev Nsize_of : List Str := ["thing"]
abbrev Wdepth_of : DTS :=
  (wSeq (wIf (wTru (wIsi .str (wVar 0))) (wRet (wC (.int 0))) wNext)
  (wRet (w2 gAdd (wC (.int 1)) (wMaxD (wCons (wRl (wLc (wIt (w2 gIx (wVar 0) (wC (.int 1)))) (.one 1) wYes (wFn A_depth_of (P_depth_of n) R_depth_of (wCons (wVar 1) wNil)) [1])) wNil) (wCons (wC (.int 0)) wNil)))))
abbrev Ndepth_of : List Str := ["thing", "part"]
abbrev Wshape_of : DTS :=
  (wSeq (wIf (wTru (wIsi .str (wVar 0))) (wRet (wC (.str ""))) wNext)
  (wRet (wTup (wCons (w2 gIx (wVar 0) (wC (.int 0))) (wCons (wCB (g1 gTuple) (wCons (wRl (wLc (wIt (w2 gIx (wVar 0) (wC (.int 1)))) (.one 1) wYes (wFn A_shape_of (P_shape_of n) R_shape_of (wCons (wVar 1) wNil)) [1])) wNil)) wNil)))))
abbrev Nshape_of : List Str := ["thing", "part"]
abbrev W_law_source : DTS :=
  (wSeq (wSet 1 (wRl (wLc (wIt (wRl (wSlN (wVar 0) wNo (wPt (wC (.int 63)))))) (.one 2) wYes (wCB (g1 gAbs) (wCons (wCB (g1 gInt) (wCons (wVar 2) wNil)) wNil)) [2])))
  (wSeq (wSet 3 (wC (.int 1402007)))
  (wSeq (wFor (wIt (wVar 1)) (.one 2) (wSet 3 (w2 (gI (fun _ j => 0 < j) fun a b => a % b) (wCB (g1 gInt) (wCons (w2 gAdd (w2 gAdd (w2 gMul (wVar 3) (wC (.int 48271))) (w2 (gI (fun _ j => 0 < j) fun a b => a % b) (wVar 2) (wC (.int 2147483549)))) (wC (.int 41))) wNil)) (wC (.int 2147483647)))))
  (wRet (wCel (wCons (wCl (wRevN (wRl (wLc (wIt (wVar 1)) (.one 2) (wB (w2 (gB fun a b => decide (b ≤ a)) (wVar 2) (w2 (gI CPow fun a b => a ^ b.toNat) (wC (.int 10)) (wC (.int 18))))) (wVar 2) [2])))) (wCons (wVar 3) wNil)))))))
abbrev N_law_source : List Str := ["script", "cells", "cell", "blend"]
abbrev W_law_any : DTS :=
  (wSeq (wWhile (wAnd (wB (w2 (gEq true) (w2 gIx (wVar 0) (wC (.int 0))) (wRol wNil))) (wB (w2 (gEq false) (w2 gIx (w2 gIx (wVar 0) (wC (.int 0))) (wNeg (wC (.int 1)))) (wC (.int 0))))) (wDrop (wPop (w2 gIx (wVar 0) (wC (.int 0))))))
  (wSeq (wIf (wB (w2 (gEq true) (w2 gIx (wVar 0) (wC (.int 0))) (wRol wNil))) (wSeq (wSet 2 (wCB (g1 gInt) (wCons (wPop (w2 gIx (wVar 0) (wC (.int 0)))) wNil)))
  (wSeq (wDrop (wApp (w2 gIx (wVar 0) (wC (.int 0))) (w2 (gI CDiv fun a b => a / b) (wVar 2) (wVar 1))))
  (wRet (w2 (gI (fun _ j => 0 < j) fun a b => a % b) (wVar 2) (wVar 1))))) wNext)
  (wSeq (wSto (w2 (gI (fun _ j => 0 < j) fun a b => a % b) (wCB (g1 gInt) (wCons (w2 gAdd (w2 gMul (w2 gIx (wVar 0) (wC (.int 1))) (wC (.int 48271))) (wC (.int 41))) wNil)) (wC (.int 2147483647))) (wVar 0) (wC (.int 1)))
  (wRet (w2 (gI (fun _ j => 0 < j) fun a b => a % b) (wCB (g1 gInt) (wCons (w2 (gI CDiv fun a b => a / b) (w2 gIx (wVar 0) (wC (.int 1))) (wC (.int 64))) wNil)) (wVar 1))))))
abbrev N_law_any : List Str := ["deal", "bound", "rest"]
abbrev N_law_of : List Str := ["deal", "some"]
abbrev W_law_names : DTS :=
  (wSeq (wSet 2 (wC (.str "abcdefghijklmnopqrstuvwxyz")))
  (wSeq (wSet 3 (wJoin (wC (.str "")) (wRl (wLc (wRng1 (wCons (wDr A_law_any P_law_any R_law_any (wCons (wVar 0) (wCons (wC (.int 6)) wNil))) wNil)) (.one 4) wYes (wDr A_law_of P_law_of R_law_of (wCons (wVar 0) (wCons (wVar 2) wNil))) [4]))))
  (wSeq (wAsgT (.many [5, 6, 7, 8]) (wTup (wCons (wDr A_law_any P_law_any R_law_any (wCons (wVar 0) (wCons (w2 gAdd (wCB (g1 gLen) (wCons (wVar 3) wNil)) (wC (.int 1))) wNil))) (wCons (wDr A_law_any P_law_any R_law_any (wCons (wVar 0) (wCons (wC (.int 26)) wNil))) (wCons (wDr A_law_any P_law_any R_law_any (wCons (wVar 0) (wCons (wC (.int 3)) wNil))) (wCons (wCel wNil) wNil))))))
  (wSeq (wFor (wRng1 (wCons (wVar 1) wNil)) (.one 9) (wSeq (wSet 10 (wJoin (wC (.str "")) (wRl (wLc (wRng1 (wCons (wVar 7) wNil)) (.one 4) wYes (wDr A_law_of P_law_of R_law_of (wCons (wVar 0) (wCons (wVar 2) wNil))) [4]))))
  (wDrop (wApp (wVar 8) (w2 gAdd (w2 gAdd (w2 gAdd (wSl (wVar 3) wNo (wPt (wVar 5))) (w2 gIx (wVar 2) (w2 (gI (fun _ j => 0 < j) fun a b => a % b) (wCB (g1 gInt) (wCons (w2 gAdd (wVar 6) (wVar 9)) wNil)) (wC (.int 26))))) (wSl (wVar 3) (wPt (wVar 5)) wNo)) (wVar 10))))))
  (wRet (wRl (wCN gSortS (wCons (wVar 8) wNil))))))))
abbrev N_law_names : List Str := ["deal", "many", "letters", "stem", "turn", "at", "first", "more", "found", "number", "tail"]
abbrev W_law_text : DTS :=
  (wSeq (wSet 1 (wDr A_law_of P_law_of R_law_of (wCons (wVar 0) (wCons (wRol (wCons (wC (.int 0)) (wCons (wC (.int 1)) (wCons (wC (.int 1)) (wCons (wC (.int 2)) (wCons (wDr A_law_any P_law_any R_law_any (wCons (wVar 0) (wCons (wC (.int 17)) wNil))) wNil)))))) wNil))))
  (wRet (wJoin (wC (.str "")) (wRl (wLc (wRng1 (wCons (wVar 1) wNil)) (.one 2) wYes (wDr A_law_of P_law_of R_law_of (wCons (wVar 0) (wCons (wC (.str "abcdefghijklmnopqrstuvwxyz0123456789 ")) wNil))) [2])))))
abbrev N_law_text : List Str := ["deal", "many", "turn"]
abbrev W_law_frozen : DTS :=
  (wSeq (wIf (wTru (wIsi .str (wVar 0))) (wRet (wVar 0)) wNext)
  (wRet (wTup (wCons (w2 gIx (wVar 0) (wC (.int 0))) (wCons (wCB (g1 gTuple) (wCons (wRl (wLc (wIt (w2 gIx (wVar 0) (wC (.int 1)))) (.one 1) wYes (wCall (S_law_frozen n) (wCons (wVar 1) wNil)) [1])) wNil)) wNil)))))
abbrev N_law_frozen : List Str := ["thing", "part"]
abbrev W_law_grown : DTS :=
  (wSeq (wSet 4 (wCel (wCons (wDr A_law_of P_law_of R_law_of (wCons (wVar 0) (wCons (wVar 1) wNil))) (wCons (wCel wNil) wNil))))
  (wSeq (wSet 5 (wCel (wCons (wTup (wCons (wVar 4) (wCons (wC (.int 1)) wNil))) wNil)))
  (wSeq (wFor (wRng1 (wCons (w2 (gI (fun _ _ => True) fun a b => a - b) (wVar 2) (wC (.int 1))) wNil)) (.one 6) (wSeq (wAsgT (.many [7, 8]) (w2 gIx (wVar 5) (wDr A_law_of P_law_of R_law_of (wCons (wVar 0) (wCons (wRol (wCons (w2 (gI (fun _ _ => True) fun a b => a - b) (wCB (g1 gLen) (wCons (wVar 5) wNil)) (wC (.int 1))) (wCons (wDr A_law_any P_law_any R_law_any (wCons (wVar 0) (wCons (wCB (g1 gLen) (wCons (wVar 5) wNil)) wNil))) wNil))) wNil)))))
  (wSeq (wSet 9 (wIfE (wAnd (wB (w2 (gB fun a b => decide (a < b)) (wVar 8) (wVar 3))) (wB (w2 (gB fun a b => decide (b < a)) (wDr A_law_any P_law_any R_law_any (wCons (wVar 0) (wCons (wC (.int 3)) wNil))) (wC (.int 0))))) (wCel (wCons (wDr A_law_of P_law_of R_law_of (wCons (wVar 0) (wCons (wVar 1) wNil))) (wCons (wCel wNil) wNil))) (wDr A_law_text P_law_text R_law_text (wCons (wVar 0) wNil))))
  (wSeq (wIf (wTru (wIsi .list (wVar 9))) (wDrop (wApp (wVar 5) (wTup (wCons (wVar 9) (wCons (w2 gAdd (wVar 8) (wC (.int 1))) wNil))))) wNext)
  (wDrop (wIns (w2 gIx (wVar 7) (wC (.int 1))) (wDr A_law_any P_law_any R_law_any (wCons (wVar 0) (wCons (w2 gAdd (wCB (g1 gLen) (wCons (w2 gIx (wVar 7) (wC (.int 1))) wNil)) (wC (.int 1))) wNil))) (wVar 9)))))))
  (wRet (wCall (S_law_frozen n) (wCons (wVar 4) wNil))))))
abbrev N_law_grown : List Str := ["deal", "names", "many", "deep", "top", "nodes", "turn", "node", "depth", "new"]
abbrev W_law_walk : DTS :=
  (wSeq (wIf (wTru (wIsi .str (wVar 0))) (wRet (wRol (wCons (wTup (wCons (wRol (wCons (wVar 0) wNil)) (wCons (wVar 1) wNil))) wNil))) wNext)
  (wSeq (wSet 2 (wRol (wCons (wTup (wCons (w2 gIx (wVar 0) (wC (.int 0))) (wCons (w2 gAdd (wVar 1) (wC (.int 1))) wNil))) wNil)))
  (wSeq (wFor (wIt (w2 gIx (wVar 0) (wC (.int 1)))) (.one 3) (wSet 2 (w2 gAdd (wVar 2) (wFn A_law_walk (P_law_walk n) R_law_walk (wCons (wVar 3) (wCons (w2 gAdd (wVar 1) (wC (.int 1))) wNil))))))
  (wRet (wVar 2)))))
abbrev N_law_walk : List Str := ["thing", "depth", "found", "part"]
abbrev W_law_thing_right : DTS :=
  (wSeq (wSet 1 (wFn A_law_walk (P_law_walk n) R_law_walk (wCons (wVar 0) (wCons (wC (.int 0)) wNil))))
  (wSeq (wSet 2 (wRl (wSS (wRl (wLc (wIt (wVar 1)) (.many [3, 4]) (wTru (wIsi .str (wVar 3))) (wVar 3) [3, 4])))))
  (wSeq (wSet 5 (wRol (wCons (wCB (g1 gLen) (wCons (wVar 1) wNil)) (wCons (wCB (g1 gMax) (wCons (w2 gAdd (wRol (wCons (wC (.int 0)) wNil)) (wRl (wLc (wIt (wVar 1)) (.many [3, 4]) (wTru (wIsi .str (wVar 3))) (wVar 4) [3, 4]))) wNil)) (wCons (wCB (g1 gTuple) (wCons (wVar 2) wNil)) wNil)))))
  (wSeq (wIf (wB (w2 (gEq true) (wCB (g1 gRepr) (wCons (wRol (wCons (wFn A_size_of P_size_of R_size_of (wCons (wVar 0) wNil)) (wCons (wFn A_depth_of (P_depth_of n) R_depth_of (wCons (wVar 0) wNil)) (wCons (wFn A_names_of P_names_of R_names_of (wCons (wVar 0) wNil)) wNil)))) wNil)) (wCB (g1 gRepr) (wCons (wVar 5) wNil)))) (wRet (wC (.bl false))) wNext)
  (wSeq (wSet 6 (wFn A_shape_of (P_shape_of n) R_shape_of (wCons (wVar 0) wNil)))
  (wSeq (wIf (wOr (wB (w2 (gEq true) (wRol (wCons (wFn A_size_of P_size_of R_size_of (wOrd 0 1 (ordL [0]) wNil (wCons (wVar 6) wNil))) (wCons (wFn A_depth_of (P_depth_of n) R_depth_of (wOrd 0 1 (ordL [0]) wNil (wCons (wVar 6) wNil))) (wCons (wFn A_names_of P_names_of R_names_of (wOrd 0 1 (ordL [0]) wNil (wCons (wVar 6) wNil))) wNil)))) (wVar 5))) (wB (w2 (gEq true) (wFn A_shape_of (P_shape_of n) R_shape_of (wOrd 0 1 (ordL [0]) wNil (wCons (wVar 6) wNil))) (wVar 6)))) (wRet (wC (.bl false))) wNext)
  (wRet (w2 (gEq false) (wFn A_law_walk (P_law_walk n) R_law_walk (wCons (wVar 6) (wCons (wC (.int 0)) wNil))) (wRl (wLc (wIt (wVar 1)) (.many [3, 4]) wYes (wTup (wCons (wIfE (wTru (wIsi .str (wVar 3))) (wVar 3) (wRol (wCons (wC (.str "")) wNil))) (wCons (wVar 4) wNil))) [3, 4]))))))))))
abbrev N_law_thing_right : List Str := ["thing", "walk", "names", "name", "depth", "due", "shape"]
abbrev W_law_chain : DTS :=
  (wSeq (wFor (wRng1 (wCons (wVar 1) wNil)) (.one 3) (wSet 2 (wTup (wCons (w2 gIx (wVar 0) (w2 (gI (fun _ j => 0 < j) fun a b => a % b) (wCB (g1 gInt) (wCons (wVar 3) wNil)) (wCB (g1 gLen) (wCons (wVar 0) wNil)))) (wCons (wTup (wCons (wVar 2) wNil)) wNil)))))
  (wRet (wVar 2)))
abbrev N_law_chain : List Str := ["names", "many", "thing", "at"]
abbrev Wlaw : DTS :=
  (wSeq (wSet 1 (wCall S_law_source (wCons (wVar 0) wNil)))
  (wSeq (wSet 2 (wDr A_law_names P_law_names R_law_names (wCons (wVar 1) (wCons (w2 gAdd (wC (.int 1)) (wDr A_law_any P_law_any R_law_any (wCons (wVar 1) (wCons (wC (.int 5)) wNil)))) wNil))))
  (wSeq (wFor (wRng1 (wCons (wC (.int 3)) wNil)) (.one 3) (wSeq (wSet 4 (w2 gAdd (wC (.int 1)) (wDr A_law_of P_law_of R_law_of (wCons (wVar 1) (wCons (wRol (wCons (wDr A_law_any P_law_any R_law_any (wCons (wVar 1) (wCons (wC (.int 3)) wNil))) (wCons (wDr A_law_any P_law_any R_law_any (wCons (wVar 1) (wCons (wC (.int 12)) wNil))) (wCons (wDr A_law_any P_law_any R_law_any (wCons (wVar 1) (wCons (wC (.int 98)) wNil))) wNil)))) wNil)))))
  (wSeq (wSet 5 (wDr A_law_grown P_law_grown R_law_grown (wCons (wVar 1) (wCons (wVar 2) (wCons (wVar 4) (wCons (wDr A_law_of P_law_of R_law_of (wCons (wVar 1) (wCons (wRol (wCons (wC (.int 2)) (wCons (wC (.int 4)) (wCons (wC (.int 30)) wNil)))) wNil))) wNil))))))
  (wSeq (wSet 6 (wDr A_law_text P_law_text R_law_text (wCons (wVar 1) wNil)))
  (wSeq (wIf (wOr (wNot (wTru (wFn A_law_thing_right P_law_thing_right R_law_thing_right (wCons (wVar 5) wNil)))) (wOr (wNot (wTru (wFn A_law_thing_right P_law_thing_right R_law_thing_right (wCons (wVar 6) wNil)))) (wNot (wTru (wFn A_is_node P_is_node R_is_node (wCons (wFn A_shape_of (P_shape_of n) R_shape_of (wCons (wVar 5) wNil)) wNil)))))) (wRet (wC (.bl false))) wNext)
  (wSeq (wSet 7 (wDr A_law_of P_law_of R_law_of (wCons (wVar 1) (wCons (wRol (wCons (w2 gIx (wVar 5) (wC (.int 1))) (wCons (wTup wNil) (wCons (wTup (wCons (wVar 6) (wCons (wVar 5) (wCons (wVar 6) wNil)))) (wCons (wTup (wCons (wVar 6) wNil)) (wCons (wSl (w2 gIx (wVar 5) (wC (.int 1))) wNo (wPt (wC (.int 3)))) wNil)))))) wNil))))
  (wSeq (wSet 8 (wCB (g1 gSum) (wCons (wRl (wLc (wIt (wVar 7)) (.one 9) wYes (wCB (g1 gLen) (wCons (wFn A_law_walk (P_law_walk n) R_law_walk (wCons (wVar 9) (wCons (wC (.int 0)) wNil))) wNil)) [9])) wNil)))
  (wIf (wOr (wB (w2 (gEq true) (wCB (g1 gRepr) (wCons (wFn A_forest_size P_forest_size R_forest_size (wCons (wVar 7) wNil)) wNil)) (wCB (g1 gRepr) (wCons (wVar 8) wNil)))) (wB (w2 (gEq true) (wFn A_forest_size P_forest_size R_forest_size (wOrd 0 1 (ordL [0]) wNil (wCons (wVar 7) wNil))) (wVar 8)))) (wRet (wC (.bl false))) wNext))))))))
  (wSeq (wSet 10 (wCB (g1 gTuple) (wCons (wRl (wLc (wRng1 (wCons (wDr A_law_any P_law_any R_law_any (wCons (wVar 1) (wCons (wC (.int 9)) wNil))) wNil)) (.one 3) wYes (wDr A_law_text P_law_text R_law_text (wCons (wVar 1) wNil)) [3])) wNil)))
  (wSeq (wIf (wOr (wNot (wTru (wFn A_law_thing_right P_law_thing_right R_law_thing_right (wCons (wTup (wCons (w2 gIx (wVar 2) (wC (.int 0))) (wCons (wVar 10) wNil))) wNil)))) (wNot (wTru (wFn A_law_thing_right P_law_thing_right R_law_thing_right (wCons (wTup (wCons (w2 gIx (wVar 2) (wNeg (wC (.int 1)))) (wCons (wTup wNil) wNil))) wNil))))) (wRet (wC (.bl false))) wNext)
  (wRet (wFn A_law_thing_right P_law_thing_right R_law_thing_right (wCons (wFn A_law_chain P_law_chain R_law_chain (wCons (wVar 2) (wCons (wDr A_law_any P_law_any R_law_any (wCons (wVar 1) (wCons (wC (.int 30)) wNil))) (wCons (wDr A_law_of P_law_of R_law_of (wCons (wVar 1) (wCons (wRol (wCons (wDr A_law_text P_law_text R_law_text (wCons (wVar 1) wNil)) (wCons (wTup (wCons (w2 gIx (wVar 2) (wC (.int 0))) (wCons (wTup wNil) wNil))) wNil))) wNil))) wNil)))) wNil))))))))
abbrev Nlaw : List Str := ["script", "deal", "names", "turn", "many", "node", "text", "forest", "due", "thing", "row"]
end
end K02

namespace K51
open PySem PySem.Spec PyProof.Rows L2 D2 K02
/-! ### the data -/
inductive Pt where
  | node (s : Str) (ps : List Pt) | say (s : Str) | keep | go (m : Str)
mutual
def Pt.dv : Pt → Dv
  | .node s ps => .tup [.str "node", .str s, .tup (pdv ps)]
  | .say s => .tup [.str "say", .str s]
  | .keep => .tup [.str "keep"]
  | .go m => .tup [.str "go", .str m]
def pdv : List Pt → List Dv
  | [] => []
  | p :: ps => p.dv :: pdv ps
end
mutual
def Pt.dep : Pt → Nat
  | .node _ ps => pdep ps + 1
  | _ => 0
def pdep : List Pt → Nat
  | [] => 0
  | p :: ps => max p.dep (pdep ps)
end
mutual
def Pt.size : Pt → Nat
  | .node _ ps => psize ps + 1
  | _ => 1
def psize : List Pt → Nat
  | [] => 0
  | p :: ps => p.size + psize ps
end
mutual
def Pt.goes : Pt → Nat
  | .node _ ps => goes ps
  | .go _ => 1
  | _ => 0
def goes : List Pt → Nat
  | [] => 0
  | p :: ps => p.goes + goes ps
end
mutual
/-- k: for texts -/
def Pt.ok (k : Bool) : Pt → Prop
  | .node s ps => NmOk s ∧ pok k ps
  | .say s => TxOk s
  | .keep => k = true
  | .go _ => k = false
def pok (k : Bool) : List Pt → Prop
  | [] => True
  | p :: ps => p.ok k ∧ pok k ps
end
structure Ru where
  (mode letter : Str)
  ps : List Pt
def Ru.dv (r : Ru) : Dv := .tup [.str r.mode, .str r.letter, .tup (pdv r.ps)]
def Ru.key (r : Ru) : List Key := [.inr r.mode, .inr r.letter]
abbrev tuD (C : Addr) (rs : List Ru) (m : Str) : Dv := .obj C ["rules", "mode"] [.tup (rs.map Ru.dv), .str m]
abbrev tbD (rs : List Ru) : Dv := .dic (.t (rs.map Ru.key)) (rs.map fun r => .tup (pdv r.ps))
def rule (rs : List Ru) (m l : Str) : Option (List Pt) := match rs with
  | [] => none
  | r :: rs => if r.mode = m ∧ r.letter = l then some r.ps else rule rs m l
def rulD : Option (List Pt) → Dv
  | none => .non
  | some ps => .tup (pdv ps)
/-- what a rule may be -/
def RuOk (r : Ru) : Prop := pok (decide (r.letter = "")) r.ps ∧ pdep r.ps ≤ 2 ∧ psize r.ps ≤ 30 ∧ goes r.ps ≤ 2
def RsOk (rs : List Ru) : Prop := (∀ r ∈ rs, RuOk r) ∧ rs.length ≤ 30
mutual
def fillOne (x : Str) (F : Str → List Th) : Pt → List Th
  | .node s ps => [.node s (fillP x F ps)]
  | .say s => [.txt s]
  | .keep => [.txt x]
  | .go m => F m
def fillP (x : Str) (F : Str → List Th) : List Pt → List Th
  | [] => []
  | p :: ps => fillOne x F p ++ fillP x F ps
end
mutual
def trnT (rs : List Ru) : Th → Str → List Th
  | .txt s, m => fillP s (fun _ => []) ((rule rs m "").getD [])
  | .node n ts, m => match rule rs m n with
    | some ps => fillP "" (fun k => trnF rs ts k) ps
    | none => trnF rs ts m
def trnF (rs : List Ru) : List Th → Str → List Th
  | [], _ => []
  | t :: ts, m => trnT rs t m ++ trnF rs ts m
end
abbrev tups (F : List Th) : Dv := .tup (dvs F)
/-- nodes alone have names -/
def Nmd (t : Th) : Prop := t.ok
/-- cells that hold no cells -/
def CelN (rest : Sto) : Prop := ∀ c ∈ rest, ∃ xs, c = .lst xs ∧ Nrs xs
def NsOk (ns : List Str) : Prop := ns.Nodup ∧ (∀ s ∈ ns, NmOk s) ∧ 1 ≤ ns.length ∧ ns.length ≤ 5
def PB : Nat → Nat
  | 0 => 2
  | n + 1 => 3 * (PB n + 1)
def fm : List Th → Nat
  | [] => 2
  | t :: ts => 6 * deps (t :: ts) + 6
def docD : List Th → Dv
  | [.node n ts] => (Th.node n ts).dv
  | _ => .non
/-! ### the promises -/
abbrev S_law_deal : D2.Spec := ⟨List Int, fun ns => [.fro (ns.map Dv.int), .int 51], fun _ => [], fun ns => ns.length ≤ 63, fun _ d st => d = .ref 1 ∧ Dr [] st⟩
abbrev A_rule_for (C : Addr) (i : (List Ru × Str) × Str × Str) : List Dv := [tuD C i.1.1 i.1.2, .str i.2.1, .str i.2.2]
abbrev P_rule_for (_ : (List Ru × Str) × Str × Str) : Prop := True
abbrev R_rule_for (i : (List Ru × Str) × Str × Str) (d : Dv) : Prop := d = rulD (rule i.1.1 i.2.1 i.2.2)
abbrev A_made_of_text (i : List Pt × Str) : List Dv := [.tup (pdv i.1), .str i.2]
abbrev P_made_of_text (n : Nat) (i : List Pt × Str) : Prop := pdep i.1 < n ∧ pok true i.1 ∧ psize i.1 ≤ 1000
abbrev R_made_of_text (i : List Pt × Str) (d : Dv) : Prop := d = tups (fillP i.2 (fun _ => []) i.1)
abbrev A_made_by (C : Addr) (i : (List Ru × Str) × List Pt × List Th) : List Dv := [tuD C i.1.1 i.1.2, .tup (pdv i.2.1), .tup (dvs i.2.2)]
abbrev P_made_by (n : Nat) (i : (List Ru × Str) × List Pt × List Th) : Prop := 6 * deps i.2.2 + 5 + pdep i.2.1 < n ∧ RsOk i.1.1 ∧ (pok false i.2.1 ∧ oks i.2.2) ∧ sizes (fillP "" (trnF i.1.1 i.2.2) i.2.1) ≤ 100000
abbrev R_made_by (i : (List Ru × Str) × List Pt × List Th) (d : Dv) : Prop := d = tups (fillP "" (trnF i.1.1 i.2.2) i.2.1)
abbrev A_turned_thing (C : Addr) (i : (List Ru × Str) × Str × Th) : List Dv := [tuD C i.1.1 i.1.2, .str i.2.1, i.2.2.dv]
abbrev P_turned_thing (n : Nat) (i : (List Ru × Str) × Str × Th) : Prop := 6 * i.2.2.dep + 3 < n ∧ RsOk i.1.1 ∧ i.2.2.ok ∧ sizes (trnT i.1.1 i.2.2 i.2.1) ≤ 100000
abbrev R_turned_thing (i : (List Ru × Str) × Str × Th) (d : Dv) : Prop := d = tups (trnT i.1.1 i.2.2 i.2.1)
abbrev A_turned_forest (C : Addr) (i : (List Ru × Str) × Str × List Th) : List Dv := [tuD C i.1.1 i.1.2, .str i.2.1, .tup (dvs i.2.2)]
abbrev P_turned_forest (n : Nat) (i : (List Ru × Str) × Str × List Th) : Prop := 6 * deps i.2.2 + 4 < n ∧ RsOk i.1.1 ∧ oks i.2.2 ∧ sizes (trnF i.1.1 i.2.2 i.2.1) ≤ 100000
abbrev R_turned_forest (i : (List Ru × Str) × Str × List Th) (d : Dv) : Prop := d = tups (trnF i.1.1 i.2.2 i.2.1)
abbrev A_turned (C : Addr) (i : (List Ru × Str) × Th) : List Dv := [tuD C i.1.1 i.1.2, i.2.dv]
abbrev P_turned (i : (List Ru × Str) × Th) : Prop := 6 * i.2.dep + 3 < 60 ∧ RsOk i.1.1 ∧ i.2.ok ∧ sizes (trnT i.1.1 i.2 i.1.2) ≤ 100000
abbrev R_turned (i : (List Ru × Str) × Th) (d : Dv) : Prop := d = tups (trnT i.1.1 i.2 i.1.2)
abbrev A_made_document (C : Addr) (i : (List Ru × Str) × Th) : List Dv := [tuD C i.1.1 i.1.2, i.2.dv]
abbrev P_made_document (i : (List Ru × Str) × Th) : Prop := P_turned i
abbrev R_made_document (i : (List Ru × Str) × Th) (d : Dv) : Prop := d = docD (trnT i.1.1 i.2 i.1.2)
abbrev A_law_names (_ : Unit) : List Dv := []
abbrev P_law_names (_ : Sto) (_ : Unit) : Prop := True
abbrev R_law_names (_ : Unit) (d : Dv) : Prop := ∃ ns : List Str, NsOk ns ∧ ns.length ≤ 3 ∧ d = .rol (ns.map Dv.str)
/-- parts drawn: cells, the room's cell and what is left, modes, names, letter, how deep -/
abbrev S_law_parts (n : Nat) : D2.Spec := ⟨(Int × List Int × Sto) × (Nat × Nat) × List Str × List Str × Str × Nat,
  fun i => [.ref 1, .rol (i.2.2.1.map Dv.str), .rol (i.2.2.2.1.map Dv.str), .str i.2.2.2.2.1, nat i.2.2.2.2.2, .ref (i.2.1.1 + 2)], fun i => DSt i.1.1 i.1.2.1 i.1.2.2,
  fun i => i.2.2.2.2.2 < n ∧ okD i.1.1 i.1.2.1 ∧ CelN i.1.2.2 ∧ i.1.2.2[i.2.1.1]? = some (.lst [nat i.2.1.2]) ∧ (0 < i.2.2.1.length ∧ i.2.2.1.length ≤ 100) ∧ (0 < i.2.2.2.1.length ∧ i.2.2.2.1.length ≤ 100 ∧ ∀ s ∈ i.2.2.2.1, NmOk s) ∧ i.2.2.2.2.2 ≤ 2,
  fun i d st => ∃ (b : Int) (cs : List Int) (k : Nat) (ps : List Pt), okD b cs ∧ st = DSt b cs (i.1.2.2.set i.2.1.1 (.lst [nat k])) ∧ k + goes ps = i.2.1.2 ∧ pok (decide (i.2.2.2.2.1 = "")) ps ∧ pdep ps ≤ i.2.2.2.2.2 ∧ psize ps ≤ PB i.2.2.2.2.2 ∧ d = .tup (pdv ps)⟩
abbrev A_law_turning (ns : List Str) : List Dv := [.rol (ns.map Dv.str), .int 3, .int 2, .int 2]
abbrev P_law_turning (r : Sto) (ns : List Str) : Prop := r = [] ∧ NsOk ns ∧ ns.length ≤ 3
abbrev R_law_turning (_ : List Str) (d : Dv) : Prop := ∃ (rs : List Ru) (m : Str), RsOk rs ∧ (rs.map Ru.key).Nodup ∧ rs.length ≤ 12 ∧ m.length ≤ 2 ∧ (∀ r ∈ rs, r.mode.length ≤ 2) ∧ d = .tup [.tup (rs.map Ru.dv), .str m]
/-- a document drawn: cells, the room's cell and what is left, names, how deep -/
abbrev S_law_tree (n : Nat) : D2.Spec := ⟨(Int × List Int × Sto) × (Nat × Nat) × List Str × Nat,
  fun i => [.ref 1, .rol (i.2.2.1.map Dv.str), .ref (i.2.1.1 + 2), nat i.2.2.2], fun i => DSt i.1.1 i.1.2.1 i.1.2.2,
  fun i => i.2.2.2 < n ∧ okD i.1.1 i.1.2.1 ∧ CelN i.1.2.2 ∧ i.1.2.2[i.2.1.1]? = some (.lst [nat i.2.1.2]) ∧ 0 < i.2.1.2 ∧ (0 < i.2.2.1.length ∧ i.2.2.1.length ≤ 100 ∧ ∀ s ∈ i.2.2.1, NmOk s) ∧ i.2.2.2 ≤ 4,
  fun i d st => ∃ (b : Int) (cs : List Int) (k : Nat) (n : Str) (ts : List Th), okD b cs ∧ st = DSt b cs (i.1.2.2.set i.2.1.1 (.lst [nat k])) ∧ k + sizes ts + 1 = i.2.1.2 ∧ NmOk n ∧ oks ts ∧ deps ts ≤ i.2.2.2 ∧ d = (Th.node n ts).dv⟩
abbrev A_law_dict (rs : List Ru) : List Dv := [.tup (rs.map Ru.dv)]
abbrev P_law_dict (rs : List Ru) : Prop := (rs.map Ru.key).Nodup ∧ rs.length ≤ 30
abbrev R_law_dict (rs : List Ru) (d : Dv) : Prop := d = tbD rs
abbrev A_law_made (i : List Ru × Str × Th) : List Dv := [tbD i.1, .str i.2.1, i.2.2.dv]
abbrev P_law_made (n : Nat) (i : List Ru × Str × Th) : Prop := 6 * i.2.2.dep + 5 < n ∧ RsOk i.1 ∧ i.2.2.ok ∧ sizes (trnT i.1 i.2.2 i.2.1) ≤ 100000
abbrev R_law_made (i : List Ru × Str × Th) (d : Dv) : Prop := d = tups (trnT i.1 i.2.2 i.2.1)
abbrev A_law_filled (i : List Ru × List Pt × Str × List Th) : List Dv := [tbD i.1, .tup (pdv i.2.1), .str i.2.2.1, .tup (dvs i.2.2.2)]
abbrev P_law_filled (n : Nat) (i : List Ru × List Pt × Str × List Th) : Prop := fm i.2.2.2 + pdep i.2.1 < n ∧ RsOk i.1 ∧ oks i.2.2.2 ∧ sizes (fillP i.2.2.1 (trnF i.1 i.2.2.2) i.2.1) ≤ 100000
abbrev R_law_filled (i : List Ru × List Pt × Str × List Th) (d : Dv) : Prop := d = tups (fillP i.2.2.1 (trnF i.1 i.2.2.2) i.2.1)
section
variable (C : Addr) (n : Nat)
abbrev Wrule_for : DTS :=
  (wSeq (wFor (wIt (wFld C "rules" (wVar 0))) (.one 3) (wIf (wAnd (wB (w2 (gEq false) (w2 gIx (wVar 3) (wC (.int 0))) (wVar 1))) (wB (w2 (gEq false) (w2 gIx (wVar 3) (wC (.int 1))) (wVar 2)))) (wRet (w2 gIx (wVar 3) (wC (.int 2)))) wNext))
  (wRet (wC .non)))
abbrev Nrule_for : List Str := ["turning", "mode", "letter", "rule"]
abbrev Wmade_of_text : DTS :=
  (wSeq (wSet 2 (wTup wNil))
  (wSeq (wFor (wIt (wVar 0)) (.one 3) (wIf (wB (w2 (gEq false) (w2 gIx (wVar 3) (wC (.int 0))) (wC (.str "node")))) (wAugT 2 (wTup (wCons (wTup (wCons (w2 gIx (wVar 3) (wC (.int 1))) (wCons (wFn K51.A_made_of_text (K51.P_made_of_text n) K51.R_made_of_text (wCons (w2 gIx (wVar 3) (wC (.int 2))) (wCons (wVar 1) wNil))) wNil))) wNil))) (wAugT 2 (wTup (wCons (wIfE (wB (w2 (gEq false) (w2 gIx (wVar 3) (wC (.int 0))) (wC (.str "keep")))) (wVar 1) (w2 gIx (wVar 3) (wC (.int 1)))) wNil)))))
  (wRet (wVar 2))))
abbrev Nmade_of_text : List Str := ["parts", "text", "found", "part"]
abbrev Wmade_by : DTS :=
  (wSeq (wSet 3 (wTup wNil))
  (wSeq (wFor (wIt (wVar 1)) (.one 4) (wIf (wB (w2 (gEq false) (w2 gIx (wVar 4) (wC (.int 0))) (wC (.str "node")))) (wAugT 3 (wTup (wCons (wTup (wCons (w2 gIx (wVar 4) (wC (.int 1))) (wCons (wFn (K51.A_made_by C) (K51.P_made_by n) K51.R_made_by (wCons (wVar 0) (wCons (w2 gIx (wVar 4) (wC (.int 2))) (wCons (wVar 2) wNil)))) wNil))) wNil))) (wIf (wB (w2 (gEq false) (w2 gIx (wVar 4) (wC (.int 0))) (wC (.str "say")))) (wAugT 3 (wTup (wCons (w2 gIx (wVar 4) (wC (.int 1))) wNil))) (wAugT 3 (wFn (K51.A_turned_forest C) (K51.P_turned_forest n) K51.R_turned_forest (wCons (wVar 0) (wCons (w2 gIx (wVar 4) (wC (.int 1))) (wCons (wVar 2) wNil))))))))
  (wRet (wVar 3))))
abbrev Nmade_by : List Str := ["turning", "parts", "things", "found", "part"]
abbrev Wturned_thing : DTS :=
  (wSeq (wIf (wTru (wIsi .str (wVar 2))) (wRet (wFn K51.A_made_of_text (K51.P_made_of_text n) K51.R_made_of_text (wCons (wOrX (wFn (K51.A_rule_for C) K51.P_rule_for K51.R_rule_for (wCons (wVar 0) (wCons (wVar 1) (wCons (wC (.str "")) wNil)))) (wTup wNil)) (wCons (wVar 2) wNil)))) wNext)
  (wSeq (wSet 3 (wFn (K51.A_rule_for C) K51.P_rule_for K51.R_rule_for (wCons (wVar 0) (wCons (wVar 1) (wCons (w2 gIx (wVar 2) (wC (.int 0))) wNil)))))
  (wSeq (wIf (wB (w2 (gIs false) (wVar 3) (wC .non))) (wRet (wFn (K51.A_turned_forest C) (K51.P_turned_forest n) K51.R_turned_forest (wCons (wVar 0) (wCons (wVar 1) (wCons (w2 gIx (wVar 2) (wC (.int 1))) wNil))))) wNext)
  (wRet (wFn (K51.A_made_by C) (K51.P_made_by n) K51.R_made_by (wCons (wVar 0) (wCons (wVar 3) (wCons (w2 gIx (wVar 2) (wC (.int 1))) wNil))))))))
abbrev Nturned_thing : List Str := ["turning", "mode", "thing", "parts"]
abbrev Wturned_forest : DTS :=
  (wSeq (wSet 3 (wTup wNil))
  (wSeq (wFor (wIt (wVar 2)) (.one 4) (wAugT 3 (wFn (K51.A_turned_thing C) (K51.P_turned_thing n) K51.R_turned_thing (wCons (wVar 0) (wCons (wVar 1) (wCons (wVar 4) wNil))))))
  (wRet (wVar 3))))
abbrev Nturned_forest : List Str := ["turning", "mode", "forest", "found", "thing"]
abbrev Wturned : DTS :=
  (wRet (wFn (K51.A_turned_thing C) (K51.P_turned_thing n) K51.R_turned_thing (wCons (wVar 0) (wCons (wFld C "mode" (wVar 0)) (wCons (wVar 1) wNil)))))
abbrev Nturned : List Str := ["turning", "node"]
abbrev Wmade_document : DTS :=
  (wSeq (wSet 2 (wFn (K51.A_turned C) K51.P_turned K51.R_turned (wCons (wVar 0) (wCons (wVar 1) wNil))))
  (wRet (wIfE (wAnd (wB (w2 (gEq false) (wCB (g1 gLen) (wCons (wVar 2) wNil)) (wC (.int 1)))) (wTru (wIsi .tuple (w2 gIx (wVar 2) (wC (.int 0)))))) (w2 gIx (wVar 2) (wC (.int 0))) (wC .non))))
abbrev Nmade_document : List Str := ["turning", "node", "made"]
abbrev W_law_deal : DTS :=
  (wSeq (wSet 2 (wRl (wLc (wIt (wRl (wSlN (wVar 0) wNo (wPt (wC (.int 63)))))) (.one 3) wYes (wCB (g1 gAbs) (wCons (wCB (g1 gInt) (wCons (wVar 3) wNil)) wNil)) [3])))
  (wSeq (wSet 4 (w2 gAdd (w2 gMul (wC (.int 51869)) (wVar 1)) (wC (.int 977))))
  (wSeq (wFor (wIt (wVar 2)) (.one 3) (wSet 4 (w2 (gI (fun _ j => 0 < j) fun a b => a % b) (wCB (g1 gInt) (wCons (w2 gAdd (w2 gAdd (w2 gMul (wVar 4) (wC (.int 48271))) (w2 (gI (fun _ j => 0 < j) fun a b => a % b) (wVar 3) (wC (.int 2147483563)))) (wC (.int 67))) wNil)) (wC (.int 2147483647)))))
  (wRet (wCel (wCons (wCl (wRevN (wRl (wLc (wIt (wVar 2)) (.one 3) (wB (w2 (gB fun a b => decide (b ≤ a)) (wVar 3) (w2 (gI CPow fun a b => a ^ b.toNat) (wC (.int 10)) (wC (.int 18))))) (wVar 3) [3])))) (wCons (wVar 4) wNil)))))))
abbrev N_law_deal : List Str := ["script", "base", "cells", "cell", "mix"]
abbrev W_law_any : DTS :=
  (wSeq (wWhile (wAnd (wB (w2 (gEq true) (w2 gIx (wVar 0) (wC (.int 0))) (wRol wNil))) (wB (w2 (gEq false) (w2 gIx (w2 gIx (wVar 0) (wC (.int 0))) (wNeg (wC (.int 1)))) (wC (.int 0))))) (wDrop (wPop (w2 gIx (wVar 0) (wC (.int 0))))))
  (wSeq (wIf (wB (w2 (gEq true) (w2 gIx (wVar 0) (wC (.int 0))) (wRol wNil))) (wSeq (wSet 2 (wCB (g1 gInt) (wCons (wPop (w2 gIx (wVar 0) (wC (.int 0)))) wNil)))
  (wSeq (wDrop (wApp (w2 gIx (wVar 0) (wC (.int 0))) (w2 (gI CDiv fun a b => a / b) (wVar 2) (wVar 1))))
  (wRet (w2 (gI (fun _ j => 0 < j) fun a b => a % b) (wVar 2) (wVar 1))))) wNext)
  (wSeq (wSto (w2 (gI (fun _ j => 0 < j) fun a b => a % b) (wCB (g1 gInt) (wCons (w2 gAdd (w2 gMul (w2 gIx (wVar 0) (wC (.int 1))) (wC (.int 48271))) (wC (.int 89))) wNil)) (wC (.int 2147483647))) (wVar 0) (wC (.int 1)))
  (wRet (w2 (gI (fun _ j => 0 < j) fun a b => a % b) (wCB (g1 gInt) (wCons (w2 (gI CDiv fun a b => a / b) (w2 gIx (wVar 0) (wC (.int 1))) (wC (.int 64))) wNil)) (wVar 1))))))
abbrev N_law_any : List Str := ["deal", "bound", "rest"]
abbrev W_law_names : DTS :=
  (wRet (wDr D2.A_law_of D2.P_law_of D2.R_law_of (wCons (wVar 0) (wCons (wRol (wCons (wRol (wCons (wC (.str "x")) wNil)) (wCons (wRol (wCons (wC (.str "x")) (wCons (wC (.str "y")) wNil))) (wCons (wRol (wCons (wC (.str "x")) (wCons (wC (.str "y")) (wCons (wC (.str "z")) wNil)))) (wCons (wRol (wCons (wC (.str "p")) (wCons (wC (.str "pa")) (wCons (wC (.str "pb")) wNil)))) wNil))))) wNil))))
abbrev N_law_names : List Str := ["deal"]
abbrev W_law_parts : DTS :=
  (wSeq (wSet 6 (wCel wNil))
  (wSeq (wFor (wRng1 (wCons (wDr D2.A_law_any D2.P_law_any D2.R_law_any (wCons (wVar 0) (wCons (wIfE (wB (w2 (gB fun a b => decide (b < a)) (wVar 4) (wC (.int 0)))) (wC (.int 4)) (wC (.int 3))) wNil))) wNil)) (.one 7) (wSeq (wSet 8 (wDr D2.A_law_any D2.P_law_any D2.R_law_any (wCons (wVar 0) (wCons (wC (.int 6)) wNil))))
  (wIf (wAnd (wB (w2 (gB fun a b => decide (a < b)) (wVar 8) (wC (.int 2)))) (wB (w2 (gB fun a b => decide (b < a)) (wVar 4) (wC (.int 0))))) (wDrop (wApp (wVar 6) (wTup (wCons (wC (.str "node")) (wCons (wDr D2.A_law_of D2.P_law_of D2.R_law_of (wCons (wVar 0) (wCons (wVar 2) wNil))) (wCons (wCall (K51.S_law_parts n) (wCons (wVar 0) (wCons (wVar 1) (wCons (wVar 2) (wCons (wVar 3) (wCons (w2 (gI (fun _ _ => True) fun a b => a - b) (wVar 4) (wC (.int 1))) (wCons (wVar 5) wNil))))))) wNil)))))) (wIf (wOr (wB (w2 (gEq false) (wVar 8) (wC (.int 2)))) (wB (w2 (gEq false) (w2 gIx (wVar 5) (wC (.int 0))) (wC (.int 0))))) (wDrop (wApp (wVar 6) (wTup (wCons (wC (.str "say")) (wCons (wDr D2.A_law_of D2.P_law_of D2.R_law_of (wCons (wVar 0) (wCons (wRol (wCons (wC (.str "")) (wCons (wC (.str "s")) (wCons (wC (.str "x 1")) wNil)))) wNil))) wNil))))) (wIf (wB (w2 (gEq false) (wVar 3) (wC (.str "")))) (wDrop (wApp (wVar 6) (wTup (wCons (wC (.str "keep")) wNil)))) (wSeq (wSto (w2 (gI (fun _ _ => True) fun a b => a - b) (w2 gIx (wVar 5) (wC (.int 0))) (wC (.int 1))) (wVar 5) (wC (.int 0)))
  (wDrop (wApp (wVar 6) (wTup (wCons (wC (.str "go")) (wCons (wDr D2.A_law_of D2.P_law_of D2.R_law_of (wCons (wVar 0) (wCons (wVar 1) wNil))) wNil)))))))))))
  (wRet (wCB (g1 gTuple) (wCons (wVar 6) wNil)))))
abbrev N_law_parts : List Str := ["deal", "modes", "names", "letter", "deep", "room", "found", "turn", "sort"]
abbrev W_law_turning : DTS :=
  (wSeq (wSet 5 (wRl (wSlN (wDr D2.A_law_of D2.P_law_of D2.R_law_of (wCons (wVar 0) (wCons (wRol (wCons (wRol (wCons (wC (.str "a")) (wCons (wC (.str "b")) (wCons (wC (.str "c")) wNil)))) (wCons (wRol (wCons (wC (.str "k")) (wCons (wC (.str "ka")) (wCons (wC (.str "kb")) wNil)))) (wCons (wRol (wCons (wC (.str "m")) (wCons (wC (.str "n")) (wCons (wC (.str "nn")) wNil)))) wNil)))) wNil))) wNo (wPt (w2 gAdd (wC (.int 1)) (wDr D2.A_law_any D2.P_law_any D2.R_law_any (wCons (wVar 0) (wCons (wVar 2) wNil))))))))
  (wSeq (wSet 6 (wCel wNil))
  (wSeq (wFor (wIt (wVar 5)) (.one 7) (wFor (wIt (w2 gAdd (wRol (wCons (wC (.str "")) wNil)) (wVar 1))) (.one 8) (wIf (wB (w2 (gB fun a b => decide (b < a)) (wDr D2.A_law_any D2.P_law_any D2.R_law_any (wCons (wVar 0) (wCons (wC (.int 4)) wNil))) (wC (.int 0)))) (wDrop (wApp (wVar 6) (wTup (wCons (wVar 7) (wCons (wVar 8) (wCons (wCall (K51.S_law_parts n) (wCons (wVar 0) (wCons (wVar 5) (wCons (w2 gAdd (wVar 1) (wRol (wCons (wC (.str "w")) wNil))) (wCons (wVar 8) (wCons (wVar 4) (wCons (wCel (wCons (wVar 3) wNil)) wNil))))))) wNil)))))) wNext)))
  (wRet (wTup (wCons (wCB (g1 gTuple) (wCons (wVar 6) wNil)) (wCons (wDr D2.A_law_of D2.P_law_of D2.R_law_of (wCons (wVar 0) (wCons (wVar 5) wNil))) wNil)))))))
abbrev N_law_turning : List Str := ["deal", "names", "most", "goes", "deep", "modes", "rules", "mode", "letter"]
abbrev W_law_tree : DTS :=
  (wSeq (wSto (w2 (gI (fun _ _ => True) fun a b => a - b) (w2 gIx (wVar 2) (wC (.int 0))) (wC (.int 1))) (wVar 2) (wC (.int 0)))
  (wSeq (wSet 4 (wCel wNil))
  (wSeq (wFor (wRng1 (wCons (wIfE (wB (w2 (gB fun a b => decide (b < a)) (wVar 3) (wC (.int 0)))) (wDr D2.A_law_any D2.P_law_any D2.R_law_any (wCons (wVar 0) (wCons (wC (.int 4)) wNil))) (wC (.int 0))) wNil)) (.one 5) (wIf (wAnd (wB (w2 (gB fun a b => decide (b < a)) (w2 gIx (wVar 2) (wC (.int 0))) (wC (.int 0)))) (wB (w2 (gEq false) (wDr D2.A_law_any D2.P_law_any D2.R_law_any (wCons (wVar 0) (wCons (wC (.int 3)) wNil))) (wC (.int 0))))) (wSeq (wSto (w2 (gI (fun _ _ => True) fun a b => a - b) (w2 gIx (wVar 2) (wC (.int 0))) (wC (.int 1))) (wVar 2) (wC (.int 0)))
  (wDrop (wApp (wVar 4) (wDr D2.A_law_of D2.P_law_of D2.R_law_of (wCons (wVar 0) (wCons (wRol (wCons (wC (.str "")) (wCons (wC (.str "t")) (wCons (wC (.str "b 2")) wNil)))) wNil)))))) (wIf (wB (w2 (gB fun a b => decide (b < a)) (w2 gIx (wVar 2) (wC (.int 0))) (wC (.int 0)))) (wDrop (wApp (wVar 4) (wCall (K51.S_law_tree n) (wCons (wVar 0) (wCons (wVar 1) (wCons (wVar 2) (wCons (w2 (gI (fun _ _ => True) fun a b => a - b) (wVar 3) (wC (.int 1))) wNil))))))) wNext)))
  (wRet (wTup (wCons (wDr D2.A_law_of D2.P_law_of D2.R_law_of (wCons (wVar 0) (wCons (wVar 1) wNil))) (wCons (wCB (g1 gTuple) (wCons (wVar 4) wNil)) wNil)))))))
abbrev N_law_tree : List Str := ["deal", "names", "room", "deep", "things", "turn"]
abbrev W_law_dict : DTS :=
  (wRet (wCB (g1 gDicP) (wCons (wRl (wLc (wIt (wVar 0)) (.many [1, 2, 3]) wYes (wTup (wCons (wTuk (wCons (wVar 1) (wCons (wVar 2) wNil))) (wCons (wVar 3) wNil))) [1, 2, 3])) wNil)))
abbrev N_law_dict : List Str := ["rules", "mode", "letter", "parts"]
abbrev W_law_made : DTS :=
  (wSeq (wIf (wTru (wIsi .str (wVar 2))) (wRet (wFn K51.A_law_filled (K51.P_law_filled n) K51.R_law_filled (wCons (wVar 0) (wCons (wDgt (wVar 0) (wTuk (wCons (wVar 1) (wCons (wC (.str "")) wNil))) (wTup wNil)) (wCons (wVar 2) (wCons (wTup wNil) wNil)))))) wNext)
  (wRet (wFn K51.A_law_filled (K51.P_law_filled n) K51.R_law_filled (wCons (wVar 0) (wCons (wDgt (wVar 0) (wTuk (wCons (wVar 1) (wCons (w2 gIx (wVar 2) (wC (.int 0))) wNil))) (wTup (wCons (wTup (wCons (wC (.str "go")) (wCons (wVar 1) wNil))) wNil))) (wCons (wC (.str "")) (wCons (w2 gIx (wVar 2) (wC (.int 1))) wNil)))))))
abbrev N_law_made : List Str := ["rules", "mode", "thing"]
abbrev W_law_filled : DTS :=
  (wSeq (wSet 4 (wCel wNil))
  (wSeq (wFor (wIt (wVar 1)) (.one 5) (wIf (wB (w2 (gEq false) (w2 gIx (wVar 5) (wC (.int 0))) (wC (.str "node")))) (wDrop (wApp (wVar 4) (wTup (wCons (w2 gIx (wVar 5) (wC (.int 1))) (wCons (wFn K51.A_law_filled (K51.P_law_filled n) K51.R_law_filled (wCons (wVar 0) (wCons (w2 gIx (wVar 5) (wC (.int 2))) (wCons (wVar 2) (wCons (wVar 3) wNil))))) wNil))))) (wIf (wB (w2 (gEq false) (w2 gIx (wVar 5) (wC (.int 0))) (wC (.str "go")))) (wFor (wIt (wVar 3)) (.one 6) (wSet 4 (wCl (wCatN (wVar 4) (wRl (wCN (n1 fun x st Q => ∃ xs, seqD st x = some xs ∧ Q xs st) (wCons (wFn K51.A_law_made (K51.P_law_made n) K51.R_law_made (wCons (wVar 0) (wCons (w2 gIx (wVar 5) (wC (.int 1))) (wCons (wVar 6) wNil)))) wNil))))))) (wDrop (wApp (wVar 4) (wIfE (wB (w2 (gEq false) (w2 gIx (wVar 5) (wC (.int 0))) (wC (.str "keep")))) (wVar 2) (w2 gIx (wVar 5) (wC (.int 1)))))))))
  (wRet (wCB (g1 gTuple) (wCons (wVar 4) wNil)))))
abbrev N_law_filled : List Str := ["rules", "parts", "text", "things", "found", "part", "thing"]
abbrev Wlaw : DTS :=
  (wSeq (wSet 1 (wCall K51.S_law_deal (wCons (wVar 0) (wCons (wC (.int 51)) wNil))))
  (wSeq (wSet 2 (wDr K51.A_law_names K51.P_law_names K51.R_law_names (wCons (wVar 1) wNil)))
  (wSeq (wAsgT (.many [3, 4]) (wDr K51.A_law_turning K51.P_law_turning K51.R_law_turning (wCons (wVar 1) (wCons (wVar 2) (wCons (wC (.int 3)) (wCons (wC (.int 2)) (wCons (wC (.int 2)) wNil)))))))
  (wSeq (wPar3 5 6 7 (wMake C ["rules", "mode"] (wCons (wVar 3) (wCons (wVar 4) wNil))) (wFn K51.A_law_dict K51.P_law_dict K51.R_law_dict (wCons (wVar 3) wNil)) (wRl (wSS (w2 gAdd (wRl (wLc (wIt (wVar 3)) (.one 8) wYes (w2 gIx (wVar 8) (wC (.int 0))) [8])) (wRol (wCons (wVar 4) (wCons (wC (.str "zz")) wNil)))))))
  (wSeq (wFor (wRng1 (wCons (wC (.int 3)) wNil)) (.one 9) (wSeq (wSet 10 (wCall (K51.S_law_tree n) (wCons (wVar 1) (wCons (w2 gAdd (wVar 2) (wRol (wCons (wC (.str "q")) wNil))) (wCons (wCel (wCons (wDr D2.A_law_of D2.P_law_of D2.R_law_of (wCons (wVar 1) (wCons (wRol (wCons (wC (.int 9)) (wCons (wC (.int 9)) (wCons (wC (.int 14)) wNil)))) wNil))) wNil)) (wCons (wC (.int 4)) wNil))))))
  (wSeq (wSet 11 (wFn K51.A_law_made (K51.P_law_made n) K51.R_law_made (wCons (wVar 6) (wCons (wVar 4) (wCons (wVar 10) wNil)))))
  (wSeq (wIf (wB (w2 (gEq true) (wCB (g1 gRepr) (wCons (wFn (K51.A_turned C) K51.P_turned K51.R_turned (wOrd 0 2 (ordL [0, 1]) wNil (wCons (wVar 5) (wCons (wVar 10) wNil)))) wNil)) (wCB (g1 gRepr) (wCons (wVar 11) wNil)))) (wRet (wC (.bl false))) wNext)
  (wSeq (wSet 12 (wAndV (w2 (gEq false) (wCB (g1 gLen) (wCons (wVar 11) wNil)) (wC (.int 1))) (wNotV (wIsi .str (w2 gIx (wVar 11) (wC (.int 0)))))))
  (wSeq (wIf (wB (w2 (gEq true) (wCB (g1 gRepr) (wCons (wFn (K51.A_made_document C) K51.P_made_document K51.R_made_document (wOrd 0 2 (ordL [0, 1]) wNil (wCons (wVar 5) (wCons (wVar 10) wNil)))) wNil)) (wCB (g1 gRepr) (wCons (wIfE (wTru (wVar 12)) (w2 gIx (wVar 11) (wC (.int 0))) (wC .non)) wNil)))) (wRet (wC (.bl false))) wNext)
  (wSeq (wPar 13 14 (wDr D2.A_law_of D2.P_law_of D2.R_law_of (wCons (wVar 1) (wCons (wVar 7) wNil))) (wDr D2.A_law_any D2.P_law_any D2.R_law_any (wCons (wVar 1) (wCons (w2 gAdd (wCB (g1 gLen) (wCons (w2 gIx (wVar 10) (wC (.int 1))) wNil)) (wC (.int 1))) wNil))))
  (wSeq (wPar 15 16 (w2 gIx (wVar 10) (wC (.int 1))) (wTup wNil))
  (wSeq (wFor (wIt (wVar 15)) (.one 17) (wSet 16 (w2 gAdd (wVar 16) (wFn K51.A_law_made (K51.P_law_made n) K51.R_law_made (wCons (wVar 6) (wCons (wVar 13) (wCons (wVar 17) wNil)))))))
  (wSeq (wIf (wB (w2 (gEq true) (wCB (g1 gRepr) (wCons (wFn (K51.A_turned_forest C) (K51.P_turned_forest n) K51.R_turned_forest (wOrd 0 3 (ordL [0, 1, 2]) wNil (wCons (wVar 5) (wCons (wVar 13) (wCons (wVar 15) wNil))))) wNil)) (wCB (g1 gRepr) (wCons (wVar 16) wNil)))) (wRet (wC (.bl false))) wNext)
  (wSeq (wIf (wB (w2 (gEq true) (w2 gAdd (wFn (K51.A_turned_forest C) (K51.P_turned_forest n) K51.R_turned_forest (wCons (wVar 5) (wCons (wVar 13) (wCons (wSl (wVar 15) wNo (wPt (wVar 14))) wNil)))) (wFn (K51.A_turned_forest C) (K51.P_turned_forest n) K51.R_turned_forest (wCons (wVar 5) (wCons (wVar 13) (wCons (wSl (wVar 15) (wPt (wVar 14)) wNo) wNil))))) (wVar 16))) (wRet (wC (.bl false))) wNext)
  (wSeq (wSet 18 (wCall (K51.S_law_parts n) (wCons (wVar 1) (wCons (wVar 7) (wCons (wVar 2) (wCons (wC (.str "x")) (wCons (wC (.int 2)) (wCons (wCel (wCons (wC (.int 2)) wNil)) wNil))))))))
  (wIf (wB (w2 (gEq true) (wCB (g1 gRepr) (wCons (wFn (K51.A_made_by C) (K51.P_made_by n) K51.R_made_by (wOrd 0 3 (ordL [0, 1, 2]) wNil (wCons (wVar 5) (wCons (wVar 18) (wCons (wVar 15) wNil))))) wNil)) (wCB (g1 gRepr) (wCons (wFn K51.A_law_filled (K51.P_law_filled n) K51.R_law_filled (wCons (wVar 6) (wCons (wVar 18) (wCons (wC (.str "")) (wCons (wVar 15) wNil))))) wNil)))) (wRet (wC (.bl false))) wNext)))))))))))))
  (wRet (w2 (gEq false) (wFn (K51.A_turned_forest C) (K51.P_turned_forest n) K51.R_turned_forest (wCons (wVar 5) (wCons (wVar 4) (wCons (wTup wNil) wNil)))) (wTup wNil))))))))
abbrev Nlaw : List Str := ["script", "deal", "names", "rules", "mode", "turning", "table", "modes", "rule", "turn", "node", "due", "good", "other", "cut", "forest", "made", "thing", "parts"]
end
end K51

namespace K51
open PySem PySem.Spec PyProof.Rows L2 D2 K02
def topS (i : Nat) : Stmt := PySem.Challenge.pw_turnsfit_k51_whole_what_turnings_make.main.body.getD i (.Pass ⟨0, 0, 0, 0⟩)
abbrev srule_for : Stmt := topS 2
theorem scrule_for : FnScope ["turning", "mode", "letter", "rule"] ["turning", "mode", "letter"] (defScope srule_for) := ⟨rfl, rfl, rfl, by decide +kernel, rfl, by decide +kernel, by decide +kernel⟩
abbrev smade_of_text : Stmt := topS 3
theorem scmade_of_text : FnScope ["parts", "text", "found", "part"] ["parts", "text"] (defScope smade_of_text) := ⟨rfl, rfl, rfl, by decide +kernel, rfl, by decide +kernel, by decide +kernel⟩
abbrev smade_by : Stmt := topS 4
theorem scmade_by : FnScope ["turning", "parts", "things", "found", "part"] ["turning", "parts", "things"] (defScope smade_by) := ⟨rfl, rfl, rfl, by decide +kernel, rfl, by decide +kernel, by decide +kernel⟩
abbrev sturned_thing : Stmt := topS 5
theorem scturned_thing : FnScope ["turning", "mode", "thing", "parts"] ["turning", "mode", "thing"] (defScope sturned_thing) := ⟨rfl, rfl, rfl, by decide +kernel, rfl, by decide +kernel, by decide +kernel⟩
abbrev sturned_forest : Stmt := topS 6
theorem scturned_forest : FnScope ["turning", "mode", "forest", "found", "thing"] ["turning", "mode", "forest"] (defScope sturned_forest) := ⟨rfl, rfl, rfl, by decide +kernel, rfl, by decide +kernel, by decide +kernel⟩
abbrev sturned : Stmt := topS 7
theorem scturned : FnScope ["turning", "node"] ["turning", "node"] (defScope sturned) := ⟨rfl, rfl, rfl, by decide +kernel, rfl, by decide +kernel, by decide +kernel⟩
abbrev smade_document : Stmt := topS 8
theorem scmade_document : FnScope ["turning", "node", "made"] ["turning", "node"] (defScope smade_document) := ⟨rfl, rfl, rfl, by decide +kernel, rfl, by decide +kernel, by decide +kernel⟩
abbrev s_law_deal : Stmt := topS 10
theorem sc_law_deal : FnScope ["script", "base", "cells", "cell", "mix"] ["script", "base"] (defScope s_law_deal) := ⟨rfl, rfl, rfl, by decide +kernel, rfl, by decide +kernel, by decide +kernel⟩
abbrev s_law_any : Stmt := topS 11
theorem sc_law_any : FnScope ["deal", "bound", "rest"] ["deal", "bound"] (defScope s_law_any) := ⟨rfl, rfl, rfl, by decide +kernel, rfl, by decide +kernel, by decide +kernel⟩
abbrev s_law_of : Stmt := topS 12
theorem sc_law_of : FnScope ["deal", "some"] ["deal", "some"] (defScope s_law_of) := ⟨rfl, rfl, rfl, by decide +kernel, rfl, by decide +kernel, by decide +kernel⟩
abbrev s_law_names : Stmt := topS 13
theorem sc_law_names : FnScope ["deal"] ["deal"] (defScope s_law_names) := ⟨rfl, rfl, rfl, by decide +kernel, rfl, by decide +kernel, by decide +kernel⟩
abbrev s_law_parts : Stmt := topS 14
theorem sc_law_parts : FnScope ["deal", "modes", "names", "letter", "deep", "room", "found", "turn", "sort"] ["deal", "modes", "names", "letter", "deep", "room"] (defScope s_law_parts) := ⟨rfl, rfl, rfl, by decide +kernel, rfl, by decide +kernel, by decide +kernel⟩
abbrev s_law_turning : Stmt := topS 15
theorem sc_law_turning : FnScope ["deal", "names", "most", "goes", "deep", "modes", "rules", "mode", "letter"] ["deal", "names", "most", "goes", "deep"] (defScope s_law_turning) := ⟨rfl, rfl, rfl, by decide +kernel, rfl, by decide +kernel, by decide +kernel⟩
abbrev s_law_tree : Stmt := topS 16
theorem sc_law_tree : FnScope ["deal", "names", "room", "deep", "things", "turn"] ["deal", "names", "room", "deep"] (defScope s_law_tree) := ⟨rfl, rfl, rfl, by decide +kernel, rfl, by decide +kernel, by decide +kernel⟩
abbrev s_law_dict : Stmt := topS 17
theorem sc_law_dict : FnScope ["rules", "mode", "letter", "parts"] ["rules"] (defScope s_law_dict) := ⟨rfl, rfl, rfl, by decide +kernel, rfl, by decide +kernel, by decide +kernel⟩
abbrev s_law_made : Stmt := topS 18
theorem sc_law_made : FnScope ["rules", "mode", "thing"] ["rules", "mode", "thing"] (defScope s_law_made) := ⟨rfl, rfl, rfl, by decide +kernel, rfl, by decide +kernel, by decide +kernel⟩
abbrev s_law_filled : Stmt := topS 19
theorem sc_law_filled : FnScope ["rules", "parts", "text", "things", "found", "part", "thing"] ["rules", "parts", "text", "things"] (defScope s_law_filled) := ⟨rfl, rfl, rfl, by decide +kernel, rfl, by decide +kernel, by decide +kernel⟩
abbrev slaw : Stmt := topS 20
theorem sclaw : FnScope ["script", "deal", "names", "rules", "mode", "turning", "table", "modes", "rule", "turn", "node", "due", "good", "other", "cut", "forest", "made", "thing", "parts"] ["script"] (defScope slaw) := ⟨rfl, rfl, rfl, by decide +kernel, rfl, by decide +kernel, by decide +kernel⟩
abbrev sInit : Stmt := inClass (topS 1) 0
structure Txt (P : Program) (K : PySem.W.Frag) (mg : Str → Option Value) (C : Addr) where
  rule_for : Fn1 K mg "rule_for" srule_for ["turning", "mode", "letter"]
  made_of_text : Fn1 K mg "made_of_text" smade_of_text ["parts", "text"]
  made_by : Fn1 K mg "made_by" smade_by ["turning", "parts", "things"]
  turned_thing : Fn1 K mg "turned_thing" sturned_thing ["turning", "mode", "thing"]
  turned_forest : Fn1 K mg "turned_forest" sturned_forest ["turning", "mode", "forest"]
  turned : Fn1 K mg "turned" sturned ["turning", "node"]
  made_document : Fn1 K mg "made_document" smade_document ["turning", "node"]
  _law_deal : Fn1 K mg "_law_deal" s_law_deal ["script", "base"]
  _law_any : Fn1 K mg "_law_any" s_law_any ["deal", "bound"]
  _law_of : Fn1 K mg "_law_of" s_law_of ["deal", "some"]
  _law_names : Fn1 K mg "_law_names" s_law_names ["deal"]
  _law_parts : Fn1 K mg "_law_parts" s_law_parts ["deal", "modes", "names", "letter", "deep", "room"]
  _law_turning : Fn1 K mg "_law_turning" s_law_turning ["deal", "names", "most", "goes", "deep"]
  _law_tree : Fn1 K mg "_law_tree" s_law_tree ["deal", "names", "room", "deep"]
  _law_dict : Fn1 K mg "_law_dict" s_law_dict ["rules"]
  _law_made : Fn1 K mg "_law_made" s_law_made ["rules", "mode", "thing"]
  _law_filled : Fn1 K mg "_law_filled" s_law_filled ["rules", "parts", "text", "things"]
  law : Fn1 K mg "law" slaw ["script"]
  n_range : mg "range" = none
  n_len : mg "len" = none
  n_abs : mg "abs" = none
  n_int : mg "int" = none
  n_tuple : mg "tuple" = none
  n_repr : mg "repr" = none
  n_isinstance : mg "isinstance" = none
  n_str : mg "str" = none
  n_list : mg "list" = none
  n_sorted : mg "sorted" = none
  n_dict : mg "dict" = none
  n_set : mg "set" = none
  cls : Cls K C
  mgC : mg "Turning" = some (.ref C)
  fI : Addr
  dI : FuncData
  FI : Fun K "__init__" "Turning.__init__" sInit fI dI
  b_init : Binds K dI ["self", "rules", "mode"] []
  mkC : Mk K C fI
  no_rules : NoAttr K C "rules"
  no_mode : NoAttr K C "mode"
section
variable {P : Program} {w : World} {K : PySem.W.Frag} {mg : Str → Option Value} {base : Heap} {C : Addr}
theorem wrule_for (t : Txt P K mg C) {n k : Nat} (p : PL K51.Nrule_for (K51.Wrule_for C) (D2.Spec.fn (K51.A_rule_for C) K51.P_rule_for K51.R_rule_for)) : DFn P w K mg base (k + 1) t.rule_for.f t.rule_for.fd ["turning", "mode", "letter"] (D2.Spec.fn (K51.A_rule_for C) K51.P_rule_for K51.R_rule_for) := by
  refine dfn_of t.rule_for.F scrule_for (fun i h => rfl) fun cdv A outer s H E hg hr => ⟨_, ?_, p⟩
  have hu := hr.units
  have hu1 := Nat.lt_of_le_of_lt (Nat.add_le_add_left (show 1 ≤ 64 by decide) _) hu
  have hu3 := Nat.lt_of_le_of_lt (Nat.add_le_add_left (show 3 ≤ 64 by decide) _) hu
  have sc := scrule_for
  exact ((dss_cons (ds_for (t := (.one 3)) PassesOwn.never rfl (di_any (de_fld t.cls t.no_rules (de_var 0))) (pg_name (i := 3) sc.nd rfl (.inl rfl)) (dss_one (ds_if ((dw_and (dt_cmp (od_eq hu) (de_ix (de_var 3) de_int) (de_var 1) (nomark _)) (dw_one (dt_cmp (od_eq hu) (de_ix (de_var 3) de_int) (de_var 2) (nomark _))))).dt (dss_one (ds_ret (de_ix (de_var 3) de_int))) dss_nil)))
      (dss_one (ds_ret de_non))))
theorem wmade_of_text (t : Txt P K mg C) {n k lv_made_of_text : Nat} (W_made_of_text : DFn P w K mg base lv_made_of_text t.made_of_text.f t.made_of_text.fd ["parts", "text"] (D2.Spec.fn K51.A_made_of_text (K51.P_made_of_text n) K51.R_made_of_text)) (le_made_of_text : lv_made_of_text ≤ k) (p : PL K51.Nmade_of_text (K51.Wmade_of_text n) (D2.Spec.fn K51.A_made_of_text (K51.P_made_of_text (n + 1)) K51.R_made_of_text)) : DFn P w K mg base (k + 1) t.made_of_text.f t.made_of_text.fd ["parts", "text"] (D2.Spec.fn K51.A_made_of_text (K51.P_made_of_text (n + 1)) K51.R_made_of_text) := by
  refine dfn_of t.made_of_text.F scmade_of_text (fun i h => rfl) fun cdv A outer s H E hg hr => ⟨_, ?_, p⟩
  have hu := hr.units
  have hu1 := Nat.lt_of_le_of_lt (Nat.add_le_add_left (show 1 ≤ 64 by decide) _) hu
  have hu3 := Nat.lt_of_le_of_lt (Nat.add_le_add_left (show 3 ≤ 64 by decide) _) hu
  have sc := scmade_of_text
  exact ((dss_cons (ds_set (i := 2) sc.nd rfl (.inl rfl) (de_tup da_nil))
      (dss_cons (ds_for (t := (.one 3)) PassesOwn.never rfl (di_any (de_var 0)) (pg_name (i := 3) sc.nd rfl (.inl rfl)) (dss_one (ds_if (dt_cmp (od_eq hu) (de_ix (de_var 3) de_int) de_str (nomark _)) (dss_one (ds_augT (i := 2) sc.nd rfl (.inl rfl) (de_tup (da_cons (de_tup (da_cons (de_ix (de_var 3) de_int) (da_cons (de_fn W_made_of_text hg (hr.mono le_made_of_text) (by rfl) t.made_of_text.m t.made_of_text.F.kp t.made_of_text.b (da_cons (de_ix (de_var 3) de_int) (da_cons (de_var 1) da_nil))) da_nil))) da_nil)))) (dss_one (ds_augT (i := 2) sc.nd rfl (.inl rfl) (de_tup (da_cons (de_if (dt_cmp (od_eq hu) (de_ix (de_var 3) de_int) de_str (nomark _)) (de_var 1) (de_ix (de_var 3) de_int)) da_nil)))))))
      (dss_one (ds_ret (de_var 2))))))
theorem wmade_by (t : Txt P K mg C) {n k lv_made_by lv_turned_forest : Nat} (W_made_by : DFn P w K mg base lv_made_by t.made_by.f t.made_by.fd ["turning", "parts", "things"] (D2.Spec.fn (K51.A_made_by C) (K51.P_made_by n) K51.R_made_by)) (le_made_by : lv_made_by ≤ k) (W_turned_forest : DFn P w K mg base lv_turned_forest t.turned_forest.f t.turned_forest.fd ["turning", "mode", "forest"] (D2.Spec.fn (K51.A_turned_forest C) (K51.P_turned_forest n) K51.R_turned_forest)) (le_turned_forest : lv_turned_forest ≤ k) (p : PL K51.Nmade_by (K51.Wmade_by C n) (D2.Spec.fn (K51.A_made_by C) (K51.P_made_by (n + 1)) K51.R_made_by)) : DFn P w K mg base (k + 1) t.made_by.f t.made_by.fd ["turning", "parts", "things"] (D2.Spec.fn (K51.A_made_by C) (K51.P_made_by (n + 1)) K51.R_made_by) := by
  refine dfn_of t.made_by.F scmade_by (fun i h => rfl) fun cdv A outer s H E hg hr => ⟨_, ?_, p⟩
  have hu := hr.units
  have hu1 := Nat.lt_of_le_of_lt (Nat.add_le_add_left (show 1 ≤ 64 by decide) _) hu
  have hu3 := Nat.lt_of_le_of_lt (Nat.add_le_add_left (show 3 ≤ 64 by decide) _) hu
  have sc := scmade_by
  exact ((dss_cons (ds_set (i := 3) sc.nd rfl (.inl rfl) (de_tup da_nil))
      (dss_cons (ds_for (t := (.one 4)) PassesOwn.never rfl (di_any (de_var 1)) (pg_name (i := 4) sc.nd rfl (.inl rfl)) (dss_one (ds_if (dt_cmp (od_eq hu) (de_ix (de_var 4) de_int) de_str (nomark _)) (dss_one (ds_augT (i := 3) sc.nd rfl (.inl rfl) (de_tup (da_cons (de_tup (da_cons (de_ix (de_var 4) de_int) (da_cons (de_fn W_made_by hg (hr.mono le_made_by) (by rfl) t.made_by.m t.made_by.F.kp t.made_by.b (da_cons (de_var 0) (da_cons (de_ix (de_var 4) de_int) (da_cons (de_var 2) da_nil)))) da_nil))) da_nil)))) (dss_one (ds_if (dt_cmp (od_eq hu) (de_ix (de_var 4) de_int) de_str (nomark _)) (dss_one (ds_augT (i := 3) sc.nd rfl (.inl rfl) (de_tup (da_cons (de_ix (de_var 4) de_int) da_nil)))) (dss_one (ds_augT (i := 3) sc.nd rfl (.inl rfl) (de_fn W_turned_forest hg (hr.mono le_turned_forest) (by rfl) t.turned_forest.m t.turned_forest.F.kp t.turned_forest.b (da_cons (de_var 0) (da_cons (de_ix (de_var 4) de_int) (da_cons (de_var 2) da_nil)))))))))))
      (dss_one (ds_ret (de_var 3))))))
theorem wturned_thing (t : Txt P K mg C) {n k lv_made_by lv_made_of_text lv_rule_for lv_turned_forest : Nat} (W_made_by : DFn P w K mg base lv_made_by t.made_by.f t.made_by.fd ["turning", "parts", "things"] (D2.Spec.fn (K51.A_made_by C) (K51.P_made_by n) K51.R_made_by)) (le_made_by : lv_made_by ≤ k) (W_made_of_text : DFn P w K mg base lv_made_of_text t.made_of_text.f t.made_of_text.fd ["parts", "text"] (D2.Spec.fn K51.A_made_of_text (K51.P_made_of_text n) K51.R_made_of_text)) (le_made_of_text : lv_made_of_text ≤ k) (W_rule_for : DFn P w K mg base lv_rule_for t.rule_for.f t.rule_for.fd ["turning", "mode", "letter"] (D2.Spec.fn (K51.A_rule_for C) K51.P_rule_for K51.R_rule_for)) (le_rule_for : lv_rule_for ≤ k) (W_turned_forest : DFn P w K mg base lv_turned_forest t.turned_forest.f t.turned_forest.fd ["turning", "mode", "forest"] (D2.Spec.fn (K51.A_turned_forest C) (K51.P_turned_forest n) K51.R_turned_forest)) (le_turned_forest : lv_turned_forest ≤ k) (p : PL K51.Nturned_thing (K51.Wturned_thing C n) (D2.Spec.fn (K51.A_turned_thing C) (K51.P_turned_thing (n + 1)) K51.R_turned_thing)) : DFn P w K mg base (k + 1) t.turned_thing.f t.turned_thing.fd ["turning", "mode", "thing"] (D2.Spec.fn (K51.A_turned_thing C) (K51.P_turned_thing (n + 1)) K51.R_turned_thing) := by
  refine dfn_of t.turned_thing.F scturned_thing (fun i h => rfl) fun cdv A outer s H E hg hr => ⟨_, ?_, p⟩
  have hu := hr.units
  have hu1 := Nat.lt_of_le_of_lt (Nat.add_le_add_left (show 1 ≤ 64 by decide) _) hu
  have hu3 := Nat.lt_of_le_of_lt (Nat.add_le_add_left (show 3 ≤ 64 by decide) _) hu
  have sc := scturned_thing
  exact ((dss_cons (ds_if (dt_tru (de_isi .str (by rfl) t.n_isinstance (by rfl) t.n_str (by decide +kernel) (de_var 2))) (dss_one (ds_ret (de_fn W_made_of_text hg (hr.mono le_made_of_text) (by rfl) t.made_of_text.m t.made_of_text.F.kp t.made_of_text.b (da_cons (de_orX (de_fn W_rule_for hg (hr.mono le_rule_for) (by rfl) t.rule_for.m t.rule_for.F.kp t.rule_for.b (da_cons (de_var 0) (da_cons (de_var 1) (da_cons de_str da_nil)))) (de_one (de_tup da_nil))) (da_cons (de_var 2) da_nil))))) dss_nil)
      (dss_cons (ds_set (i := 3) sc.nd rfl (.inl rfl) (de_fn W_rule_for hg (hr.mono le_rule_for) (by rfl) t.rule_for.m t.rule_for.F.kp t.rule_for.b (da_cons (de_var 0) (da_cons (de_var 1) (da_cons (de_ix (de_var 2) de_int) da_nil)))))
      (dss_cons (ds_if (dt_cmp (od_is false) (de_var 3) de_non (nomark _)) (dss_one (ds_ret (de_fn W_turned_forest hg (hr.mono le_turned_forest) (by rfl) t.turned_forest.m t.turned_forest.F.kp t.turned_forest.b (da_cons (de_var 0) (da_cons (de_var 1) (da_cons (de_ix (de_var 2) de_int) da_nil)))))) dss_nil)
      (dss_one (ds_ret (de_fn W_made_by hg (hr.mono le_made_by) (by rfl) t.made_by.m t.made_by.F.kp t.made_by.b (da_cons (de_var 0) (da_cons (de_var 3) (da_cons (de_ix (de_var 2) de_int) da_nil))))))))))
theorem wturned_forest (t : Txt P K mg C) {n k lv_turned_thing : Nat} (W_turned_thing : DFn P w K mg base lv_turned_thing t.turned_thing.f t.turned_thing.fd ["turning", "mode", "thing"] (D2.Spec.fn (K51.A_turned_thing C) (K51.P_turned_thing n) K51.R_turned_thing)) (le_turned_thing : lv_turned_thing ≤ k) (p : PL K51.Nturned_forest (K51.Wturned_forest C n) (D2.Spec.fn (K51.A_turned_forest C) (K51.P_turned_forest (n + 1)) K51.R_turned_forest)) : DFn P w K mg base (k + 1) t.turned_forest.f t.turned_forest.fd ["turning", "mode", "forest"] (D2.Spec.fn (K51.A_turned_forest C) (K51.P_turned_forest (n + 1)) K51.R_turned_forest) := by
  refine dfn_of t.turned_forest.F scturned_forest (fun i h => rfl) fun cdv A outer s H E hg hr => ⟨_, ?_, p⟩
  have hu := hr.units
  have hu1 := Nat.lt_of_le_of_lt (Nat.add_le_add_left (show 1 ≤ 64 by decide) _) hu
  have hu3 := Nat.lt_of_le_of_lt (Nat.add_le_add_left (show 3 ≤ 64 by decide) _) hu
  have sc := scturned_forest
  exact ((dss_cons (ds_set (i := 3) sc.nd rfl (.inl rfl) (de_tup da_nil))
      (dss_cons (ds_for (t := (.one 4)) PassesOwn.never rfl (di_any (de_var 2)) (pg_name (i := 4) sc.nd rfl (.inl rfl)) (dss_one (ds_augT (i := 3) sc.nd rfl (.inl rfl) (de_fn W_turned_thing hg (hr.mono le_turned_thing) (by rfl) t.turned_thing.m t.turned_thing.F.kp t.turned_thing.b (da_cons (de_var 0) (da_cons (de_var 1) (da_cons (de_var 4) da_nil)))))))
      (dss_one (ds_ret (de_var 3))))))
theorem wturned (t : Txt P K mg C) {n k lv_turned_thing : Nat} (W_turned_thing : DFn P w K mg base lv_turned_thing t.turned_thing.f t.turned_thing.fd ["turning", "mode", "thing"] (D2.Spec.fn (K51.A_turned_thing C) (K51.P_turned_thing n) K51.R_turned_thing)) (le_turned_thing : lv_turned_thing ≤ k) (p : PL K51.Nturned (K51.Wturned C n) (D2.Spec.fn (K51.A_turned C) K51.P_turned K51.R_turned)) : DFn P w K mg base (k + 1) t.turned.f t.turned.fd ["turning", "node"] (D2.Spec.fn (K51.A_turned C) K51.P_turned K51.R_turned) := by
  refine dfn_of t.turned.F scturned (fun i h => rfl) fun cdv A outer s H E hg hr => ⟨_, ?_, p⟩
  have hu := hr.units
  have hu1 := Nat.lt_of_le_of_lt (Nat.add_le_add_left (show 1 ≤ 64 by decide) _) hu
  have hu3 := Nat.lt_of_le_of_lt (Nat.add_le_add_left (show 3 ≤ 64 by decide) _) hu
  have sc := scturned
  exact ((dss_one (ds_ret (de_fn W_turned_thing hg (hr.mono le_turned_thing) (by rfl) t.turned_thing.m t.turned_thing.F.kp t.turned_thing.b (da_cons (de_var 0) (da_cons (de_fld t.cls t.no_mode (de_var 0)) (da_cons (de_var 1) da_nil)))))))
theorem wmade_document (t : Txt P K mg C) {n k lv_turned : Nat} (W_turned : DFn P w K mg base lv_turned t.turned.f t.turned.fd ["turning", "node"] (D2.Spec.fn (K51.A_turned C) K51.P_turned K51.R_turned)) (le_turned : lv_turned ≤ k) (p : PL K51.Nmade_document (K51.Wmade_document C) (D2.Spec.fn (K51.A_made_document C) K51.P_made_document K51.R_made_document)) : DFn P w K mg base (k + 1) t.made_document.f t.made_document.fd ["turning", "node"] (D2.Spec.fn (K51.A_made_document C) K51.P_made_document K51.R_made_document) := by
  refine dfn_of t.made_document.F scmade_document (fun i h => rfl) fun cdv A outer s H E hg hr => ⟨_, ?_, p⟩
  have hu := hr.units
  have hu1 := Nat.lt_of_le_of_lt (Nat.add_le_add_left (show 1 ≤ 64 by decide) _) hu
  have hu3 := Nat.lt_of_le_of_lt (Nat.add_le_add_left (show 3 ≤ 64 by decide) _) hu
  have sc := scmade_document
  exact ((dss_cons (ds_set (i := 2) sc.nd rfl (.inl rfl) (de_fn W_turned hg (hr.mono le_turned) (by rfl) t.turned.m t.turned.F.kp t.turned.b (da_cons (de_var 0) (da_cons (de_var 1) da_nil))))
      (dss_one (ds_ret (de_if ((dw_and (dt_cmp (od_eq hu) (de_callB cd_len (by rfl) t.n_len (by decide +kernel) (da_cons (de_var 2) da_nil)) de_int (nomark _)) (dw_one (dt_tru (de_isi .tuple (by rfl) t.n_isinstance (by rfl) t.n_tuple (by decide +kernel) (de_ix (de_var 2) de_int)))))).dt (de_ix (de_var 2) de_int) de_non)))))
theorem w_law_deal (t : Txt P K mg C) {n k : Nat} (p : PL K51.N_law_deal (K51.W_law_deal) (K51.S_law_deal)) : DFn P w K mg base (k + 1) t._law_deal.f t._law_deal.fd ["script", "base"] (K51.S_law_deal) := by
  refine dfn_of t._law_deal.F sc_law_deal (fun i h => rfl) fun cdv A outer s H E hg hr => ⟨_, ?_, p⟩
  have hu := hr.units
  have hu1 := Nat.lt_of_le_of_lt (Nat.add_le_add_left (show 1 ≤ 64 by decide) _) hu
  have hu3 := Nat.lt_of_le_of_lt (Nat.add_le_add_left (show 3 ≤ 64 by decide) _) hu
  have sc := sc_law_deal
  exact ((dss_cons (ds_setLc (i := 2) (own := [("cell", 3)]) (t := (.one 3)) (wt := wYes) (we := (wCB (g1 gAbs) (wCons (wCB (g1 gInt) (wCons (wVar 3) wNil)) wNil))) rfl sc.nd rfl rfl (sw_true rfl rfl rfl (by decide +kernel)) (di_any ((dn_sl (de_var 0) do_no (do_some de_int))).rol) (blkOk_by (N := K51.N_law_deal) (sc := defScope s_law_deal) (by decide +kernel)) (fun _ _ _ _ _ => (pg_name (i := 3) sc.nd rfl (.inl rfl))) (fun _ _ _ _ _ => dts_nil) (fun _ _ _ _ _ => (de_callB cd_abs (by rfl) t.n_abs (by decide +kernel) (da_cons (de_callTy cd_int (by rfl) t.n_int (by decide +kernel) (da_cons (de_var 3) da_nil)) da_nil))) (by decide))
      (dss_cons (ds_set (i := 4) sc.nd rfl (.inl rfl) (de_op od_add (de_op od_mul de_int (de_var 1)) de_int))
      (dss_cons (ds_for (t := (.one 3)) PassesOwn.never rfl (di_any (de_var 2)) (pg_name (i := 3) sc.nd rfl (.inl rfl)) (dss_one (ds_set (i := 4) sc.nd rfl (.inl rfl) (de_op od_mod (de_callTy cd_int (by rfl) t.n_int (by decide +kernel) (da_cons (de_op od_add (de_op od_add (de_op od_mul (de_var 4) de_int) (de_op od_mod (de_var 3) de_int)) de_int) da_nil)) de_int))))
      (dss_one (ds_ret (de_cel (da_cons ((dn_rev ((dn_lc (own := [("cell", 3)]) (t := (.one 3)) (wt := (wB (w2 (gB fun a b => decide (b ≤ a)) (wVar 3) (w2 (gI CPow fun a b => a ^ b.toNat) (wC (.int 10)) (wC (.int 18)))))) (we := (wVar 3)) rfl sc.nd (di_any (de_var 2)) (blkOk_by (N := K51.N_law_deal) (sc := defScope s_law_deal) (by decide +kernel)) (fun _ _ _ _ _ => (pg_name (i := 3) sc.nd rfl (.inl rfl))) (fun _ _ _ _ _ => (dts_one (dt_cmp od_ge (de_var 3) (de_op od_pow de_int de_int) (nomark _)))) (fun _ _ _ _ _ => (de_var 3)) (by decide))).rol)).cel (da_cons (de_var 4) da_nil)))))))))
theorem w_law_any (t : Txt P K mg C) {n k : Nat} (p : PL K51.N_law_any (K51.W_law_any) (D2.Spec.dr D2.A_law_any D2.P_law_any D2.R_law_any)) : DFn P w K mg base (k + 1) t._law_any.f t._law_any.fd ["deal", "bound"] (D2.Spec.dr D2.A_law_any D2.P_law_any D2.R_law_any) := by
  refine dfn_of t._law_any.F sc_law_any (fun i h => rfl) fun cdv A outer s H E hg hr => ⟨_, ?_, p⟩
  have hu := hr.units
  have hu1 := Nat.lt_of_le_of_lt (Nat.add_le_add_left (show 1 ≤ 64 by decide) _) hu
  have hu3 := Nat.lt_of_le_of_lt (Nat.add_le_add_left (show 3 ≤ 64 by decide) _) hu
  have sc := sc_law_any
  exact ((dss_cons (ds_while PassesOwn.never ((dw_and (dt_cmp (od_ne hu) (de_ix (de_var 0) de_int) (de_rol da_nil) (nomark _)) (dw_one (dt_cmp (od_eq hu) (de_ix (de_ix (de_var 0) de_int) (de_neg de_int)) de_int (nomark _))))).dt (dss_one (ds_expr (de_pop (de_ix (de_var 0) de_int)))))
      (dss_cons (ds_if (dt_cmp (od_ne hu) (de_ix (de_var 0) de_int) (de_rol da_nil) (nomark _)) (dss_cons (ds_set (i := 2) sc.nd rfl (.inl rfl) (de_callTy cd_int (by rfl) t.n_int (by decide +kernel) (da_cons (de_pop (de_ix (de_var 0) de_int)) da_nil)))
      (dss_cons (ds_expr (de_app (de_ix (de_var 0) de_int) (de_op od_fdiv (de_var 2) (de_var 1))))
      (dss_one (ds_ret (de_op od_mod (de_var 2) (de_var 1)))))) dss_nil)
      (dss_cons (ds_sto (de_op od_mod (de_callTy cd_int (by rfl) t.n_int (by decide +kernel) (da_cons (de_op od_add (de_op od_mul (de_ix (de_var 0) de_int) de_int) de_int) da_nil)) de_int) (de_var 0) de_int)
      (dss_one (ds_ret (de_op od_mod (de_callTy cd_int (by rfl) t.n_int (by decide +kernel) (da_cons (de_op od_fdiv (de_ix (de_var 0) de_int) de_int) da_nil)) (de_var 1))))))))
theorem w_law_of (t : Txt P K mg C) {n k lv__law_any : Nat} (W__law_any : DFn P w K mg base lv__law_any t._law_any.f t._law_any.fd ["deal", "bound"] (D2.Spec.dr D2.A_law_any D2.P_law_any D2.R_law_any)) (le__law_any : lv__law_any ≤ k) (p : PL K02.N_law_of (D2.W_law_of) (D2.Spec.dr D2.A_law_of D2.P_law_of D2.R_law_of)) : DFn P w K mg base (k + 1) t._law_of.f t._law_of.fd ["deal", "some"] (D2.Spec.dr D2.A_law_of D2.P_law_of D2.R_law_of) := by
  refine dfn_of t._law_of.F sc_law_of (fun i h => rfl) fun cdv A outer s H E hg hr => ⟨_, ?_, p⟩
  have hu := hr.units
  have hu1 := Nat.lt_of_le_of_lt (Nat.add_le_add_left (show 1 ≤ 64 by decide) _) hu
  have hu3 := Nat.lt_of_le_of_lt (Nat.add_le_add_left (show 3 ≤ 64 by decide) _) hu
  have sc := sc_law_of
  exact ((dss_one (ds_ret (de_ix (de_var 1) (de_dr W__law_any hg (hr.mono le__law_any) (by rfl) t._law_any.m t._law_any.F.kp t._law_any.b (da_cons (de_var 0) (da_cons (de_callB cd_len (by rfl) t.n_len (by decide +kernel) (da_cons (de_var 1) da_nil)) da_nil)))))))
theorem w_law_names (t : Txt P K mg C) {n k lv__law_of : Nat} (W__law_of : DFn P w K mg base lv__law_of t._law_of.f t._law_of.fd ["deal", "some"] (D2.Spec.dr D2.A_law_of D2.P_law_of D2.R_law_of)) (le__law_of : lv__law_of ≤ k) (p : PL K51.N_law_names (K51.W_law_names) (D2.Spec.dr K51.A_law_names K51.P_law_names K51.R_law_names)) : DFn P w K mg base (k + 1) t._law_names.f t._law_names.fd ["deal"] (D2.Spec.dr K51.A_law_names K51.P_law_names K51.R_law_names) := by
  refine dfn_of t._law_names.F sc_law_names (fun i h => rfl) fun cdv A outer s H E hg hr => ⟨_, ?_, p⟩
  have hu := hr.units
  have hu1 := Nat.lt_of_le_of_lt (Nat.add_le_add_left (show 1 ≤ 64 by decide) _) hu
  have hu3 := Nat.lt_of_le_of_lt (Nat.add_le_add_left (show 3 ≤ 64 by decide) _) hu
  have sc := sc_law_names
  exact ((dss_one (ds_ret (de_dr W__law_of hg (hr.mono le__law_of) (by rfl) t._law_of.m t._law_of.F.kp t._law_of.b (da_cons (de_var 0) (da_cons (de_rol (da_cons (de_rol (da_cons de_str da_nil)) (da_cons (de_rol (da_cons de_str (da_cons de_str da_nil))) (da_cons (de_rol (da_cons de_str (da_cons de_str (da_cons de_str da_nil)))) (da_cons (de_rol (da_cons de_str (da_cons de_str (da_cons de_str da_nil)))) da_nil))))) da_nil))))))
theorem w_law_parts (t : Txt P K mg C) {n k lv__law_any lv__law_of lv__law_parts : Nat} (W__law_any : DFn P w K mg base lv__law_any t._law_any.f t._law_any.fd ["deal", "bound"] (D2.Spec.dr D2.A_law_any D2.P_law_any D2.R_law_any)) (le__law_any : lv__law_any ≤ k) (W__law_of : DFn P w K mg base lv__law_of t._law_of.f t._law_of.fd ["deal", "some"] (D2.Spec.dr D2.A_law_of D2.P_law_of D2.R_law_of)) (le__law_of : lv__law_of ≤ k) (W__law_parts : DFn P w K mg base lv__law_parts t._law_parts.f t._law_parts.fd ["deal", "modes", "names", "letter", "deep", "room"] ((K51.S_law_parts n))) (le__law_parts : lv__law_parts ≤ k) (p : PL K51.N_law_parts (K51.W_law_parts n) ((K51.S_law_parts (n + 1)))) : DFn P w K mg base (k + 1) t._law_parts.f t._law_parts.fd ["deal", "modes", "names", "letter", "deep", "room"] ((K51.S_law_parts (n + 1))) := by
  refine dfn_of t._law_parts.F sc_law_parts (fun i h => rfl) fun cdv A outer s H E hg hr => ⟨_, ?_, p⟩
  have hu := hr.units
  have hu1 := Nat.lt_of_le_of_lt (Nat.add_le_add_left (show 1 ≤ 64 by decide) _) hu
  have hu3 := Nat.lt_of_le_of_lt (Nat.add_le_add_left (show 3 ≤ 64 by decide) _) hu
  have sc := sc_law_parts
  exact ((dss_cons (ds_set (i := 6) sc.nd rfl (.inl rfl) (de_cel da_nil))
      (dss_cons (ds_for (t := (.one 7)) PassesOwn.never rfl (di_range1 (by rfl) t.n_range (da_cons (de_dr W__law_any hg (hr.mono le__law_any) (by rfl) t._law_any.m t._law_any.F.kp t._law_any.b (da_cons (de_var 0) (da_cons (de_if (dt_cmp od_gt (de_var 4) de_int (nomark _)) de_int de_int) da_nil))) da_nil)) (pg_name (i := 7) sc.nd rfl (.inl rfl)) (dss_cons (ds_set (i := 8) sc.nd rfl (.inl rfl) (de_dr W__law_any hg (hr.mono le__law_any) (by rfl) t._law_any.m t._law_any.F.kp t._law_any.b (da_cons (de_var 0) (da_cons de_int da_nil))))
      (dss_one (ds_if ((dw_and (dt_cmp od_lt (de_var 8) de_int (nomark _)) (dw_one (dt_cmp od_gt (de_var 4) de_int (nomark _))))).dt (dss_one (ds_expr (de_app (de_var 6) (de_tup (da_cons de_str (da_cons (de_dr W__law_of hg (hr.mono le__law_of) (by rfl) t._law_of.m t._law_of.F.kp t._law_of.b (da_cons (de_var 0) (da_cons (de_var 2) da_nil))) (da_cons (de_call W__law_parts hg (hr.mono le__law_parts) (by rfl) t._law_parts.m t._law_parts.F.kp t._law_parts.b (da_cons (de_var 0) (da_cons (de_var 1) (da_cons (de_var 2) (da_cons (de_var 3) (da_cons (de_op od_sub (de_var 4) de_int) (da_cons (de_var 5) da_nil))))))) da_nil))))))) (dss_one (ds_if ((dw_or (dt_cmp (od_eq hu) (de_var 8) de_int (nomark _)) (dw_one (dt_cmp (od_eq hu) (de_ix (de_var 5) de_int) de_int (nomark _))))).dt (dss_one (ds_expr (de_app (de_var 6) (de_tup (da_cons de_str (da_cons (de_dr W__law_of hg (hr.mono le__law_of) (by rfl) t._law_of.m t._law_of.F.kp t._law_of.b (da_cons (de_var 0) (da_cons (de_rol (da_cons de_str (da_cons de_str (da_cons de_str da_nil)))) da_nil))) da_nil)))))) (dss_one (ds_if (dt_cmp (od_eq hu) (de_var 3) de_str (nomark _)) (dss_one (ds_expr (de_app (de_var 6) (de_tup (da_cons de_str da_nil))))) (dss_cons (ds_sto (de_op od_sub (de_ix (de_var 5) de_int) de_int) (de_var 5) de_int)
      (dss_one (ds_expr (de_app (de_var 6) (de_tup (da_cons de_str (da_cons (de_dr W__law_of hg (hr.mono le__law_of) (by rfl) t._law_of.m t._law_of.F.kp t._law_of.b (da_cons (de_var 0) (da_cons (de_var 1) da_nil))) da_nil)))))))))))))))
      (dss_one (ds_ret (de_callTy cd_tuple (by rfl) t.n_tuple (by decide +kernel) (da_cons (de_var 6) da_nil)))))))
theorem w_law_turning (t : Txt P K mg C) {n k lv__law_any lv__law_of lv__law_parts : Nat} (W__law_any : DFn P w K mg base lv__law_any t._law_any.f t._law_any.fd ["deal", "bound"] (D2.Spec.dr D2.A_law_any D2.P_law_any D2.R_law_any)) (le__law_any : lv__law_any ≤ k) (W__law_of : DFn P w K mg base lv__law_of t._law_of.f t._law_of.fd ["deal", "some"] (D2.Spec.dr D2.A_law_of D2.P_law_of D2.R_law_of)) (le__law_of : lv__law_of ≤ k) (W__law_parts : DFn P w K mg base lv__law_parts t._law_parts.f t._law_parts.fd ["deal", "modes", "names", "letter", "deep", "room"] ((K51.S_law_parts n))) (le__law_parts : lv__law_parts ≤ k) (p : PL K51.N_law_turning (K51.W_law_turning n) (D2.Spec.dr K51.A_law_turning K51.P_law_turning K51.R_law_turning)) : DFn P w K mg base (k + 1) t._law_turning.f t._law_turning.fd ["deal", "names", "most", "goes", "deep"] (D2.Spec.dr K51.A_law_turning K51.P_law_turning K51.R_law_turning) := by
  refine dfn_of t._law_turning.F sc_law_turning (fun i h => rfl) fun cdv A outer s H E hg hr => ⟨_, ?_, p⟩
  have hu := hr.units
  have hu1 := Nat.lt_of_le_of_lt (Nat.add_le_add_left (show 1 ≤ 64 by decide) _) hu
  have hu3 := Nat.lt_of_le_of_lt (Nat.add_le_add_left (show 3 ≤ 64 by decide) _) hu
  have sc := sc_law_turning
  exact ((dss_cons (ds_set (i := 5) sc.nd rfl (.inl rfl) ((dn_sl (de_dr W__law_of hg (hr.mono le__law_of) (by rfl) t._law_of.m t._law_of.F.kp t._law_of.b (da_cons (de_var 0) (da_cons (de_rol (da_cons (de_rol (da_cons de_str (da_cons de_str (da_cons de_str da_nil)))) (da_cons (de_rol (da_cons de_str (da_cons de_str (da_cons de_str da_nil)))) (da_cons (de_rol (da_cons de_str (da_cons de_str (da_cons de_str da_nil)))) da_nil)))) da_nil))) do_no (do_some (de_op od_add de_int (de_dr W__law_any hg (hr.mono le__law_any) (by rfl) t._law_any.m t._law_any.F.kp t._law_any.b (da_cons (de_var 0) (da_cons (de_var 2) da_nil))))))).rol)
      (dss_cons (ds_set (i := 6) sc.nd rfl (.inl rfl) (de_cel da_nil))
      (dss_cons (ds_for (t := (.one 7)) PassesOwn.never rfl (di_any (de_var 5)) (pg_name (i := 7) sc.nd rfl (.inl rfl)) (dss_one (ds_for (t := (.one 8)) PassesOwn.never rfl (di_any (de_op od_add (de_rol (da_cons de_str da_nil)) (de_var 1))) (pg_name (i := 8) sc.nd rfl (.inl rfl)) (dss_one (ds_if (dt_cmp od_gt (de_dr W__law_any hg (hr.mono le__law_any) (by rfl) t._law_any.m t._law_any.F.kp t._law_any.b (da_cons (de_var 0) (da_cons de_int da_nil))) de_int (nomark _)) (dss_one (ds_expr (de_app (de_var 6) (de_tup (da_cons (de_var 7) (da_cons (de_var 8) (da_cons (de_call W__law_parts hg (hr.mono le__law_parts) (by rfl) t._law_parts.m t._law_parts.F.kp t._law_parts.b (da_cons (de_var 0) (da_cons (de_var 5) (da_cons (de_op od_add (de_var 1) (de_rol (da_cons de_str da_nil))) (da_cons (de_var 8) (da_cons (de_var 4) (da_cons (de_cel (da_cons (de_var 3) da_nil)) da_nil))))))) da_nil))))))) dss_nil)))))
      (dss_one (ds_ret (de_tup (da_cons (de_callTy cd_tuple (by rfl) t.n_tuple (by decide +kernel) (da_cons (de_var 6) da_nil)) (da_cons (de_dr W__law_of hg (hr.mono le__law_of) (by rfl) t._law_of.m t._law_of.F.kp t._law_of.b (da_cons (de_var 0) (da_cons (de_var 5) da_nil))) da_nil)))))))))
theorem w_law_tree (t : Txt P K mg C) {n k lv__law_any lv__law_of lv__law_tree : Nat} (W__law_any : DFn P w K mg base lv__law_any t._law_any.f t._law_any.fd ["deal", "bound"] (D2.Spec.dr D2.A_law_any D2.P_law_any D2.R_law_any)) (le__law_any : lv__law_any ≤ k) (W__law_of : DFn P w K mg base lv__law_of t._law_of.f t._law_of.fd ["deal", "some"] (D2.Spec.dr D2.A_law_of D2.P_law_of D2.R_law_of)) (le__law_of : lv__law_of ≤ k) (W__law_tree : DFn P w K mg base lv__law_tree t._law_tree.f t._law_tree.fd ["deal", "names", "room", "deep"] ((K51.S_law_tree n))) (le__law_tree : lv__law_tree ≤ k) (p : PL K51.N_law_tree (K51.W_law_tree n) ((K51.S_law_tree (n + 1)))) : DFn P w K mg base (k + 1) t._law_tree.f t._law_tree.fd ["deal", "names", "room", "deep"] ((K51.S_law_tree (n + 1))) := by
  refine dfn_of t._law_tree.F sc_law_tree (fun i h => rfl) fun cdv A outer s H E hg hr => ⟨_, ?_, p⟩
  have hu := hr.units
  have hu1 := Nat.lt_of_le_of_lt (Nat.add_le_add_left (show 1 ≤ 64 by decide) _) hu
  have hu3 := Nat.lt_of_le_of_lt (Nat.add_le_add_left (show 3 ≤ 64 by decide) _) hu
  have sc := sc_law_tree
  exact ((dss_cons (ds_sto (de_op od_sub (de_ix (de_var 2) de_int) de_int) (de_var 2) de_int)
      (dss_cons (ds_set (i := 4) sc.nd rfl (.inl rfl) (de_cel da_nil))
      (dss_cons (ds_for (t := (.one 5)) PassesOwn.never rfl (di_range1 (by rfl) t.n_range (da_cons (de_if (dt_cmp od_gt (de_var 3) de_int (nomark _)) (de_dr W__law_any hg (hr.mono le__law_any) (by rfl) t._law_any.m t._law_any.F.kp t._law_any.b (da_cons (de_var 0) (da_cons de_int da_nil))) de_int) da_nil)) (pg_name (i := 5) sc.nd rfl (.inl rfl)) (dss_one (ds_if ((dw_and (dt_cmp od_gt (de_ix (de_var 2) de_int) de_int (nomark _)) (dw_one (dt_cmp (od_eq hu) (de_dr W__law_any hg (hr.mono le__law_any) (by rfl) t._law_any.m t._law_any.F.kp t._law_any.b (da_cons (de_var 0) (da_cons de_int da_nil))) de_int (nomark _))))).dt (dss_cons (ds_sto (de_op od_sub (de_ix (de_var 2) de_int) de_int) (de_var 2) de_int)
      (dss_one (ds_expr (de_app (de_var 4) (de_dr W__law_of hg (hr.mono le__law_of) (by rfl) t._law_of.m t._law_of.F.kp t._law_of.b (da_cons (de_var 0) (da_cons (de_rol (da_cons de_str (da_cons de_str (da_cons de_str da_nil)))) da_nil))))))) (dss_one (ds_if (dt_cmp od_gt (de_ix (de_var 2) de_int) de_int (nomark _)) (dss_one (ds_expr (de_app (de_var 4) (de_call W__law_tree hg (hr.mono le__law_tree) (by rfl) t._law_tree.m t._law_tree.F.kp t._law_tree.b (da_cons (de_var 0) (da_cons (de_var 1) (da_cons (de_var 2) (da_cons (de_op od_sub (de_var 3) de_int) da_nil)))))))) dss_nil)))))
      (dss_one (ds_ret (de_tup (da_cons (de_dr W__law_of hg (hr.mono le__law_of) (by rfl) t._law_of.m t._law_of.F.kp t._law_of.b (da_cons (de_var 0) (da_cons (de_var 1) da_nil))) (da_cons (de_callTy cd_tuple (by rfl) t.n_tuple (by decide +kernel) (da_cons (de_var 4) da_nil)) da_nil)))))))))
theorem w_law_dict (t : Txt P K mg C) {n k : Nat} (p : PL K51.N_law_dict (K51.W_law_dict) (D2.Spec.fn K51.A_law_dict K51.P_law_dict K51.R_law_dict)) : DFn P w K mg base (k + 1) t._law_dict.f t._law_dict.fd ["rules"] (D2.Spec.fn K51.A_law_dict K51.P_law_dict K51.R_law_dict) := by
  refine dfn_of t._law_dict.F sc_law_dict (fun i h => rfl) fun cdv A outer s H E hg hr => ⟨_, ?_, p⟩
  have hu := hr.units
  have hu1 := Nat.lt_of_le_of_lt (Nat.add_le_add_left (show 1 ≤ 64 by decide) _) hu
  have hu3 := Nat.lt_of_le_of_lt (Nat.add_le_add_left (show 3 ≤ 64 by decide) _) hu
  have sc := sc_law_dict
  exact ((dss_one (ds_ret (de_callTy (cd_dicP rfl hu3) (by rfl) t.n_dict (by decide +kernel) (da_cons ((dn_lc (own := [("mode", 1), ("letter", 2), ("parts", 3)]) (t := (.many [1, 2, 3])) (wt := wYes) (we := (wTup (wCons (wTuk (wCons (wVar 1) (wCons (wVar 2) wNil))) (wCons (wVar 3) wNil)))) rfl sc.nd (di_any (de_var 0)) (blkOk_by (N := K51.N_law_dict) (sc := defScope s_law_dict) (by decide +kernel)) (fun _ _ _ _ _ => (pg_tup rfl (pgs_cons (pg_name (i := 1) sc.nd rfl (.inl rfl)) (pgs_cons (pg_name (i := 2) sc.nd rfl (.inl rfl)) (pgs_cons (pg_name (i := 3) sc.nd rfl (.inl rfl)) pgs_nil))))) (fun _ _ _ _ _ => dts_nil) (fun _ _ _ _ _ => (de_tup (da_cons (de_tuk (da_cons (de_var 1) (da_cons (de_var 2) da_nil))) (da_cons (de_var 3) da_nil)))) (by decide))).rol da_nil)))))
theorem w_law_made (t : Txt P K mg C) {n k lv__law_filled : Nat} (W__law_filled : DFn P w K mg base lv__law_filled t._law_filled.f t._law_filled.fd ["rules", "parts", "text", "things"] (D2.Spec.fn K51.A_law_filled (K51.P_law_filled n) K51.R_law_filled)) (le__law_filled : lv__law_filled ≤ k) (p : PL K51.N_law_made (K51.W_law_made n) (D2.Spec.fn K51.A_law_made (K51.P_law_made (n + 1)) K51.R_law_made)) : DFn P w K mg base (k + 1) t._law_made.f t._law_made.fd ["rules", "mode", "thing"] (D2.Spec.fn K51.A_law_made (K51.P_law_made (n + 1)) K51.R_law_made) := by
  refine dfn_of t._law_made.F sc_law_made (fun i h => rfl) fun cdv A outer s H E hg hr => ⟨_, ?_, p⟩
  have hu := hr.units
  have hu1 := Nat.lt_of_le_of_lt (Nat.add_le_add_left (show 1 ≤ 64 by decide) _) hu
  have hu3 := Nat.lt_of_le_of_lt (Nat.add_le_add_left (show 3 ≤ 64 by decide) _) hu
  have sc := sc_law_made
  exact ((dss_cons (ds_if (dt_tru (de_isi .str (by rfl) t.n_isinstance (by rfl) t.n_str (by decide +kernel) (de_var 2))) (dss_one (ds_ret (de_fn W__law_filled hg (hr.mono le__law_filled) (by rfl) t._law_filled.m t._law_filled.F.kp t._law_filled.b (da_cons (de_var 0) (da_cons (de_dgt hu1 (de_var 0) (de_tuk (da_cons (de_var 1) (da_cons de_str da_nil))) (de_tup da_nil)) (da_cons (de_var 2) (da_cons (de_tup da_nil) da_nil))))))) dss_nil)
      (dss_one (ds_ret (de_fn W__law_filled hg (hr.mono le__law_filled) (by rfl) t._law_filled.m t._law_filled.F.kp t._law_filled.b (da_cons (de_var 0) (da_cons (de_dgt hu1 (de_var 0) (de_tuk (da_cons (de_var 1) (da_cons (de_ix (de_var 2) de_int) da_nil))) (de_tup (da_cons (de_tup (da_cons de_str (da_cons (de_var 1) da_nil))) da_nil))) (da_cons de_str (da_cons (de_ix (de_var 2) de_int) da_nil)))))))))
theorem w_law_filled (t : Txt P K mg C) {n k lv__law_filled lv__law_made : Nat} (W__law_filled : DFn P w K mg base lv__law_filled t._law_filled.f t._law_filled.fd ["rules", "parts", "text", "things"] (D2.Spec.fn K51.A_law_filled (K51.P_law_filled n) K51.R_law_filled)) (le__law_filled : lv__law_filled ≤ k) (W__law_made : DFn P w K mg base lv__law_made t._law_made.f t._law_made.fd ["rules", "mode", "thing"] (D2.Spec.fn K51.A_law_made (K51.P_law_made n) K51.R_law_made)) (le__law_made : lv__law_made ≤ k) (p : PL K51.N_law_filled (K51.W_law_filled n) (D2.Spec.fn K51.A_law_filled (K51.P_law_filled (n + 1)) K51.R_law_filled)) : DFn P w K mg base (k + 1) t._law_filled.f t._law_filled.fd ["rules", "parts", "text", "things"] (D2.Spec.fn K51.A_law_filled (K51.P_law_filled (n + 1)) K51.R_law_filled) := by
  refine dfn_of t._law_filled.F sc_law_filled (fun i h => rfl) fun cdv A outer s H E hg hr => ⟨_, ?_, p⟩
  have hu := hr.units
  have hu1 := Nat.lt_of_le_of_lt (Nat.add_le_add_left (show 1 ≤ 64 by decide) _) hu
  have hu3 := Nat.lt_of_le_of_lt (Nat.add_le_add_left (show 3 ≤ 64 by decide) _) hu
  have sc := sc_law_filled
  exact ((dss_cons (ds_set (i := 4) sc.nd rfl (.inl rfl) (de_cel da_nil))
      (dss_cons (ds_for (t := (.one 5)) PassesOwn.never rfl (di_any (de_var 1)) (pg_name (i := 5) sc.nd rfl (.inl rfl)) (dss_one (ds_if (dt_cmp (od_eq hu) (de_ix (de_var 5) de_int) de_str (nomark _)) (dss_one (ds_expr (de_app (de_var 4) (de_tup (da_cons (de_ix (de_var 5) de_int) (da_cons (de_fn W__law_filled hg (hr.mono le__law_filled) (by rfl) t._law_filled.m t._law_filled.F.kp t._law_filled.b (da_cons (de_var 0) (da_cons (de_ix (de_var 5) de_int) (da_cons (de_var 2) (da_cons (de_var 3) da_nil))))) da_nil)))))) (dss_one (ds_if (dt_cmp (od_eq hu) (de_ix (de_var 5) de_int) de_str (nomark _)) (dss_one (ds_for (t := (.one 6)) PassesOwn.never rfl (di_any (de_var 3)) (pg_name (i := 6) sc.nd rfl (.inl rfl)) (dss_one (ds_set (i := 4) sc.nd rfl (.inl rfl) ((dn_cat (de_var 4) ((dn_callTy cn_list (by rfl) t.n_list (by decide +kernel) (da_cons (de_fn W__law_made hg (hr.mono le__law_made) (by rfl) t._law_made.m t._law_made.F.kp t._law_made.b (da_cons (de_var 0) (da_cons (de_ix (de_var 5) de_int) (da_cons (de_var 6) da_nil)))) da_nil))).rol)).cel)))) (dss_one (ds_expr (de_app (de_var 4) (de_if (dt_cmp (od_eq hu) (de_ix (de_var 5) de_int) de_str (nomark _)) (de_var 2) (de_ix (de_var 5) de_int))))))))))
      (dss_one (ds_ret (de_callTy cd_tuple (by rfl) t.n_tuple (by decide +kernel) (da_cons (de_var 4) da_nil)))))))
theorem wlaw (t : Txt P K mg C) {n k lv__law_any lv__law_deal lv__law_dict lv__law_filled lv__law_made lv__law_names lv__law_of lv__law_parts lv__law_tree lv__law_turning lv_made_by lv_made_document lv_turned lv_turned_forest lv_init : Nat} (W__law_any : DFn P w K mg base lv__law_any t._law_any.f t._law_any.fd ["deal", "bound"] (D2.Spec.dr D2.A_law_any D2.P_law_any D2.R_law_any)) (le__law_any : lv__law_any ≤ k) (W__law_deal : DFn P w K mg base lv__law_deal t._law_deal.f t._law_deal.fd ["script", "base"] (K51.S_law_deal)) (le__law_deal : lv__law_deal ≤ k) (W__law_dict : DFn P w K mg base lv__law_dict t._law_dict.f t._law_dict.fd ["rules"] (D2.Spec.fn K51.A_law_dict K51.P_law_dict K51.R_law_dict)) (le__law_dict : lv__law_dict ≤ k) (W__law_filled : DFn P w K mg base lv__law_filled t._law_filled.f t._law_filled.fd ["rules", "parts", "text", "things"] (D2.Spec.fn K51.A_law_filled (K51.P_law_filled n) K51.R_law_filled)) (le__law_filled : lv__law_filled ≤ k) (W__law_made : DFn P w K mg base lv__law_made t._law_made.f t._law_made.fd ["rules", "mode", "thing"] (D2.Spec.fn K51.A_law_made (K51.P_law_made n) K51.R_law_made)) (le__law_made : lv__law_made ≤ k) (W__law_names : DFn P w K mg base lv__law_names t._law_names.f t._law_names.fd ["deal"] (D2.Spec.dr K51.A_law_names K51.P_law_names K51.R_law_names)) (le__law_names : lv__law_names ≤ k) (W__law_of : DFn P w K mg base lv__law_of t._law_of.f t._law_of.fd ["deal", "some"] (D2.Spec.dr D2.A_law_of D2.P_law_of D2.R_law_of)) (le__law_of : lv__law_of ≤ k) (W__law_parts : DFn P w K mg base lv__law_parts t._law_parts.f t._law_parts.fd ["deal", "modes", "names", "letter", "deep", "room"] ((K51.S_law_parts n))) (le__law_parts : lv__law_parts ≤ k) (W__law_tree : DFn P w K mg base lv__law_tree t._law_tree.f t._law_tree.fd ["deal", "names", "room", "deep"] ((K51.S_law_tree n))) (le__law_tree : lv__law_tree ≤ k) (W__law_turning : DFn P w K mg base lv__law_turning t._law_turning.f t._law_turning.fd ["deal", "names", "most", "goes", "deep"] (D2.Spec.dr K51.A_law_turning K51.P_law_turning K51.R_law_turning)) (le__law_turning : lv__law_turning ≤ k) (W_made_by : DFn P w K mg base lv_made_by t.made_by.f t.made_by.fd ["turning", "parts", "things"] (D2.Spec.fn (K51.A_made_by C) (K51.P_made_by n) K51.R_made_by)) (le_made_by : lv_made_by ≤ k) (W_made_document : DFn P w K mg base lv_made_document t.made_document.f t.made_document.fd ["turning", "node"] (D2.Spec.fn (K51.A_made_document C) K51.P_made_document K51.R_made_document)) (le_made_document : lv_made_document ≤ k) (W_turned : DFn P w K mg base lv_turned t.turned.f t.turned.fd ["turning", "node"] (D2.Spec.fn (K51.A_turned C) K51.P_turned K51.R_turned)) (le_turned : lv_turned ≤ k) (W_turned_forest : DFn P w K mg base lv_turned_forest t.turned_forest.f t.turned_forest.fd ["turning", "mode", "forest"] (D2.Spec.fn (K51.A_turned_forest C) (K51.P_turned_forest n) K51.R_turned_forest)) (le_turned_forest : lv_turned_forest ≤ k) (W_init : FnOk P w K mg base CX0 lv_init t.fI t.dI ["self", "rules", "mode"] (spIni C ["rules", "mode"])) (le_init : lv_init + 1 ≤ k) (p : PL K51.Nlaw (K51.Wlaw C n) (sLaw0)) : DFn P w K mg base (k + 1) t.law.f t.law.fd ["script"] (sLaw0) := by
  refine dfn_of t.law.F sclaw (fun i h => rfl) fun cdv A outer s H E hg hr => ⟨_, ?_, p⟩
  have hu := hr.units
  have hu1 := Nat.lt_of_le_of_lt (Nat.add_le_add_left (show 1 ≤ 64 by decide) _) hu
  have hu3 := Nat.lt_of_le_of_lt (Nat.add_le_add_left (show 3 ≤ 64 by decide) _) hu
  have sc := sclaw
  exact ((dss_cons (ds_set (i := 1) sc.nd rfl (.inl rfl) (de_call W__law_deal hg (hr.mono le__law_deal) (by rfl) t._law_deal.m t._law_deal.F.kp t._law_deal.b (da_cons (de_var 0) (da_cons de_int da_nil))))
      (dss_cons (ds_set (i := 2) sc.nd rfl (.inl rfl) (de_dr W__law_names hg (hr.mono le__law_names) (by rfl) t._law_names.m t._law_names.F.kp t._law_names.b (da_cons (de_var 1) da_nil)))
      (dss_cons (ds_asgT (t := (.many [3, 4])) (de_dr W__law_turning hg (hr.mono le__law_turning) (by rfl) t._law_turning.m t._law_turning.F.kp t._law_turning.b (da_cons (de_var 1) (da_cons (de_var 2) (da_cons de_int (da_cons de_int (da_cons de_int da_nil)))))) (pg_tup rfl (pgs_cons (pg_name (i := 3) sc.nd rfl (.inl rfl)) (pgs_cons (pg_name (i := 4) sc.nd rfl (.inl rfl)) pgs_nil))))
      (dss_cons (ds_par3 (i := 5) (j := 6) (l := 7) (fun h => ps_par3 rfl sc.nd rfl rfl rfl (by decide) (by decide) (by decide) rfl rfl rfl h (by rfl)) (de_make t.mkC W_init (hr.mono le_init) (by rfl) t.mgC t.b_init (da_cons (de_var 3) (da_cons (de_var 4) da_nil))) (de_fn W__law_dict hg (hr.mono le__law_dict) (by rfl) t._law_dict.m t._law_dict.F.kp t._law_dict.b (da_cons (de_var 3) da_nil)) ((dn_ss rfl (by rfl) t.n_sorted (by rfl) t.n_set (de_op od_add ((dn_lc (own := [("rule", 8)]) (t := (.one 8)) (wt := wYes) (we := (w2 gIx (wVar 8) (wC (.int 0)))) rfl sc.nd (di_any (de_var 3)) (blkOk_by (N := K51.Nlaw) (sc := defScope slaw) (by decide +kernel)) (fun _ _ _ _ _ => (pg_name (i := 8) sc.nd rfl (.inl rfl))) (fun _ _ _ _ _ => dts_nil) (fun _ _ _ _ _ => (de_ix (de_var 8) de_int)) (by decide))).rol (de_rol (da_cons (de_var 4) (da_cons de_str da_nil)))))).rol)
      (dss_cons (ds_for (t := (.one 9)) PassesOwn.never rfl (di_range1 (by rfl) t.n_range (da_cons de_int da_nil)) (pg_name (i := 9) sc.nd rfl (.inl rfl)) (dss_cons (ds_set (i := 10) sc.nd rfl (.inl rfl) (de_call W__law_tree hg (hr.mono le__law_tree) (by rfl) t._law_tree.m t._law_tree.F.kp t._law_tree.b (da_cons (de_var 1) (da_cons (de_op od_add (de_var 2) (de_rol (da_cons de_str da_nil))) (da_cons (de_cel (da_cons (de_dr W__law_of hg (hr.mono le__law_of) (by rfl) t._law_of.m t._law_of.F.kp t._law_of.b (da_cons (de_var 1) (da_cons (de_rol (da_cons de_int (da_cons de_int (da_cons de_int da_nil)))) da_nil))) da_nil)) (da_cons de_int da_nil))))))
      (dss_cons (ds_set (i := 11) sc.nd rfl (.inl rfl) (de_fn W__law_made hg (hr.mono le__law_made) (by rfl) t._law_made.m t._law_made.F.kp t._law_made.b (da_cons (de_var 6) (da_cons (de_var 4) (da_cons (de_var 10) da_nil)))))
      (dss_cons (ds_if (dt_cmp (od_ne hu) (de_callB (cd_repr hg hu) (by rfl) t.n_repr (by decide +kernel) (da_cons (de_fn0 (gD := (ordL [0, 1])) (g := (ordL [0, 1])) (gV := (ordL [0, 1])) (ks := ["turning", "node"]) W_turned hg (hr.mono le_turned) (by rfl) t.turned.m t.turned.F.kp (kb_by t.turned.F fun _ _ _ _ _ _ us ws h1 h2 => match us, ws, h1, h2 with | [], [_, _], _, _ => rfl) (grel_ord _) (dk_cons (de_var 5) (dk_cons (de_var 10) dk_nil))) da_nil)) (de_callB (cd_repr hg hu) (by rfl) t.n_repr (by decide +kernel) (da_cons (de_var 11) da_nil)) (nomark _)) (dss_one (ds_ret de_bl)) dss_nil)
      (dss_cons (ds_set (i := 12) sc.nd rfl (.inl rfl) (de_and (de_cmp (od_eq hu) (de_callB cd_len (by rfl) t.n_len (by decide +kernel) (da_cons (de_var 11) da_nil)) de_int (nomark _)) (de_one (de_not (de_isi .str (by rfl) t.n_isinstance (by rfl) t.n_str (by decide +kernel) (de_ix (de_var 11) de_int))))))
      (dss_cons (ds_if (dt_cmp (od_ne hu) (de_callB (cd_repr hg hu) (by rfl) t.n_repr (by decide +kernel) (da_cons (de_fn0 (gD := (ordL [0, 1])) (g := (ordL [0, 1])) (gV := (ordL [0, 1])) (ks := ["turning", "node"]) W_made_document hg (hr.mono le_made_document) (by rfl) t.made_document.m t.made_document.F.kp (kb_by t.made_document.F fun _ _ _ _ _ _ us ws h1 h2 => match us, ws, h1, h2 with | [], [_, _], _, _ => rfl) (grel_ord _) (dk_cons (de_var 5) (dk_cons (de_var 10) dk_nil))) da_nil)) (de_callB (cd_repr hg hu) (by rfl) t.n_repr (by decide +kernel) (da_cons (de_if (dt_tru (de_var 12)) (de_ix (de_var 11) de_int) de_non) da_nil)) (nomark _)) (dss_one (ds_ret de_bl)) dss_nil)
      (dss_cons (ds_par (i := 13) (j := 14) rfl sc.nd rfl rfl (by decide) rfl rfl (de_dr W__law_of hg (hr.mono le__law_of) (by rfl) t._law_of.m t._law_of.F.kp t._law_of.b (da_cons (de_var 1) (da_cons (de_var 7) da_nil))) (de_dr W__law_any hg (hr.mono le__law_any) (by rfl) t._law_any.m t._law_any.F.kp t._law_any.b (da_cons (de_var 1) (da_cons (de_op od_add (de_callB cd_len (by rfl) t.n_len (by decide +kernel) (da_cons (de_ix (de_var 10) de_int) da_nil)) de_int) da_nil))) (by rfl))
      (dss_cons (ds_par (i := 15) (j := 16) rfl sc.nd rfl rfl (by decide) rfl rfl (de_ix (de_var 10) de_int) (de_tup da_nil) (by rfl))
      (dss_cons (ds_for (t := (.one 17)) PassesOwn.never rfl (di_any (de_var 15)) (pg_name (i := 17) sc.nd rfl (.inl rfl)) (dss_one (ds_set (i := 16) sc.nd rfl (.inl rfl) (de_op od_add (de_var 16) (de_fn W__law_made hg (hr.mono le__law_made) (by rfl) t._law_made.m t._law_made.F.kp t._law_made.b (da_cons (de_var 6) (da_cons (de_var 13) (da_cons (de_var 17) da_nil))))))))
      (dss_cons (ds_if (dt_cmp (od_ne hu) (de_callB (cd_repr hg hu) (by rfl) t.n_repr (by decide +kernel) (da_cons (de_fn0 (gD := (ordL [0, 1, 2])) (g := (ordL [0, 1, 2])) (gV := (ordL [0, 1, 2])) (ks := ["turning", "mode", "forest"]) W_turned_forest hg (hr.mono le_turned_forest) (by rfl) t.turned_forest.m t.turned_forest.F.kp (kb_by t.turned_forest.F fun _ _ _ _ _ _ us ws h1 h2 => match us, ws, h1, h2 with | [], [_, _, _], _, _ => rfl) (grel_ord _) (dk_cons (de_var 5) (dk_cons (de_var 13) (dk_cons (de_var 15) dk_nil)))) da_nil)) (de_callB (cd_repr hg hu) (by rfl) t.n_repr (by decide +kernel) (da_cons (de_var 16) da_nil)) (nomark _)) (dss_one (ds_ret de_bl)) dss_nil)
      (dss_cons (ds_if (dt_cmp (od_ne hu) (de_op od_add (de_fn W_turned_forest hg (hr.mono le_turned_forest) (by rfl) t.turned_forest.m t.turned_forest.F.kp t.turned_forest.b (da_cons (de_var 5) (da_cons (de_var 13) (da_cons (de_sl (de_var 15) do_no (do_some (de_var 14))) da_nil)))) (de_fn W_turned_forest hg (hr.mono le_turned_forest) (by rfl) t.turned_forest.m t.turned_forest.F.kp t.turned_forest.b (da_cons (de_var 5) (da_cons (de_var 13) (da_cons (de_sl (de_var 15) (do_some (de_var 14)) do_no) da_nil))))) (de_var 16) (nomark _)) (dss_one (ds_ret de_bl)) dss_nil)
      (dss_cons (ds_set (i := 18) sc.nd rfl (.inl rfl) (de_call W__law_parts hg (hr.mono le__law_parts) (by rfl) t._law_parts.m t._law_parts.F.kp t._law_parts.b (da_cons (de_var 1) (da_cons (de_var 7) (da_cons (de_var 2) (da_cons de_str (da_cons de_int (da_cons (de_cel (da_cons de_int da_nil)) da_nil))))))))
      (dss_one (ds_if (dt_cmp (od_ne hu) (de_callB (cd_repr hg hu) (by rfl) t.n_repr (by decide +kernel) (da_cons (de_fn0 (gD := (ordL [0, 1, 2])) (g := (ordL [0, 1, 2])) (gV := (ordL [0, 1, 2])) (ks := ["turning", "parts", "things"]) W_made_by hg (hr.mono le_made_by) (by rfl) t.made_by.m t.made_by.F.kp (kb_by t.made_by.F fun _ _ _ _ _ _ us ws h1 h2 => match us, ws, h1, h2 with | [], [_, _, _], _, _ => rfl) (grel_ord _) (dk_cons (de_var 5) (dk_cons (de_var 18) (dk_cons (de_var 15) dk_nil)))) da_nil)) (de_callB (cd_repr hg hu) (by rfl) t.n_repr (by decide +kernel) (da_cons (de_fn W__law_filled hg (hr.mono le__law_filled) (by rfl) t._law_filled.m t._law_filled.F.kp t._law_filled.b (da_cons (de_var 6) (da_cons (de_var 18) (da_cons de_str (da_cons (de_var 15) da_nil))))) da_nil)) (nomark _)) (dss_one (ds_ret de_bl)) dss_nil))))))))))))))
      (dss_one (ds_ret (de_cmp (od_eq hu) (de_fn W_turned_forest hg (hr.mono le_turned_forest) (by rfl) t.turned_forest.m t.turned_forest.F.kp t.turned_forest.b (da_cons (de_var 5) (da_cons (de_var 4) (da_cons (de_tup da_nil) da_nil)))) (de_tup da_nil) (nomark _))))))))))
end
end K51

namespace K75
open PySem PySem.Spec PyProof.Rows L2 D2 K02
/-! ### the data -/
abbrev pl (p : List Nat) : Dv := .tup (p.map nat)
def getA : Th → List Nat → Option Th
  | t, [] => some t
  | .txt _, _ :: _ => none
  | .node _ ts, i :: p => match ts[i]? with
    | some t => getA t p
    | none => none
def putA : Th → List Nat → Th → Th
  | _, [], x => x
  | .txt s, _ :: _, _ => .txt s
  | .node n ts, i :: p, x => match ts[i]? with
    | some t => .node n (ts.take i ++ [putA t p x] ++ ts.drop (i + 1))
    | none => .node n ts
inductive Ed where
  | drop (p : List Nat) (i : Nat) | put (p : List Nat) (i : Nat) (t : Th) | name (p : List Nat) (s : Str) | say (p : List Nat) (i : Nat) (s : Str)
def Ed.dv : Ed → Dv
  | .drop p i => .tup [.str "drop", pl p, nat i]
  | .put p i t => .tup [.str "put", pl p, nat i, t.dv]
  | .name p s => .tup [.str "name", pl p, .str s]
  | .say p i s => .tup [.str "say", pl p, nat i, .str s]
def Ed.at_ : Ed → List Nat
  | .drop p _ => p
  | .put p _ _ => p
  | .name p _ => p
  | .say p _ _ => p
def Ed.fits (ts : List Th) : Ed → Prop
  | .drop _ i => i < ts.length
  | .put _ i t => i ≤ ts.length ∧ t.ok ∧ t.size ≤ 500 ∧ t.dep ≤ 25
  | .name _ s => NmOk s
  | .say _ i s => (∃ s0, ts[i]? = some (.txt s0)) ∧ TxOk s
def chg (n : Str) (ts : List Th) : Ed → Th
  | .drop _ i => .node n (ts.take i ++ ts.drop (i + 1))
  | .put _ i t => .node n (ts.take i ++ [t] ++ ts.drop i)
  | .name _ s => .node s ts
  | .say _ i s => .node n (ts.take i ++ [.txt s] ++ ts.drop (i + 1))
def txtOf : Option Th → Str
  | some (.txt s) => s
  | _ => ""
def bck (n : Str) (ts : List Th) : Ed → Ed
  | .drop p i => .put p i (ts.getD i (.txt ""))
  | .put p i _ => .drop p i
  | .name p _ => .name p n
  | .say p i _ => .say p i (txtOf ts[i]?)
def Ed.good (t : Th) (e : Ed) : Prop := ∃ n ts, getA t e.at_ = some (.node n ts) ∧ e.fits ts
def doneE (t : Th) (e : Ed) : Th := match getA t e.at_ with
  | some (.node n ts) => putA t e.at_ (chg n ts e)
  | _ => t
def undoE (t : Th) (e : Ed) : Ed := match getA t e.at_ with
  | some (.node n ts) => bck n ts e
  | _ => e
def runE : Th → List Ed → Th
  | t, [] => t
  | t, e :: es => runE (doneE t e) es
def backs : Th → List Ed → List Ed
  | _, [] => []
  | t, e :: es => backs (doneE t e) es ++ [undoE t e]
def Sized (t : Th) : Prop := t.ok ∧ t.size ≤ 400 ∧ t.dep ≤ 25
def Chn : Th → List Ed → Prop
  | t, [] => Sized t
  | t, e :: es => Sized t ∧ e.good t ∧ Chn (doneE t e) es
def edsD (b : Bool) (es : List Ed) : Dv := if b then .rol (es.map Ed.dv) else .tup (es.map Ed.dv)
open Classical in
noncomputable def ahead : List Th → List Th → Nat
  | t :: ts, u :: us => if t = u then ahead ts us + 1 else 0
  | _, _ => 0
noncomputable def between (n1 : Str) (a : List Th) (n2 : Str) (b : List Th) : List Ed :=
  let h := ahead a b
  let k := ahead (a.drop h).reverse (b.drop h).reverse
  (if n1 = n2 then [] else [.name [] n2]) ++ List.replicate (a.length - h - k) (.drop [] h) ++ (List.range' h (b.length - k - h)).map fun i => .put [] i (b.getD i (.txt ""))
mutual
def places : Th → List (List Nat)
  | .txt _ => [[]]
  | .node _ ts => [] :: placess ts 0
def placess : List Th → Nat → List (List Nat)
  | [], _ => []
  | t :: ts, i => (places t).map (i :: ·) ++ placess ts (i + 1)
end
def Ed.light : Ed → Prop
  | .put p _ x => x.size ≤ 4 ∧ x.dep ≤ 3 ∧ (p.length < 20 ∨ x.dep = 0)
  | _ => True
/-! ### the promises -/
abbrev A_is_integer (v : Nat) : List Dv := [nat v]
abbrev P_is_integer (_ : Nat) : Prop := True
abbrev R_is_integer (_ : Nat) (d : Dv) : Prop := d = .bl true
abbrev A_is_below (i : Nat × Nat) : List Dv := [nat i.1, nat i.2]
abbrev P_is_below (i : Nat × Nat) : Prop := i.1 < i.2
abbrev R_is_below (_ : Nat × Nat) (d : Dv) : Prop := d = .bl true
abbrev A_is_thing (t : Th) : List Dv := [t.dv]
abbrev P_is_thing (t : Th) : Prop := t.ok ∧ t.size ≤ 1000
abbrev R_is_thing (_ : Th) (d : Dv) : Prop := d = .bl true
abbrev A_wrong_number (i : Th × List Nat) : List Dv := [i.1.dv, pl i.2]
abbrev P_wrong_number (i : Th × List Nat) : Prop := (getA i.1 i.2).isSome = true
abbrev R_wrong_number (_ : Th × List Nat) (d : Dv) : Prop := d = .non
abbrev A_need_place (i : Th × List Nat) : List Dv := [i.1.dv, pl i.2]
abbrev P_need_place (i : Th × List Nat) : Prop := (getA i.1 i.2).isSome = true
abbrev R_need_place (_ : Th × List Nat) (d : Dv) : Prop := d = .non
abbrev A_is_place (i : Th × List Nat) : List Dv := [i.1.dv, pl i.2]
abbrev P_is_place (i : Th × List Nat) : Prop := (getA i.1 i.2).isSome = true
abbrev R_is_place (_ : Th × List Nat) (d : Dv) : Prop := d = .bl true
abbrev A_at_place (i : Th × List Nat × Th) : List Dv := [i.1.dv, pl i.2.1]
abbrev P_at_place (i : Th × List Nat × Th) : Prop := getA i.1 i.2.1 = some i.2.2
abbrev R_at_place (i : Th × List Nat × Th) (d : Dv) : Prop := d = i.2.2.dv
abbrev A_put_there (i : Th × List Nat × Th) : List Dv := [i.1.dv, pl i.2.1, i.2.2.dv]
abbrev P_put_there (n : Nat) (i : Th × List Nat × Th) : Prop := i.2.1.length < n ∧ (getA i.1 i.2.1).isSome = true ∧ i.1.size ≤ 900
abbrev R_put_there (i : Th × List Nat × Th) (d : Dv) : Prop := d = (putA i.1 i.2.1 i.2.2).dv
abbrev A_wrong_change (i : List Th × Ed) : List Dv := [.tup (dvs i.1), i.2.dv]
abbrev P_wrong_change (i : List Th × Ed) : Prop := i.2.fits i.1
abbrev R_wrong_change (_ : List Th × Ed) (d : Dv) : Prop := d = .non
abbrev A_wrong_part (i : Th × Ed) : List Dv := [i.1.dv, i.2.dv]
abbrev P_wrong_part (i : Th × Ed) : Prop := i.2.good i.1 ∧ i.1.size ≤ 900
abbrev R_wrong_part (_ : Th × Ed) (d : Dv) : Prop := d = .non
abbrev A_need_edit (i : Th × Ed) : List Dv := [i.1.dv, i.2.dv]
abbrev P_need_edit (i : Th × Ed) : Prop := i.2.good i.1 ∧ i.1.size ≤ 900
abbrev R_need_edit (_ : Th × Ed) (d : Dv) : Prop := d = .non
abbrev A_is_edit (i : Th × Ed) : List Dv := [i.1.dv, i.2.dv]
abbrev P_is_edit (i : Th × Ed) : Prop := i.2.good i.1 ∧ i.1.size ≤ 900
abbrev R_is_edit (_ : Th × Ed) (d : Dv) : Prop := d = .bl true
abbrev A_changed (i : Str × List Th × Ed) : List Dv := [(Th.node i.1 i.2.1).dv, i.2.2.dv]
abbrev P_changed (i : Str × List Th × Ed) : Prop := i.2.2.fits i.2.1 ∧ sizes i.2.1 ≤ 900
abbrev R_changed (i : Str × List Th × Ed) (d : Dv) : Prop := d = (chg i.1 i.2.1 i.2.2).dv
abbrev A_made (i : Th × Ed) : List Dv := [i.1.dv, i.2.dv]
abbrev P_made (i : Th × Ed) : Prop := Sized i.1 ∧ i.2.good i.1
abbrev R_made (i : Th × Ed) (d : Dv) : Prop := d = (doneE i.1 i.2).dv
abbrev A_done (i : Th × Ed) : List Dv := [i.1.dv, i.2.dv]
abbrev P_done (i : Th × Ed) : Prop := Sized i.1 ∧ i.2.good i.1
abbrev R_done (i : Th × Ed) (d : Dv) : Prop := d = (doneE i.1 i.2).dv
abbrev A_undoing (i : Th × Ed) : List Dv := [i.1.dv, i.2.dv]
abbrev P_undoing (i : Th × Ed) : Prop := Sized i.1 ∧ i.2.good i.1
abbrev R_undoing (i : Th × Ed) (d : Dv) : Prop := d = (undoE i.1 i.2).dv
abbrev A_all_done (i : Th × List Ed × Bool) : List Dv := [i.1.dv, edsD i.2.2 i.2.1]
abbrev P_all_done (i : Th × List Ed × Bool) : Prop := Chn i.1 i.2.1 ∧ i.2.1.length ≤ 500
abbrev R_all_done (i : Th × List Ed × Bool) (d : Dv) : Prop := d = (runE i.1 i.2.1).dv
abbrev A_undoing_all (i : Th × List Ed × Bool) : List Dv := [i.1.dv, edsD i.2.2 i.2.1]
abbrev P_undoing_all (i : Th × List Ed × Bool) : Prop := Chn i.1 i.2.1 ∧ i.2.1.length ≤ 500
abbrev R_undoing_all (i : Th × List Ed × Bool) (d : Dv) : Prop := d = .tup ((backs i.1 i.2.1).map Ed.dv)
abbrev A_alike_ahead (i : List Th × List Th) : List Dv := [.tup (dvs i.1), .tup (dvs i.2)]
abbrev P_alike_ahead (i : List Th × List Th) : Prop := oks i.1 ∧ oks i.2 ∧ deps i.1 ≤ 25 ∧ deps i.2 ≤ 25
abbrev R_alike_ahead (i : List Th × List Th) (d : Dv) : Prop := d = nat (ahead i.1 i.2)
abbrev A_edits_between (i : (Str × List Th) × Str × List Th) : List Dv := [(Th.node i.1.1 i.1.2).dv, (Th.node i.2.1 i.2.2).dv]
abbrev P_edits_between (i : (Str × List Th) × Str × List Th) : Prop := Sized (.node i.1.1 i.1.2) ∧ Sized (.node i.2.1 i.2.2)
abbrev R_edits_between (i : (Str × List Th) × Str × List Th) (d : Dv) : Prop := d = .tup ((between i.1.1 i.1.2 i.2.1 i.2.2).map Ed.dv)
abbrev A_law_places (t : Th) : List Dv := [t.dv]
abbrev P_law_places (n : Nat) (t : Th) : Prop := t.dep < n ∧ t.size ≤ 1000
abbrev R_law_places (t : Th) (d : Dv) : Prop := d = .rol ((places t).map pl)
abbrev A_law_at (i : Th × List Nat × Th) : List Dv := [i.1.dv, pl i.2.1]
abbrev P_law_at (i : Th × List Nat × Th) : Prop := getA i.1 i.2.1 = some i.2.2
abbrev R_law_at (i : Th × List Nat × Th) (d : Dv) : Prop := d = i.2.2.dv
abbrev A_law_with (i : Th × List Nat × Th) : List Dv := [i.1.dv, pl i.2.1, i.2.2.dv]
abbrev P_law_with (n : Nat) (i : Th × List Nat × Th) : Prop := i.2.1.length < n ∧ (getA i.1 i.2.1).isSome = true ∧ i.1.size ≤ 900
abbrev R_law_with (i : Th × List Nat × Th) (d : Dv) : Prop := d = (putA i.1 i.2.1 i.2.2).dv
abbrev A_law_edit (i : Th × List Th × List Str) : List Dv := [i.1.dv, .rol (dvs i.2.1), .rol (i.2.2.map Dv.str)]
abbrev P_law_edit (_ : Sto) (i : Th × List Th × List Str) : Prop := Sized i.1 ∧ isTxt i.1 = false ∧ 0 < i.2.1.length ∧ i.2.1.length ≤ 10 ∧ (∀ x ∈ i.2.1, x.ok ∧ x.size ≤ 4 ∧ x.dep ≤ 3) ∧ 0 < i.2.2.length ∧ i.2.2.length ≤ 10 ∧ ∀ s ∈ i.2.2, NmOk s
abbrev R_law_edit (i : Th × List Th × List Str) (d : Dv) : Prop := ∃ e : Ed, e.good i.1 ∧ e.light ∧ d = e.dv
abbrev A_law_done (i : Th × Ed) : List Dv := [i.1.dv, i.2.dv]
abbrev P_law_done (i : Th × Ed) : Prop := Sized i.1 ∧ i.2.good i.1
abbrev R_law_done (i : Th × Ed) (d : Dv) : Prop := d = (doneE i.1 i.2).dv
abbrev A_law_back (i : Th × Ed) : List Dv := [i.1.dv, i.2.dv]
abbrev P_law_back (i : Th × Ed) : Prop := Sized i.1 ∧ i.2.good i.1
abbrev R_law_back (i : Th × Ed) (d : Dv) : Prop := d = (undoE i.1 i.2).dv
abbrev A_law_row_right (i : Th × List Ed × Bool) : List Dv := [i.1.dv, edsD i.2.2 i.2.1]
abbrev P_law_row_right (i : Th × List Ed × Bool) : Prop := Chn i.1 i.2.1 ∧ i.2.1.length ≤ 100
abbrev R_law_row_right (_ : Th × List Ed × Bool) (d : Dv) : Prop := d = .bl true
abbrev A_law_between_right (i : (Str × List Th) × Str × List Th) : List Dv := [(Th.node i.1.1 i.1.2).dv, (Th.node i.2.1 i.2.2).dv]
abbrev P_law_between_right (i : (Str × List Th) × Str × List Th) : Prop := (Sized (.node i.1.1 i.1.2) ∧ sizes i.1.2 ≤ 190) ∧ Sized (.node i.2.1 i.2.2) ∧ sizes i.2.2 ≤ 190
abbrev R_law_between_right (_ : (Str × List Th) × Str × List Th) (d : Dv) : Prop := d = .bl true
section
variable (n : Nat)
abbrev Wis_integer : DTS :=
  (wRet (wAndV (wIsi .int (wVar 0)) (wNotV (wIsi .bool (wVar 0)))))
abbrev Nis_integer : List Str := ["value"]
abbrev Wis_below : DTS :=
  (wRet (wAndV (wFn A_is_integer P_is_integer R_is_integer (wCons (wVar 0) wNil)) (wChain (gB fun a b => decide (a ≤ b)) (gB fun a b => decide (a < b)) (wC (.int 0)) (wVar 0) (wVar 1))))
abbrev Nis_below : List Str := ["value", "bound"]
abbrev Wis_thing : DTS :=
  (wRet (w2 (gIs false) (wFn A_wrong_thing P_wrong_thing R_wrong_thing (wCons (wTup (wCons (wVar 0) wNil)) wNil)) (wC .non)))
abbrev Nis_thing : List Str := ["value"]
abbrev Wwrong_number : DTS :=
  (wSeq (wSet 2 (wVar 0))
  (wSeq (wFor (wEnum (wCons (wVar 1) wNil)) (.many [3, 4]) (wSeq (wIf (wOr (wTru (wIsi .str (wVar 2))) (wNot (wTru (wFn A_is_below P_is_below R_is_below (wCons (wVar 4) (wCons (wCB (g1 gLen) (wCons (w2 gIx (wVar 2) (wC (.int 1))) wNil)) wNil)))))) (wRet (wVar 3)) wNext)
  (wSet 2 (w2 gIx (w2 gIx (wVar 2) (wC (.int 1))) (wVar 4)))))
  (wRet (wC .non))))
abbrev Nwrong_number : List Str := ["node", "place", "here", "at", "number"]
abbrev Wneed_place : DTS :=
  (wSeq (wSet 2 (wIfE (wTru (wIsi .tuple (wVar 1))) (wFn A_wrong_number P_wrong_number R_wrong_number (wCons (wVar 0) (wCons (wVar 1) wNil))) (wNeg (wC (.int 1)))))
  (wIf (wB (w2 (gIs true) (wVar 2) (wC .non))) wDead wNext))
abbrev Nneed_place : List Str := ["node", "value", "at"]
abbrev Wis_place : DTS :=
  (wRet (wAndV (wIsi .tuple (wVar 1)) (w2 (gIs false) (wFn A_wrong_number P_wrong_number R_wrong_number (wCons (wVar 0) (wCons (wVar 1) wNil))) (wC .non))))
abbrev Nis_place : List Str := ["node", "value"]
abbrev Wat_place : DTS :=
  (wSeq (wDrop (wFn A_need_place P_need_place R_need_place (wCons (wVar 0) (wCons (wVar 1) wNil))))
  (wSeq (wSet 2 (wVar 0))
  (wSeq (wFor (wIt (wVar 1)) (.one 3) (wSet 2 (w2 gIx (w2 gIx (wVar 2) (wC (.int 1))) (wVar 3))))
  (wRet (wVar 2)))))
abbrev Nat_place : List Str := ["node", "place", "here", "number"]
abbrev Wput_there : DTS :=
  (wSeq (wIf (wB (w2 (gEq false) (wVar 1) (wTup wNil))) (wRet (wVar 2)) wNext)
  (wSeq (wPar 3 4 (w2 gIx (wVar 1) (wC (.int 0))) (w2 gIx (wVar 0) (wC (.int 1))))
  (wRet (wTup (wCons (w2 gIx (wVar 0) (wC (.int 0))) (wCons (w2 gAdd (w2 gAdd (wSl (wVar 4) wNo (wPt (wVar 3))) (wTup (wCons (wFn A_put_there (P_put_there n) R_put_there (wCons (w2 gIx (wVar 4) (wVar 3)) (wCons (wSl (wVar 1) (wPt (wC (.int 1))) wNo) (wCons (wVar 2) wNil)))) wNil))) (wSl (wVar 4) (wPt (w2 gAdd (wVar 3) (wC (.int 1)))) wNo)) wNil))))))
abbrev Nput_there : List Str := ["node", "place", "thing", "at", "things"]
abbrev Wwrong_change : DTS :=
  (wSeq (wPar 2 3 (w2 gIx (wVar 1) (wC (.int 0))) (w2 gIx (wVar 1) (wC (.int 2))))
  (wSeq (wIf (wB (w2 (gEq false) (wVar 2) (wC (.str "name")))) (wRet (wIfE (wTru (wFn A_is_name P_is_name R_is_name (wCons (wVar 3) wNil))) (wC .non) (wC (.int 2)))) wNext)
  (wSeq (wIf (wNot (wTru (wFn A_is_below P_is_below R_is_below (wCons (wVar 3) (wCons (w2 gAdd (wCB (g1 gLen) (wCons (wVar 0) wNil)) (wIfE (wB (w2 (gEq false) (wVar 2) (wC (.str "put")))) (wC (.int 1)) (wC (.int 0)))) wNil))))) (wRet (wC (.int 2))) wNext)
  (wSeq (wIf (wB (w2 (gEq false) (wVar 2) (wC (.str "drop")))) (wRet (wC .non)) wNext)
  (wSeq (wIf (wB (w2 (gEq false) (wVar 2) (wC (.str "put")))) (wRet (wIfE (wTru (wFn A_is_thing P_is_thing R_is_thing (wCons (w2 gIx (wVar 1) (wC (.int 3))) wNil))) (wC .non) (wC (.int 3)))) wNext)
  (wSeq (wIf (wNot (wTru (wIsi .str (w2 gIx (wVar 0) (wVar 3))))) (wRet (wC (.int 2))) wNext)
  (wRet (wIfE (wTru (wFn A_is_text P_is_text R_is_text (wCons (w2 gIx (wVar 1) (wC (.int 3))) wNil))) (wC .non) (wC (.int 3))))))))))
abbrev Nwrong_change : List Str := ["things", "value", "word", "what"]
abbrev Wwrong_part : DTS :=
  (wSeq (wIf (wOr (wNot (wTru (wIsi .tuple (wVar 1)))) (wOr (wB (w2 (gEq false) (wVar 1) (wTup wNil))) (wNot (wTru (wIsi .str (w2 gIx (wVar 1) (wC (.int 0)))))))) (wRet (wC (.int 0))) wNext)
  (wSeq (wIf (wOr (wB (wKIn true [("drop", 3), ("name", 3), ("put", 4), ("say", 4)] (w2 gIx (wVar 1) (wC (.int 0))))) (wB (w2 (gEq true) (wCB (g1 gLen) (wCons (wVar 1) wNil)) (wKIx [("drop", 3), ("name", 3), ("put", 4), ("say", 4)] (w2 gIx (wVar 1) (wC (.int 0))))))) (wRet (wC (.int 0))) wNext)
  (wSeq (wIf (wNot (wTru (wFn A_is_place P_is_place R_is_place (wCons (wVar 0) (wCons (w2 gIx (wVar 1) (wC (.int 1))) wNil))))) (wRet (wC (.int 1))) wNext)
  (wSeq (wSet 2 (wFn A_at_place P_at_place R_at_place (wCons (wVar 0) (wCons (w2 gIx (wVar 1) (wC (.int 1))) wNil))))
  (wRet (wIfE (wTru (wIsi .str (wVar 2))) (wC (.int 1)) (wFn A_wrong_change P_wrong_change R_wrong_change (wCons (w2 gIx (wVar 2) (wC (.int 1))) (wCons (wVar 1) wNil)))))))))
abbrev Nwrong_part : List Str := ["node", "value", "here"]
abbrev Wneed_edit : DTS :=
  (wSeq (wSet 2 (wFn A_wrong_part P_wrong_part R_wrong_part (wCons (wVar 0) (wCons (wVar 1) wNil))))
  (wIf (wB (w2 (gIs true) (wVar 2) (wC .non))) wDead wNext))
abbrev Nneed_edit : List Str := ["node", "value", "at"]
abbrev Wis_edit : DTS :=
  (wRet (w2 (gIs false) (wFn A_wrong_part P_wrong_part R_wrong_part (wCons (wVar 0) (wCons (wVar 1) wNil))) (wC .non)))
abbrev Nis_edit : List Str := ["node", "value"]
abbrev Wchanged : DTS :=
  (wSeq (wAsgN (.many [2, 3]) (.many [4, 5]) (wTup (wCons (wVar 0) (wCons (wTup (wCons (w2 gIx (wVar 1) (wC (.int 0))) (wCons (w2 gIx (wVar 1) (wC (.int 2))) wNil))) wNil))))
  (wSeq (wIf (wB (w2 (gEq false) (wVar 4) (wC (.str "name")))) (wRet (wTup (wCons (wVar 5) (wCons (wVar 3) wNil)))) wNext)
  (wSeq (wIf (wB (w2 (gEq false) (wVar 4) (wC (.str "put")))) (wRet (wTup (wCons (wVar 2) (wCons (w2 gAdd (w2 gAdd (wSl (wVar 3) wNo (wPt (wVar 5))) (wTup (wCons (w2 gIx (wVar 1) (wC (.int 3))) wNil))) (wSl (wVar 3) (wPt (wVar 5)) wNo)) wNil)))) wNext)
  (wRet (wTup (wCons (wVar 2) (wCons (w2 gAdd (w2 gAdd (wSl (wVar 3) wNo (wPt (wVar 5))) (wIfE (wB (w2 (gEq false) (wVar 4) (wC (.str "say")))) (wTup (wCons (w2 gIx (wVar 1) (wC (.int 3))) wNil)) (wTup wNil))) (wSl (wVar 3) (wPt (w2 gAdd (wVar 5) (wC (.int 1)))) wNo)) wNil)))))))
abbrev Nchanged : List Str := ["here", "edit", "name", "things", "word", "at"]
abbrev Wmade : DTS :=
  (wRet (wFn A_put_there (P_put_there n) R_put_there (wCons (wVar 0) (wCons (w2 gIx (wVar 1) (wC (.int 1))) (wCons (wFn A_changed P_changed R_changed (wCons (wFn A_at_place P_at_place R_at_place (wCons (wVar 0) (wCons (w2 gIx (wVar 1) (wC (.int 1))) wNil))) (wCons (wVar 1) wNil))) wNil)))))
abbrev Nmade : List Str := ["node", "edit"]
abbrev Wdone : DTS :=
  (wSeq (wDrop (wFn A_need_edit P_need_edit R_need_edit (wCons (wVar 0) (wCons (wVar 1) wNil))))
  (wRet (wFn A_made P_made R_made (wCons (wVar 0) (wCons (wVar 1) wNil)))))
abbrev Ndone : List Str := ["node", "edit"]
abbrev Wundoing : DTS :=
  (wSeq (wDrop (wFn A_need_edit P_need_edit R_need_edit (wCons (wVar 0) (wCons (wVar 1) wNil))))
  (wSeq (wAsgN (.many [2, 3]) (.many [4, 5, 6]) (wTup (wCons (wFn A_at_place P_at_place R_at_place (wCons (wVar 0) (wCons (w2 gIx (wVar 1) (wC (.int 1))) wNil))) (wCons (wSl (wVar 1) wNo (wPt (wC (.int 3)))) wNil))))
  (wSeq (wIf (wB (w2 (gEq false) (wVar 4) (wC (.str "put")))) (wRet (wTup (wCons (wC (.str "drop")) (wCons (wVar 5) (wCons (wVar 6) wNil))))) wNext)
  (wSeq (wIf (wB (w2 (gEq false) (wVar 4) (wC (.str "drop")))) (wRet (wTup (wCons (wC (.str "put")) (wCons (wVar 5) (wCons (wVar 6) (wCons (w2 gIx (wVar 3) (wVar 6)) wNil)))))) wNext)
  (wRet (wIfE (wB (w2 (gEq false) (wVar 4) (wC (.str "name")))) (wTup (wCons (wC (.str "name")) (wCons (wVar 5) (wCons (wVar 2) wNil)))) (wTup (wCons (wC (.str "say")) (wCons (wVar 5) (wCons (wVar 6) (wCons (w2 gIx (wVar 3) (wVar 6)) wNil)))))))))))
abbrev Nundoing : List Str := ["node", "edit", "name", "things", "word", "place", "at"]
abbrev Wall_done : DTS :=
  (wSeq (wFor (wEnum (wCons (wVar 1) wNil)) (.many [2, 3]) (wSeq (wSet 4 (wFn A_wrong_part P_wrong_part R_wrong_part (wCons (wVar 0) (wCons (wVar 3) wNil))))
  (wSeq (wIf (wB (w2 (gIs true) (wVar 4) (wC .non))) wDead wNext)
  (wSet 0 (wFn A_made P_made R_made (wCons (wVar 0) (wCons (wVar 3) wNil)))))))
  (wRet (wVar 0)))
abbrev Nall_done : List Str := ["node", "edits", "number", "edit", "at"]
abbrev Wundoing_all : DTS :=
  (wSeq (wSet 2 (wCel wNil))
  (wSeq (wFor (wEnum (wCons (wVar 1) wNil)) (.many [3, 4]) (wSeq (wSet 5 (wFn A_wrong_part P_wrong_part R_wrong_part (wCons (wVar 0) (wCons (wVar 4) wNil))))
  (wSeq (wIf (wB (w2 (gIs true) (wVar 5) (wC .non))) wDead wNext)
  (wSeq (wDrop (wApp (wVar 2) (wFn A_undoing P_undoing R_undoing (wCons (wVar 0) (wCons (wVar 4) wNil)))))
  (wSet 0 (wFn A_made P_made R_made (wCons (wVar 0) (wCons (wVar 4) wNil))))))))
  (wRet (wCB (g1 gTuple) (wCons (wRl (wRevN (wVar 2))) wNil)))))
abbrev Nundoing_all : List Str := ["node", "edits", "found", "number", "edit", "at"]
abbrev Walike_ahead : DTS :=
  (wSeq (wSet 2 (wC (.int 0)))
  (wSeq (wFor (wZip (wCons (wVar 0) (wCons (wVar 1) wNil))) (.many [3, 4]) (wSeq (wIf (wB (w2 (gEq true) (wVar 3) (wVar 4))) (wRet (wVar 2)) wNext)
  (wAugI 2 (wC (.int 1)))))
  (wRet (wVar 2))))
abbrev Nalike_ahead : List Str := ["some", "others", "many", "one", "other"]
abbrev Wedits_between : DTS :=
  (wSeq (wSet 2 (wFn A_alike_ahead P_alike_ahead R_alike_ahead (wCons (w2 gIx (wVar 0) (wC (.int 1))) (wCons (w2 gIx (wVar 1) (wC (.int 1))) wNil))))
  (wSeq (wSet 3 (wFn A_alike_ahead P_alike_ahead R_alike_ahead (wCons (wRevT (wSl (w2 gIx (wVar 0) (wC (.int 1))) (wPt (wVar 2)) wNo)) (wCons (wRevT (wSl (w2 gIx (wVar 1) (wC (.int 1))) (wPt (wVar 2)) wNo)) wNil))))
  (wSeq (wSet 4 (wIfE (wB (w2 (gEq false) (w2 gIx (wVar 0) (wC (.int 0))) (w2 gIx (wVar 1) (wC (.int 0))))) (wCel wNil) (wCel (wCons (wTup (wCons (wC (.str "name")) (wCons (wTup wNil) (wCons (w2 gIx (wVar 1) (wC (.int 0))) wNil)))) wNil))))
  (wSeq (wDrop (wExtL (wVar 4) (w2 gMulL (wRol (wCons (wTup (wCons (wC (.str "drop")) (wCons (wTup wNil) (wCons (wVar 2) wNil)))) wNil)) (w2 (gI (fun _ _ => True) fun a b => a - b) (w2 (gI (fun _ _ => True) fun a b => a - b) (wCB (g1 gLen) (wCons (w2 gIx (wVar 0) (wC (.int 1))) wNil)) (wVar 2)) (wVar 3)))))
  (wSeq (wDrop (wExtL (wVar 4) (wRl (wLc (wRng2 (wCons (wVar 2) (wCons (w2 (gI (fun _ _ => True) fun a b => a - b) (wCB (g1 gLen) (wCons (w2 gIx (wVar 1) (wC (.int 1))) wNil)) (wVar 3)) wNil))) (.one 5) wYes (wTup (wCons (wC (.str "put")) (wCons (wTup wNil) (wCons (wVar 5) (wCons (w2 gIx (w2 gIx (wVar 1) (wC (.int 1))) (wVar 5)) wNil))))) [5]))))
  (wRet (wCB (g1 gTuple) (wCons (wVar 4) wNil))))))))
abbrev Nedits_between : List Str := ["one", "other", "ahead", "behind", "found", "at"]
abbrev W_law_source : DTS :=
  (wSeq (wSet 1 (wRl (wLc (wIt (wRl (wSlN (wVar 0) wNo (wPt (wC (.int 63)))))) (.one 2) wYes (wCB (g1 gAbs) (wCons (wCB (g1 gInt) (wCons (wVar 2) wNil)) wNil)) [2])))
  (wSeq (wSet 3 (wC (.int 1475009)))
  (wSeq (wFor (wIt (wVar 1)) (.one 2) (wSet 3 (w2 (gI (fun _ j => 0 < j) fun a b => a % b) (wCB (g1 gInt) (wCons (w2 gAdd (w2 gAdd (w2 gMul (wVar 3) (wC (.int 48271))) (w2 (gI (fun _ j => 0 < j) fun a b => a % b) (wVar 2) (wC (.int 2147483549)))) (wC (.int 41))) wNil)) (wC (.int 2147483647)))))
  (wRet (wCel (wCons (wCl (wRevN (wRl (wLc (wIt (wVar 1)) (.one 2) (wB (w2 (gB fun a b => decide (b ≤ a)) (wVar 2) (w2 (gI CPow fun a b => a ^ b.toNat) (wC (.int 10)) (wC (.int 18))))) (wVar 2) [2])))) (wCons (wVar 3) wNil)))))))
abbrev N_law_source : List Str := ["script", "cells", "cell", "blend"]
abbrev W_law_places : DTS :=
  (wSeq (wSet 1 (wRol (wCons (wTup wNil) wNil)))
  (wSeq (wFor (wRng1 (wCons (wIfE (wTru (wIsi .tuple (wVar 0))) (wCB (g1 gLen) (wCons (w2 gIx (wVar 0) (wC (.int 1))) wNil)) (wC (.int 0))) wNil)) (.one 2) (wSet 1 (w2 gAdd (wVar 1) (wRl (wLc (wIt (wFn A_law_places (P_law_places n) R_law_places (wCons (w2 gIx (w2 gIx (wVar 0) (wC (.int 1))) (wVar 2)) wNil))) (.one 3) wYes (w2 gAdd (wTup (wCons (wVar 2) wNil)) (wVar 3)) [3])))))
  (wRet (wVar 1))))
abbrev N_law_places : List Str := ["thing", "found", "at", "place"]
abbrev W_law_at : DTS :=
  (wSeq (wFor (wIt (wVar 1)) (.one 2) (wSet 0 (w2 gIx (w2 gIx (wVar 0) (wC (.int 1))) (wVar 2))))
  (wRet (wVar 0)))
abbrev N_law_at : List Str := ["thing", "place", "number"]
abbrev W_law_with : DTS :=
  (wSeq (wIf (wB (w2 (gEq false) (wVar 1) (wTup wNil))) (wRet (wVar 2)) wNext)
  (wSeq (wPar 3 4 (w2 gIx (wVar 1) (wC (.int 0))) (w2 gIx (wVar 0) (wC (.int 1))))
  (wRet (wTup (wCons (w2 gIx (wVar 0) (wC (.int 0))) (wCons (w2 gAdd (w2 gAdd (wSl (wVar 4) wNo (wPt (wVar 3))) (wTup (wCons (wFn A_law_with (P_law_with n) R_law_with (wCons (w2 gIx (wVar 4) (wVar 3)) (wCons (wSl (wVar 1) (wPt (wC (.int 1))) wNo) (wCons (wVar 2) wNil)))) wNil))) (wSl (wVar 4) (wPt (w2 gAdd (wVar 3) (wC (.int 1)))) wNo)) wNil))))))
abbrev N_law_with : List Str := ["thing", "place", "new", "at", "things"]
abbrev W_law_edit : DTS :=
  (wSeq (wSet 4 (wDr A_law_of P_law_of R_law_of (wCons (wVar 0) (wCons (wRl (wLc (wIt (wFn A_law_places (P_law_places n) R_law_places (wCons (wVar 1) wNil))) (.one 5) (wTru (wIsi .tuple (wFn A_law_at P_law_at R_law_at (wCons (wVar 1) (wCons (wVar 5) wNil))))) (wVar 5) [5])) wNil))))
  (wSeq (wAsgT (.many [6, 7]) (wTup (wCons (w2 gIx (wFn A_law_at P_law_at R_law_at (wCons (wVar 1) (wCons (wVar 4) wNil))) (wC (.int 1))) (wCons (wDr A_law_any P_law_any R_law_any (wCons (wVar 0) (wCons (wC (.int 7)) wNil))) wNil))))
  (wSeq (wSet 8 (wRl (wLc (wRng1 (wCons (wCB (g1 gLen) (wCons (wVar 6) wNil)) wNil)) (.one 9) (wTru (wIsi .str (w2 gIx (wVar 6) (wVar 9)))) (wVar 9) [9])))
  (wSeq (wIf (wAnd (wB (w2 (gB fun a b => decide (a < b)) (wVar 7) (wC (.int 2)))) (wB (w2 (gEq true) (wVar 6) (wTup wNil)))) (wRet (wTup (wCons (wC (.str "drop")) (wCons (wVar 4) (wCons (wDr A_law_any P_law_any R_law_any (wCons (wVar 0) (wCons (wCB (g1 gLen) (wCons (wVar 6) wNil)) wNil))) wNil))))) wNext)
  (wSeq (wIf (wAnd (wB (w2 (gEq false) (wVar 7) (wC (.int 2)))) (wB (w2 (gEq true) (wVar 8) (wRol wNil)))) (wRet (wTup (wCons (wC (.str "say")) (wCons (wVar 4) (wCons (wDr A_law_of P_law_of R_law_of (wCons (wVar 0) (wCons (wVar 8) wNil))) (wCons (wDr A_law_text P_law_text R_law_text (wCons (wVar 0) wNil)) wNil)))))) wNext)
  (wSeq (wIf (wB (w2 (gEq false) (wVar 7) (wC (.int 3)))) (wRet (wTup (wCons (wC (.str "name")) (wCons (wVar 4) (wCons (wDr A_law_of P_law_of R_law_of (wCons (wVar 0) (wCons (wVar 3) wNil))) wNil))))) wNext)
  (wSeq (wSet 10 (wDr A_law_of P_law_of R_law_of (wCons (wVar 0) (wCons (wVar 2) wNil))))
  (wRet (wTup (wCons (wC (.str "put")) (wCons (wVar 4) (wCons (wDr A_law_any P_law_any R_law_any (wCons (wVar 0) (wCons (w2 gAdd (wCB (g1 gLen) (wCons (wVar 6) wNil)) (wC (.int 1))) wNil))) (wCons (wIfE (wB (w2 (gB fun a b => decide (a < b)) (wCB (g1 gLen) (wCons (wVar 4) wNil)) (wC (.int 20)))) (wVar 10) (wC (.str ""))) wNil)))))))))))))
abbrev N_law_edit : List Str := ["deal", "node", "news", "names", "place", "here", "things", "form", "texts", "at", "new"]
abbrev W_law_done : DTS :=
  (wSeq (wAsgN (.many [2, 3, 4]) (.many [5, 6]) (wTup (wCons (wSl (wVar 1) wNo (wPt (wC (.int 3)))) (wCons (wFn A_law_at P_law_at R_law_at (wCons (wVar 0) (wCons (w2 gIx (wVar 1) (wC (.int 1))) wNil))) wNil))))
  (wSeq (wIf (wB (w2 (gEq false) (wVar 2) (wC (.str "name")))) (wRet (wFn A_law_with (P_law_with n) R_law_with (wCons (wVar 0) (wCons (wVar 3) (wCons (wTup (wCons (wVar 4) (wCons (wVar 6) wNil))) wNil))))) wNext)
  (wSeq (wSet 7 (wIfE (wB (w2 (gEq false) (wVar 2) (wC (.str "drop")))) (wTup wNil) (wTup (wCons (w2 gIx (wVar 1) (wC (.int 3))) wNil))))
  (wRet (wFn A_law_with (P_law_with n) R_law_with (wCons (wVar 0) (wCons (wVar 3) (wCons (wTup (wCons (wVar 5) (wCons (w2 gAdd (w2 gAdd (wSl (wVar 6) wNo (wPt (wVar 4))) (wVar 7)) (wSl (wVar 6) (wPt (w2 gAdd (wVar 4) (wIfE (wB (w2 (gEq false) (wVar 2) (wC (.str "put")))) (wC (.int 0)) (wC (.int 1))))) wNo)) wNil))) wNil))))))))
abbrev N_law_done : List Str := ["node", "edit", "word", "place", "at", "name", "things", "new"]
abbrev W_law_back : DTS :=
  (wSeq (wAsgN (.many [2, 3, 4]) (.many [5, 6]) (wTup (wCons (wSl (wVar 1) wNo (wPt (wC (.int 3)))) (wCons (wFn A_law_at P_law_at R_law_at (wCons (wVar 0) (wCons (w2 gIx (wVar 1) (wC (.int 1))) wNil))) wNil))))
  (wSeq (wIf (wB (w2 (gEq false) (wVar 2) (wC (.str "put")))) (wRet (wTup (wCons (wC (.str "drop")) (wCons (wVar 3) (wCons (wVar 4) wNil))))) wNext)
  (wSeq (wIf (wB (w2 (gEq false) (wVar 2) (wC (.str "name")))) (wRet (wTup (wCons (wC (.str "name")) (wCons (wVar 3) (wCons (wVar 5) wNil))))) wNext)
  (wRet (wTup (wCons (wIfE (wB (w2 (gEq false) (wVar 2) (wC (.str "drop")))) (wC (.str "put")) (wC (.str "say"))) (wCons (wVar 3) (wCons (wVar 4) (wCons (w2 gIx (wVar 6) (wVar 4)) wNil)))))))))
abbrev N_law_back : List Str := ["node", "edit", "word", "place", "at", "name", "things"]
abbrev W_law_row_right : DTS :=
  (wSeq (wPar 2 3 (wVar 0) (wRol wNil))
  (wSeq (wFor (wIt (wVar 1)) (.one 4) (wSeq (wSet 5 (wFn A_done P_done R_done (wCons (wVar 2) (wCons (wVar 4) wNil))))
  (wSeq (wIf (wOr (wB (w2 (gEq true) (wCB (g1 gRepr) (wCons (wVar 5) wNil)) (wCB (g1 gRepr) (wCons (wFn A_law_done P_law_done R_law_done (wCons (wVar 2) (wCons (wVar 4) wNil))) wNil)))) (wB (w2 (gEq true) (wFn A_done P_done R_done (wOrd 0 2 (ordL [0, 1]) wNil (wCons (wVar 2) (wCons (wVar 4) wNil)))) (wVar 5)))) (wRet (wC (.bl false))) wNext)
  (wSeq (wSet 6 (wFn A_undoing P_undoing R_undoing (wCons (wVar 2) (wCons (wVar 4) wNil))))
  (wSeq (wIf (wOr (wB (w2 (gEq true) (wCB (g1 gRepr) (wCons (wVar 6) wNil)) (wCB (g1 gRepr) (wCons (wFn A_law_back P_law_back R_law_back (wCons (wVar 2) (wCons (wVar 4) wNil))) wNil)))) (wOr (wB (w2 (gEq true) (wFn A_undoing P_undoing R_undoing (wOrd 0 2 (ordL [0, 1]) wNil (wCons (wVar 2) (wCons (wVar 4) wNil)))) (wVar 6))) (wB (w2 (gEq true) (wFn A_done P_done R_done (wCons (wVar 5) (wCons (wVar 6) wNil))) (wVar 2))))) (wRet (wC (.bl false))) wNext)
  (wPar 3 2 (w2 gAdd (wRol (wCons (wVar 6) wNil)) (wVar 3)) (wVar 5)))))))
  (wSeq (wIf (wOr (wB (w2 (gEq true) (wCB (g1 gRepr) (wCons (wFn A_all_done P_all_done R_all_done (wCons (wVar 0) (wCons (wRl (wCN (n1 fun x st Q => ∃ xs, seqD st x = some xs ∧ Q xs st) (wCons (wVar 1) wNil))) wNil))) wNil)) (wCB (g1 gRepr) (wCons (wVar 2) wNil)))) (wB (w2 (gEq true) (wFn A_all_done P_all_done R_all_done (wOrd 0 2 (ordL [0, 1]) wNil (wCons (wVar 0) (wCons (wCB (g1 gTuple) (wCons (wVar 1) wNil)) wNil)))) (wVar 2)))) (wRet (wC (.bl false))) wNext)
  (wSeq (wSet 7 (wFn A_undoing_all P_undoing_all R_undoing_all (wCons (wVar 0) (wCons (wVar 1) wNil))))
  (wRet (wAndV (w2 (gEq false) (wCB (g1 gRepr) (wCons (wVar 7) wNil)) (wCB (g1 gRepr) (wCons (wCB (g1 gTuple) (wCons (wVar 3) wNil)) wNil))) (wAndV (w2 (gEq false) (wFn A_undoing_all P_undoing_all R_undoing_all (wOrd 0 2 (ordL [0, 1]) wNil (wCons (wVar 0) (wCons (wRl (wCN (n1 fun x st Q => ∃ xs, seqD st x = some xs ∧ Q xs st) (wCons (wVar 1) wNil))) wNil)))) (wVar 7)) (w2 (gEq false) (wFn A_all_done P_all_done R_all_done (wCons (wVar 2) (wCons (wVar 7) wNil))) (wVar 0)))))))))
abbrev N_law_row_right : List Str := ["node", "edits", "here", "backs", "edit", "later", "back", "told"]
abbrev W_law_between_right : DTS :=
  (wSeq (wPar 2 3 (wFn A_edits_between P_edits_between R_edits_between (wCons (wVar 0) (wCons (wVar 1) wNil))) (wVar 0))
  (wSeq (wIf (wOr (wNot (wTru (wIsi .tuple (wVar 2)))) (wB (w2 (gEq true) (wFn A_edits_between P_edits_between R_edits_between (wOrd 0 2 (ordL [0, 1]) wNil (wCons (wVar 0) (wCons (wVar 1) wNil)))) (wVar 2)))) (wRet (wC (.bl false))) wNext)
  (wSeq (wFor (wIt (wVar 2)) (.one 4) (wSeq (wIf (wAnd (wB (w2 (gB fun a b => decide (a ≤ b)) (wCB (g1 gLen) (wCons (wFn A_law_places (P_law_places n) R_law_places (wCons (wVar 3) wNil)) wNil)) (wC (.int 100)))) (wB (w2 (gIsB true) (wFn A_is_edit P_is_edit R_is_edit (wCons (wVar 3) (wCons (wVar 4) wNil))) (wC (.bl true))))) (wRet (wC (.bl false))) wNext)
  (wSet 3 (wFn A_law_done P_law_done R_law_done (wCons (wVar 3) (wCons (wVar 4) wNil))))))
  (wRet (w2 (gEq false) (wCB (g1 gRepr) (wCons (wVar 3) wNil)) (wCB (g1 gRepr) (wCons (wVar 1) wNil)))))))
abbrev N_law_between_right : List Str := ["one", "other", "told", "here", "edit"]
abbrev Wlaw : DTS :=
  (wSeq (wSet 1 (wCall S_law_source (wCons (wVar 0) wNil)))
  (wSeq (wSet 2 (wDr A_law_names P_law_names R_law_names (wCons (wVar 1) (wCons (w2 gAdd (wC (.int 2)) (wDr A_law_any P_law_any R_law_any (wCons (wVar 1) (wCons (wC (.int 3)) wNil)))) wNil))))
  (wSeq (wFor (wRng1 (wCons (wC (.int 3)) wNil)) (.one 3) (wCut (wSeq (wSet 4 (wDr A_law_grown P_law_grown R_law_grown (wCons (wVar 1) (wCons (wVar 2) (wCons (w2 gAdd (wC (.int 1)) (wDr A_law_of P_law_of R_law_of (wCons (wVar 1) (wCons (wRol (wCons (wDr A_law_any P_law_any R_law_any (wCons (wVar 1) (wCons (wC (.int 6)) wNil))) (wCons (wDr A_law_any P_law_any R_law_any (wCons (wVar 1) (wCons (wC (.int 30)) wNil))) wNil))) wNil)))) (wCons (wDr A_law_of P_law_of R_law_of (wCons (wVar 1) (wCons (wRol (wCons (wC (.int 2)) (wCons (wC (.int 4)) (wCons (wC (.int 25)) wNil)))) wNil))) wNil))))))
  (wSeq (wSet 5 (wRol (wCons (wC (.str "")) (wCons (wDr A_law_text P_law_text R_law_text (wCons (wVar 1) wNil)) (wCons (wTup (wCons (w2 gIx (wVar 2) (wC (.int 0))) (wCons (wTup wNil) wNil))) (wCons (wDr A_law_grown P_law_grown R_law_grown (wCons (wVar 1) (wCons (wVar 2) (wCons (w2 gAdd (wC (.int 1)) (wDr A_law_any P_law_any R_law_any (wCons (wVar 1) (wCons (wC (.int 3)) wNil)))) (wCons (wC (.int 3)) wNil))))) wNil))))))
  (wSeq (wPar 6 7 (wCel wNil) (wVar 4))
  (wFor (wRng1 (wCons (wDr A_law_any P_law_any R_law_any (wCons (wVar 1) (wCons (wDr A_law_of P_law_of R_law_of (wCons (wVar 1) (wCons (wRol (wCons (wC (.int 9)) (wCons (wC (.int 9)) (wCons (wC (.int 17)) wNil)))) wNil))) wNil))) wNil)) (.one 8) (wSeq (wDrop (wApp (wVar 6) (wDr A_law_edit P_law_edit R_law_edit (wCons (wVar 1) (wCons (wVar 7) (wCons (wVar 5) (wCons (wVar 2) wNil)))))))
  (wSet 7 (wFn A_law_done P_law_done R_law_done (wCons (wVar 7) (wCons (w2 gIx (wVar 6) (wNeg (wC (.int 1)))) wNil)))))))))
  (wSeq (wSet 9 (wDr A_law_grown P_law_grown R_law_grown (wCons (wVar 1) (wCons (wVar 2) (wCons (w2 gAdd (wC (.int 1)) (wDr A_law_any P_law_any R_law_any (wCons (wVar 1) (wCons (wC (.int 12)) wNil)))) (wCons (wC (.int 4)) wNil))))))
  (wSeq (wIf (wOr (wNot (wTru (wFn A_law_row_right P_law_row_right R_law_row_right (wCons (wVar 4) (wCons (wVar 6) wNil))))) (wNot (wTru (wFn A_law_row_right P_law_row_right R_law_row_right (wCons (wVar 4) (wCons (wTup wNil) wNil)))))) (wRet (wC (.bl false))) wNext)
  (wIf (wOr (wNot (wTru (wFn A_law_between_right P_law_between_right R_law_between_right (wCons (wVar 4) (wCons (wVar 7) wNil))))) (wOr (wNot (wTru (wFn A_law_between_right P_law_between_right R_law_between_right (wCons (wVar 4) (wCons (wVar 9) wNil))))) (wNot (wTru (wFn A_law_between_right P_law_between_right R_law_between_right (wCons (wVar 7) (wCons (wVar 4) wNil))))))) (wRet (wC (.bl false))) wNext)))))
  (wRet (wFn A_law_between_right P_law_between_right R_law_between_right (wCons (wVar 4) (wCons (wVar 4) wNil)))))))
abbrev Nlaw : List Str := ["script", "deal", "names", "turn", "node", "news", "row", "here", "step", "other"]
end
end K75

namespace K02
open PySem PySem.Spec PyProof.Rows L2 D2
theorem nr_str (s : Str) : Nr (.str s) := .str s
mutual
theorem Th.nr : ∀ t : Th, Nr t.dv
  | .txt s => by
    unfold Th.dv
    exact .str s
  | .node n ts => by
    unfold Th.dv
    exact .tup (.cons (.str n) (.cons (.tup (nrs ts)) .nil))
theorem nrs : ∀ ts : List Th, Nrs (dvs ts)
  | [] => by
    unfold dvs
    exact .nil
  | t :: ts => by
    unfold dvs
    exact .cons (Th.nr t) (nrs ts)
end
theorem all_true : ∀ {bs : List Bool}, (∀ b ∈ bs, b = true) → bs.all id = true := fun h => List.all_eq_true.mpr h
theorem bls_of : ∀ {ys : List Dv} {P : Bool → Prop}, (∀ y ∈ ys, ∃ c : Bool, P c ∧ y = .bl c) → ∃ cs : List Bool, ys = cs.map Dv.bl ∧ ∀ c ∈ cs, P c
  | [], _, _ => ⟨[], rfl, fun _ h => by simp at h⟩
  | y :: ys, P, h => by
    obtain ⟨c, hc, rfl⟩ := h y (by simp)
    obtain ⟨cs, e, hcs⟩ := bls_of (ys := ys) (P := P) fun y hy => h y (by simp [hy])
    exact ⟨c :: cs, by rw [e]; rfl, fun x hx => by
      rcases List.mem_cons.mp hx with rfl | hx
      · exact hc
      · exact hcs x hx⟩
theorem inC {c : Nat} {z : Str} {st : Sto} {Q : DK} {neg : Bool} (q : Q (.bl (if neg then !decide (c ∈ z.cps.toList) else decide (c ∈ z.cps.toList))) st) : gIn neg (.str ⟨#[c]⟩) (.str z) st Q := by
  unfold gIn
  exact ⟨c, rfl, q⟩
theorem signs_len (z : Str) : (D2.signs z).length = z.length := by simp [D2.signs, Str.length]
theorem p_is_name : PL Nis_name Wis_name (D2.Spec.fn A_is_name P_is_name R_is_name) := by
  rintro (s : Str) h
  have h : NmOk s := h
  show Wis_name _ [some (.str s), none] []
  generalize hD : ({ nx := _, rt := _ } : DEnds) = D
  have fin : D.rt (.bl true) [] := by
    rw [← hD]
    exact back_fn (args := A_is_name) (pre := P_is_name) (F := R_is_name) (.bl true) rfl
  clear hD
  refine lenS (line64 (by have := h.2.1; omega)) ?_
  refine opB2 ?_
  rw [decide_eq_true (show (1 : Int) ≤ (s.length : Int) by have := h.1; omega)]
  refine opB2 ?_
  rw [decide_eq_true (show (s.length : Int) ≤ 8 by have := h.2.1; omega)]
  refine lc_all (xs := signs s) (R := fun st => st = []) (P := fun _ y => ∃ c : Bool, c = true ∧ y = .bl c) rfl (line64 (by have := h.2.1; rw [signs_len]; omega)) (fun i x st' e hR => ?_) ?_
  · subst hR
    obtain ⟨c, hc, rfl⟩ := List.mem_map.mp (List.mem_of_getElem? e)
    refine ⟨_, rfl, fun Q' q => ?_⟩
    refine inC ?_
    rw [decide_eq_true (h.2.2 c hc)]
    exact q _ _ ⟨true, rfl, rfl⟩ rfl
  · rintro ys st' rfl hl hP
    obtain ⟨bs, rfl, hb⟩ := bls_of (P := fun c => c = true) (mem_at hP)
    refine ⟨bs, rfl, ?_⟩
    rw [all_true hb]
    exact fin
theorem p_is_text : PL Nis_text Wis_text (D2.Spec.fn A_is_text P_is_text R_is_text) := by
  rintro (s : Str) h
  have h : TxOk s := h
  show Wis_text _ [some (.str s), none] []
  generalize hD : ({ nx := _, rt := _ } : DEnds) = D
  have fin : D.rt (.bl true) [] := by
    rw [← hD]
    exact back_fn (args := A_is_text) (pre := P_is_text) (F := R_is_text) (.bl true) rfl
  clear hD
  refine lenS (line64 (by have := h.1; omega)) ?_
  refine opB2 ?_
  rw [decide_eq_false (show ¬ (16 : Int) < (s.length : Int) by have := h.1; omega)]
  refine lc_all (xs := signs s) (R := fun st => st = []) (P := fun _ y => ∃ c : Bool, c = true ∧ y = .bl c) rfl (line64 (by have := h.1; rw [signs_len]; omega)) (fun i x st' e hR => ?_) ?_
  · subst hR
    obtain ⟨c, hc, rfl⟩ := List.mem_map.mp (List.mem_of_getElem? e)
    refine ⟨_, rfl, fun Q' q => ?_⟩
    refine inC ?_
    rw [decide_eq_true (h.2 c hc)]
    exact q _ _ ⟨true, rfl, rfl⟩ rfl
  · rintro ys st' rfl hl hP
    obtain ⟨bs, rfl, hb⟩ := bls_of (P := fun c => c = true) (mem_at hP)
    refine ⟨bs, rfl, ?_⟩
    rw [all_true hb]
    exact fin
theorem p_is_tuple_of : PL Nis_tuple_of Wis_tuple_of (D2.Spec.fn A_is_tuple_of P_is_tuple_of R_is_tuple_of) := by
  rintro (t : Th) h
  show Wis_tuple_of _ [some t.dv, some (.int 2)] []
  generalize hD : ({ nx := _, rt := _ } : DEnds) = D
  have fin : D.rt (.bl (!isTxt t)) [] := by
    rw [← hD]
    exact back_fn (args := A_is_tuple_of) (pre := P_is_tuple_of) (F := R_is_tuple_of) (.bl _) rfl
  clear hD
  cases t with
  | txt s =>
    unfold Th.dv
    exact fin
  | node n ts =>
    unfold Th.dv
    refine len (xs := [.str n, .tup (dvs ts)]) rfl ?_
    refine eqI ?_
    exact fin
theorem p_is_head : PL Nis_head Wis_head (D2.Spec.fn A_is_head P_is_head R_is_head) := by
  rintro (t : Th) h
  have h : t.ok := h
  show Wis_head _ [some t.dv] []
  generalize hD : ({ nx := _, rt := _ } : DEnds) = D
  have fin : D.rt (.bl (!isTxt t)) [] := by
    rw [← hD]
    exact back_fn (args := A_is_head) (pre := P_is_head) (F := R_is_head) (.bl _) rfl
  clear hD
  refine ⟨t, rfl, .cons t.nr (.cons (.int 2) .nil), trivial, ?_⟩
  rintro d - rfl
  cases t with
  | txt s =>
    unfold Th.dv
    exact fin
  | node n ts =>
    unfold Th.dv
    unfold Th.ok at h
    refine ix (xs := [.str n, .tup (dvs ts)]) rfl rfl ?_
    refine ⟨n, rfl, .cons (.str n) .nil, h.1, ?_⟩
    rintro d - rfl
    refine ix (xs := [.str n, .tup (dvs ts)]) rfl rfl ?_
    exact fin
theorem dvs_len : ∀ ts : List Th, (dvs ts).length = ts.length
  | [] => rfl
  | t :: ts => by simp [dvs, dvs_len ts]
theorem p_is_node : PL Nis_node Wis_node (D2.Spec.fn A_is_node P_is_node R_is_node) := by
  rintro (t : Th) ⟨h, hs⟩
  have h : t.ok := h
  have hs : t.size ≤ 1000 := hs
  show Wis_node _ [some t.dv] []
  generalize hD : ({ nx := _, rt := _ } : DEnds) = D
  have fin : D.rt (.bl (!isTxt t)) [] := by
    rw [← hD]
    exact back_fn (args := A_is_node) (pre := P_is_node) (F := R_is_node) (.bl _) rfl
  clear hD
  refine ⟨t, rfl, .cons t.nr .nil, h, ?_⟩
  rintro d - rfl
  cases t with
  | txt s => exact fin
  | node n ts =>
    refine And.intro (show 1 ≤ sizeLine by decide) ⟨[.node n ts], by simp [dvs], .cons (.tup (.cons (Th.nr _) .nil)) .nil, ⟨⟨h, trivial⟩, by simpa [sizes] using hs⟩, ?_⟩
    rintro d - rfl
    refine isNon ?_
    exact fin
theorem p_size_of : PL Nsize_of Wsize_of (D2.Spec.fn A_size_of P_size_of R_size_of) := by
  rintro (t : Th) hs
  have hs : t.size ≤ 1000 := hs
  show Wsize_of _ [some t.dv] []
  generalize hD : ({ nx := _, rt := _ } : DEnds) = D
  have fin : D.rt (nat t.size) [] := by
    rw [← hD]
    exact back_fn (args := A_size_of) (pre := P_size_of) (F := R_size_of) (.int _) rfl
  clear hD
  refine And.intro (show 1 ≤ sizeLine by decide) ⟨[t], by simp [dvs], .cons (.tup (.cons (Th.nr _) .nil)) .nil, by simpa [sizes] using hs, ?_⟩
  rintro d - rfl
  have e : sizes [t] = t.size := by simp [sizes]
  show D.rt (nat (sizes [t])) []
  rw [e]
  exact fin
end K02

namespace K02
open PySem PySem.Spec PyProof.Rows L2 D2
/-- a def that names no cell forgets all cells at its end -/
theorem back_all {I : Type} {args : I → List Dv} {pre : I → Prop} {F : I → Dv → Prop} {i : I} {d : Dv} {st : Sto} (n : Nr d) (h : F i d) : Back ((Spec.fn args pre F).st i).length ((Spec.fn args pre F).post i) d st :=
  .inr ⟨[], d, ⟨Nat.zero_le _, fun n xs hn e => by simp at hn, n.fz⟩, Nat.zero_le _, rfl, n, h⟩
theorem dvs_app : ∀ a b : List Th, dvs (a ++ b) = dvs a ++ dvs b
  | [], b => rfl
  | t :: ts, b => by simp [dvs, dvs_app ts b]
theorem sizes_app : ∀ a b : List Th, sizes (a ++ b) = sizes a + sizes b
  | [], b => by simp [sizes]
  | t :: ts, b => by simp [sizes, sizes_app ts b]; omega
theorem oks_app : ∀ a b : List Th, oks (a ++ b) ↔ oks a ∧ oks b
  | [], b => by simp [oks]
  | t :: ts, b => by simp [oks, oks_app ts b, and_assoc]
theorem size_pos (t : Th) : 1 ≤ t.size := by
  cases t with
  | txt s => simp [Th.size]
  | node n ts => simp [Th.size]
theorem len_sizes : ∀ ts : List Th, ts.length ≤ sizes ts
  | [] => Nat.le_refl _
  | t :: ts => by
    have := size_pos t
    have := len_sizes ts
    simp [sizes]
    omega
theorem dvs_rev : ∀ ts : List Th, dvs ts.reverse = (dvs ts).reverse
  | [] => rfl
  | t :: ts => by simp [dvs, dvs_app, dvs_rev ts]
theorem sizes_rev : ∀ ts : List Th, sizes ts.reverse = sizes ts
  | [] => rfl
  | t :: ts => by simp [sizes, sizes_app, sizes_rev ts]; omega
theorem oks_rev : ∀ ts : List Th, oks ts.reverse ↔ oks ts
  | [] => Iff.rfl
  | t :: ts => by simp [oks, oks_app, oks_rev ts, and_comm]
theorem dvs_last (ts : List Th) (t : Th) : (dvs (ts ++ [t]))[(dvs (ts ++ [t])).length - 1]? = some t.dv := by
  rw [dvs_app]
  simp [dvs]
theorem dvs_drop (ts : List Th) (t : Th) : (dvs (ts ++ [t])).dropLast = dvs ts := by
  rw [dvs_app]
  simp [dvs]
theorem p_forest_size : PL Nforest_size Wforest_size (D2.Spec.fn A_forest_size P_forest_size R_forest_size) := by
  rintro (ts : List Th) h
  have h : sizes ts ≤ 1000 := h
  show Wforest_size _ [some (.tup (dvs ts)), none, none, none] []
  generalize hD : ({ nx := _, rt := _ } : DEnds) = D
  have fin : ∀ st, D.rt (nat (sizes ts)) st := fun st => by
    rw [← hD]
    exact back_all (args := A_forest_size) (pre := P_forest_size) (F := R_forest_size) (.int _) rfl
  clear hD
  refine Exists.intro (dvs ts) (And.intro rfl ?_)
  refine Exists.intro (fun m σ st => ∃ (v : Option Dv) (us : List Th) (k : Nat), σ = [some (.tup (dvs ts)), some (.ref 0), some (nat k), v] ∧ st = [.lst (dvs us)] ∧ m = sizes us ∧ k + sizes us = sizes ts) (And.intro ⟨_, none, ts, 0, rfl, rfl, rfl, by omega⟩ ?_)
  rintro m σ st ⟨v, us, k, rfl, rfl, rfl, hk⟩
  rcases List.eq_nil_or_concat us with rfl | ⟨us, t, rfl⟩
  · refine iteF rfl ?_
    have e : k = sizes ts := by simpa [sizes] using hk
    rw [e]
    exact fin _
  · rw [List.concat_eq_append] at *
    refine iteT (by simp [dvs_app, dvs]) ?_
    have hk2 : k + sizes us + t.size = sizes ts := by rw [← hk, sizes_app]; simp [sizes]; omega
    refine Exists.intro (dvs (us ++ [t])) (Exists.intro t.dv (And.intro rfl (And.intro (dvs_last us t) ?_)))
    rw [dvs_drop]
    cases t with
    | txt s =>
      have e : (Th.txt s).dv = .str s := by simp [Th.dv]
      rw [e]
      have e1 : (Th.txt s).size = 1 := by simp [Th.size]
      exact ⟨sizes us, by rw [sizes_app]; simp [sizes, e1], some (.str s), us, k + 1, rfl, rfl, rfl, by omega⟩
    | node n xs =>
      have e : (Th.node n xs).dv = .tup [.str n, .tup (dvs xs)] := by simp [Th.dv]
      rw [e]
      have e1 : (Th.node n xs).size = sizes xs + 1 := by simp [Th.size]
      refine ix (xs := [.str n, .tup (dvs xs)]) rfl rfl ?_
      refine Exists.intro (dvs us) (Exists.intro (dvs xs) (And.intro rfl (And.intro rfl (And.intro ?_ ?_))))
      · rw [dvs_len, dvs_len]
        have := len_sizes us
        have := len_sizes xs
        exact line64 (by omega)
      · refine ⟨sizes (us ++ xs), by rw [sizes_app, sizes_app]; simp [sizes, e1], _, us ++ xs, k + 1, rfl, by rw [dvs_app us xs]; rfl, rfl, by rw [sizes_app]; omega⟩
theorem p_wrong_thing : PL Nwrong_thing Wwrong_thing (D2.Spec.fn A_wrong_thing P_wrong_thing R_wrong_thing) := by
  rintro (ts : List Th) ⟨ho, h⟩
  have ho : oks ts := ho
  have h : sizes ts ≤ 1000 := h
  show Wwrong_thing _ [some (.tup (dvs ts)), none, none, none] []
  generalize hD : ({ nx := _, rt := _ } : DEnds) = D
  have fin : ∀ st, D.rt .non st := fun st => by
    rw [← hD]
    exact back_all (args := A_wrong_thing) (pre := P_wrong_thing) (F := R_wrong_thing) (i := ts) .non rfl
  clear hD
  refine Exists.intro (dvs ts) (And.intro rfl ?_)
  refine Exists.intro (dvs ts) (And.intro rfl ?_)
  refine Exists.intro (fun m σ st => ∃ (v : Option Dv) (us : List Th) (k : Nat), σ = [some (.tup (dvs ts)), some (.ref 0), some (nat k), v] ∧ st = [.lst (dvs us)] ∧ m = sizes us ∧ sizes us ≤ 1000 ∧ oks us) (And.intro ⟨_, none, ts.reverse, 0, rfl, by rw [dvs_rev]; rfl, rfl, by rw [sizes_rev]; exact h, (oks_rev ts).mpr ho⟩ ?_)
  rintro m σ st ⟨v, us, k, rfl, rfl, rfl, hk, hu⟩
  rcases List.eq_nil_or_concat us with rfl | ⟨us, t, rfl⟩
  · refine iteF rfl ?_
    exact fin _
  · rw [List.concat_eq_append] at *
    refine iteT (by simp [dvs_app, dvs]) ?_
    have hk2 : sizes us + t.size ≤ 1000 := by rw [sizes_app] at hk; simpa [sizes] using hk
    have hu2 : oks us ∧ t.ok := by rw [oks_app] at hu; simpa [oks] using hu
    refine Exists.intro (dvs (us ++ [t])) (Exists.intro t.dv (And.intro rfl (And.intro (dvs_last us t) ?_)))
    rw [dvs_drop]
    refine ⟨t, rfl, .cons t.nr .nil, hu2.2, ?_⟩
    rintro d - rfl
    cases t with
    | txt s =>
      have e : (Th.txt s).dv = .str s := by simp [Th.dv]
      rw [e]
      have e1 : (Th.txt s).size = 1 := by simp [Th.size]
      have hs : TxOk s := by have := hu2.2; unfold Th.ok at this; exact this
      refine ⟨s, rfl, .cons (.str s) .nil, hs, ?_⟩
      rintro d - rfl
      exact ⟨sizes us, by rw [sizes_app]; simp [sizes, e1], some (.str s), us, k + 1, rfl, rfl, rfl, by omega, hu2.1⟩
    | node n xs =>
      have e : (Th.node n xs).dv = .tup [.str n, .tup (dvs xs)] := by simp [Th.dv]
      rw [e]
      have e1 : (Th.node n xs).size = sizes xs + 1 := by simp [Th.size]
      have hs : oks xs := by have := hu2.2; unfold Th.ok at this; exact this.2
      refine ix (xs := [.str n, .tup (dvs xs)]) rfl rfl ?_
      refine Exists.intro (dvs us) (Exists.intro (dvs xs).reverse (And.intro rfl (And.intro rfl (And.intro ?_ ?_))))
      · rw [List.length_reverse, dvs_len, dvs_len]
        have := len_sizes us
        have := len_sizes xs
        exact line64 (by omega)
      · refine ⟨sizes (us ++ xs.reverse), by rw [sizes_app, sizes_app, sizes_rev]; simp [sizes, e1], _, us ++ xs.reverse, k + 1, rfl, by rw [dvs_app us xs.reverse, dvs_rev]; rfl, rfl, by rw [sizes_app, sizes_rev]; omega, by rw [oks_app, oks_rev]; exact ⟨hu2.1, hs⟩⟩
end K02

namespace K02
open PySem PySem.Spec PyProof.Rows L2 D2
theorem dvs_map : ∀ ts : List Th, dvs ts = ts.map Th.dv
  | [] => rfl
  | t :: ts => by simp [dvs, dvs_map ts]
theorem shps_map : ∀ ts : List Th, shps ts = ts.map Th.shp
  | [] => rfl
  | t :: ts => by simp [shps, shps_map ts]
theorem map_at {α : Type} {ts : List α} {f : α → Dv} {ys : List Dv} (hl : ys.length = ts.length) (h : ∀ (i : Nat) (y : Dv), ys[i]? = some y → ∃ t, ts[i]? = some t ∧ y = f t) : ys = ts.map f := by
  apply List.ext_getElem?
  intro i
  rw [List.getElem?_map]
  by_cases hi : i < ys.length
  · have e : ys[i]? = some ys[i] := by simp
    obtain ⟨t, h1, h2⟩ := h i _ e
    rw [e, h1, h2]
    rfl
  · rw [List.getElem?_eq_none (by omega), List.getElem?_eq_none (by omega)]
    rfl
theorem dep_mem {ts : List Th} {t : Th} (h : t ∈ ts) : t.dep ≤ deps ts := by
  induction ts with
  | nil => simp at h
  | cons u us ih =>
    rcases List.mem_cons.mp h with rfl | h
    · simp [deps]; omega
    · have := ih h
      simp [deps]
      omega
theorem size_mem {ts : List Th} {t : Th} (h : t ∈ ts) : t.size ≤ sizes ts := by
  induction ts with
  | nil => simp at h
  | cons u us ih =>
    rcases List.mem_cons.mp h with rfl | h
    · simp [sizes]
    · have := ih h
      simp [sizes]
      omega
theorem max_from : ∀ (ts : List Th) (a : Nat), ((ts.map fun t => (t.dep : Int)).foldl (fun c x => some (MD.next c x)) (some (a : Int))) = some ((max a (deps ts) : Nat) : Int)
  | [], a => by simp [deps]
  | t :: ts, a => by
    rw [List.map_cons, List.foldl_cons]
    have e : MD.next (some (a : Int)) (t.dep : Int) = ((max a t.dep : Nat) : Int) := by
      unfold MD.next
      dsimp only
      split <;> omega
    rw [e, max_from ts]
    simp only [deps]
    congr 2
    omega
theorem max_deps (ts : List Th) : maxD 0 (ts.map fun t => (t.dep : Int)) = (deps ts : Int) := by
  unfold maxD
  cases ts with
  | nil => rfl
  | cons t ts =>
    rw [List.map_cons, List.foldl_cons]
    have e : MD.next none (t.dep : Int) = ((t.dep : Nat) : Int) := rfl
    rw [e, max_from ts]
    simp only [deps]
    rfl
theorem p_depth_of (n : Nat) : PL Ndepth_of (Wdepth_of n) (D2.Spec.fn A_depth_of (P_depth_of (n + 1)) R_depth_of) := by
  rintro (t : Th) ⟨hd, hs⟩
  have hd : t.dep < n + 1 := hd
  have hs : t.size ≤ 1000 := hs
  show Wdepth_of n _ [some t.dv, none] []
  generalize hD : ({ nx := _, rt := _ } : DEnds) = D
  have fin : D.rt (nat t.dep) [] := by
    rw [← hD]
    exact back_all (args := A_depth_of) (pre := P_depth_of (n + 1)) (F := R_depth_of) (.int _) rfl
  clear hD
  cases t with
  | txt s =>
    have e : (Th.txt s).dv = .str s := by simp [Th.dv]
    have e2 : (Th.txt s).dep = 0 := by simp [Th.dep]
    rw [e2] at fin
    rw [e]
    exact fin
  | node m ts =>
    have e : (Th.node m ts).dv = .tup [.str m, .tup (dvs ts)] := by simp [Th.dv]
    have e2 : (Th.node m ts).dep = deps ts + 1 := by simp [Th.dep]
    have e3 : (Th.node m ts).size = sizes ts + 1 := by simp [Th.size]
    rw [e2] at fin hd
    rw [e3] at hs
    rw [e]
    refine ix (xs := [.str m, .tup (dvs ts)]) rfl rfl ?_
    refine lc_all (xs := dvs ts) (R := fun st => st = []) (P := fun i y => ∃ t, ts[i]? = some t ∧ y = nat t.dep) rfl (line64 (by rw [dvs_len]; have := len_sizes ts; omega)) (fun i x st' e hR => ?_) ?_
    · subst hR
      rw [dvs_map, List.getElem?_map] at e
      obtain ⟨t, e5, rfl⟩ := Option.map_eq_some_iff.mp e
      refine ⟨_, rfl, fun Q' q => ?_⟩
      have hm := List.mem_of_getElem? e5
      refine ⟨t, rfl, .cons t.nr .nil, ⟨by have := dep_mem hm; omega, by have := size_mem hm; omega⟩, ?_⟩
      rintro d - rfl
      exact q _ _ ⟨t, e5, rfl⟩ rfl
    · rintro ys st' rfl hl hP
      have ey := map_at (f := fun t : Th => nat t.dep) (by rw [hl, dvs_len]) hP
      have ey2 : ys = (ts.map fun t => (t.dep : Int)).map Dv.int := by rw [ey, List.map_map]; rfl
      refine ⟨_, congrArg some ey2, ?_⟩
      rw [max_deps]
      refine addI ?_
      have e4 : nat (deps ts + 1) = .int (1 + (deps ts : Int)) := by unfold nat; congr 1; omega
      rw [e4] at fin
      exact fin
theorem p_shape_of (n : Nat) : PL Nshape_of (Wshape_of n) (D2.Spec.fn A_shape_of (P_shape_of (n + 1)) R_shape_of) := by
  rintro (t : Th) ⟨hd, hs⟩
  have hd : t.dep < n + 1 := hd
  have hs : t.size ≤ 1000 := hs
  show Wshape_of n _ [some t.dv, none] []
  generalize hD : ({ nx := _, rt := _ } : DEnds) = D
  have fin : D.rt t.shp.dv [] := by
    rw [← hD]
    exact back_all (args := A_shape_of) (pre := P_shape_of (n + 1)) (F := R_shape_of) (Th.nr _) rfl
  clear hD
  cases t with
  | txt s =>
    have e : (Th.txt s).dv = .str s := by simp [Th.dv]
    have e2 : (Th.txt s).shp.dv = .str "" := by simp [Th.shp, Th.dv]
    rw [e2] at fin
    rw [e]
    exact fin
  | node m ts =>
    have e : (Th.node m ts).dv = .tup [.str m, .tup (dvs ts)] := by simp [Th.dv]
    have e2 : (Th.node m ts).dep = deps ts + 1 := by simp [Th.dep]
    have e3 : (Th.node m ts).size = sizes ts + 1 := by simp [Th.size]
    have e4 : (Th.node m ts).shp.dv = .tup [.str m, .tup (ts.map fun t => t.shp.dv)] := by simp [Th.shp, Th.dv, dvs_map, shps_map]
    rw [e4] at fin
    rw [e2] at hd
    rw [e3] at hs
    rw [e]
    refine ix (xs := [.str m, .tup (dvs ts)]) rfl rfl ?_
    refine ix (xs := [.str m, .tup (dvs ts)]) rfl rfl ?_
    refine lc_all (xs := dvs ts) (R := fun st => st = []) (P := fun i y => ∃ t, ts[i]? = some t ∧ y = t.shp.dv) rfl (line64 (by rw [dvs_len]; have := len_sizes ts; omega)) (fun i x st' e hR => ?_) ?_
    · subst hR
      rw [dvs_map, List.getElem?_map] at e
      obtain ⟨t, e5, rfl⟩ := Option.map_eq_some_iff.mp e
      refine ⟨_, rfl, fun Q' q => ?_⟩
      have hm := List.mem_of_getElem? e5
      refine ⟨t, rfl, .cons t.nr .nil, ⟨by have := dep_mem hm; omega, by have := size_mem hm; omega⟩, ?_⟩
      rintro d - rfl
      exact q _ _ ⟨t, e5, rfl⟩ rfl
    · rintro ys st' rfl hl hP
      have ey := map_at (f := fun t : Th => t.shp.dv) (by rw [hl, dvs_len]) hP
      refine tupL (xs := ys) rfl ?_
      refine And.intro (show 2 ≤ sizeLine by decide) ?_
      rw [ey]
      exact fin
end K02

namespace K02
open PySem PySem.Spec PyProof.Rows L2 D2
mutual
theorem walk_len : ∀ (t : Th) (d : Nat), (t.walk d).length = t.size
  | .txt s, d => by simp [Th.walk, Th.size]
  | .node n ts, d => by simp [Th.walk, Th.size, walks_len ts]
theorem walks_len : ∀ (ts : List Th) (d : Nat), (walks ts d).length = sizes ts
  | [], d => by simp [walks, sizes]
  | t :: ts, d => by simp [walks, sizes, walk_len t, walks_len ts]
end
theorem walks_app : ∀ (a b : List Th) (d : Nat), walks (a ++ b) d = walks a d ++ walks b d
  | [], b, d => by simp [walks]
  | t :: ts, b, d => by simp [walks, walks_app ts b]
theorem wk_nr (w : Wk) : Nr w.dv := by
  unfold Wk.dv
  refine .tup (.cons ?_ (.cons (.int _) .nil))
  split
  · exact .rol (.cons (.str _) .nil)
  · exact .str _
theorem wks_nr (l : List Wk) : Nrs (l.map Wk.dv) := Nrs.of fun d hd => by
  obtain ⟨w, _, rfl⟩ := List.mem_map.mp hd
  exact wk_nr w
theorem sizes_take (ts : List Th) (i : Nat) : sizes (ts.take i) ≤ sizes ts := by
  have e : sizes ts = sizes (ts.take i) + sizes (ts.drop i) := by rw [← sizes_app, List.take_append_drop]
  omega
theorem p_law_walk (n : Nat) : PL N_law_walk (W_law_walk n) (D2.Spec.fn A_law_walk (P_law_walk (n + 1)) R_law_walk) := by
  rintro ⟨t, d⟩ ⟨hd, hs⟩
  have hd : t.dep < n + 1 := hd
  have hs : t.size ≤ 1000 := hs
  show W_law_walk n _ [some t.dv, some (nat d), none, none] []
  generalize hD : ({ nx := _, rt := _ } : DEnds) = D
  have fin : D.rt (.rol ((t.walk d).map Wk.dv)) [] := by
    rw [← hD]
    exact back_all (args := A_law_walk) (pre := P_law_walk (n + 1)) (F := R_law_walk) (i := (t, d)) (.rol (wks_nr _)) rfl
  clear hD
  cases t with
  | txt s =>
    have e : (Th.txt s).dv = .str s := by simp [Th.dv]
    have e2 : (Th.txt s).walk d = [⟨true, s, d⟩] := by simp [Th.walk]
    rw [e2] at fin
    rw [e]
    refine And.intro (show 1 ≤ sizeLine by decide) ?_
    refine And.intro (show 2 ≤ sizeLine by decide) ?_
    refine And.intro (show 1 ≤ sizeLine by decide) ?_
    exact fin
  | node m ts =>
    have e : (Th.node m ts).dv = .tup [.str m, .tup (dvs ts)] := by simp [Th.dv]
    have e2 : (Th.node m ts).dep = deps ts + 1 := by simp [Th.dep]
    have e3 : (Th.node m ts).size = sizes ts + 1 := by simp [Th.size]
    have e4 : (Th.node m ts).walk d = ⟨false, m, d + 1⟩ :: walks ts (d + 1) := by simp [Th.walk]
    rw [e4] at fin
    rw [e2] at hd
    rw [e3] at hs
    rw [e]
    refine ix (xs := [.str m, .tup (dvs ts)]) rfl rfl ?_
    refine addI ?_
    refine And.intro (show 2 ≤ sizeLine by decide) ?_
    refine And.intro (show 1 ≤ sizeLine by decide) ?_
    refine ix (xs := [.str m, .tup (dvs ts)]) rfl rfl ?_
    refine Exists.intro (fun i σ st => ∃ v, σ = [some (.tup [.str m, .tup (dvs ts)]), some (nat d), some (.rol ((⟨false, m, d + 1⟩ :: walks (ts.take i) (d + 1)).map Wk.dv)), v] ∧ st = []) ?_
    refine And.intro ⟨none, ?_, rfl⟩ ?_
    · rw [List.take_zero]
      simp only [walks, List.map_cons, List.map_nil]
      rfl
    refine And.intro (fun i σ' st' _ n e => nomatch e) ?_
    refine And.intro (fun i x σ' st' e hI => ?_) ?_
    · obtain ⟨v, rfl, rfl⟩ := hI
      rw [dvs_map, List.getElem?_map] at e
      obtain ⟨t, e5, rfl⟩ := Option.map_eq_some_iff.mp e
      refine ⟨_, rfl, ?_⟩
      have hm := List.mem_of_getElem? e5
      refine addI ?_
      refine ⟨(t, d + 1), rfl, .cons t.nr (.cons (.int _) .nil), ⟨by have := dep_mem hm; show t.dep < n; omega, by have := size_mem hm; show t.size ≤ 1000; omega⟩, ?_⟩
      rintro q - rfl
      have hz := size_mem hm
      refine addL ?_ ?_
      · rw [List.length_map, List.length_map, List.length_cons, walks_len, walk_len]
        have := sizes_take ts i
        have : (4000 : Nat) ≤ sizeLine := by decide
        have : (t, d + 1).fst.size = t.size := rfl
        omega
      · refine ⟨some t.dv, ?_, rfl⟩
        have e6 : walks (ts.take (i + 1)) (d + 1) = walks (ts.take i) (d + 1) ++ t.walk (d + 1) := by
          rw [List.take_add_one, walks_app, e5]
          simp [walks]
        rw [e6, ← List.cons_append, List.map_append]
        rfl
    · rintro σ' st' ⟨v, rfl, rfl⟩
      rw [dvs_len, List.take_length]
      exact fin
theorem p_law_chain : PL N_law_chain W_law_chain (D2.Spec.fn A_law_chain P_law_chain R_law_chain) := by
  rintro ⟨ns, m, t⟩ ⟨h0, hm⟩
  have h0 : 0 < ns.length := h0
  have hm : m ≤ 30 := hm
  show W_law_chain _ [some (.rol (ns.map Dv.str)), some (nat m), some t.dv, none] []
  generalize hD : ({ nx := _, rt := _ } : DEnds) = D
  have fin : D.rt (chain ns t m).dv [] := by
    rw [← hD]
    exact back_all (args := A_law_chain) (pre := P_law_chain) (F := R_law_chain) (i := (ns, m, t)) (Th.nr _) rfl
  clear hD
  refine And.intro ⟨by omega, by omega⟩ ?_
  rw [show ((m : Nat) : Int).toNat = m from Int.toNat_natCast _]
  refine Exists.intro (fun i σ st => ∃ v, σ = [some (.rol (ns.map Dv.str)), some (nat m), some (chain ns t i).dv, v] ∧ st = []) ?_
  refine And.intro ⟨none, rfl, rfl⟩ ?_
  refine And.intro (fun i σ' st' _ n e => nomatch e) ?_
  refine And.intro (fun i x σ' st' e hI => ?_) ?_
  · obtain ⟨v, rfl, rfl⟩ := hI
    obtain ⟨hi, rfl⟩ := rng_at e
    refine ⟨_, rfl, ?_⟩
    refine len (xs := ns.map Dv.str) rfl ?_
    refine modI (by rw [List.length_map]; omega) ?_
    have hi2 : i % ns.length < ns.length := Nat.mod_lt _ h0
    refine ix (d := .str (ns.getD (i % ns.length) "")) (xs := ns.map Dv.str) rfl ?_ ?_
    · have e : (ns.map Dv.str)[i % ns.length]? = some (.str (ns.getD (i % ns.length) "")) := by
        rw [List.getElem?_map, List.getElem?_eq_getElem hi2]
        simp [List.getD, List.getElem?_eq_getElem hi2]
      have e2 := atI_nat e
      rw [List.length_map]
      have e3 : ((0 : Int) + (i : Int)) % (ns.length : Int) = ((i % ns.length : Nat) : Int) := by
        rw [Int.zero_add]
        rfl
      first
        | exact e2
        | (rw [e3]; exact e2)
    · refine And.intro (show 1 ≤ sizeLine by decide) ?_
      refine And.intro (show 2 ≤ sizeLine by decide) ?_
      refine ⟨some (nat i), ?_, rfl⟩
      simp only [chain, Th.dv, dvs]
      rfl
  · rintro σ' st' ⟨v, rfl, rfl⟩
    rw [rng_length]
    exact fin
end K02

namespace K02
open PySem PySem.Spec PyProof.Rows L2 D2
theorem p_law_source : PL N_law_source W_law_source S_law_source := by
  intro (ns : List Int) hl
  have hl : ns.length ≤ 63 := hl
  show W_law_source _ [some (.fro (ns.map Dv.int)), none, none, none] []
  generalize hD : ({ nx := _, rt := _ } : DEnds) = D
  have fin : ∀ b cs, okD b cs → D.rt (.ref 1) (DSt b cs []) := fun b cs h => by
    rw [← hD]
    exact .inl ⟨⟨rfl, b, cs, h, rfl⟩, Nat.zero_le _⟩
  clear hD
  -- the numbers
  refine Exists.intro _ (And.intro rfl ?_)
  refine lc_all (xs := cutD (ns.map Dv.int) none (some 63)) (R := fun st => st = []) (P := fun _ y => ∃ c : Int, 0 ≤ c ∧ y = .int c) rfl (line64 (Nat.le_trans (cutD_le _ _ _) (by simp; omega))) (fun i x st' e hR => ?_) ?_
  · subst hR
    obtain ⟨c, _, rfl⟩ := List.mem_map.mp (cutD_mem (List.mem_of_getElem? e))
    exact ⟨_, rfl, fun Q' q => q _ _ ⟨_, by split <;> omega, rfl⟩ rfl⟩
  · rintro ys st' rfl hlen hP
    have hlen : ys.length ≤ 63 := by
      have := cutD_le (ns.map Dv.int) none (some 63)
      simp at this
      omega
    obtain ⟨cs, rfl, hcs⟩ := ints_of (P := fun c => 0 ≤ c) (mem_at hP)
    have hlen : cs.length ≤ 63 := by simpa using hlen
    -- the blend
    refine Exists.intro (fun _ σ st => ∃ v b, σ = [some (.fro (ns.map Dv.int)), some (.rol (cs.map Dv.int)), v, some (.int b)] ∧ 0 ≤ b ∧ b < 2147483647 ∧ st = []) ?_
    refine And.intro ⟨_, _, rfl, by decide, by decide, rfl⟩ ?_
    refine And.intro (fun i σ' st' _ n e => nomatch e) ?_
    refine And.intro (fun i x σ' st' e hI => ?_) ?_
    · obtain ⟨v, b, rfl, h1, h2, rfl⟩ := hI
      obtain ⟨c, hc, rfl⟩ := List.mem_map.mp (List.mem_of_getElem? e)
      refine ⟨_, rfl, ?_⟩
      refine mulI (.inr (show -(2 ^ 64) < (48271 : Int) ∧ (48271 : Int) < 2 ^ 64 by decide)) ?_
      refine modI (by decide) ?_
      refine addI ?_
      refine addI ?_
      refine modI (by decide) ?_
      exact ⟨_, _, rfl, by omega, by omega, rfl⟩
    · rintro σ' st' ⟨v, b, rfl, h1, h2, rfl⟩
      refine lc_some (xs := cs.map Dv.int) (R := fun st => st = []) (P := fun y => ∃ c : Int, 0 ≤ c ∧ y = .int c) rfl (line64 (by simp; omega)) (fun i x st' e hR => ?_) ?_
      · subst hR
        obtain ⟨c, hc, rfl⟩ := List.mem_map.mp (List.mem_of_getElem? e)
        refine ⟨_, rfl, fun QT q0 q1 => ?_⟩
        refine powI ⟨by decide, by decide, by decide⟩ ?_
        refine opB2 ?_
        cases hk : decide ((10 : Int) ^ (18 : Int).toNat ≤ c) with
        | true => exact q1 _ rfl fun Q' q => q _ _ ⟨c, hcs c hc, rfl⟩ rfl
        | false => exact q0 _ rfl
      · rintro ys st' rfl hl2 hP2
        obtain ⟨ds, rfl, hds⟩ := ints_of (P := fun c => 0 ≤ c) hP2
        have hl3 : ds.length ≤ 63 := by simp at hl2; omega
        refine Exists.intro (ds.map Dv.int) (And.intro rfl ?_)
        refine And.intro (show 2 ≤ sizeLine by decide) ?_
        have f := fin b ds.reverse ⟨h1, h2, fun c hc => hds c (by simpa using hc), by simpa using hl3⟩
        have e : DSt b ds.reverse [] = ([] : Sto) ++ [.lst (ds.map Dv.int).reverse] ++ [.lst [.ref 0, .int b]] := by simp [DSt]
        rw [e] at f
        exact f

theorem p_law_any : PL N_law_any W_law_any (D2.Spec.dr A_law_any P_law_any R_law_any) := p_anyC 41
theorem p_law_of : PL N_law_of W_law_of (D2.Spec.dr A_law_of P_law_of R_law_of) := D2.p_law_of
theorem one {rest st : Sto} {Q : DK} {bd : Int} (k : Nat) (e : bd = k) (h0 : 0 < k) (h1 : k < 1073741824) (hd : Dr rest st) (q : ∀ (r : Nat) st2, r < k → Dr rest st2 → Q (nat r) st2) : ∃ rest2 i, Dr rest2 st ∧ [.ref 1, .int bd] = .ref 1 :: A_law_any i ∧ P_law_any rest2 i ∧ ∀ d st2, Dr rest2 st2 → R_law_any i d → Q d st2 := by
  subst e
  refine ⟨rest, k, hd, rfl, ⟨h0, h1⟩, fun d st2 hd2 hr => ?_⟩
  obtain ⟨r, hr, rfl⟩ := hr
  exact q r st2 hr hd2
/-- texts of one sign of Z -/
def Sg (Z s : Str) : Prop := s.length = 1 ∧ ∀ c ∈ s.cps.toList, c ∈ Z.cps.toList
theorem sg_one {Z : Str} {c : Nat} (h : c ∈ Z.cps.toList) : Sg Z ⟨#[c]⟩ := ⟨rfl, fun x hx => by
  have : x = c := by simpa using hx
  rw [this]
  exact h⟩
theorem join_sg {Z : Str} {ss : List Str} (h : ∀ s ∈ ss, Sg Z s) : (Txt.join "" ss).length ≤ ss.length ∧ ∀ c ∈ (Txt.join "" ss).cps.toList, c ∈ Z.cps.toList := by
  refine ⟨?_, fun c hc => ?_⟩
  · have q := join0_len ss
    rw [sum_ones fun s hs => (h s hs).1] at q
    exact q
  · obtain ⟨t, ht, hc⟩ := join0_mem hc
    exact (h t ht).2 c hc
theorem p_law_text : PL N_law_text W_law_text (D2.Spec.dr A_law_text P_law_text R_law_text) := by
  rintro ⟨b, cs, rest, u⟩ ⟨ok, -⟩
  show W_law_text _ [some (.ref 1), none, none] (DSt b cs rest)
  generalize hD : ({ nx := _, rt := _ } : DEnds) = D
  have fin : ∀ (s : Str) st', Dr rest st' → TxOk s → D.rt (.str s) st' := fun s st' h1 h2 => by
    rw [← hD]
    exact back_dr (args := A_law_text) (pre := P_law_text) (F := R_law_text) h1 ⟨s, h2, rfl⟩
  clear hD
  refine one 17 rfl (by decide) (by decide) (rest := rest) ⟨b, cs, ok, rfl⟩ fun r st1 hr hd1 => ?_
  refine And.intro (show 5 ≤ sizeLine by decide) ?_
  refine ⟨rest, (.rol [.int 0, .int 1, .int 1, .int 2, nat r], [.int 0, .int 1, .int 1, .int 2, nat r]), hd1, rfl, ⟨rfl, by show 0 < 5; decide, by show 5 ≤ 1000; decide⟩, fun d st2 hd hq => ?_⟩
  have hk : ∃ k : Nat, k ≤ 16 ∧ d = .int (k : Int) := by
    have hq : d ∈ [Dv.int 0, .int 1, .int 1, .int 2, nat r] := hq
    simp only [List.mem_cons, List.not_mem_nil, or_false] at hq
    rcases hq with rfl | rfl | rfl | rfl | rfl
    · exact ⟨0, by decide, rfl⟩
    · exact ⟨1, by decide, rfl⟩
    · exact ⟨1, by decide, rfl⟩
    · exact ⟨2, by decide, rfl⟩
    · exact ⟨r, by omega, rfl⟩
  obtain ⟨k, hk, rfl⟩ := hk
  refine And.intro ⟨by omega, by omega⟩ ?_
  rw [show ((k : Nat) : Int).toNat = k from Int.toNat_natCast _]
  refine lc_all (xs := rng 0 k) (R := Dr rest) (P := fun _ y => ∃ s : Str, Sg signs_ s ∧ y = .str s) hd (line64 (by rw [rng_length]; omega)) (fun i x st' e hR => ?_) ?_
  · refine ⟨_, rfl, fun Q' q => ?_⟩
    refine ⟨rest, (.str signs_, D2.signs signs_), hR, rfl, ⟨rfl, by decide +kernel, by decide +kernel⟩, fun d st5 hd5 hr => ?_⟩
    obtain ⟨c, hc, rfl⟩ := List.mem_map.mp hr
    exact q _ _ ⟨_, sg_one hc, rfl⟩ hd5
  · intro ys st3 hd3 hl hP
    obtain ⟨ss, rfl, hs⟩ := strs_of (P := Sg signs_) (mem_at hP)
    have hl : ss.length = k := by simpa [rng_length] using hl
    obtain ⟨j1, j2⟩ := join_sg hs
    refine Exists.intro ss (And.intro rfl (And.intro ?_ ?_))
    · rw [sum_ones fun s h => (hs s h).1]
      have : ("" : Str).length = 0 := rfl
      rw [this]
      have : (1000 : Nat) ≤ sizeLine := by decide
      omega
    · exact fin _ _ hd3 ⟨by omega, j2⟩
end K02

namespace K02
open PySem PySem.Spec PyProof.Rows L2 D2
/-- the end of a drawing def that forgets its own cells -/
theorem back_drN {I : Type} {args : I → List Dv} {pre : Sto → I → Prop} {F : I → Dv → Prop} {b : Int} {cs : List Int} {rest2 : Sto} {i : I} {d : Dv} {st : Sto} (hd : Dr rest2 st) (n : Nr d) (hF : F i d) : Back ((Spec.dr args pre F).st (b, cs, [], i)).length ((Spec.dr args pre F).post (b, cs, [], i)) d st := by
  obtain ⟨b2, cs2, ok2, rfl⟩ := hd
  refine .inr ⟨DSt b2 cs2 [], d, ⟨by simp [DSt], fun n xs hn e => ?_, n.fz⟩, Nat.le_refl 2, ⟨b2, cs2, ok2, rfl⟩, hF⟩
  cases n with
  | zero =>
    cases e
    exact ⟨_, rfl, (Nr.ints cs2).fz⟩
  | succ n =>
    cases n with
    | zero =>
      cases e
      exact ⟨_, rfl, .cons (.ref 0 (by simp [DSt])) (.cons (.int b2) .nil)⟩
    | succ n => simp [DSt] at hn; omega
theorem cut_parts (z : Str) (a : Nat) (h : a ≤ z.length) : (cutS z none (some (a : Int))).length + (cutS z (some (a : Int)) none).length = z.length := by
  have h2 : a ≤ z.cps.size := h
  unfold cutS Str.length HT.sIx
  dsimp only
  rw [if_neg (by omega)]
  simp only [List.size_toArray, List.length_take, List.length_drop, Array.length_toList, Int.toNat_natCast]
  omega
theorem cut_mem {z : Str} {lo hi : Option Int} {c : Nat} (h : c ∈ (cutS z lo hi).cps.toList) : c ∈ z.cps.toList := by
  unfold cutS at h
  exact List.mem_of_mem_drop (List.mem_of_mem_take (by simpa using h))
theorem letter_at (i : Nat) (h : i < 26) : ∃ c, letters.cps.toList[i]? = some c ∧ c ∈ letters.cps.toList := by
  have e : letters.cps.toList.length = 26 := by decide +kernel
  have : letters.cps.toList[i]? = some (letters.cps.toList[i]'(by omega)) := by simp
  exact ⟨_, this, List.mem_of_getElem? this⟩
theorem p_law_names : PL N_law_names W_law_names (D2.Spec.dr A_law_names P_law_names R_law_names) := by
  rintro ⟨b, cs, rest, n⟩ ⟨ok, hr0, h1, h2⟩
  have hr0 : rest = [] := hr0
  have h1 : 1 ≤ n := h1
  have h2 : n ≤ 5 := h2
  subst hr0
  show W_law_names _ [some (.ref 1), some (nat n), none, none, none, none, none, none, none, none, none] (DSt b cs [])
  generalize hD : ({ nx := _, rt := _ } : DEnds) = D
  have fin : ∀ (ns : List Str) rest2 st', Dr rest2 st' → ns.length = n → (∀ s ∈ ns, NmOk s) → D.rt (.rol (ns.map Dv.str)) st' := fun ns rest2 st' h1 h2 h3 => by
    rw [← hD]
    exact back_drN (args := A_law_names) (pre := P_law_names) (F := R_law_names) h1 (.rol (Nr.strs ns)) ⟨ns, h2, h3, rfl⟩
  clear hD
  have big : (1000 : Nat) ≤ sizeLine := by decide
  have z0 : ("" : Str).length = 0 := rfl
  refine one 6 rfl (by decide) (by decide) (rest := []) ⟨b, cs, ok, rfl⟩ fun m st1 hm hd1 => ?_
  clear ok
  refine And.intro ⟨by omega, by omega⟩ ?_
  rw [show ((m : Nat) : Int).toNat = m from Int.toNat_natCast _]
  refine lc_all (xs := rng 0 m) (R := Dr []) (P := fun _ y => ∃ s : Str, Sg letters s ∧ y = .str s) hd1 (line64 (by rw [rng_length]; omega)) (fun i x st' e hR => ?_) ?_
  · refine ⟨_, rfl, fun Q' q => ?_⟩
    refine ⟨[], (.str letters, D2.signs letters), hR, rfl, ⟨rfl, by decide +kernel, by decide +kernel⟩, fun d st5 hd5 hr => ?_⟩
    obtain ⟨c, hc, rfl⟩ := List.mem_map.mp hr
    exact q _ _ ⟨_, sg_one hc, rfl⟩ hd5
  intro ys st2 hd2 hl hP
  obtain ⟨ss, rfl, hs⟩ := strs_of (P := Sg letters) (mem_at hP)
  have hl : ss.length = m := by simpa [rng_length] using hl
  obtain ⟨j1, j2⟩ := join_sg hs
  refine Exists.intro ss (And.intro rfl (And.intro ?_ ?_))
  · rw [sum_ones fun s h => (hs s h).1, z0]
    omega
  generalize Txt.join "" ss = stem at j1 j2 ⊢
  have hst : stem.length ≤ 5 := by omega
  refine lenS (by omega) ?_
  refine addI ?_
  refine one (stem.length + 1) (by simp) (by omega) (by omega) (rest := []) hd2 fun pl st3 hp hd3 => ?_
  refine one 26 rfl (by decide) (by decide) (rest := []) hd3 fun first st4 hf hd4 => ?_
  refine one 3 rfl (by decide) (by decide) (rest := []) hd4 fun more st5 hmo hd5 => ?_
  refine And.intro (show 0 ≤ sizeLine from Nat.zero_le _) ?_
  refine And.intro (show 4 ≤ sizeLine by decide) ?_
  obtain ⟨b5, cs5, ok5, rfl⟩ := hd5
  refine ⟨_, rfl, ?_⟩
  refine And.intro ⟨by omega, by omega⟩ ?_
  rw [show ((n : Nat) : Int).toNat = n from Int.toNat_natCast _]
  refine Exists.intro (fun i σ st => ∃ v9 v10, ∃ fs : List Str, σ = [some (.ref 1), some (nat n), some (.str letters), some (.str stem), none, some (nat pl), some (nat first), some (nat more), some (.ref 2), v9, v10] ∧ Dr [.lst (fs.map Dv.str)] st ∧ fs.length = i ∧ ∀ s ∈ fs, NmOk s) ?_
  refine And.intro ⟨none, none, [], rfl, ⟨b5, cs5, ok5, rfl⟩, rfl, fun s h => by simp at h⟩ ?_
  refine And.intro (fun i σ' st' _ n e => nomatch e) ?_
  refine And.intro (fun i x σ' st' e hI => ?_) ?_
  · obtain ⟨v9, v10, fs, rfl, hd, hfl, hfs⟩ := hI
    obtain ⟨hi, rfl⟩ := rng_at e
    refine ⟨_, rfl, ?_⟩
    refine And.intro ⟨by omega, by omega⟩ ?_
    rw [show ((more : Nat) : Int).toNat = more from Int.toNat_natCast _]
    refine lc_all (xs := rng 0 more) (R := Dr [.lst (fs.map Dv.str)]) (P := fun _ y => ∃ s : Str, Sg letters s ∧ y = .str s) hd (line64 (by rw [rng_length]; omega)) (fun i x st' e hR => ?_) ?_
    · refine ⟨_, rfl, fun Q' q => ?_⟩
      refine ⟨_, (.str letters, D2.signs letters), hR, rfl, ⟨rfl, by decide +kernel, by decide +kernel⟩, fun d st5 hd5 hr => ?_⟩
      obtain ⟨c, hc, rfl⟩ := List.mem_map.mp hr
      exact q _ _ ⟨_, sg_one hc, rfl⟩ hd5
    intro ys st6 hd6 hl2 hP2
    obtain ⟨tt, rfl, ht⟩ := strs_of (P := Sg letters) (mem_at hP2)
    have hl2 : tt.length = more := by simpa [rng_length] using hl2
    obtain ⟨k1, k2⟩ := join_sg ht
    refine Exists.intro tt (And.intro rfl (And.intro ?_ ?_))
    · rw [sum_ones fun s h => (ht s h).1, z0]
      omega
    generalize Txt.join "" tt = tail at k1 k2 ⊢
    have cp := cut_parts stem pl (by omega)
    refine slS (by omega) ?_
    refine addI ?_
    refine modI (by decide) ?_
    obtain ⟨c, hc1, hc2⟩ := letter_at ((first + i) % 26) (Nat.mod_lt _ (by decide))
    have e26 : ((first : Int) + (i : Int)) % 26 = (((first + i) % 26 : Nat) : Int) := by omega
    refine ixS (c := c) (by decide +kernel) (by rw [e26]; exact atI_nat hc1) ?_
    have l1 : (⟨#[c]⟩ : Str).length = 1 := rfl
    refine addS (by omega) ?_
    refine slS (by omega) ?_
    have l2 := Str.length_append (cutS stem none (some (pl : Int))) ⟨#[c]⟩
    refine addS (by omega) ?_
    have l3 := Str.length_append (cutS stem none (some (pl : Int)) ++ ⟨#[c]⟩) (cutS stem (some (pl : Int)) none)
    refine addS (by omega) ?_
    have l4 := Str.length_append (cutS stem none (some (pl : Int)) ++ ⟨#[c]⟩ ++ cutS stem (some (pl : Int)) none) tail
    obtain ⟨b6, cs6, ok6, rfl⟩ := hd6
    refine Exists.intro (fs.map Dv.str) (And.intro rfl (And.intro (by rw [List.length_map]; omega) ?_))
    refine ⟨some (nat i), some (.str tail), fs ++ [cutS stem none (some (pl : Int)) ++ ⟨#[c]⟩ ++ cutS stem (some (pl : Int)) none ++ tail], rfl, ⟨b6, cs6, ok6, by rw [List.map_append]; rfl⟩, by simp [hfl], fun s hs => ?_⟩
    rcases List.mem_append.mp hs with h | h
    · exact hfs s h
    · have h := List.mem_singleton.mp h
      subst h
      refine ⟨by omega, by omega, fun x hx => ?_⟩
      rcases mem_cps_append.mp hx with h | h
      · rcases mem_cps_append.mp h with h | h
        · rcases mem_cps_append.mp h with h | h
          · exact j2 x (cut_mem h)
          · have : x = c := by simpa using h
            rw [this]
            exact hc2
        · exact j2 x (cut_mem h)
      · exact k2 x h
  · rintro σ' st' ⟨v9, v10, fs, rfl, hd, hfl, hfs⟩
    rw [rng_length] at hfl
    have hd' := hd
    obtain ⟨b6, cs6, ok6, rfl⟩ := hd'
    refine Exists.intro fs (And.intro rfl (And.intro (by omega) fun zs hp hsd => ?_))
    exact fin zs _ _ hd (by rw [hp.length_eq]; exact hfl) fun s hs => hfs s (hp.mem_iff.mp hs)
end K02

namespace K02
open PySem PySem.Spec PyProof.Rows L2 D2
theorem seq_ref {st : Sto} {c : Nat} {xs : List Dv} (h : st[c]? = some (.lst xs)) : seqD st (.ref c) = some xs := by simp [seqD, tupD, lstD, h]
theorem lst_ref {st : Sto} {c : Nat} {xs : List Dv} (h : st[c]? = some (.lst xs)) : lstD st (.ref c) = some xs := by simp [lstD, h]
theorem itC {st : Sto} {c : Nat} {xs : List Dv} {Q : List Dv → Option Nat → Sto → Prop} (h : st[c]? = some (.lst xs)) (q : Q xs (some c) st) : match iterD (.ref c) st with | some p => Q p.1 p.2 st | none => False := by
  have e : iterD (.ref c) st = some (xs, some c) := by simp [iterD, h]
  rw [e]
  exact q
/-- a comprehension over a cell that stays as it is -/
theorem lc_cell {t : Tg} {we : DTE} {vs : List Nat} {σ : En} {st1 : Sto} {Q : List Dv → Sto → Prop} {xs : List Dv} {n : Nat} {P : Nat → Dv → Prop}
    (h0 : st1[n]? = some (.lst xs)) (hz : xs.length ≤ sizeLine)
    (turn : ∀ (i : Nat) (x : Dv), xs[i]? = some x → ∃ σ2, tgD t x (wipeD σ vs) = some σ2 ∧ ∀ Q' : DK, (∀ y, P i y → Q' y st1) → we σ2 st1 Q')
    (fin : ∀ ys, ys.length = xs.length → (∀ i y, ys[i]? = some y → P i y) → Q ys st1) : lcIn t wYes we vs σ Q xs (some n) st1 := by
  unfold lcIn
  refine ⟨fun i acc st' => st' = st1 ∧ acc.length = i ∧ ∀ j y, acc[j]? = some y → P j y, ⟨rfl, rfl, fun j y e => by simp at e⟩, fun _ _ st' hI m e => ?_, fun i x acc st' e ⟨hR, hl, hP⟩ => ?_, fun acc st' ⟨hR, hl, hP⟩ => ?_⟩
  · cases e
    rw [hI.1]
    exact h0
  · subst hR
    have hi2 : i < xs.length := (List.getElem?_eq_some_iff.mp e).1
    refine ⟨by omega, ?_⟩
    obtain ⟨σ2, h1, h2⟩ := turn i x e
    refine ⟨σ2, h1, ?_⟩
    simp only [wYes, ↓reduceIte]
    refine h2 _ (fun y h3 => ⟨rfl, by simp [hl], fun j z ez => ?_⟩)
    by_cases hj : j < acc.length
    · rw [List.getElem?_append_left hj] at ez
      exact hP j z ez
    · rw [List.getElem?_append_right (by omega)] at ez
      have e0 : j - acc.length = 0 := by
        have := (List.getElem?_eq_some_iff.mp ez).1
        simp at this
        omega
      rw [e0] at ez
      cases ez
      have : j = i := by omega
      subst this
      exact h3
  · subst hR
    exact fin acc hl hP
theorem reps_len {st : Sto} : ∀ {ts : List Th} {ds : List Dv}, Reps st ts ds → ds.length = ts.length
  | [], ds, h => by
    unfold Reps at h
    rw [h]
    rfl
  | t :: ts, ds, h => by
    unfold Reps at h
    obtain ⟨d, r, rfl, _, h⟩ := h
    simp [reps_len h]
theorem reps_at {st : Sto} : ∀ {ts : List Th} {ds : List Dv} {i : Nat} {x : Dv}, Reps st ts ds → ds[i]? = some x → ∃ t, ts[i]? = some t ∧ Rep st t x
  | [], ds, i, x, h, e => by
    unfold Reps at h
    rw [h] at e
    simp at e
  | t :: ts, ds, i, x, h, e => by
    unfold Reps at h
    obtain ⟨d, r, rfl, h1, h⟩ := h
    cases i with
    | zero =>
      cases e
      exact ⟨t, rfl, h1⟩
    | succ i => exact reps_at (i := i) h (by simpa using e)
theorem p_law_frozen (n : Nat) : PL N_law_frozen (W_law_frozen n) (S_law_frozen (n + 1)) := by
  rintro ⟨st0, t, d⟩ ⟨hr, hd, hs⟩
  have hr : Rep st0 t d := hr
  have hd : t.dep < n + 1 := hd
  have hs : t.size ≤ 1000 := hs
  show W_law_frozen n _ [some d, none] st0
  generalize hD : ({ nx := _, rt := _ } : DEnds) = D
  have fin : D.rt t.dv st0 := by
    rw [← hD]
    exact .inl ⟨⟨rfl, rfl⟩, Nat.le_refl _⟩
  clear hD
  cases t with
  | txt s =>
    unfold Rep at hr
    subst hr
    have e : (Th.txt s).dv = .str s := by simp [Th.dv]
    rw [e] at fin
    exact fin
  | node m ts =>
    unfold Rep at hr
    obtain ⟨c, l, ds, rfl, h1, h2, h3⟩ := hr
    have e2 : (Th.node m ts).dep = deps ts + 1 := by simp [Th.dep]
    have e3 : (Th.node m ts).size = sizes ts + 1 := by simp [Th.size]
    have e4 : (Th.node m ts).dv = .tup [.str m, .tup (ts.map Th.dv)] := by simp [Th.dv, dvs_map]
    rw [e4] at fin
    rw [e2] at hd
    rw [e3] at hs
    have hl := reps_len h3
    refine ix (xs := [.str m, .ref l]) (seq_ref h1) rfl ?_
    refine ix (xs := [.str m, .ref l]) (seq_ref h1) rfl ?_
    refine itC h2 ?_
    refine lc_cell (P := fun i y => ∃ t, ts[i]? = some t ∧ y = t.dv) h2 (line64 (by rw [hl]; have := len_sizes ts; omega)) (fun i x e => ?_) ?_
    · obtain ⟨t, e5, ht⟩ := reps_at h3 e
      refine ⟨_, rfl, fun Q' q => ?_⟩
      have hm := List.mem_of_getElem? e5
      refine ⟨(st0, t, x), rfl, rfl, ⟨ht, by have := dep_mem hm; show t.dep < n; omega, by have := size_mem hm; show t.size ≤ 1000; omega⟩, ?_⟩
      rintro d st2 ⟨rfl, rfl⟩
      exact q _ ⟨t, e5, rfl⟩
    · intro ys hl2 hP
      have ey := map_at (f := fun t : Th => t.dv) (by rw [hl2, hl]) hP
      refine tupL (xs := ys) rfl ?_
      refine And.intro (show 2 ≤ sizeLine by decide) ?_
      rw [ey]
      exact fin
end K02

namespace K02
open PySem PySem.Spec PyProof.Rows L2 D2
mutual
theorem walk_up : ∀ (t : Th) (d : Nat), ∀ w ∈ t.walk d, w.tx = false → w.d ≤ d + t.dep
  | .txt s, d => by simp [Th.walk]
  | .node n ts, d => by
    intro w hw hx
    simp only [Th.walk, List.mem_cons] at hw
    simp only [Th.dep]
    rcases hw with rfl | hw
    · show d + 1 ≤ _
      omega
    · have := walks_up ts (d + 1) w hw hx
      omega
theorem walks_up : ∀ (ts : List Th) (d : Nat), ∀ w ∈ walks ts d, w.tx = false → w.d ≤ d + deps ts
  | [], d => by simp [walks]
  | t :: ts, d => by
    intro w hw hx
    simp only [walks, List.mem_append] at hw
    simp only [deps]
    rcases hw with hw | hw
    · have := walk_up t d w hw hx
      omega
    · have := walks_up ts d w hw hx
      omega
end
mutual
theorem walk_top : ∀ (t : Th) (d : Nat), 0 < t.dep → ∃ w ∈ t.walk d, w.tx = false ∧ w.d = d + t.dep
  | .txt s, d => by simp [Th.dep]
  | .node n ts, d => by
    intro h
    simp only [Th.walk, Th.dep]
    by_cases hz : 0 < deps ts
    · obtain ⟨w, h1, h2, h3⟩ := walks_top ts (d + 1) hz
      exact ⟨w, by simp [h1], h2, by omega⟩
    · exact ⟨⟨false, n, d + 1⟩, by simp, rfl, by show d + 1 = _; omega⟩
theorem walks_top : ∀ (ts : List Th) (d : Nat), 0 < deps ts → ∃ w ∈ walks ts d, w.tx = false ∧ w.d = d + deps ts
  | [], d => by simp [deps]
  | t :: ts, d => by
    intro h
    simp only [deps] at h
    simp only [walks, deps]
    by_cases hz : deps ts ≤ t.dep
    · obtain ⟨w, h1, h2, h3⟩ := walk_top t d (by omega)
      exact ⟨w, by simp [h1], h2, by omega⟩
    · obtain ⟨w, h1, h2, h3⟩ := walks_top ts d (by omega)
      exact ⟨w, by simp [h1], h2, by omega⟩
end
-- names of the walk
def wname (w : Wk) : Option Str := if w.tx then none else some w.s
mutual
theorem walk_nms : ∀ (t : Th) (d : Nat), (t.walk d).filterMap wname = t.nms
  | .txt s, d => by simp [Th.walk, Th.nms, wname]
  | .node n ts, d => by simp [Th.walk, Th.nms, wname, walks_nms ts]
theorem walks_nms : ∀ (ts : List Th) (d : Nat), (walks ts d).filterMap wname = nmss ts
  | [], d => by simp [walks, nmss]
  | t :: ts, d => by simp [walks, nmss, List.filterMap_append, walk_nms t, walks_nms ts]
end
-- the shape
mutual
theorem shp_dep : ∀ t : Th, t.shp.dep = t.dep
  | .txt s => by simp [Th.shp, Th.dep]
  | .node n ts => by simp [Th.shp, Th.dep, shps_dep ts]
theorem shps_dep : ∀ ts : List Th, deps (shps ts) = deps ts
  | [] => by simp [shps]
  | t :: ts => by simp [shps, deps, shp_dep t, shps_dep ts]
end
mutual
theorem shp_size : ∀ t : Th, t.shp.size = t.size
  | .txt s => by simp [Th.shp, Th.size]
  | .node n ts => by simp [Th.shp, Th.size, shps_size ts]
theorem shps_size : ∀ ts : List Th, sizes (shps ts) = sizes ts
  | [] => by simp [shps]
  | t :: ts => by simp [shps, sizes, shp_size t, shps_size ts]
end
mutual
theorem shp_nms : ∀ t : Th, t.shp.nms = t.nms
  | .txt s => by simp [Th.shp, Th.nms]
  | .node n ts => by simp [Th.shp, Th.nms, shps_nms ts]
theorem shps_nms : ∀ ts : List Th, nmss (shps ts) = nmss ts
  | [] => by simp [shps]
  | t :: ts => by simp [shps, nmss, shp_nms t, shps_nms ts]
end
mutual
theorem shp_shp : ∀ t : Th, t.shp.shp = t.shp
  | .txt s => by simp [Th.shp]
  | .node n ts => by simp [Th.shp, shps_shps ts]
theorem shps_shps : ∀ ts : List Th, shps (shps ts) = shps ts
  | [] => by simp [shps]
  | t :: ts => by simp [shps, shp_shp t, shps_shps ts]
end
mutual
theorem shp_ok : ∀ t : Th, t.ok → t.shp.ok
  | .txt s, _ => by
    simp only [Th.shp, Th.ok]
    exact ⟨by decide, fun c h => by
      have e : ("" : Str).cps.toList = [] := by decide +kernel
      rw [e] at h
      simp at h⟩
  | .node n ts, h => by
    simp only [Th.shp, Th.ok] at *
    exact ⟨h.1, shps_ok ts h.2⟩
theorem shps_ok : ∀ ts : List Th, oks ts → oks (shps ts)
  | [], _ => by simp [shps, oks]
  | t :: ts, h => by
    simp only [shps, oks] at *
    exact ⟨shp_ok t h.1, shps_ok ts h.2⟩
end
def Wk.shp (w : Wk) : Wk := if w.tx then ⟨true, "", w.d⟩ else w
mutual
theorem walk_shp : ∀ (t : Th) (d : Nat), t.shp.walk d = (t.walk d).map Wk.shp
  | .txt s, d => by simp [Th.shp, Th.walk, Wk.shp]
  | .node n ts, d => by simp [Th.shp, Th.walk, Wk.shp, walks_shps ts]
theorem walks_shps : ∀ (ts : List Th) (d : Nat), walks (shps ts) d = (walks ts d).map Wk.shp
  | [], d => by simp [shps, walks]
  | t :: ts, d => by simp [shps, walks, walk_shp t, walks_shps ts]
end
mutual
theorem nms_ok : ∀ t : Th, t.ok → ∀ s ∈ t.nms, NmOk s
  | .txt s, _ => by simp [Th.nms]
  | .node n ts, h => by
    intro s hs
    simp only [Th.ok] at h
    simp only [Th.nms, List.mem_cons] at hs
    rcases hs with rfl | hs
    · exact h.1
    · exact nmss_ok ts h.2 s hs
theorem nmss_ok : ∀ ts : List Th, oks ts → ∀ s ∈ nmss ts, NmOk s
  | [], _ => by simp [nmss]
  | t :: ts, h => by
    intro s hs
    simp only [oks] at h
    simp only [nmss, List.mem_append] at hs
    rcases hs with hs | hs
    · exact nms_ok t h.1 s hs
    · exact nmss_ok ts h.2 s hs
end
mutual
theorem nms_len : ∀ t : Th, t.nms.length ≤ t.size
  | .txt s => by simp [Th.nms]
  | .node n ts => by
    have := nmss_len ts
    simp [Th.nms, Th.size]
    omega
theorem nmss_len : ∀ ts : List Th, (nmss ts).length ≤ sizes ts
  | [] => by simp [nmss]
  | t :: ts => by
    have := nms_len t
    have := nmss_len ts
    simp [nmss, sizes]
    omega
end
/-- a comprehension with a test, all known: what is kept -/
theorem lc_sel {t : Tg} {wt : DTT} {we : DTE} {vs : List Nat} {σ : En} {st1 : Sto} {Q : List Dv → Sto → Prop} {xs : List Dv} (sel : Dv → Option Dv) (hz : xs.length ≤ sizeLine)
    (turn : ∀ x ∈ xs, ∃ σ2, tgD t x (wipeD σ vs) = some σ2 ∧ ∀ QT : Bool → Sto → Prop, (sel x = none → QT false st1) → (∀ y, sel x = some y → (∀ Q' : DK, Q' y st1 → we σ2 st1 Q') → QT true st1) → wt σ2 st1 QT)
    (fin : Q (xs.filterMap sel) st1) : lcIn t wt we vs σ Q xs none st1 := by
  unfold lcIn
  refine ⟨fun i acc st' => st' = st1 ∧ acc = (xs.take i).filterMap sel, ⟨rfl, by simp⟩, fun _ _ _ _ n e => (nomatch e), fun i x acc st' e ⟨hR, hl⟩ => ?_, fun acc st' ⟨hR, hl⟩ => ?_⟩
  · subst hR
    subst hl
    have hi2 : i < xs.length := (List.getElem?_eq_some_iff.mp e).1
    have hle := List.length_filterMap_le sel (xs.take i)
    rw [List.length_take] at hle
    refine ⟨by omega, ?_⟩
    obtain ⟨σ2, h1, h2⟩ := turn x (List.mem_of_getElem? e)
    refine ⟨σ2, h1, ?_⟩
    have e2 : (xs.take (i + 1)).filterMap sel = (xs.take i).filterMap sel ++ (sel x).toList := by
      rw [List.take_add_one, List.filterMap_append, e]
      cases h : sel x <;> simp [h]
    refine h2 _ (fun hn => ?_) fun y hy hw => ?_
    · rw [if_neg (by simp)]
      exact ⟨rfl, by rw [e2, hn]; simp⟩
    · rw [if_pos rfl]
      refine hw _ ⟨rfl, by rw [e2, hy]; simp⟩
  · subst hR
    subst hl
    rw [List.take_length]
    exact fin
theorem rising_pair : ∀ (l : List Str) (p : Str), risingS p l = true → (p :: l).Pairwise fun a b => a.cps.toList ≤ b.cps.toList
  | [], p, _ => by simp
  | x :: r, p, h => by
    unfold risingS at h
    rw [Bool.and_eq_true] at h
    have h1 : p.cps.toList ≤ x.cps.toList := by
      have q := h.1
      rw [ltCps_eq, Bool.not_eq_true', decide_eq_false_iff_not] at q
      exact q
    have ih := rising_pair r x h.2
    refine List.Pairwise.cons (fun y hy => ?_) ih
    rcases List.mem_cons.mp hy with rfl | hy
    · exact h1
    · exact List.le_trans h1 (List.rel_of_pairwise_cons ih hy)
theorem sorted_pair {l : List Str} (h : sortedS l = true) : l.Pairwise fun a b => a.cps.toList ≤ b.cps.toList := by
  cases l with
  | nil => exact .nil
  | cons x r => exact rising_pair r x h
theorem str_inj {a b : Str} (h : a.cps.toList = b.cps.toList) : a = b := by
  cases a
  cases b
  simp only [Str.mk.injEq]
  exact Array.toList_inj.mp h
theorem sorted_one : ∀ {a b : List Str}, a.Perm b → (a.Pairwise fun a b => a.cps.toList ≤ b.cps.toList) → (b.Pairwise fun a b => a.cps.toList ≤ b.cps.toList) → a = b
  | [], b, hp, _, _ => (List.nil_perm.mp hp).symm
  | x :: r, [], hp, _, _ => by simpa using hp.length_eq
  | x :: r, y :: t, hp, ha, hb => by
    have e : x = y := by
      have hx : x ∈ y :: t := hp.mem_iff.mp (by simp)
      have hy : y ∈ x :: r := hp.mem_iff.mpr (by simp)
      rcases List.mem_cons.mp hx with e | hx
      · exact e
      rcases List.mem_cons.mp hy with e | hy
      · exact e.symm
      exact str_inj (List.le_antisymm (List.rel_of_pairwise_cons ha hy) (List.rel_of_pairwise_cons hb hx))
    subst e
    rw [sorted_one (List.perm_cons _ |>.mp hp) (List.pairwise_cons.mp ha).2 (List.pairwise_cons.mp hb).2]
theorem nms_one {t : Th} {a b : List Str} (ha : NmsOf t a) (hb : NmsOf t b) : a = b := by
  obtain ⟨a1, a2, a3⟩ := ha
  obtain ⟨b1, b2, b3⟩ := hb
  refine sorted_one ((List.perm_ext_iff_of_nodup a1 b1).mpr fun j => ?_) (sorted_pair a3) (sorted_pair b3)
  rw [a2, b2]
end K02

namespace K02
open PySem PySem.Spec PyProof.Rows L2 D2
theorem letters_lt : ∀ c ∈ letters.cps.toList, c < 128 := by decide +kernel
theorem signs_lt : ∀ c ∈ signs_.cps.toList, c < 128 := by decide +kernel
def TStr (s : Str) : Prop := s.length ≤ 100 ∧ ∀ c ∈ s.cps.toList, c < 128
theorem tame_str {s : Str} (h : TStr s) : tame (.str s) = true := by
  simp only [tame, Bool.and_eq_true, decide_eq_true_eq, List.all_eq_true]
  exact ⟨h.1, h.2⟩
theorem tame_nat {n : Nat} (h : n < 1000) : tame (.int (n : Int)) = true := by
  simp only [tame, Bool.and_eq_true, decide_eq_true_eq]
  omega
theorem nm_t {s : Str} (h : NmOk s) : TStr s := ⟨by have := h.2.1; omega, fun c hc => letters_lt c (h.2.2 c hc)⟩
theorem tx_t {s : Str} (h : TxOk s) : TStr s := ⟨by have := h.1; omega, fun c hc => signs_lt c (h.2 c hc)⟩
mutual
def Th.pd : Th → PyData
  | .txt s => .str s
  | .node n ts => .tuple [.str n, .tuple (pds ts)]
def pds : List Th → List PyData
  | [] => []
  | t :: ts => t.pd :: pds ts
end
mutual
theorem pd_dp (st : Sto) : ∀ t : Th, DP st t.dv t.pd
  | .txt s => by
    simp only [Th.dv, Th.pd]
    exact .str s
  | .node n ts => by
    simp only [Th.dv, Th.pd]
    exact .tup rfl (.cons (.str n) (.cons (.tup rfl (pds_dp st ts)) .nil))
theorem pds_dp (st : Sto) : ∀ ts : List Th, DPs st (dvs ts) (pds ts)
  | [] => by
    simp only [dvs, pds]
    exact .nil
  | t :: ts => by
    simp only [dvs, pds]
    exact .cons (pd_dp st t) (pds_dp st ts)
end
mutual
theorem pd_tame : ∀ t : Th, t.ok → tame t.pd = true
  | .txt s, h => by
    simp only [Th.pd]
    simp only [Th.ok] at h
    exact tame_str (tx_t h)
  | .node n ts, h => by
    simp only [Th.ok] at h
    simp only [Th.pd]
    show (tame (.str n) && (tames (pds ts) && true)) = true
    rw [tame_str (nm_t h.1), pds_tame ts h.2]
    rfl
theorem pds_tame : ∀ ts : List Th, oks ts → tames (pds ts) = true
  | [], _ => rfl
  | t :: ts, h => by
    simp only [oks] at h
    simp only [pds, tames, pd_tame t h.1, pds_tame ts h.2, Bool.and_self]
end
mutual
theorem pd_dep : ∀ t : Th, t.pd.depth ≤ 2 * t.dep
  | .txt s => by simp [Th.pd, PyData.depth]
  | .node n ts => by
    have := pds_dep ts
    simp only [Th.pd, Th.dep, PyData.depth, PyData.depthAll]
    omega
theorem pds_dep : ∀ ts : List Th, PyData.depthAll (pds ts) ≤ 2 * deps ts
  | [] => by simp [pds, PyData.depthAll]
  | t :: ts => by
    have := pd_dep t
    have := pds_dep ts
    simp only [pds, deps, PyData.depthAll]
    omega
end
theorem lay_tame {p : PyData} (h : tame p = true) : PyData.eqv p p = true := SeqAt.eqv_refl p (tame_leaf p h).2.2.2
theorem eqR {st : Sto} {Q : DK} {a b : List Dv} {p : List PyData} {neg : Bool} (h1 : DPs st a p) (h2 : DPs st b p) (t : tame (.list p) = true) (hd : (PyData.list p).depth ≤ 60) (k : Q (.bl (!neg)) st) : gEq neg (.rol a) (.rol b) st Q := by
  unfold gEq
  refine ⟨.list p, .list p, .lst rfl h1, .lst rfl h2, shapedT t hd, shapedT t hd, ?_⟩
  rw [lay_tame t]
  cases neg <;> exact k
theorem eqTh {st : Sto} {Q : DK} {t : Th} {neg : Bool} (h : t.ok) (hd : t.dep ≤ 30) (k : Q (.bl (!neg)) st) : gEq neg t.dv t.dv st Q := by
  have ht := pd_tame t h
  have hp := pd_dep t
  cases t with
  | txt s =>
    simp only [Th.dv]
    refine eqS ?_
    rw [decide_eq_true rfl]
    cases neg <;> exact k
  | node n ts =>
    simp only [Th.dv]
    simp only [Th.pd] at ht hp
    refine eqT (p := [.str n, .tuple (pds ts)]) (q := [.str n, .tuple (pds ts)]) (.cons (.str n) (.cons (.tup rfl (pds_dp st ts)) .nil)) (.cons (.str n) (.cons (.tup rfl (pds_dp st ts)) .nil)) (shapedT ht (by omega)) (shapedT ht (by omega)) ?_
    rw [lay_tame ht]
    cases neg <;> exact k
-- the rows
def Wk.pd (w : Wk) : PyData := .tuple [if w.tx then .list [.str w.s] else .str w.s, .int (w.d : Int)]
theorem wk_dp (st : Sto) (w : Wk) : DP st w.dv w.pd := by
  unfold Wk.dv Wk.pd
  refine .tup rfl (.cons ?_ (.cons (.int _) .nil))
  split
  · exact .lst rfl (.cons (.str _) .nil)
  · exact .str _
theorem wks_dp (st : Sto) : ∀ l : List Wk, DPs st (l.map Wk.dv) (l.map Wk.pd)
  | [] => .nil
  | w :: l => .cons (wk_dp st w) (wks_dp st l)
theorem wk_tame {w : Wk} (h1 : TStr w.s) (h2 : w.d < 1000) : tame w.pd = true := by
  obtain ⟨tx, s, d⟩ := w
  have h1 : TStr s := h1
  have h2 : d < 1000 := h2
  cases tx with
  | false =>
    show (tame (.str s) && (tame (.int (d : Int)) && true)) = true
    rw [tame_str h1, tame_nat h2]
    rfl
  | true =>
    show ((tame (.str s) && true) && (tame (.int (d : Int)) && true)) = true
    rw [tame_str h1, tame_nat h2]
    rfl
theorem wk_depth (w : Wk) : w.pd.depth ≤ 2 := by
  unfold Wk.pd
  split <;> simp [PyData.depth, PyData.depthAll]
theorem wks_depth : ∀ l : List Wk, PyData.depthAll (l.map Wk.pd) ≤ 2
  | [] => by simp [PyData.depthAll]
  | w :: l => by
    have := wk_depth w
    have := wks_depth l
    simp only [List.map_cons, PyData.depthAll]
    omega
mutual
theorem walk_ok : ∀ (t : Th) (d : Nat), t.ok → ∀ w ∈ t.walk d, TStr w.s ∧ w.d ≤ d + t.dep
  | .txt s, d, h => by
    intro w hw
    simp only [Th.ok] at h
    simp only [Th.walk, List.mem_singleton] at hw
    subst hw
    exact ⟨tx_t h, Nat.le_add_right _ _⟩
  | .node n ts, d, h => by
    intro w hw
    simp only [Th.ok] at h
    simp only [Th.walk, List.mem_cons] at hw
    simp only [Th.dep]
    rcases hw with rfl | hw
    · exact ⟨nm_t h.1, by show d + 1 ≤ _; omega⟩
    · have := walks_ok ts (d + 1) h.2 w hw
      exact ⟨this.1, by omega⟩
theorem walks_ok : ∀ (ts : List Th) (d : Nat), oks ts → ∀ w ∈ walks ts d, TStr w.s ∧ w.d ≤ d + deps ts
  | [], d, _ => by simp [walks]
  | t :: ts, d, h => by
    intro w hw
    simp only [oks] at h
    simp only [walks, List.mem_append] at hw
    simp only [deps]
    rcases hw with hw | hw
    · have := walk_ok t d h.1 w hw
      exact ⟨this.1, by omega⟩
    · have := walks_ok ts d h.2 w hw
      exact ⟨this.1, by omega⟩
end
-- the three facts
def p3 (s d : Nat) (ys : List Str) : List PyData := [.int (s : Int), .int (d : Int), .tuple (ys.map .str)]
theorem strs_dp (st : Sto) : ∀ ys : List Str, DPs st (ys.map Dv.str) (ys.map PyData.str)
  | [] => .nil
  | y :: ys => .cons (.str y) (strs_dp st ys)
theorem p3_dp (st : Sto) (s d : Nat) (ys : List Str) : DPs st [nat s, nat d, .tup (ys.map Dv.str)] (p3 s d ys) := .cons (.int _) (.cons (.int _) (.cons (.tup rfl (strs_dp st ys)) .nil))
theorem strs_tame {ys : List Str} (h : ∀ y ∈ ys, TStr y) : tames (ys.map PyData.str) = true := tames_of fun x hx => by
  obtain ⟨y, hy, rfl⟩ := List.mem_map.mp hx
  exact tame_str (h y hy)
theorem p3_tame {s d : Nat} {ys : List Str} (h1 : s < 1000) (h2 : d < 1000) (h : ∀ y ∈ ys, TStr y) : tame (.list (p3 s d ys)) = true := by
  simp only [p3, tame, tames, Bool.and_eq_true]
  have q1 := tame_nat h1
  have q2 := tame_nat h2
  simp only [tame, Bool.and_eq_true] at q1 q2
  exact ⟨q1, q2, strs_tame h, trivial⟩
theorem strs_depth : ∀ ys : List Str, PyData.depthAll (ys.map PyData.str) = 0
  | [] => rfl
  | y :: ys => by simp only [List.map_cons, PyData.depthAll, PyData.depth, strs_depth ys, Nat.max_self]
theorem p3_depth (s d : Nat) (ys : List Str) : (PyData.list (p3 s d ys)).depth ≤ 60 := by
  simp [p3, PyData.depth, PyData.depthAll, strs_depth]
theorem strs_wt : ∀ {ys : List Str}, (∀ y ∈ ys, TStr y) → PyData.weightAll (ys.map PyData.str) ≤ 101 * ys.length
  | [], _ => by simp [PyData.weightAll]
  | y :: ys, h => by
    have h1 : y.cps.size ≤ 100 := (h y (by simp)).1
    have := strs_wt (ys := ys) fun z hz => h z (List.mem_cons_of_mem _ hz)
    simp only [List.map_cons, PyData.weightAll, PyData.weight, List.length_cons]
    omega
theorem log1000 {n : Nat} (h : n < 1000) : PyData.weight (.int (n : Int)) ≤ 10 := by
  unfold PyData.weight
  split
  · omega
  · have : ((n : Int)).natAbs.log2 < 10 := by
      rw [Int.natAbs_natCast, Nat.log2_lt (by rename_i h0; intro e; subst e; simp at h0)]
      omega
    omega
theorem p3_wt {s d : Nat} {ys : List Str} (h1 : s < 1000) (h2 : d < 1000) (h : ∀ y ∈ ys, TStr y) (hl : ys.length ≤ 1000) : (PyData.list (p3 s d ys)).weight ≤ 2 ^ 20 := by
  have a := log1000 h1
  have b := log1000 h2
  have c := strs_wt h
  have e : (PyData.list (p3 s d ys)).weight = PyData.weight (.int (s : Int)) + 1 + (PyData.weight (.int (d : Int)) + 1 + (PyData.weightAll (ys.map PyData.str) + 1 + 0)) := rfl
  rw [e]
  omega
end K02

namespace K02
open PySem PySem.Spec PyProof.Rows L2 D2
theorem nodup_le : ∀ {a b : List Str}, a.Nodup → (∀ j ∈ a, j ∈ b) → a.length ≤ b.length
  | [], b, _, _ => Nat.zero_le _
  | x :: a, b, nd, h => by
    have hx := h x (by simp)
    rw [List.nodup_cons] at nd
    have ih := nodup_le (b := b.erase x) nd.2 fun j hj => by
      have hne : j ≠ x := fun e => nd.1 (e ▸ hj)
      exact (List.mem_erase_of_ne hne).mpr (h j (by simp [hj]))
    rw [List.length_erase_of_mem hx] at ih
    have := List.length_pos_of_mem hx
    simp only [List.length_cons]
    omega
def selN : Dv → Option Dv
  | .tup [.str s, _] => some (.str s)
  | _ => none
def selD : Dv → Option Dv
  | .tup [.str _, d] => some d
  | _ => none
theorem sel_n : ∀ l : List Wk, (l.map Wk.dv).filterMap selN = (l.filterMap wname).map Dv.str
  | [] => rfl
  | ⟨tx, s, d⟩ :: l => by
    rw [List.map_cons, List.filterMap_cons, List.filterMap_cons, sel_n l]
    cases tx <;> rfl
def wlev (w : Wk) : Option Int := if w.tx then none else some (w.d : Int)
theorem sel_d : ∀ l : List Wk, (l.map Wk.dv).filterMap selD = (l.filterMap wlev).map Dv.int
  | [] => rfl
  | ⟨tx, s, d⟩ :: l => by
    rw [List.map_cons, List.filterMap_cons, List.filterMap_cons, sel_d l]
    cases tx <;> rfl
theorem top_is {t : Th} {m : Int} (h1 : m ∈ (0 : Int) :: (t.walk 0).filterMap wlev) (h2 : ∀ y, y ∈ (0 : Int) :: (t.walk 0).filterMap wlev → y ≤ m) : m = (t.dep : Int) := by
  have a : m ≤ (t.dep : Int) := by
    rcases List.mem_cons.mp h1 with rfl | h
    · omega
    · obtain ⟨w, hw, e⟩ := List.mem_filterMap.mp h
      unfold wlev at e
      split at e
      · cases e
      · rename_i hx
        have := walk_up t 0 w hw (by simpa using hx)
        cases e
        omega
  have b : (t.dep : Int) ≤ m := by
    by_cases hz : 0 < t.dep
    · obtain ⟨w, hw, hx, e⟩ := walk_top t 0 hz
      refine h2 _ (List.mem_cons_of_mem _ (List.mem_filterMap.mpr ⟨w, hw, ?_⟩))
      unfold wlev
      rw [hx, e]
      simp
    · have := h2 0 (by simp)
      omega
  omega
theorem p_law_thing_right : PL N_law_thing_right (W_law_thing_right 40) (D2.Spec.fn A_law_thing_right P_law_thing_right R_law_thing_right) := by
  rintro (t : Th) ⟨hok, hs, hd⟩
  have hok : t.ok := hok
  have hs : t.size ≤ 120 := hs
  have hd : t.dep ≤ 30 := hd
  show W_law_thing_right 40 _ [some t.dv, none, none, none, none, none, none] []
  generalize hD : ({ nx := _, rt := _ } : DEnds) = D
  have fin : D.rt (.bl true) [] := by
    rw [← hD]
    exact back_all (args := A_law_thing_right) (pre := P_law_thing_right) (F := R_law_thing_right) (i := t) (.bl _) rfl
  clear hD
  have big : (4000 : Nat) ≤ sizeLine := by decide
  have bigs : (1000 : Nat) ≤ scanBound := by decide
  have wl : ((t.walk 0).map Wk.dv).length ≤ sizeLine := by rw [List.length_map, walk_len]; omega
  refine ⟨(t, 0), rfl, .cons t.nr (.cons (.int 0) .nil), ⟨by show t.dep < 40; omega, by show t.size ≤ 1000; omega⟩, ?_⟩
  rintro d - rfl
  -- the names
  refine lc_sel (xs := (t.walk 0).map Wk.dv) selN wl (fun x hx => ?_) ?_
  · obtain ⟨⟨tx, s, d⟩, hw, rfl⟩ := List.mem_map.mp hx
    cases tx with
    | true => exact ⟨_, rfl, fun QT q0 q1 => q0 rfl⟩
    | false => exact ⟨_, rfl, fun QT q0 q1 => q1 _ rfl fun Q' q => q⟩
  rw [sel_n, walk_nms]
  refine Exists.intro t.nms (And.intro rfl (And.intro (by have := nms_len t; omega) fun ys y1 y2 y3 => ?_))
  have hys : NmsOf t ys := ⟨y1, y2, y3⟩
  have yt : ∀ y ∈ ys, TStr y := fun y hy => nm_t (nms_ok t hok y ((y2 y).mp hy))
  have yl : ys.length ≤ 1000 := by
    have := nms_len t
    have h : ys.length ≤ t.nms.length := nodup_le y1 fun j hj => (y2 j).mp hj
    omega
  -- what is due
  refine len (xs := (t.walk 0).map Wk.dv) rfl ?_
  refine And.intro (show 1 ≤ sizeLine by decide) ?_
  refine lc_sel (xs := (t.walk 0).map Wk.dv) selD wl (fun x hx => ?_) ?_
  · obtain ⟨⟨tx, s, d⟩, hw, rfl⟩ := List.mem_map.mp hx
    cases tx with
    | true => exact ⟨_, rfl, fun QT q0 q1 => q0 rfl⟩
    | false => exact ⟨_, rfl, fun QT q0 q1 => q1 _ rfl fun Q' q => q⟩
  rw [sel_d]
  refine addL ?_ ?_
  · have := List.length_filterMap_le wlev (t.walk 0)
    rw [walk_len] at this
    rw [List.length_map]
    simp only [List.length_cons, List.length_nil]
    omega
  refine Exists.intro ((0 : Int) :: (t.walk 0).filterMap wlev) (And.intro rfl (And.intro (Nat.succ_pos _) fun m m1 m2 => ?_))
  obtain rfl := top_is m1 m2
  refine tupL (xs := ys.map Dv.str) rfl ?_
  refine And.intro (show 3 ≤ sizeLine by decide) ?_
  rw [List.length_map, walk_len]
  -- shown alike
  refine ⟨t, rfl, .cons t.nr .nil, by show t.size ≤ 1000; omega, ?_⟩
  rintro d - rfl
  refine ⟨t, rfl, .cons t.nr .nil, ⟨by show t.dep < 40; omega, by show t.size ≤ 1000; omega⟩, ?_⟩
  rintro d - rfl
  refine ⟨t, rfl, .cons t.nr .nil, by show t.size ≤ 1000; omega, ?_⟩
  rintro d - ⟨zs, hz, rfl⟩
  obtain rfl := nms_one hz hys
  refine And.intro (show 3 ≤ sizeLine by decide) ?_
  have dp := fun st => p3_dp st t.size t.dep zs
  have tm : tame (.list (p3 t.size t.dep zs)) = true := p3_tame (by omega) (by omega) yt
  have wt := p3_wt (s := t.size) (d := t.dep) (ys := zs) (by omega) (by omega) yt yl
  refine reprT (p := .list (p3 t.size t.dep zs)) (.lst rfl (dp _)) tm (p3_depth _ _ _) wt ?_
  refine reprT (p := .list (p3 t.size t.dep zs)) (.lst rfl (dp _)) tm (p3_depth _ _ _) wt ?_
  refine neS rfl ?_
  -- the shape
  refine ⟨t, rfl, .cons t.nr .nil, ⟨by show t.dep < 40; omega, by show t.size ≤ 1000; omega⟩, ?_⟩
  rintro d - rfl
  have s1 := shp_size t
  have s2 := shp_dep t
  have s3 := shp_ok t hok
  refine ⟨rfl, rfl, t.shp, rfl, .cons (Th.nr _) .nil, by show t.shp.size ≤ 1000; omega, ?_⟩
  rintro d - rfl
  refine ⟨rfl, rfl, t.shp, rfl, .cons (Th.nr _) .nil, ⟨by show t.shp.dep < 40; omega, by show t.shp.size ≤ 1000; omega⟩, ?_⟩
  rintro d - rfl
  refine ⟨rfl, rfl, t.shp, rfl, .cons (Th.nr _) .nil, by show t.shp.size ≤ 1000; omega, ?_⟩
  rintro d - ⟨us, hu, rfl⟩
  have hu2 : NmsOf t us := by
    obtain ⟨u1, u2, u3⟩ := hu
    exact ⟨u1, fun j => by rw [u2, shp_nms], u3⟩
  obtain rfl := nms_one hu2 hys
  refine And.intro (show 3 ≤ sizeLine by decide) ?_
  rw [s1, s2]
  refine eqR (dp _) (dp _) tm (p3_depth _ _ _) ?_
  refine ⟨rfl, rfl, t.shp, rfl, .cons (Th.nr _) .nil, ⟨by show t.shp.dep < 40; omega, by show t.shp.size ≤ 1000; omega⟩, ?_⟩
  rintro d - rfl
  rw [shp_shp]
  refine eqTh s3 (by omega) ?_
  -- its walk
  refine ⟨(t.shp, 0), rfl, .cons (Th.nr _) (.cons (.int 0) .nil), ⟨by show t.shp.dep < 40; omega, by show t.shp.size ≤ 1000; omega⟩, ?_⟩
  rintro d - rfl
  refine lc_all (xs := (t.walk 0).map Wk.dv) (R := fun st => st = []) (P := fun i y => ∃ w, (t.walk 0)[i]? = some w ∧ y = w.shp.dv) rfl wl (fun i x st' e hR => ?_) ?_
  · subst hR
    rw [List.getElem?_map] at e
    obtain ⟨w, e5, rfl⟩ := Option.map_eq_some_iff.mp e
    obtain ⟨tx, s, d⟩ := w
    refine ⟨_, rfl, fun Q' q => ?_⟩
    have r := q _ _ ⟨_, e5, rfl⟩ rfl
    cases tx with
    | true => exact And.intro (show 1 ≤ sizeLine by decide) (And.intro (show 2 ≤ sizeLine by decide) r)
    | false => exact And.intro (show 2 ≤ sizeLine by decide) r
  · rintro zs2 st' rfl hl hP
    have ey := map_at (f := fun w : Wk => w.shp.dv) (by rw [hl, List.length_map]) hP
    have ew : ((t.shp.walk 0).map Wk.dv) = zs2 := by rw [walk_shp, List.map_map, ey]; rfl
    have wo := walk_ok t.shp 0 s3
    have tw : tames ((t.shp.walk 0).map Wk.pd) = true := tames_of fun x hx => by
      obtain ⟨w, hw, rfl⟩ := List.mem_map.mp hx
      have := wo w hw
      exact wk_tame this.1 (by omega)
    have dw := wks_depth (t.shp.walk 0)
    rw [← ew]
    refine eqR (wks_dp _ _) (wks_dp _ _) tw (by simp only [PyData.depth]; omega) ?_
    exact fin
end K02

namespace K02
open PySem PySem.Spec PyProof.Rows L2 D2
theorem dv_txt (s : Str) : (Th.txt s).dv = .str s := by simp [Th.dv]
theorem dv_node (n : Str) (ts : List Th) : (Th.node n ts).dv = .tup [.str n, .tup (dvs ts)] := by simp [Th.dv]
theorem small_txt {s : Str} (h : TxOk s) : Small (.txt s) := ⟨by simp only [Th.ok]; exact h, by simp [Th.size], by simp [Th.dep]⟩
theorem sizes_cut (ts : List Th) (a b : Nat) : sizes ((ts.drop a).take b) ≤ sizes ts := by
  have h1 := sizes_take (ts.drop a) b
  have e : sizes ts = sizes (ts.take a) + sizes (ts.drop a) := by rw [← sizes_app, List.take_append_drop]
  omega
theorem oks_mem : ∀ {b : List Th}, oks b → ∀ t ∈ b, t.ok
  | [], _, t, ht => by simp at ht
  | u :: us, h, t, ht => by
    simp only [oks] at h
    rcases List.mem_cons.mp ht with rfl | ht
    · exact h.1
    · exact oks_mem h.2 t ht
theorem oks_sub : ∀ {a b : List Th}, (∀ t ∈ a, t ∈ b) → oks b → oks a
  | [], b, _, _ => by simp [oks]
  | u :: us, b, h, hb => by
    simp only [oks]
    exact ⟨oks_mem hb u (h u (by simp)), oks_sub (fun t ht => h t (by simp [ht])) hb⟩
theorem deps_le : ∀ {a : List Th} {k : Nat}, (∀ t ∈ a, t.dep ≤ k) → deps a ≤ k
  | [], k, _ => by simp [deps]
  | u :: us, k, h => by
    have h1 := h u (by simp)
    have h2 := deps_le (a := us) (k := k) fun t ht => h t (by simp [ht])
    simp only [deps]
    omega
theorem sum_sizes : ∀ ts : List Th, (ts.map fun t => (t.size : Int)).sum = (sizes ts : Int)
  | [] => rfl
  | t :: ts => by
    rw [List.map_cons, List.sum_cons, sum_sizes ts]
    simp only [sizes]
    omega
theorem chain_ok {ns : List Str} {t : Th} (hn : ∀ s ∈ ns, NmOk s) (h0 : 0 < ns.length) (ht : t.ok) : ∀ m, (chain ns t m).ok ∧ (chain ns t m).size = t.size + m ∧ (chain ns t m).dep = t.dep + m
  | 0 => ⟨ht, rfl, rfl⟩
  | m + 1 => by
    obtain ⟨h1, h2, h3⟩ := chain_ok hn h0 ht m
    have hi : m % ns.length < ns.length := Nat.mod_lt _ h0
    have e : ns.getD (m % ns.length) "" = ns[m % ns.length] := by simp [List.getD, List.getElem?_eq_getElem hi]
    simp only [chain, Th.ok, oks, Th.size, sizes, Th.dep, deps, h2, h3, e]
    exact ⟨⟨hn _ (List.getElem_mem hi), h1, trivial⟩, by omega, by omega⟩
theorem dvs_txt : ∀ ss : List Str, dvs (ss.map Th.txt) = ss.map Dv.str
  | [] => rfl
  | s :: ss => by simp [dvs, dv_txt, dvs_txt ss]
theorem row_ok : ∀ {ss : List Str}, (∀ s ∈ ss, TxOk s) → oks (ss.map Th.txt) ∧ sizes (ss.map Th.txt) = ss.length ∧ deps (ss.map Th.txt) = 0
  | [], _ => by simp [oks, sizes, deps]
  | s :: ss, h => by
    obtain ⟨h1, h2, h3⟩ := row_ok (ss := ss) fun x hx => h x (by simp [hx])
    have hs := h s (by simp)
    simp only [List.map_cons, oks, sizes, deps, Th.ok, Th.size, Th.dep, h2, h3, List.length_cons]
    exact ⟨⟨hs, h1⟩, by omega, by omega⟩
/-- a forest that the law may draw -/
def Fst (d : Dv) : Prop := ∃ fs : List Th, d = .tup (dvs fs) ∧ sizes fs ≤ 120 ∧ deps fs ≤ 30
theorem fst_any {n s : Str} {ts : List Th} {d : Dv} (hz : sizes ts ≤ 97) (hd : deps ts ≤ 29) (h : d ∈ [Dv.tup (dvs ts), .tup [], .tup [.str s, .tup [.str n, .tup (dvs ts)], .str s], .tup [.str s], .tup (cutD (dvs ts) none (some 3))]) : Fst d := by
  simp only [List.mem_cons, List.not_mem_nil, or_false] at h
  rcases h with rfl | rfl | rfl | rfl | rfl
  · exact ⟨ts, rfl, by omega, by omega⟩
  · exact ⟨[], rfl, by simp [sizes], by simp [deps]⟩
  · exact ⟨[.txt s, .node n ts, .txt s], by simp [dvs, dv_txt, dv_node], by simp [sizes, Th.size]; omega, by simp [deps, Th.dep]; omega⟩
  · exact ⟨[.txt s], by simp [dvs, dv_txt], by simp [sizes, Th.size], by simp [deps, Th.dep]⟩
  · refine ⟨(ts.drop (HT.sIx (dvs ts).length 0 none)).take (HT.sIx (dvs ts).length (dvs ts).length (some 3) - HT.sIx (dvs ts).length 0 none), ?_, ?_, ?_⟩
    · rw [D2.cutD]
      rw [dvs_map, dvs_map, List.map_take, List.map_drop]
    · have := sizes_cut ts (HT.sIx (dvs ts).length 0 none) (HT.sIx (dvs ts).length (dvs ts).length (some 3) - HT.sIx (dvs ts).length 0 none)
      omega
    · refine deps_le fun t ht => ?_
      have := dep_mem (List.mem_of_mem_drop (List.mem_of_mem_take ht))
      omega
end K02

namespace K02
open PySem PySem.Spec PyProof.Rows L2 D2
/-! a thing that grows: a tree with its cells (node at cell c, its list at cell l) -/
inductive Gt where
  | txt (s : Str) | node (c l : Nat) (n : Str) (ts : List Gt)
mutual
def Gt.th : Gt → Th
  | .txt s => .txt s
  | .node _ _ n ts => .node n (ths ts)
def ths : List Gt → List Th
  | [] => []
  | t :: ts => t.th :: ths ts
end
def Gt.dv : Gt → Dv
  | .txt s => .str s
  | .node c _ _ _ => .ref c
mutual
def Gt.rep (st : Sto) : Gt → Prop
  | .txt _ => True
  | .node c l n ts => st[c]? = some (.lst [.str n, .ref l]) ∧ st[l]? = some (.lst (ts.map Gt.dv)) ∧ reps st ts
def reps (st : Sto) : List Gt → Prop
  | [] => True
  | t :: ts => t.rep st ∧ reps st ts
end
mutual
theorem rep_of {st : Sto} : ∀ t : Gt, t.rep st → Rep st t.th t.dv
  | .txt s, _ => by
    simp only [Gt.th, Gt.dv, Rep]
  | .node c l n ts, h => by
    simp only [Gt.rep] at h
    simp only [Gt.th, Gt.dv, Rep]
    exact ⟨c, l, ts.map Gt.dv, rfl, h.1, h.2.1, reps_of ts h.2.2⟩
theorem reps_of {st : Sto} : ∀ ts : List Gt, reps st ts → Reps st (ths ts) (ts.map Gt.dv)
  | [], _ => by simp only [ths, Reps, List.map_nil]
  | t :: ts, h => by
    simp only [reps] at h
    simp only [ths, Reps, List.map_cons]
    exact ⟨_, _, rfl, rep_of t h.1, reps_of ts h.2⟩
end
mutual
def Gt.cells : Gt → List Nat
  | .txt _ => []
  | .node c l _ ts => c :: l :: cellss ts
def cellss : List Gt → List Nat
  | [] => []
  | t :: ts => t.cells ++ cellss ts
end
-- a store that agrees on the cells
mutual
theorem rep_keep {st st' : Sto} : ∀ t : Gt, (∀ c ∈ t.cells, st'[c]? = st[c]?) → t.rep st → t.rep st'
  | .txt s, _, _ => by simp only [Gt.rep]
  | .node c l n ts, h, r => by
    simp only [Gt.rep] at *
    simp only [Gt.cells, List.mem_cons] at h
    exact ⟨by rw [h c (.inl rfl)]; exact r.1, by rw [h l (.inr (.inl rfl))]; exact r.2.1, reps_keep ts (fun x hx => h x (.inr (.inr hx))) r.2.2⟩
theorem reps_keep {st st' : Sto} : ∀ ts : List Gt, (∀ c ∈ cellss ts, st'[c]? = st[c]?) → reps st ts → reps st' ts
  | [], _, _ => by simp only [reps]
  | t :: ts, h, r => by
    simp only [reps] at *
    simp only [cellss, List.mem_append] at h
    exact ⟨rep_keep t (fun x hx => h x (.inl hx)) r.1, reps_keep ts (fun x hx => h x (.inr hx)) r.2⟩
end
mutual
def ins (c0 i : Nat) (x : Gt) : Gt → Gt
  | .txt s => .txt s
  | .node c l n ts => if c = c0 then .node c l n (ts.take i ++ [x] ++ ts.drop i) else .node c l n (inss c0 i x ts)
def inss (c0 i : Nat) (x : Gt) : List Gt → List Gt
  | [] => []
  | t :: ts => ins c0 i x t :: inss c0 i x ts
end
theorem ins_dv (c0 i : Nat) (x t : Gt) : (ins c0 i x t).dv = t.dv := by
  cases t with
  | txt s => simp only [ins]
  | node c l n ts =>
    simp only [ins]
    split <;> rfl
theorem inss_dv (c0 i : Nat) (x : Gt) : ∀ ts : List Gt, (inss c0 i x ts).map Gt.dv = ts.map Gt.dv
  | [] => rfl
  | t :: ts => by simp only [inss, List.map_cons, ins_dv, inss_dv c0 i x ts]
-- nothing happens where the cell is not
mutual
theorem ins_out {c0 i : Nat} {x : Gt} : ∀ t : Gt, c0 ∉ t.cells → ins c0 i x t = t
  | .txt s, _ => by simp only [ins]
  | .node c l n ts, h => by
    simp only [Gt.cells, List.mem_cons, not_or] at h
    simp only [ins]
    rw [if_neg (fun e => h.1 e.symm), inss_out ts h.2.2]
theorem inss_out {c0 i : Nat} {x : Gt} : ∀ ts : List Gt, c0 ∉ cellss ts → inss c0 i x ts = ts
  | [], _ => rfl
  | t :: ts, h => by
    simp only [cellss, List.mem_append, not_or] at h
    simp only [inss]
    rw [ins_out t h.1, inss_out ts h.2]
end
theorem ths_app : ∀ a b : List Gt, ths (a ++ b) = ths a ++ ths b
  | [], b => rfl
  | t :: ts, b => by simp only [List.cons_append, ths, ths_app ts b]
theorem sizes_ins (ts : List Gt) (i : Nat) (x : Gt) : sizes (ths (ts.take i ++ [x] ++ ts.drop i)) = sizes (ths ts) + x.th.size := by
  have e : sizes (ths ts) = sizes (ths (ts.take i)) + sizes (ths (ts.drop i)) := by rw [← sizes_app, ← ths_app, List.take_append_drop]
  rw [ths_app, ths_app, sizes_app, sizes_app, e]
  simp only [ths, sizes]
  omega
mutual
theorem ins_size {c0 i : Nat} {x : Gt} : ∀ t : Gt, t.cells.Nodup → (ins c0 i x t).th.size ≤ t.th.size + x.th.size
  | .txt s, _ => by
    simp only [ins]
    omega
  | .node c l n ts, h => by
    simp only [Gt.cells, List.nodup_cons] at h
    simp only [ins]
    split
    · simp only [Gt.th, Th.size, sizes_ins]
      omega
    · have := inss_size (c0 := c0) (i := i) (x := x) ts h.2.2
      simp only [Gt.th, Th.size]
      omega
theorem inss_size {c0 i : Nat} {x : Gt} : ∀ ts : List Gt, (cellss ts).Nodup → sizes (ths (inss c0 i x ts)) ≤ sizes (ths ts) + x.th.size
  | [], _ => by
    simp only [inss, ths, sizes]
    omega
  | t :: ts, h => by
    simp only [cellss, List.nodup_append] at h
    simp only [inss, ths, sizes]
    by_cases hc : c0 ∈ t.cells
    · have h2 : c0 ∉ cellss ts := fun q => h.2.2 c0 hc c0 q rfl
      have := ins_size (c0 := c0) (i := i) (x := x) t h.1
      rw [inss_out ts h2]
      omega
    · have := inss_size (c0 := c0) (i := i) (x := x) ts h.2.1
      rw [ins_out t hc]
      omega
end
theorem reps_app {st : Sto} : ∀ a b : List Gt, reps st (a ++ b) ↔ reps st a ∧ reps st b
  | [], b => by simp [reps]
  | t :: ts, b => by simp [reps, reps_app ts b, and_assoc]
theorem cellss_app : ∀ a b : List Gt, cellss (a ++ b) = cellss a ++ cellss b
  | [], b => rfl
  | t :: ts, b => by simp [cellss, cellss_app ts b]
-- what stands at the cell of an insertion
mutual
def listOf (c0 : Nat) : Gt → Option (Nat × List Gt)
  | .txt _ => none
  | .node c l _ ts => if c = c0 then some (l, ts) else listsOf c0 ts
def listsOf (c0 : Nat) : List Gt → Option (Nat × List Gt)
  | [] => none
  | t :: ts => (listOf c0 t).or (listsOf c0 ts)
end
-- every node at most at level k (the node itself at level d)
mutual
def levs (k : Nat) : Gt → Nat → Prop
  | .txt _, _ => True
  | .node _ _ _ ts, d => d ≤ k ∧ levss k ts (d + 1)
def levss (k : Nat) : List Gt → Nat → Prop
  | [], _ => True
  | t :: ts, d => levs k t d ∧ levss k ts d
end
mutual
theorem dep_levs {k : Nat} : ∀ (t : Gt) (d : Nat), levs k t d → 1 ≤ d → t.th.dep + d ≤ max (k + 1) d
  | .txt s, d, _, _ => by
    simp only [Gt.th, Th.dep]
    omega
  | .node c l n ts, d, h, hd => by
    simp only [levs] at h
    have := dep_levss ts (d + 1) h.2 (by omega)
    simp only [Gt.th, Th.dep]
    omega
theorem dep_levss {k : Nat} : ∀ (ts : List Gt) (d : Nat), levss k ts d → 1 ≤ d → deps (ths ts) + d ≤ max (k + 1) d
  | [], d, _, _ => by
    simp only [ths, deps]
    omega
  | t :: ts, d, h, hd => by
    simp only [levss] at h
    have := dep_levs t d h.1 hd
    have := dep_levss ts d h.2 hd
    simp only [ths, deps]
    omega
end
mutual
theorem listOf_mem {c0 l0 : Nat} {ts0 : List Gt} : ∀ t : Gt, listOf c0 t = some (l0, ts0) → c0 ∈ t.cells ∧ l0 ∈ t.cells
  | .txt s, h => by simp [listOf] at h
  | .node c l n ts, h => by
    simp only [listOf] at h
    simp only [Gt.cells, List.mem_cons]
    split at h
    · rename_i e
      cases h
      exact ⟨.inl e.symm, .inr (.inl rfl)⟩
    · have := listsOf_mem ts h
      exact ⟨.inr (.inr this.1), .inr (.inr this.2)⟩
theorem listsOf_mem {c0 l0 : Nat} {ts0 : List Gt} : ∀ ts : List Gt, listsOf c0 ts = some (l0, ts0) → c0 ∈ cellss ts ∧ l0 ∈ cellss ts
  | [], h => by simp [listsOf] at h
  | t :: ts, h => by
    simp only [listsOf] at h
    simp only [cellss, List.mem_append]
    rcases Option.or_eq_some_iff.mp h with h | ⟨_, h⟩
    · have := listOf_mem t h
      exact ⟨.inl this.1, .inl this.2⟩
    · have := listsOf_mem ts h
      exact ⟨.inr this.1, .inr this.2⟩
end
mutual
theorem ins_rep {st st' : Sto} {c0 l0 i : Nat} {x : Gt} {ts0 : List Gt} (hx : x.rep st') (hl : st'[l0]? = some (.lst ((ts0.take i ++ [x] ++ ts0.drop i).map Gt.dv))) :
    ∀ t : Gt, t.cells.Nodup → listOf c0 t = some (l0, ts0) → (∀ c ∈ t.cells, c ≠ l0 → st'[c]? = st[c]?) → t.rep st → (ins c0 i x t).rep st'
  | .txt s, _, h, _, _ => by simp [listOf] at h
  | .node c l n ts, nd, h, hk, r => by
    simp only [Gt.cells, List.nodup_cons, List.mem_cons, not_or] at nd
    simp only [Gt.cells, List.mem_cons] at hk
    simp only [listOf] at h
    simp only [Gt.rep] at r
    simp only [ins]
    split at h
    · rename_i e
      cases h
      rw [if_pos e]
      simp only [Gt.rep]
      refine ⟨by rw [hk c (.inl rfl) nd.1.1]; exact r.1, hl, ?_⟩
      have rk := reps_keep (st' := st') ts0 (fun y hy => hk y (.inr (.inr hy)) fun e => nd.2.1 (e ▸ hy)) r.2.2
      have e2 : reps st' (ts0.take i ++ ts0.drop i) := by rw [List.take_append_drop]; exact rk
      rw [reps_app] at e2
      rw [reps_app, reps_app]
      exact ⟨⟨e2.1, hx, trivial⟩, e2.2⟩
    · rename_i e
      rw [if_neg e]
      have hm := (listsOf_mem ts h).2
      simp only [Gt.rep]
      refine ⟨by rw [hk c (.inl rfl) fun e => nd.1.2 (e ▸ hm)]; exact r.1, ?_, inss_rep hx hl ts nd.2.2 h (fun y hy => hk y (.inr (.inr hy))) r.2.2⟩
      rw [inss_dv, hk l (.inr (.inl rfl)) fun e => nd.2.1 (e ▸ hm)]
      exact r.2.1
theorem inss_rep {st st' : Sto} {c0 l0 i : Nat} {x : Gt} {ts0 : List Gt} (hx : x.rep st') (hl : st'[l0]? = some (.lst ((ts0.take i ++ [x] ++ ts0.drop i).map Gt.dv))) :
    ∀ ts : List Gt, (cellss ts).Nodup → listsOf c0 ts = some (l0, ts0) → (∀ c ∈ cellss ts, c ≠ l0 → st'[c]? = st[c]?) → reps st ts → reps st' (inss c0 i x ts)
  | [], _, h, _, _ => by simp [listsOf] at h
  | t :: ts, nd, h, hk, r => by
    simp only [cellss, List.nodup_append] at nd
    simp only [cellss, List.mem_append] at hk
    simp only [listsOf] at h
    simp only [reps] at r
    simp only [inss, reps]
    rcases Option.or_eq_some_iff.mp h with h | ⟨h0, h⟩
    · have hm := listOf_mem t h
      refine ⟨ins_rep hx hl t nd.1 h (fun y hy => hk y (.inl hy)) r.1, ?_⟩
      rw [inss_out ts fun q => nd.2.2 c0 hm.1 c0 q rfl]
      exact reps_keep ts (fun y hy => hk y (.inr hy) fun e => nd.2.2 l0 hm.2 y hy e.symm) r.2
    · have hm := listsOf_mem ts h
      refine ⟨?_, inss_rep hx hl ts nd.2.1 h (fun y hy => hk y (.inr hy)) r.2⟩
      rw [ins_out t fun q => nd.2.2 c0 q c0 hm.1 rfl]
      exact rep_keep t (fun y hy => hk y (.inl hy) fun e => nd.2.2 y hy l0 hm.2 e) r.1
end
end K02

namespace K02
open PySem PySem.Spec PyProof.Rows L2 D2
/-! the nodes of a growing tree with their levels -/
mutual
def ats : Gt → Nat → List (Nat × Nat)
  | .txt _, _ => []
  | .node c _ _ ts, d => (c, d) :: atss ts (d + 1)
def atss : List Gt → Nat → List (Nat × Nat)
  | [], _ => []
  | t :: ts, d => ats t d ++ atss ts d
end
theorem atss_app : ∀ (a b : List Gt) (d : Nat), atss (a ++ b) d = atss a d ++ atss b d
  | [], b, d => rfl
  | t :: ts, b, d => by simp [atss, atss_app ts b d]
mutual
theorem ats_sub : ∀ (t : Gt) (d : Nat), ((ats t d).map Prod.fst).Sublist t.cells
  | .txt s, d => by simp [ats, Gt.cells]
  | .node c l n ts, d => by
    simp only [ats, Gt.cells, List.map_cons]
    exact ((atss_sub ts (d + 1)).cons l).cons_cons c
theorem atss_sub : ∀ (ts : List Gt) (d : Nat), ((atss ts d).map Prod.fst).Sublist (cellss ts)
  | [], d => by simp [atss, cellss]
  | t :: ts, d => by
    simp only [atss, cellss, List.map_append]
    exact (ats_sub t d).append (atss_sub ts d)
end
theorem key_one : ∀ {l : List (Nat × Nat)} {c a b : Nat}, (l.map Prod.fst).Nodup → (c, a) ∈ l → (c, b) ∈ l → a = b
  | [], _, _, _, _, h, _ => by simp at h
  | p :: l, c, a, b, nd, h1, h2 => by
    simp only [List.map_cons, List.nodup_cons] at nd
    have out : ∀ x, (c, x) ∈ l → p.1 ≠ c := fun x hx e => nd.1 (e ▸ List.mem_map.mpr ⟨_, hx, rfl⟩)
    rcases List.mem_cons.mp h1 with e1 | h1
    · rcases List.mem_cons.mp h2 with e2 | h2
      · rw [← e2] at e1
        exact (Prod.mk.inj e1).2
      · exact absurd (by rw [← e1]) (out b h2)
    · rcases List.mem_cons.mp h2 with e2 | h2
      · exact absurd (by rw [← e2]) (out a h1)
      · exact key_one nd.2 h1 h2
theorem ats_one {t : Gt} {d c a b : Nat} (nd : t.cells.Nodup) (h1 : (c, a) ∈ ats t d) (h2 : (c, b) ∈ ats t d) : a = b := key_one ((ats_sub t d).nodup nd) h1 h2
theorem ats_cell {t : Gt} {d c a : Nat} (h : (c, a) ∈ ats t d) : c ∈ t.cells := (ats_sub t d).subset (List.mem_map.mpr ⟨_, h, rfl⟩)
-- an insertion keeps the nodes
mutual
theorem ats_old {c0 i : Nat} {x : Gt} {p : Nat × Nat} : ∀ (t : Gt) (d : Nat), p ∈ ats t d → p ∈ ats (ins c0 i x t) d
  | .txt s, d, h => by simp [ats] at h
  | .node c l n ts, d, h => by
    simp only [ats, List.mem_cons] at h
    simp only [ins]
    split
    · simp only [ats, List.mem_cons]
      refine h.imp id fun h => ?_
      have e : atss ts (d + 1) = atss (ts.take i) (d + 1) ++ atss (ts.drop i) (d + 1) := by rw [← atss_app, List.take_append_drop]
      rw [e] at h
      rw [atss_app, atss_app]
      rcases List.mem_append.mp h with h | h
      · exact List.mem_append_left _ (List.mem_append_left _ h)
      · exact List.mem_append_right _ h
    · simp only [ats, List.mem_cons]
      exact h.imp id fun h => atss_old ts (d + 1) h
theorem atss_old {c0 i : Nat} {x : Gt} {p : Nat × Nat} : ∀ (ts : List Gt) (d : Nat), p ∈ atss ts d → p ∈ atss (inss c0 i x ts) d
  | [], d, h => by simp [atss] at h
  | t :: ts, d, h => by
    simp only [inss, atss, List.mem_append] at *
    exact h.imp (ats_old t d) (atss_old ts d)
end
mutual
theorem ats_new {c0 i k0 : Nat} {x : Gt} {p : Nat × Nat} (hp : p ∈ ats x (k0 + 1)) : ∀ (t : Gt) (d : Nat), (c0, k0) ∈ ats t d → t.cells.Nodup → p ∈ ats (ins c0 i x t) d
  | .txt s, d, h, _ => by simp [ats] at h
  | .node c l n ts, d, h, nd => by
    simp only [ats, List.mem_cons] at h
    simp only [Gt.cells, List.nodup_cons, List.mem_cons, not_or] at nd
    simp only [ins]
    split
    · rename_i e
      simp only [ats, List.mem_cons]
      refine .inr ?_
      rcases h with h | h
      · obtain ⟨_, e2⟩ := Prod.mk.inj h
        subst e2
        rw [atss_app, atss_app]
        exact List.mem_append_left _ (List.mem_append_right _ (by simpa [atss] using hp))
      · exact absurd ((atss_sub ts (d + 1)).subset (List.mem_map.mpr ⟨_, h, rfl⟩)) (by rw [← e]; exact nd.1.2)
    · rename_i e
      simp only [ats, List.mem_cons]
      rcases h with h | h
      · exact absurd (Prod.mk.inj h).1.symm e
      · exact .inr (atss_new hp ts (d + 1) h nd.2.2)
theorem atss_new {c0 i k0 : Nat} {x : Gt} {p : Nat × Nat} (hp : p ∈ ats x (k0 + 1)) : ∀ (ts : List Gt) (d : Nat), (c0, k0) ∈ atss ts d → (cellss ts).Nodup → p ∈ atss (inss c0 i x ts) d
  | [], d, h, _ => by simp [atss] at h
  | t :: ts, d, h, nd => by
    simp only [cellss, List.nodup_append] at nd
    simp only [inss, atss, List.mem_append] at *
    exact h.imp (fun h => ats_new hp t d h nd.1) fun h => atss_new hp ts d h nd.2.1
end
-- what stands there
mutual
theorem ats_list {c0 k0 : Nat} : ∀ (t : Gt) (d : Nat), (c0, k0) ∈ ats t d → ∃ l0 ts0, listOf c0 t = some (l0, ts0)
  | .txt s, d, h => by simp [ats] at h
  | .node c l n ts, d, h => by
    simp only [ats, List.mem_cons] at h
    simp only [listOf]
    split
    · exact ⟨_, _, rfl⟩
    · rename_i e
      rcases h with h | h
      · exact absurd (Prod.mk.inj h).1.symm e
      · exact atss_list ts (d + 1) h
theorem atss_list {c0 k0 : Nat} : ∀ (ts : List Gt) (d : Nat), (c0, k0) ∈ atss ts d → ∃ l0 ts0, listsOf c0 ts = some (l0, ts0)
  | [], d, h => by simp [atss] at h
  | t :: ts, d, h => by
    simp only [atss, List.mem_append] at h
    simp only [listsOf]
    cases e : listOf c0 t with
    | some p => exact ⟨p.1, p.2, rfl⟩
    | none =>
      rcases h with h | h
      · obtain ⟨l0, ts0, e2⟩ := ats_list t d h
        rw [e] at e2
        cases e2
      · simpa using atss_list ts d h
end
mutual
theorem list_rep {st : Sto} {c0 l0 : Nat} {ts0 : List Gt} : ∀ t : Gt, listOf c0 t = some (l0, ts0) → t.rep st → ∃ n, st[c0]? = some (.lst [.str n, .ref l0]) ∧ st[l0]? = some (.lst (ts0.map Gt.dv)) ∧ sizes (ths ts0) ≤ t.th.size
  | .txt s, h, _ => by simp [listOf] at h
  | .node c l n ts, h, r => by
    simp only [listOf] at h
    simp only [Gt.rep] at r
    simp only [Gt.th, Th.size]
    split at h
    · rename_i e
      cases h
      subst e
      exact ⟨n, r.1, r.2.1, by omega⟩
    · obtain ⟨m, h1, h2, h3⟩ := lists_rep ts h r.2.2
      exact ⟨m, h1, h2, by omega⟩
theorem lists_rep {st : Sto} {c0 l0 : Nat} {ts0 : List Gt} : ∀ ts : List Gt, listsOf c0 ts = some (l0, ts0) → reps st ts → ∃ n, st[c0]? = some (.lst [.str n, .ref l0]) ∧ st[l0]? = some (.lst (ts0.map Gt.dv)) ∧ sizes (ths ts0) ≤ sizes (ths ts)
  | [], h, _ => by simp [listsOf] at h
  | t :: ts, h, r => by
    simp only [listsOf] at h
    simp only [reps] at r
    simp only [ths, sizes]
    rcases Option.or_eq_some_iff.mp h with h | ⟨_, h⟩
    · obtain ⟨m, h1, h2, h3⟩ := list_rep t h r.1
      exact ⟨m, h1, h2, by omega⟩
    · obtain ⟨m, h1, h2, h3⟩ := lists_rep ts h r.2
      exact ⟨m, h1, h2, by omega⟩
end
-- the cells of an insertion
mutual
theorem ins_mem {c0 i y : Nat} {x : Gt} : ∀ t : Gt, y ∈ (ins c0 i x t).cells → y ∈ t.cells ∨ y ∈ x.cells
  | .txt s, h => by
    simp only [ins] at h
    exact .inl h
  | .node c l n ts, h => by
    simp only [ins] at h
    split at h
    · simp only [Gt.cells, List.mem_cons, cellss_app, List.mem_append] at *
      have e : cellss ts = cellss (ts.take i) ++ cellss (ts.drop i) := by rw [← cellss_app, List.take_append_drop]
      rw [e, List.mem_append]
      rcases h with h | h | (h | h) | h
      · exact .inl (.inl h)
      · exact .inl (.inr (.inl h))
      · exact .inl (.inr (.inr (.inl h)))
      · exact .inr (by simpa [cellss] using h)
      · exact .inl (.inr (.inr (.inr h)))
    · simp only [Gt.cells, List.mem_cons] at *
      rcases h with h | h | h
      · exact .inl (.inl h)
      · exact .inl (.inr (.inl h))
      · exact (inss_mem ts h).imp (fun h => .inr (.inr h)) id
theorem inss_mem {c0 i y : Nat} {x : Gt} : ∀ ts : List Gt, y ∈ cellss (inss c0 i x ts) → y ∈ cellss ts ∨ y ∈ x.cells
  | [], h => by simp [inss, cellss] at h
  | t :: ts, h => by
    simp only [inss, cellss, List.mem_append] at *
    rcases h with h | h
    · exact (ins_mem t h).imp .inl id
    · exact (inss_mem ts h).imp .inr id
end
mutual
theorem ins_nd {c0 i : Nat} {x : Gt} (hx : x.cells.Nodup) : ∀ t : Gt, (∀ y ∈ x.cells, y ∉ t.cells) → t.cells.Nodup → (ins c0 i x t).cells.Nodup
  | .txt s, _, h => by
    simp only [ins]
    exact h
  | .node c l n ts, hd, h => by
    simp only [Gt.cells, List.mem_cons, not_or] at hd
    simp only [Gt.cells, List.nodup_cons, List.mem_cons, not_or] at h
    simp only [ins]
    split
    · have e : cellss ts = cellss (ts.take i) ++ cellss (ts.drop i) := by rw [← cellss_app, List.take_append_drop]
      have ex : cellss [x] = x.cells := by simp [cellss]
      simp only [Gt.cells, List.nodup_cons, List.mem_cons, cellss_app, List.mem_append, not_or, ex]
      rw [e] at h hd
      simp only [List.mem_append, not_or, List.nodup_append] at h hd
      refine ⟨⟨h.1.1, ⟨h.1.2.1, fun q => (hd c q).1 rfl⟩, h.1.2.2⟩, ⟨⟨h.2.1.1, fun q => (hd l q).2.1 rfl⟩, h.2.1.2⟩, ?_⟩
      rw [List.nodup_append, List.nodup_append]
      refine ⟨⟨h.2.2.1, hx, fun a ha b hb e => (hd b hb).2.2.1 (e ▸ ha)⟩, h.2.2.2.1, fun a ha b hb e => ?_⟩
      rcases List.mem_append.mp ha with ha | ha
      · exact h.2.2.2.2 a ha b hb e
      · exact (hd a ha).2.2.2 (e ▸ hb)
    · simp only [Gt.cells, List.nodup_cons, List.mem_cons, not_or]
      refine ⟨⟨h.1.1, fun q => ?_⟩, fun q => ?_, inss_nd hx ts (fun y hy => (hd y hy).2.2) h.2.2⟩
      · rcases inss_mem ts q with q | q
        · exact h.1.2 q
        · exact (hd c q).1 rfl
      · rcases inss_mem ts q with q | q
        · exact h.2.1 q
        · exact (hd l q).2.1 rfl
theorem inss_nd {c0 i : Nat} {x : Gt} (hx : x.cells.Nodup) : ∀ ts : List Gt, (∀ y ∈ x.cells, y ∉ cellss ts) → (cellss ts).Nodup → (cellss (inss c0 i x ts)).Nodup
  | [], _, _ => by simp [inss, cellss]
  | t :: ts, hd, h => by
    simp only [cellss, List.mem_append, not_or] at hd
    simp only [cellss, List.nodup_append] at h
    simp only [inss, cellss, List.nodup_append]
    by_cases hc : c0 ∈ t.cells
    · have h2 : c0 ∉ cellss ts := fun q => h.2.2 c0 hc c0 q rfl
      rw [inss_out ts h2]
      refine ⟨ins_nd hx t (fun y hy => (hd y hy).1) h.1, h.2.1, fun a ha b hb e => ?_⟩
      rcases ins_mem t ha with ha | ha
      · exact h.2.2 a ha b hb e
      · exact (hd a ha).2 (e ▸ hb)
    · rw [ins_out t hc]
      refine ⟨h.1, inss_nd hx ts (fun y hy => (hd y hy).2) h.2.1, fun a ha b hb e => ?_⟩
      rcases inss_mem ts hb with hb | hb
      · exact h.2.2 a ha b hb e
      · exact (hd b hb).1 (e ▸ ha)
end
-- levels and names of an insertion
theorem levss_app {k : Nat} : ∀ (a b : List Gt) (d : Nat), levss k (a ++ b) d ↔ levss k a d ∧ levss k b d
  | [], b, d => by simp [levss]
  | t :: ts, b, d => by simp [levss, levss_app ts b d, and_assoc]
mutual
theorem ins_levs {k c0 i : Nat} {x : Gt} : ∀ (t : Gt) (d : Nat), (∀ e, (c0, e) ∈ ats t d → levs k x (e + 1)) → levs k t d → levs k (ins c0 i x t) d
  | .txt s, d, _, h => by
    simp only [ins]
    exact h
  | .node c l n ts, d, hx, h => by
    simp only [ats, List.mem_cons] at hx
    simp only [levs] at h
    simp only [ins]
    split
    · rename_i e
      simp only [levs]
      have e2 : levss k (ts.take i ++ ts.drop i) (d + 1) := by rw [List.take_append_drop]; exact h.2
      rw [levss_app] at e2
      rw [levss_app, levss_app]
      refine ⟨h.1, ⟨e2.1, ?_⟩, e2.2⟩
      simp only [levss]
      exact ⟨hx d (.inl (by rw [e])), trivial⟩
    · simp only [levs]
      exact ⟨h.1, inss_levs ts (d + 1) (fun e q => hx e (.inr q)) h.2⟩
theorem inss_levs {k c0 i : Nat} {x : Gt} : ∀ (ts : List Gt) (d : Nat), (∀ e, (c0, e) ∈ atss ts d → levs k x (e + 1)) → levss k ts d → levss k (inss c0 i x ts) d
  | [], d, _, h => by
    simp only [inss]
    exact h
  | t :: ts, d, hx, h => by
    simp only [atss, List.mem_append] at hx
    simp only [levss] at h
    simp only [inss, levss]
    exact ⟨ins_levs t d (fun e q => hx e (.inl q)) h.1, inss_levs ts d (fun e q => hx e (.inr q)) h.2⟩
end
mutual
theorem ins_ok {c0 i : Nat} {x : Gt} (hx : x.th.ok) : ∀ t : Gt, t.th.ok → (ins c0 i x t).th.ok
  | .txt s, h => by
    simp only [ins]
    exact h
  | .node c l n ts, h => by
    simp only [Gt.th, Th.ok] at h
    simp only [ins]
    split
    · simp only [Gt.th, Th.ok]
      have e2 : oks (ths (ts.take i) ++ ths (ts.drop i)) := by rw [← ths_app, List.take_append_drop]; exact h.2
      rw [oks_app] at e2
      rw [ths_app, ths_app, oks_app, oks_app]
      refine ⟨h.1, ⟨e2.1, ?_⟩, e2.2⟩
      simp only [ths, oks]
      exact ⟨hx, trivial⟩
    · simp only [Gt.th, Th.ok]
      exact ⟨h.1, inss_ok hx ts h.2⟩
theorem inss_ok {c0 i : Nat} {x : Gt} (hx : x.th.ok) : ∀ ts : List Gt, oks (ths ts) → oks (ths (inss c0 i x ts))
  | [], h => by
    simp only [inss]
    exact h
  | t :: ts, h => by
    simp only [ths, oks] at h
    simp only [inss, ths, oks]
    exact ⟨ins_ok hx t h.1, inss_ok hx ts h.2⟩
end
theorem ins_top {c0 i c l : Nat} {x : Gt} {n : Str} {ts : List Gt} : ∃ us, ins c0 i x (.node c l n ts) = .node c l n us := by
  simp only [ins]
  split
  · exact ⟨_, rfl⟩
  · exact ⟨_, rfl⟩
end K02

namespace K02
open PySem PySem.Spec PyProof.Rows L2 D2
theorem dst_get {b : Int} {cs : List Int} {rest : Sto} {c : Nat} (h : 2 ≤ c) : (DSt b cs rest)[c]? = rest[c - 2]? := by
  obtain ⟨m, rfl⟩ : ∃ m, c = m + 2 := ⟨c - 2, by omega⟩
  simp [DSt]
theorem dst_set {b : Int} {cs : List Int} {rest : Sto} {c : Nat} {x : Co} (h : 2 ≤ c) : (DSt b cs rest).set c x = DSt b cs (rest.set (c - 2) x) := by
  obtain ⟨m, rfl⟩ : ∃ m, c = m + 2 := ⟨c - 2, by omega⟩
  simp [DSt]
theorem dr_get {rest st : Sto} {c : Nat} {x : Co} (h : 2 ≤ c) (hd : Dr rest st) (e : rest[c - 2]? = some x) : st[c]? = some x := by
  obtain ⟨b, cs, _, rfl⟩ := hd
  rw [dst_get h]
  exact e
theorem dr_set {rest st : Sto} {c : Nat} {x : Co} (h : 2 ≤ c) (hd : Dr rest st) : Dr (rest.set (c - 2) x) (st.set c x) := by
  obtain ⟨b, cs, ok, rfl⟩ := hd
  exact ⟨b, cs, ok, dst_set h⟩
theorem dr_app {rest st l : Sto} (hd : Dr rest st) : Dr (rest ++ l) (st ++ l) := by
  obtain ⟨b, cs, ok, rfl⟩ := hd
  exact ⟨b, cs, ok, rfl⟩
theorem dr_len {rest st : Sto} (hd : Dr rest st) : st.length = rest.length + 2 := by
  obtain ⟨b, cs, ok, rfl⟩ := hd
  rfl
abbrev S0 (rest : Sto) : Sto := DSt 0 [] rest
def ent (e : Nat × Nat) : Dv := .tup [.ref e.1, nat e.2]
structure Grow (deep : Nat) (rest : Sto) (g : Gt) (es : List (Nat × Nat)) (m : Nat) : Prop where
  top : ∃ n ts, g = .node 3 2 n ts
  nd : g.cells.Nodup
  low : ∀ c ∈ g.cells, 2 ≤ c ∧ c < rest.length + 2 ∧ c ≠ 4
  rep : g.rep (S0 rest)
  nodes : rest[2]? = some (.lst (es.map ent))
  es0 : 0 < es.length
  esl : es.length ≤ m
  at_ : ∀ e ∈ es, e ∈ ats g 1
  levs : levs deep g 1
  size : g.th.size ≤ m
  ok : g.th.ok
theorem Grow.step {deep m : Nat} {rest rest' : Sto} {g x : Gt} {es es' : List (Nat × Nat)} {c0 k0 l0 i : Nat} {ts0 : List Gt} (G : Grow deep rest g es m) (he : (c0, k0) ∈ es) (hl0 : listOf c0 g = some (l0, ts0))
    (hx : x.rep (S0 rest')) (xn : x.cells.Nodup) (xl : ∀ y ∈ x.cells, rest.length + 2 ≤ y ∧ y < rest'.length + 2) (xo : x.th.ok) (xs : x.th.size = 1) (xv : K02.levs deep x (k0 + 1))
    (h1 : ∀ e ∈ es', e ∈ es ∨ e ∈ ats x (k0 + 1)) (h2 : es'.length ≤ m + 1) (h3 : 0 < es'.length) (h4 : rest'[2]? = some (.lst (es'.map ent)))
    (hl : rest'[l0 - 2]? = some (.lst ((ts0.take i ++ [x] ++ ts0.drop i).map Gt.dv))) (hk : ∀ c, 2 ≤ c → c < rest.length + 2 → c ≠ 4 → c ≠ l0 → rest'[c - 2]? = rest[c - 2]?) (hle : rest.length ≤ rest'.length) :
    Grow deep rest' (ins c0 i x g) es' (m + 1) := by
  have ha := G.at_ _ he
  have hm := listOf_mem g hl0
  have r2 : 2 < rest.length := (List.getElem?_eq_some_iff.mp G.nodes).1
  have l0l := G.low l0 hm.2
  refine ⟨?_, ?_, fun c hc => ?_, ?_, h4, h3, h2, fun e h => ?_, ?_, ?_, ins_ok xo g G.ok⟩
  · obtain ⟨n, ts, rfl⟩ := G.top
    obtain ⟨us, e⟩ := ins_top (c0 := c0) (i := i) (c := 3) (l := 2) (x := x) (n := n) (ts := ts)
    exact ⟨n, us, e⟩
  · refine ins_nd xn g (fun y hy q => ?_) G.nd
    have := (G.low y q).2.1
    have := (xl y hy).1
    omega
  · rcases ins_mem g hc with q | q
    · have := G.low c q
      exact ⟨this.1, by omega, this.2.2⟩
    · have := xl c q
      exact ⟨by omega, this.2, by omega⟩
  · refine ins_rep hx (by rw [dst_get l0l.1]; exact hl) g G.nd hl0 (fun c hc hn => ?_) G.rep
    have := G.low c hc
    rw [dst_get this.1, dst_get this.1]
    exact hk c this.1 this.2.1 this.2.2 hn
  · rcases h1 e h with q | q
    · exact ats_old g 1 (G.at_ e q)
    · exact ats_new q g 1 ha G.nd
  · refine ins_levs g 1 (fun e q => ?_) G.levs
    rw [ats_one G.nd q ha]
    exact xv
  · have := ins_size (c0 := c0) (i := i) (x := x) g G.nd
    have := G.size
    omega
abbrev Wins : DTS := (wDrop (wIns (w2 gIx (wVar 7) (wC (.int 1))) (wDr A_law_any P_law_any R_law_any (wCons (wVar 0) (wCons (w2 gAdd (wCB (g1 gLen) (wCons (w2 gIx (wVar 7) (wC (.int 1))) wNil)) (wC (.int 1))) wNil))) (wVar 9)))
abbrev Wtail : DTS := (wSeq (wIf (wTru (wIsi .list (wVar 9))) (wDrop (wApp (wVar 5) (wTup (wCons (wVar 9) (wCons (w2 gAdd (wVar 8) (wC (.int 1))) wNil))))) wNext) Wins)
theorem p_ins {D : DEnds} {a1 a2 a3 a4 a6 a8 : Option Dv} {c0 l0 : Nat} {n : Str} {xs : List Dv} {y : Dv} {rest st : Sto} (hd : Dr rest st) (hc : 2 ≤ c0) (hl : 2 ≤ l0) (h1 : rest[c0 - 2]? = some (.lst [.str n, .ref l0])) (h2 : rest[l0 - 2]? = some (.lst xs)) (hz : xs.length ≤ 900)
    (q : ∀ (i : Nat) st', Dr (rest.set (l0 - 2) (.lst (xs.take i ++ [y] ++ xs.drop i))) st' → D.nx [some (.ref 1), a1, a2, a3, a4, some (.ref 4), a6, some (.ref c0), a8, some y] st') :
    Wins D [some (.ref 1), a1, a2, a3, a4, some (.ref 4), a6, some (.ref c0), a8, some y] st := by
  refine ix (xs := [.str n, .ref l0]) (seq_ref (dr_get hc hd h1)) rfl ?_
  refine ix (xs := [.str n, .ref l0]) (seq_ref (dr_get hc hd h1)) rfl ?_
  refine len (seq_ref (dr_get hl hd h2)) ?_
  refine addI ?_
  refine one (xs.length + 1) (by simp) (by omega) (by omega) (rest := rest) hd fun i st2 hi hd2 => ?_
  have big : (1000 : Nat) ≤ sizeLine := by decide
  refine ⟨xs, (i : Int), rfl, dr_get hl hd2 h2, by omega, by omega, by omega, ?_⟩
  rw [Int.toNat_natCast]
  exact q i _ (dr_set hl hd2)
theorem p_law_grown : PL N_law_grown (W_law_grown 40) (D2.Spec.dr A_law_grown P_law_grown R_law_grown) := by
  rintro ⟨b, cs, rest, ns, many, deep⟩ ⟨ok, hr0, n1, n2, hns, m1, m2, d1, d2⟩
  have hr0 : rest = [] := hr0
  subst hr0
  have n1 : 0 < ns.length := n1
  have n2 : ns.length ≤ 5 := n2
  have hns : ∀ s ∈ ns, NmOk s := hns
  have m1 : 1 ≤ many := m1
  have m2 : many ≤ 98 := m2
  have d1 : 1 ≤ deep := d1
  have d2 : deep ≤ 30 := d2
  show W_law_grown 40 _ [some (.ref 1), some (.rol (ns.map Dv.str)), some (nat many), some (nat deep), none, none, none, none, none, none] (DSt b cs [])
  generalize hD : ({ nx := _, rt := _ } : DEnds) = D
  have fin : ∀ n ts rest2 st', Dr rest2 st' → NmOk n → oks ts → sizes ts < many → deps ts < deep → D.rt (Th.node n ts).dv st' := fun n ts rest2 st' h1 h2 h3 h4 h5 => by
    rw [← hD]
    exact back_drN (args := A_law_grown) (pre := P_law_grown) (F := R_law_grown) (i := (ns, many, deep)) h1 (Th.nr _) ⟨n, ts, h2, h3, h4, h5, rfl⟩
  clear hD
  have draw : ∀ (rest st : Sto) (Q : DK), Dr rest st → (∀ s st', s ∈ ns → Dr rest st' → Q (.str s) st') → ∃ rest i, Dr rest st ∧ [Dv.ref 1, .rol (ns.map Dv.str)] = .ref 1 :: A_law_of i ∧ P_law_of rest i ∧ ∀ d st2, Dr rest st2 → R_law_of i d → Q d st2 := fun rest st Q hd q => by
    refine ⟨rest, (.rol (ns.map Dv.str), ns.map Dv.str), hd, rfl, ⟨rfl, by simpa using n1, by simp; omega⟩, fun d st2 hd2 hq => ?_⟩
    obtain ⟨s, hs, rfl⟩ := List.mem_map.mp hq
    exact q s st2 hs hd2
  refine draw [] _ _ ⟨b, cs, ok, rfl⟩ fun s0 st1 hs0 hd1 => ?_
  clear ok
  obtain ⟨b1, cs1, ok1, rfl⟩ := hd1
  refine And.intro (show 0 ≤ sizeLine from Nat.zero_le _) ?_
  refine And.intro (show 2 ≤ sizeLine by decide) ?_
  refine And.intro (show 2 ≤ sizeLine by decide) ?_
  refine And.intro (show 1 ≤ sizeLine by decide) ?_
  refine subI ?_
  refine And.intro ⟨by omega, by omega⟩ ?_
  rw [show ((many : Nat) : Int) - 1 = ((many - 1 : Nat) : Int) by omega, Int.toNat_natCast]
  refine Exists.intro (fun i σ st => ∃ v6 v7 v8 v9 rest g es, σ = [some (.ref 1), some (.rol (ns.map Dv.str)), some (nat many), some (nat deep), some (.ref 3), some (.ref 4), v6, v7, v8, v9] ∧ Dr rest st ∧ Grow deep rest g es (i + 1)) ?_
  refine And.intro ⟨none, none, none, none, [.lst [], .lst [.str s0, .ref 2], .lst [ent (3, 1)]], .node 3 2 s0 [], [(3, 1)], rfl, ⟨b1, cs1, ok1, rfl⟩, ?_⟩ ?_
  · refine ⟨⟨s0, [], rfl⟩, by simp [Gt.cells, cellss], fun c hc => ?_, ?_, rfl, Nat.one_pos, Nat.le_refl _, fun e he => ?_, ?_, ?_, ?_⟩
    · simp [Gt.cells, cellss] at hc
      rcases hc with rfl | rfl <;> simp
    · simp only [Gt.rep, reps]
      exact ⟨rfl, rfl, trivial⟩
    · simpa [ats, atss] using he
    · simp only [K02.levs, levss]
      exact ⟨d1, trivial⟩
    · simp [Gt.th, ths, Th.size, sizes]
    · simp only [Gt.th, ths, Th.ok, oks]
      exact ⟨hns s0 hs0, trivial⟩
  refine And.intro (fun i σ' st' _ n e => nomatch e) ?_
  refine And.intro (fun i x σ' st' e hI => ?_) ?_
  · obtain ⟨v6, v7, v8, v9, rest, g, es, rfl, hd, G⟩ := hI
    obtain ⟨hi, rfl⟩ := rng_at e
    refine ⟨_, rfl, ?_⟩
    have hl := G.esl
    have e0 := G.es0
    refine len (seq_ref (dr_get (c := 4) (by decide) hd G.nodes)) ?_
    refine subI ?_
    refine len (seq_ref (dr_get (c := 4) (by decide) hd G.nodes)) ?_
    refine one es.length (by simp) (by omega) (by omega) (rest := rest) hd fun r st2 hr hd2 => ?_
    refine And.intro (show 2 ≤ sizeLine by decide) ?_
    refine ⟨rest, (.rol [.int (((es.map ent).length : Int) - 1), nat r], [.int (((es.map ent).length : Int) - 1), nat r]), hd2, rfl, ⟨rfl, by show 0 < 2; decide, by show 2 ≤ 1000; decide⟩, fun d st3 hd3 hq => ?_⟩
    have hj : ∃ j : Nat, j < es.length ∧ d = nat j := by
      have hq : d ∈ [Dv.int (((es.map ent).length : Int) - 1), nat r] := hq
      simp only [List.mem_cons, List.not_mem_nil, or_false] at hq
      rcases hq with rfl | rfl
      · exact ⟨es.length - 1, by omega, congrArg Dv.int (by simp; omega)⟩
      · exact ⟨r, hr, rfl⟩
    obtain ⟨j, hj, rfl⟩ := hj
    obtain ⟨⟨c0, k0⟩, hp⟩ : ∃ p, es[j]? = some p := ⟨es[j], by simp [hj]⟩
    have he : (c0, k0) ∈ es := List.mem_of_getElem? hp
    have hp2 : (es.map ent)[j]? = some (.tup [.ref c0, nat k0]) := by rw [List.getElem?_map, hp]; rfl
    refine ix (seq_ref (dr_get (c := 4) (by decide) hd3 G.nodes)) (atI_nat hp2) ?_
    refine ⟨_, rfl, ?_⟩
    obtain ⟨l0, ts0, hlo⟩ := ats_list g 1 (G.at_ _ he)
    obtain ⟨n0, f1, f2, f3⟩ := list_rep g hlo G.rep
    have hm := listOf_mem g hlo
    obtain ⟨c1, c2, c3⟩ := G.low c0 hm.1
    obtain ⟨l1, l2, l3⟩ := G.low l0 hm.2
    rw [dst_get c1] at f1
    rw [dst_get l1] at f2
    have z0 : (ts0.map Gt.dv).length ≤ 900 := by
      have q1 : ts0.length = (ths ts0).length := by
        clear hlo f2 f3
        induction ts0 with
        | nil => rfl
        | cons t ts ih => simp [ths, ih]
      have := len_sizes (ths ts0)
      have := G.size
      rw [List.length_map]
      omega
    have r2 : 2 < rest.length := (List.getElem?_eq_some_iff.mp G.nodes).1
    -- what is put there: a text
    have ptxt : ∀ (s : Str) st', TxOk s → Dr rest st' → Wtail { D with nx := fun σ' st' => ∃ v6 v7 v8 v9 rest g es, σ' = [some (.ref 1), some (.rol (ns.map Dv.str)), some (nat many), some (nat deep), some (.ref 3), some (.ref 4), v6, v7, v8, v9] ∧ Dr rest st' ∧ Grow deep rest g es (i + 1 + 1) }
        [some (.ref 1), some (.rol (ns.map Dv.str)), some (nat many), some (nat deep), some (.ref 3), some (.ref 4), some (nat i), some (.ref c0), some (nat k0), some (.str s)] st' := fun s st' hs hd => by
      refine p_ins (y := .str s) hd c1 l1 f1 f2 z0 fun p st5 hd5 => ?_
      refine ⟨_, _, _, _, _, ins c0 p (.txt s) g, es, rfl, hd5, ?_⟩
      have hlen : (rest.set (l0 - 2) (Co.lst ((ts0.map Gt.dv).take p ++ [.str s] ++ (ts0.map Gt.dv).drop p))).length = rest.length := by simp
      refine G.step he hlo (x := .txt s) (by simp only [Gt.rep]) (by simp [Gt.cells]) (fun y hy => by simp [Gt.cells] at hy) (by simp only [Gt.th, Th.ok]; exact hs) (by simp [Gt.th, Th.size]) (by simp only [K02.levs]) (fun e h => .inl h) (by omega) e0 ?_ ?_ (fun c h1 h2 h3 h4 => ?_) (by omega)
      · rw [List.getElem?_set_ne (by omega)]
        exact G.nodes
      · rw [List.getElem?_set_self (by omega)]
        simp [Gt.dv, List.map_take, List.map_drop]
      · rw [List.getElem?_set_ne (by omega)]
    -- a node
    have pnode : ∀ (s : Str) st', NmOk s → k0 < deep → Dr rest st' → Wtail { D with nx := fun σ' st' => ∃ v6 v7 v8 v9 rest g es, σ' = [some (.ref 1), some (.rol (ns.map Dv.str)), some (nat many), some (nat deep), some (.ref 3), some (.ref 4), v6, v7, v8, v9] ∧ Dr rest st' ∧ Grow deep rest g es (i + 1 + 1) }
        [some (.ref 1), some (.rol (ns.map Dv.str)), some (nat many), some (nat deep), some (.ref 3), some (.ref 4), some (nat i), some (.ref c0), some (nat k0), some (.ref (rest.length + 3))] (st' ++ [.lst []] ++ [.lst [.str s, .ref (rest.length + 2)]]) := fun s st' hs hk hd => by
      have hdA : Dr (rest ++ [.lst [], .lst [.str s, .ref (rest.length + 2)]]) (st' ++ [.lst []] ++ [.lst [.str s, .ref (rest.length + 2)]]) := by
        rw [List.append_assoc]
        exact dr_app hd
      generalize hr1 : rest ++ [.lst [], .lst [.str s, .ref (rest.length + 2)]] = rest1 at hdA
      have len1 : rest1.length = rest.length + 2 := by rw [← hr1]; simp
      have old1 : ∀ c, c < rest.length → rest1[c]? = rest[c]? := fun c hc => by rw [← hr1, List.getElem?_append_left hc]
      have new1 : rest1[rest.length]? = some (.lst []) := by rw [← hr1, List.getElem?_append_right (Nat.le_refl _)]; simp
      have new2 : rest1[rest.length + 1]? = some (.lst [.str s, .ref (rest.length + 2)]) := by rw [← hr1, List.getElem?_append_right (by omega)]; simp
      have nod1 : rest1[2]? = some (.lst (es.map ent)) := by rw [old1 2 r2]; exact G.nodes
      generalize st' ++ [.lst []] ++ [.lst [.str s, .ref (rest.length + 2)]] = stA at hdA ⊢
      refine addI ?_
      refine And.intro (show 2 ≤ sizeLine by decide) ?_
      refine ⟨es.map ent, dr_get (c := 4) (by decide) hdA nod1, by rw [List.length_map]; exact Nat.lt_of_lt_of_le (show es.length < 1000 by omega) (by decide), ?_⟩
      have hdB := dr_set (c := 4) (x := .lst (es.map ent ++ [.tup [.ref (rest.length + 3), .int ((k0 : Int) + 1)]])) (by decide) hdA
      have eB : es.map ent ++ [.tup [.ref (rest.length + 3), .int ((k0 : Int) + 1)]] = (es ++ [(rest.length + 3, k0 + 1)]).map ent := by
        rw [List.map_append]
        rfl
      rw [eB] at hdB
      have e4 : (4 : Nat) - 2 = 2 := rfl
      rw [e4] at hdB
      generalize hr2 : rest1.set 2 (.lst ((es ++ [(rest.length + 3, k0 + 1)]).map ent)) = rest2 at hdB
      have len2 : rest2.length = rest.length + 2 := by rw [← hr2]; simp [len1]
      have old2 : ∀ c, c ≠ 2 → rest2[c]? = rest1[c]? := fun c hc => by rw [← hr2, List.getElem?_set_ne (fun e => hc e.symm)]
      have nod2 : rest2[2]? = some (.lst ((es ++ [(rest.length + 3, k0 + 1)]).map ent)) := by rw [← hr2, List.getElem?_set_self (by omega)]
      refine p_ins (y := .ref (rest.length + 3)) (rest := rest2) ?_ c1 l1 (by rw [old2 _ (by omega), old1 _ (by omega)]; exact f1) (by rw [old2 _ (by omega), old1 _ (by omega)]; exact f2) z0 fun p st5 hd5 => ?_
      · rw [eB]
        exact hdB
      refine ⟨_, _, _, _, _, ins c0 p (.node (rest.length + 3) (rest.length + 2) s []) g, es ++ [(rest.length + 3, k0 + 1)], rfl, hd5, ?_⟩
      generalize hr3 : rest2.set (l0 - 2) (.lst ((ts0.map Gt.dv).take p ++ [.ref (rest.length + 3)] ++ (ts0.map Gt.dv).drop p)) = rest3
      have len3 : rest3.length = rest.length + 2 := by rw [← hr3]; simp [len2]
      have old3 : ∀ c, c ≠ l0 - 2 → rest3[c]? = rest2[c]? := fun c hc => by rw [← hr3, List.getElem?_set_ne (fun e => hc e.symm)]
      refine G.step he hlo (x := .node (rest.length + 3) (rest.length + 2) s []) ?_ (by simp [Gt.cells, cellss]) (fun y hy => ?_) ?_ (by simp [Gt.th, ths, Th.size, sizes]) ?_ (fun e h => ?_) (by simp; omega) (by simp) ?_ ?_ (fun c h1 h2 h3 h4 => ?_) (by omega)
      · simp only [Gt.rep, reps]
        refine ⟨?_, ?_, trivial⟩
        · rw [dst_get (by omega), show rest.length + 3 - 2 = rest.length + 1 by omega, old3 _ (by omega), old2 _ (by omega)]
          exact new2
        · rw [dst_get (by omega), show rest.length + 2 - 2 = rest.length by omega, old3 _ (by omega), old2 _ (by omega)]
          exact new1
      · simp [Gt.cells, cellss] at hy
        rcases hy with rfl | rfl <;> omega
      · simp only [Gt.th, ths, Th.ok, oks]
        exact ⟨hs, trivial⟩
      · simp only [K02.levs, levss]
        exact ⟨hk, trivial⟩
      · rcases List.mem_append.mp h with q | q
        · exact .inl q
        · refine .inr ?_
          rw [List.mem_singleton.mp q]
          simp [ats]
      · rw [old3 _ (by omega)]
        exact nod2
      · rw [← hr3, List.getElem?_set_self (by omega)]
        simp [Gt.dv, List.map_take, List.map_drop]
      · rw [old3 _ (by omega), old2 _ (by omega), old1 _ (by omega)]
    have pdraw : ∀ st', Dr rest st' → ∃ rest u, Dr rest st' ∧ [Dv.ref 1] = .ref 1 :: A_law_text u ∧ P_law_text rest u ∧ ∀ d st2, Dr rest st2 → R_law_text u d → Wtail { D with nx := fun σ' st' => ∃ v6 v7 v8 v9 rest g es, σ' = [some (.ref 1), some (.rol (ns.map Dv.str)), some (nat many), some (nat deep), some (.ref 3), some (.ref 4), v6, v7, v8, v9] ∧ Dr rest st' ∧ Grow deep rest g es (i + 1 + 1) }
        [some (.ref 1), some (.rol (ns.map Dv.str)), some (nat many), some (nat deep), some (.ref 3), some (.ref 4), some (nat i), some (.ref c0), some (nat k0), some d] st2 := fun st' hd => by
      refine ⟨rest, (), hd, rfl, trivial, fun d st2 hd hq => ?_⟩
      obtain ⟨s, hs, rfl⟩ := hq
      exact ptxt s st2 hs hd
    refine opB2 ?_
    by_cases hk : k0 < deep
    · refine iteT (by simpa using hk) ?_
      refine one 3 rfl (by decide) (by decide) (rest := rest) hd3 fun r st4 hr hd4 => ?_
      refine opB2 ?_
      by_cases h0 : 0 < r
      · refine iteT (by simpa using h0) ?_
        refine draw rest _ _ hd4 fun s st5 hs hd5 => ?_
        refine And.intro (show 0 ≤ sizeLine from Nat.zero_le _) ?_
        refine And.intro (show 2 ≤ sizeLine by decide) ?_
        have el := dr_len hd5
        rw [List.length_append, el]
        exact pnode s st5 (hns s hs) hk hd5
      · refine iteF (by simpa using h0) ?_
        exact pdraw st4 hd4
    · refine iteF (by simpa using hk) ?_
      exact pdraw st3 hd3
  · rintro σ' st' ⟨v6, v7, v8, v9, rest, g, es, rfl, hd, G⟩
    rw [rng_length] at G
    obtain ⟨n, ts, eg⟩ := G.top
    have er : g.rep st' := rep_keep g (fun c hc => by
      obtain ⟨b, cs, _, rfl⟩ := hd
      have := (G.low c hc).1
      rw [dst_get this, dst_get this]) G.rep
    have g1 := G.size
    have g2 := G.ok
    have g3 := dep_levs g 1 G.levs (Nat.le_refl _)
    have g4 := rep_of g er
    rw [eg] at g1 g2 g3 g4
    simp only [Gt.th, Th.size, Th.ok, Th.dep] at g1 g2 g3
    simp only [Gt.th, Gt.dv] at g4
    refine ⟨(st', .node n (ths ts), .ref 3), rfl, rfl, ⟨g4, by simp only [Th.dep]; omega, by simp only [Th.size]; omega⟩, ?_⟩
    rintro d st2 ⟨rfl, rfl⟩
    exact fin n (ths ts) rest _ hd g2.1 g2.2 (by omega) (by omega)
end K02

namespace K75
open PySem PySem.Spec PyProof.Rows L2 D2 K02
/-! ### plain facts -/
theorem cut_lo (xs : List Dv) (j : Nat) : D2.cutD xs none (some (j : Int)) = xs.take j := by
  unfold D2.cutD
  rw [HT.sIx_none, HT.sIx_nat, List.drop_zero, Nat.sub_zero, List.take_eq_take_iff]
  omega
theorem cut_hi (xs : List Dv) (j : Nat) : D2.cutD xs (some (j : Int)) none = xs.drop j := by
  unfold D2.cutD
  rw [HT.sIx_none, HT.sIx_nat]
  by_cases h : j ≤ xs.length
  · rw [Nat.min_eq_left h, List.take_of_length_le (by simp)]
  · rw [Nat.min_eq_right (by omega), List.take_of_length_le (by simp), List.drop_of_length_le (by omega), List.drop_of_length_le (by omega)]
theorem dvs_take (ts : List Th) (j : Nat) : (dvs ts).take j = dvs (ts.take j) := by rw [dvs_map, dvs_map, List.map_take]
theorem dvs_dropN (ts : List Th) (j : Nat) : (dvs ts).drop j = dvs (ts.drop j) := by rw [dvs_map, dvs_map, List.map_drop]
theorem dvs_at {ts : List Th} {j : Nat} {u : Th} (h : ts[j]? = some u) : (dvs ts)[j]? = some u.dv := by
  rw [dvs_map, List.getElem?_map, h]
  rfl
theorem dvs_one (u : Th) : dvs [u] = [u.dv] := by simp [dvs]
theorem nats_nr (p : List Nat) : Nrs (p.map nat) := Nrs.of fun d hd => by
  obtain ⟨i, _, rfl⟩ := List.mem_map.mp hd
  exact .int i
theorem pl_nr (p : List Nat) : Nr (pl p) := .tup (nats_nr p)
theorem nr2 (n : Str) (ts : List Th) : Nr (.tup [.str n, .tup (dvs ts)]) := .tup (.cons (.str n) (.cons (.tup (nrs ts)) .nil))
theorem getA_cons {x y : Th} {j : Nat} {r : List Nat} (h : getA x (j :: r) = some y) : ∃ n ts u, x = .node n ts ∧ ts[j]? = some u ∧ getA u r = some y := by
  cases x with
  | txt s => simp [getA] at h
  | node n ts =>
    simp only [getA] at h
    cases e : ts[j]? with
    | none =>
      rw [e] at h
      cases h
    | some u =>
      rw [e] at h
      exact ⟨n, ts, u, rfl, e, h⟩
theorem getA_node {n : Str} {ts : List Th} {j : Nat} {u : Th} {r : List Nat} (e : ts[j]? = some u) : getA (.node n ts) (j :: r) = getA u r := by
  simp only [getA, e]
theorem putA_node {n : Str} {ts : List Th} {j : Nat} {u x : Th} {r : List Nat} (e : ts[j]? = some u) : putA (.node n ts) (j :: r) x = .node n (ts.take j ++ [putA u r x] ++ ts.drop (j + 1)) := by
  simp only [putA, e]
theorem putA_nil (t x : Th) : putA t [] x = x := by cases t <;> rfl
theorem getA_nil (t : Th) : getA t [] = some t := by cases t <;> rfl
theorem take_at {ts : List Th} {j : Nat} {u : Th} (h : ts[j]? = some u) : ts = ts.take j ++ [u] ++ ts.drop (j + 1) := by
  obtain ⟨hj, rfl⟩ := List.getElem?_eq_some_iff.mp h
  simp
theorem enum_at {xs : List Dv} {i : Nat} {x : Dv} (h : (enumD xs)[i]? = some x) : ∃ d, xs[i]? = some d ∧ x = .tup [.int (i : Nat), d] := by
  rw [enumD_at] at h
  obtain ⟨d, h1, h2⟩ := Option.map_eq_some_iff.mp h
  exact ⟨d, h1, h2.symm⟩
theorem nat_at {p : List Nat} {i : Nat} {d : Dv} (h : (p.map nat)[i]? = some d) : ∃ j, p[i]? = some j ∧ d = nat j := by
  rw [List.getElem?_map] at h
  obtain ⟨d, h1, h2⟩ := Option.map_eq_some_iff.mp h
  exact ⟨d, h1, h2.symm⟩
theorem drop_at {α : Type} {p : List α} {i : Nat} {j : α} (h : p[i]? = some j) : p.drop i = j :: p.drop (i + 1) := by
  obtain ⟨hi, rfl⟩ := List.getElem?_eq_some_iff.mp h
  exact List.drop_eq_getElem_cons hi
theorem at0 {x : Dv} {l : List Dv} : atI (x :: l) 0 = some x := atI_nat (j := 0) rfl
/-! a tuple beside () -/
theorem eq0 {st : Sto} {Q : DK} {xs : List Dv} {p : List PyData} {neg : Bool} (h : DPs st xs p) (s : SeqAt.shaped (.tuple p) = true) (q : Q (.bl (if neg then !xs.isEmpty else xs.isEmpty)) st) : gEq neg (.tup xs) (.tup []) st Q := by
  refine eqT (q := []) h .nil s rfl ?_
  cases h with
  | nil => exact q
  | cons a b => exact q
theorem pn_tames : ∀ {p : List Nat}, (∀ j ∈ p, j < 1000) → tames (p.map pn) = true
  | [], _ => rfl
  | j :: p, h => by
    have h1 : tame (pn j) = true := tame_nat (h j (by simp))
    have h2 := pn_tames (p := p) fun i hi => h i (by simp [hi])
    simp only [List.map_cons, tames, h1, h2, Bool.and_self]
theorem pn_depth : ∀ p : List Nat, PyData.depthAll (p.map pn) = 0
  | [] => rfl
  | j :: p => by
    have := pn_depth p
    simp only [List.map_cons, PyData.depthAll, this]
    rfl
theorem pl_shaped {p : List Nat} (h : ∀ j ∈ p, j < 1000) : SeqAt.shaped (.tuple (p.map pn)) = true := by
  refine shapedT (p := .tuple (p.map pn)) ?_ ?_
  · have := pn_tames h
    simpa only [tame] using this
  · simp [PyData.depth, pn_depth]
theorem eqP {st : Sto} {Q : DK} {p : List Nat} {neg : Bool} (h : ∀ j ∈ p, j < 1000) (q : Q (.bl (if neg then !p.isEmpty else p.isEmpty)) st) : gEq neg (pl p) (.tup []) st Q := by
  refine eq0 (DPs.nats st p) (pl_shaped h) ?_
  cases p <;> exact q
theorem lt_size {ts : List Th} {j : Nat} {u : Th} (h : ts[j]? = some u) : j < sizes ts := by
  have := (List.getElem?_eq_some_iff.mp h).1
  have := len_sizes ts
  omega
theorem size_at {ts : List Th} {j : Nat} {u : Th} (h : ts[j]? = some u) : u.size ≤ sizes ts := size_mem (List.mem_of_getElem? h)
theorem dep_at {ts : List Th} {j : Nat} {u : Th} (h : ts[j]? = some u) : u.dep ≤ deps ts := dep_mem (List.mem_of_getElem? h)
theorem size_node (n : Str) (ts : List Th) : (Th.node n ts).size = sizes ts + 1 := by simp [Th.size]
theorem dep_node (n : Str) (ts : List Th) : (Th.node n ts).dep = deps ts + 1 := by simp [Th.dep]
theorem ok_node (n : Str) (ts : List Th) : (Th.node n ts).ok ↔ NmOk n ∧ oks ts := by simp [Th.ok]
/-- the numbers of a place -/
theorem place_lt : ∀ {p : List Nat} {t y : Th}, getA t p = some y → ∀ j ∈ p, j < t.size
  | [], _, _, _ => by simp
  | i :: p, t, y, h => by
    obtain ⟨n, ts, u, rfl, e, h2⟩ := getA_cons h
    intro j hj
    rw [size_node]
    rcases List.mem_cons.mp hj with rfl | hj
    · have := lt_size e
      omega
    · have := place_lt h2 j hj
      have := size_at e
      omega
theorem place_len : ∀ {p : List Nat} {t y : Th}, getA t p = some y → p.length + y.dep ≤ t.dep
  | [], t, y, h => by
    rw [getA_nil] at h
    cases h
    simp
  | i :: p, t, y, h => by
    obtain ⟨n, ts, u, rfl, e, h2⟩ := getA_cons h
    have := place_len h2
    have := dep_at e
    rw [dep_node, List.length_cons]
    omega
/-! ### the defs -/
theorem p_is_integer : PL Nis_integer Wis_integer (D2.Spec.fn A_is_integer P_is_integer R_is_integer) := by
  rintro (v : Nat) -
  show Wis_integer _ [some (nat v)] []
  exact back_fn (args := A_is_integer) (pre := P_is_integer) (F := R_is_integer) (i := v) (.bl true) rfl
theorem p_is_below : PL Nis_below Wis_below (D2.Spec.fn A_is_below P_is_below R_is_below) := by
  rintro ⟨v, b⟩ h
  have h : v < b := h
  show Wis_below _ [some (nat v), some (nat b)] []
  generalize hD : ({ nx := _, rt := _ } : DEnds) = D
  have fin : D.rt (.bl true) [] := by
    rw [← hD]
    exact back_fn (args := A_is_below) (pre := P_is_below) (F := R_is_below) (i := (v, b)) (.bl true) rfl
  clear hD
  refine ⟨v, rfl, .cons (.int _) .nil, trivial, ?_⟩
  rintro d - rfl
  refine opB2 ?_
  rw [decide_eq_true (show (0 : Int) ≤ (v : Int) by omega)]
  refine opB2 ?_
  rw [decide_eq_true (show (v : Int) < (b : Int) by omega)]
  exact fin
theorem p_is_thing : PL Nis_thing Wis_thing (D2.Spec.fn A_is_thing P_is_thing R_is_thing) := by
  rintro (t : Th) ⟨h1, h2⟩
  have h1 : t.ok := h1
  have h2 : t.size ≤ 1000 := h2
  show Wis_thing _ [some t.dv] []
  generalize hD : ({ nx := _, rt := _ } : DEnds) = D
  have fin : D.rt (.bl true) [] := by
    rw [← hD]
    exact back_fn (args := A_is_thing) (pre := P_is_thing) (F := R_is_thing) (i := t) (.bl true) rfl
  clear hD
  refine And.intro (show 1 ≤ sizeLine by decide) ?_
  refine ⟨[t], by show [Dv.tup [t.dv]] = [Dv.tup (dvs [t])]; rw [dvs_one], .cons (.tup (.cons t.nr .nil)) .nil, ⟨by simp [oks, h1], by simp only [sizes]; omega⟩, ?_⟩
  rintro d - rfl
  refine isNon ?_
  exact fin
theorem p_wrong_number : PL Nwrong_number Wwrong_number (D2.Spec.fn A_wrong_number P_wrong_number R_wrong_number) := by
  rintro ⟨t, p⟩ h
  have h : (getA t p).isSome = true := h
  obtain ⟨y, hy⟩ := Option.isSome_iff_exists.mp h
  show Wwrong_number _ [some t.dv, some (pl p), none, none, none] []
  generalize hD : ({ nx := _, rt := _ } : DEnds) = D
  have fin : D.rt .non [] := by
    rw [← hD]
    exact back_fn (args := A_wrong_number) (pre := P_wrong_number) (F := R_wrong_number) (i := (t, p)) .non rfl
  clear hD
  refine Exists.intro (fun i σ st => ∃ v3 v4 x, σ = [some t.dv, some (pl p), some (Th.dv x), v3, v4] ∧ st = [] ∧ getA x (p.drop i) = some y) ?_
  refine And.intro ⟨none, none, t, rfl, rfl, hy⟩ ?_
  refine And.intro (fun i σ' st' _ n e => nomatch e) ?_
  refine And.intro (fun i x σ' st' e hI => ?_) ?_
  · obtain ⟨v3, v4, x, rfl, rfl, hx⟩ := hI
    obtain ⟨d, e1, rfl⟩ := enum_at e
    obtain ⟨j, e2, rfl⟩ := nat_at e1
    rw [drop_at e2] at hx
    obtain ⟨n, ts, u, rfl, e3, hu⟩ := getA_cons hx
    refine ⟨_, rfl, ?_⟩
    rw [dv_node]
    refine ix (xs := [.str n, .tup (dvs ts)]) rfl rfl ?_
    refine len (xs := dvs ts) rfl ?_
    refine ⟨(j, (dvs ts).length), rfl, .cons (.int _) (.cons (.int _) .nil), by rw [dvs_len]; exact (List.getElem?_eq_some_iff.mp e3).1, ?_⟩
    rintro d - rfl
    refine ix (xs := [.str n, .tup (dvs ts)]) rfl rfl ?_
    refine ix (xs := dvs ts) rfl (atI_nat (dvs_at e3)) ?_
    exact ⟨_, _, u, rfl, rfl, hu⟩
  · rintro σ' st' ⟨v3, v4, x, rfl, rfl, hx⟩
    exact fin
theorem p_need_place : PL Nneed_place Wneed_place (D2.Spec.fn A_need_place P_need_place R_need_place) := by
  rintro ⟨t, p⟩ h
  have h : (getA t p).isSome = true := h
  show Wneed_place _ [some t.dv, some (pl p), none] []
  refine ⟨(t, p), rfl, .cons t.nr (.cons (pl_nr p) .nil), h, ?_⟩
  rintro d - rfl
  refine isNon ?_
  exact back_fn (args := A_need_place) (pre := P_need_place) (F := R_need_place) (i := (t, p)) .non rfl
theorem p_is_place : PL Nis_place Wis_place (D2.Spec.fn A_is_place P_is_place R_is_place) := by
  rintro ⟨t, p⟩ h
  have h : (getA t p).isSome = true := h
  show Wis_place _ [some t.dv, some (pl p)] []
  refine ⟨(t, p), rfl, .cons t.nr (.cons (pl_nr p) .nil), h, ?_⟩
  rintro d - rfl
  refine isNon ?_
  exact back_fn (args := A_is_place) (pre := P_is_place) (F := R_is_place) (i := (t, p)) (.bl true) rfl
theorem p_at_place : PL Nat_place Wat_place (D2.Spec.fn A_at_place P_at_place R_at_place) := by
  rintro ⟨t, p, y⟩ h
  have h : getA t p = some y := h
  show Wat_place _ [some t.dv, some (pl p), none, none] []
  generalize hD : ({ nx := _, rt := _ } : DEnds) = D
  have fin : D.rt y.dv [] := by
    rw [← hD]
    exact back_fn (args := A_at_place) (pre := P_at_place) (F := R_at_place) (i := (t, p, y)) y.nr rfl
  clear hD
  refine ⟨(t, p), rfl, .cons t.nr (.cons (pl_nr p) .nil), by show (getA t p).isSome = true; rw [h]; rfl, ?_⟩
  rintro d - rfl
  refine Exists.intro (fun i σ st => ∃ v3 x, σ = [some t.dv, some (pl p), some (Th.dv x), v3] ∧ st = [] ∧ getA x (p.drop i) = some y) ?_
  refine And.intro ⟨none, t, rfl, rfl, h⟩ ?_
  refine And.intro (fun i σ' st' _ n e => nomatch e) ?_
  refine And.intro (fun i x σ' st' e hI => ?_) ?_
  · obtain ⟨v3, x, rfl, rfl, hx⟩ := hI
    obtain ⟨j, e2, rfl⟩ := nat_at e
    rw [drop_at e2] at hx
    obtain ⟨n, ts, u, rfl, e3, hu⟩ := getA_cons hx
    refine ⟨_, rfl, ?_⟩
    rw [dv_node]
    refine ix (xs := [.str n, .tup (dvs ts)]) rfl rfl ?_
    refine ix (xs := dvs ts) rfl (atI_nat (dvs_at e3)) ?_
    exact ⟨_, u, rfl, rfl, hu⟩
  · rintro σ' st' ⟨v3, x, rfl, rfl, hx⟩
    rw [List.drop_of_length_le (by simp), getA_nil] at hx
    cases hx
    exact fin
theorem p_law_at : PL N_law_at W_law_at (D2.Spec.fn A_law_at P_law_at R_law_at) := by
  rintro ⟨t, p, y⟩ h
  have h : getA t p = some y := h
  show W_law_at _ [some t.dv, some (pl p), none] []
  generalize hD : ({ nx := _, rt := _ } : DEnds) = D
  have fin : D.rt y.dv [] := by
    rw [← hD]
    exact back_fn (args := A_law_at) (pre := P_law_at) (F := R_law_at) (i := (t, p, y)) y.nr rfl
  clear hD
  refine Exists.intro (fun i σ st => ∃ v3 x, σ = [some (Th.dv x), some (pl p), v3] ∧ st = [] ∧ getA x (p.drop i) = some y) ?_
  refine And.intro ⟨none, t, rfl, rfl, h⟩ ?_
  refine And.intro (fun i σ' st' _ n e => nomatch e) ?_
  refine And.intro (fun i x σ' st' e hI => ?_) ?_
  · obtain ⟨v3, x, rfl, rfl, hx⟩ := hI
    obtain ⟨j, e2, rfl⟩ := nat_at e
    rw [drop_at e2] at hx
    obtain ⟨n, ts, u, rfl, e3, hu⟩ := getA_cons hx
    refine ⟨_, rfl, ?_⟩
    rw [dv_node]
    refine ix (xs := [.str n, .tup (dvs ts)]) rfl rfl ?_
    refine ix (xs := dvs ts) rfl (atI_nat (dvs_at e3)) ?_
    exact ⟨_, u, rfl, rfl, hu⟩
  · rintro σ' st' ⟨v3, x, rfl, rfl, hx⟩
    rw [List.drop_of_length_le (by simp), getA_nil] at hx
    cases hx
    exact fin
theorem p_put_there (n : Nat) : PL Nput_there (Wput_there n) (D2.Spec.fn A_put_there (P_put_there (n + 1)) R_put_there) := by
  rintro ⟨t, p, x⟩ ⟨h1, h2, h3⟩
  have h1 : p.length < n + 1 := h1
  have h2 : (getA t p).isSome = true := h2
  have h3 : t.size ≤ 900 := h3
  obtain ⟨y, hy⟩ := Option.isSome_iff_exists.mp h2
  show Wput_there n _ [some t.dv, some (pl p), some x.dv, none, none] []
  generalize hD : ({ nx := _, rt := _ } : DEnds) = D
  have fin : D.rt (putA t p x).dv [] := by
    rw [← hD]
    exact back_fn (args := A_put_there) (pre := P_put_there (n + 1)) (F := R_put_there) (i := (t, p, x)) (Th.nr _) rfl
  clear hD
  refine And.intro (show 0 ≤ sizeLine from Nat.zero_le _) ?_
  refine eqP (fun j hj => by have := place_lt hy j hj; omega) ?_
  cases p with
  | nil =>
    rw [putA_nil] at fin
    exact fin
  | cons j p =>
    obtain ⟨m, ts, u, rfl, e, hu⟩ := getA_cons hy
    rw [putA_node e, dv_node, dvs_app, dvs_app, dvs_one] at fin
    rw [size_node] at h3
    have hj := lt_size e
    have hl := len_sizes ts
    rw [dv_node]
    refine ix (xs := nat j :: p.map nat) rfl at0 ?_
    refine ix (xs := [.str m, .tup (dvs ts)]) rfl rfl ?_
    refine ix (xs := [.str m, .tup (dvs ts)]) rfl rfl ?_
    refine slT ?_
    refine ix (xs := dvs ts) rfl (atI_nat (dvs_at e)) ?_
    refine slT ?_
    have e1 : D2.cutD (nat j :: p.map nat) (some 1) none = p.map nat := cut_hi (nat j :: p.map nat) 1
    refine ⟨(u, p, x), by show [_, Dv.tup (D2.cutD (nat j :: p.map nat) (some 1) none), _] = _; rw [e1], .cons u.nr (.cons (by show Nr (.tup (D2.cutD (nat j :: p.map nat) (some 1) none)); rw [e1]; exact pl_nr p) (.cons x.nr .nil)), ⟨by simpa using h1, by show (getA u p).isSome = true; rw [hu]; rfl, by have := size_at e; show u.size ≤ 900; omega⟩, ?_⟩
    rintro d - rfl
    refine And.intro (show 1 ≤ sizeLine by decide) ?_
    rw [cut_lo, dvs_take]
    have hl2 : (ts.take j).length ≤ ts.length := by rw [List.length_take]; omega
    have hl3 : (ts.drop (j + 1)).length ≤ ts.length := by rw [List.length_drop]; omega
    refine addT (line64 (by rw [dvs_len]; simp; omega)) ?_
    refine addI ?_
    refine slT ?_
    rw [show ((j : Int) + 1) = ((j + 1 : Nat) : Int) by omega, cut_hi, dvs_dropN]
    refine addT (line64 (by simp only [List.length_append, dvs_len, List.length_cons, List.length_nil, List.length_take, List.length_drop]; omega)) ?_
    refine And.intro (show 2 ≤ sizeLine by decide) ?_
    exact fin
theorem p_law_with (n : Nat) : PL N_law_with (W_law_with n) (D2.Spec.fn A_law_with (P_law_with (n + 1)) R_law_with) := by
  rintro ⟨t, p, x⟩ ⟨h1, h2, h3⟩
  have h1 : p.length < n + 1 := h1
  have h2 : (getA t p).isSome = true := h2
  have h3 : t.size ≤ 900 := h3
  obtain ⟨y, hy⟩ := Option.isSome_iff_exists.mp h2
  show W_law_with n _ [some t.dv, some (pl p), some x.dv, none, none] []
  generalize hD : ({ nx := _, rt := _ } : DEnds) = D
  have fin : D.rt (putA t p x).dv [] := by
    rw [← hD]
    exact back_fn (args := A_law_with) (pre := P_law_with (n + 1)) (F := R_law_with) (i := (t, p, x)) (Th.nr _) rfl
  clear hD
  refine And.intro (show 0 ≤ sizeLine from Nat.zero_le _) ?_
  refine eqP (fun j hj => by have := place_lt hy j hj; omega) ?_
  cases p with
  | nil =>
    rw [putA_nil] at fin
    exact fin
  | cons j p =>
    obtain ⟨m, ts, u, rfl, e, hu⟩ := getA_cons hy
    rw [putA_node e, dv_node, dvs_app, dvs_app, dvs_one] at fin
    rw [size_node] at h3
    have hj := lt_size e
    have hl := len_sizes ts
    rw [dv_node]
    refine ix (xs := nat j :: p.map nat) rfl at0 ?_
    refine ix (xs := [.str m, .tup (dvs ts)]) rfl rfl ?_
    refine ix (xs := [.str m, .tup (dvs ts)]) rfl rfl ?_
    refine slT ?_
    refine ix (xs := dvs ts) rfl (atI_nat (dvs_at e)) ?_
    refine slT ?_
    have e1 : D2.cutD (nat j :: p.map nat) (some 1) none = p.map nat := cut_hi (nat j :: p.map nat) 1
    refine ⟨(u, p, x), by show [_, Dv.tup (D2.cutD (nat j :: p.map nat) (some 1) none), _] = _; rw [e1], .cons u.nr (.cons (by show Nr (.tup (D2.cutD (nat j :: p.map nat) (some 1) none)); rw [e1]; exact pl_nr p) (.cons x.nr .nil)), ⟨by simpa using h1, by show (getA u p).isSome = true; rw [hu]; rfl, by have := size_at e; show u.size ≤ 900; omega⟩, ?_⟩
    rintro d - rfl
    refine And.intro (show 1 ≤ sizeLine by decide) ?_
    rw [cut_lo, dvs_take]
    have hl2 : (ts.take j).length ≤ ts.length := by rw [List.length_take]; omega
    have hl3 : (ts.drop (j + 1)).length ≤ ts.length := by rw [List.length_drop]; omega
    refine addT (line64 (by rw [dvs_len]; simp; omega)) ?_
    refine addI ?_
    refine slT ?_
    rw [show ((j : Int) + 1) = ((j + 1 : Nat) : Int) by omega, cut_hi, dvs_dropN]
    refine addT (line64 (by simp only [List.length_append, dvs_len, List.length_cons, List.length_nil, List.length_take, List.length_drop]; omega)) ?_
    refine And.intro (show 2 ≤ sizeLine by decide) ?_
    exact fin
end K75

namespace K75
open PySem PySem.Spec PyProof.Rows L2 D2 K02
theorem eqSt {st : Sto} {Q : DK} {a : Str} (q : Q (.bl true) st) : gEq false (.str a) (.str a) st Q := eqS (by rw [decide_eq_true rfl]; exact q)
theorem eqSf {st : Sto} {Q : DK} {a b : Str} (h : a ≠ b) (q : Q (.bl false) st) : gEq false (.str a) (.str b) st Q := eqS (by rw [decide_eq_false h]; exact q)
theorem at1 {a x : Dv} {l : List Dv} : atI (a :: x :: l) 1 = some x := atI_nat (j := 1) rfl
theorem at2 {a b x : Dv} {l : List Dv} : atI (a :: b :: x :: l) 2 = some x := atI_nat (j := 2) rfl
/-! edits as data -/
def Ed.xs : Ed → List Dv
  | .drop p i => [.str "drop", pl p, nat i]
  | .put p i t => [.str "put", pl p, nat i, t.dv]
  | .name p s => [.str "name", pl p, .str s]
  | .say p i s => [.str "say", pl p, nat i, .str s]
theorem ed_dv (e : Ed) : e.dv = .tup e.xs := by cases e <;> rfl
def Ed.ps : Ed → List PyData
  | .drop p i => [.str "drop", .tuple (p.map pn), pn i]
  | .put p i t => [.str "put", .tuple (p.map pn), pn i, t.pd]
  | .name p s => [.str "name", .tuple (p.map pn), .str s]
  | .say p i s => [.str "say", .tuple (p.map pn), pn i, .str s]
def Ed.pd (e : Ed) : PyData := .tuple e.ps
theorem ed_dps (st : Sto) : ∀ e : Ed, DPs st e.xs e.ps
  | .drop p i => .cons (.str _) (.cons (.tup rfl (DPs.nats st p)) (.cons (.int _) .nil))
  | .put p i t => .cons (.str _) (.cons (.tup rfl (DPs.nats st p)) (.cons (.int _) (.cons (pd_dp st t) .nil)))
  | .name p s => .cons (.str _) (.cons (.tup rfl (DPs.nats st p)) (.cons (.str s) .nil))
  | .say p i s => .cons (.str _) (.cons (.tup rfl (DPs.nats st p)) (.cons (.int _) (.cons (.str s) .nil)))
theorem ed_dp (st : Sto) (e : Ed) : DP st e.dv e.pd := by
  rw [ed_dv]
  exact .tup rfl (ed_dps st e)
theorem ed_nrs : ∀ e : Ed, Nrs e.xs
  | .drop p i => .cons (.str _) (.cons (pl_nr p) (.cons (.int _) .nil))
  | .put p i t => .cons (.str _) (.cons (pl_nr p) (.cons (.int _) (.cons t.nr .nil)))
  | .name p s => .cons (.str _) (.cons (pl_nr p) (.cons (.str s) .nil))
  | .say p i s => .cons (.str _) (.cons (pl_nr p) (.cons (.int _) (.cons (.str s) .nil)))
theorem ed_nr (e : Ed) : Nr e.dv := by
  rw [ed_dv]
  exact .tup (ed_nrs e)
theorem eds_nr (es : List Ed) : Nrs (es.map Ed.dv) := Nrs.of fun d hd => by
  obtain ⟨e, _, rfl⟩ := List.mem_map.mp hd
  exact ed_nr e
abbrev szs : List (Str × Int) := [("drop", 3), ("name", 3), ("put", 4), ("say", 4)]
theorem ed_form (e : Ed) : ∃ (w : Str) (y : Dv) (r : List Dv), e.xs = .str w :: pl e.at_ :: y :: r ∧ szs.lookup w = some ((e.xs.length : Nat) : Int) := by
  cases e with
  | drop p i => exact ⟨"drop", _, _, rfl, by show szs.lookup ("drop" : Str) = some ((3 : Nat) : Int); decide +kernel⟩
  | put p i t => exact ⟨"put", _, _, rfl, by show szs.lookup ("put" : Str) = some ((4 : Nat) : Int); decide +kernel⟩
  | name p s => exact ⟨"name", _, _, rfl, by show szs.lookup ("name" : Str) = some ((3 : Nat) : Int); decide +kernel⟩
  | say p i s => exact ⟨"say", _, _, rfl, by show szs.lookup ("say" : Str) = some ((4 : Nat) : Int); decide +kernel⟩
/-- numbers below 1000, words that are words -/
def Ed.tam : Ed → Prop
  | .drop p i => (∀ j ∈ p, j < 1000) ∧ i < 1000
  | .put p i t => (∀ j ∈ p, j < 1000) ∧ i < 1000 ∧ t.ok ∧ t.dep ≤ 25 ∧ t.size ≤ 500
  | .name p s => (∀ j ∈ p, j < 1000) ∧ TStr s
  | .say p i s => (∀ j ∈ p, j < 1000) ∧ i < 1000 ∧ TStr s
theorem word_t {s : Str} (h : s = "drop" ∨ s = "put" ∨ s = "name" ∨ s = "say") : TStr s := by
  rcases h with rfl | rfl | rfl | rfl <;> exact ⟨by decide +kernel, by decide +kernel⟩
theorem ed_tames {e : Ed} (h : e.tam) : tames e.ps = true := by
  have tp : ∀ {p : List Nat}, (∀ j ∈ p, j < 1000) → tame (.tuple (p.map pn)) = true := fun h => by
    have := pn_tames h
    simpa only [tame] using this
  cases e with
  | drop p i =>
    obtain ⟨h1, h2⟩ := h
    simp only [Ed.ps, tames, tp h1, show tame (pn i) = true from tame_nat h2, tame_str (word_t (s := "drop") (by simp)), Bool.and_self]
  | put p i t =>
    obtain ⟨h1, h2, h3, h4, h5⟩ := h
    simp only [Ed.ps, tames, tp h1, show tame (pn i) = true from tame_nat h2, tame_str (word_t (s := "put") (by simp)), pd_tame t h3, Bool.and_self]
  | name p s =>
    obtain ⟨h1, h2⟩ := h
    simp only [Ed.ps, tames, tp h1, tame_str h2, tame_str (word_t (s := "name") (by simp)), Bool.and_self]
  | say p i s =>
    obtain ⟨h1, h2, h3⟩ := h
    simp only [Ed.ps, tames, tp h1, show tame (pn i) = true from tame_nat h2, tame_str h3, tame_str (word_t (s := "say") (by simp)), Bool.and_self]
theorem ed_tame {e : Ed} (h : e.tam) : tame e.pd = true := by
  have := ed_tames h
  simpa only [Ed.pd, tame] using this
theorem ed_deps {e : Ed} (h : e.tam) : PyData.depthAll e.ps ≤ 50 := by
  have tp : ∀ p : List Nat, PyData.depth (.tuple (p.map pn)) ≤ 1 := fun p => by simp [PyData.depth, pn_depth]
  cases e with
  | drop p i =>
    have := tp p
    simp only [Ed.ps, PyData.depthAll, PyData.depth, pn] at *
    omega
  | put p i t =>
    have := tp p
    have := pd_dep t
    have := h.2.2.2.1
    simp only [Ed.ps, PyData.depthAll, PyData.depth, pn] at *
    omega
  | name p s =>
    have := tp p
    simp only [Ed.ps, PyData.depthAll, PyData.depth, pn] at *
    omega
  | say p i s =>
    have := tp p
    simp only [Ed.ps, PyData.depthAll, PyData.depth, pn] at *
    omega
theorem ed_dep {e : Ed} (h : e.tam) : e.pd.depth ≤ 51 := by
  have := ed_deps h
  simp only [Ed.pd, PyData.depth]
  omega
theorem node_size {p : List Nat} {t y : Th} (h : getA t p = some y) : y.size ≤ t.size := by
  induction p generalizing t with
  | nil =>
    rw [getA_nil] at h
    cases h
    exact Nat.le_refl _
  | cons i p ih =>
    obtain ⟨m, us, u, rfl, e1, h3⟩ := getA_cons h
    have := size_at e1
    have := ih h3
    rw [size_node]
    omega
theorem good_tam {t : Th} {e : Ed} (h : e.good t) (hs : t.size ≤ 900) : e.tam := by
  obtain ⟨n, ts, h1, h2⟩ := h
  have hp : ∀ j ∈ e.at_, j < 1000 := fun j hj => by
    have := place_lt h1 j hj
    omega
  have hl : ts.length < 1000 := by
    have := len_sizes ts
    have := node_size h1
    rw [size_node] at this
    omega
  cases e with
  | drop p i => exact ⟨hp, by have : i < ts.length := h2; omega⟩
  | put p i x => exact ⟨hp, by have : i ≤ ts.length := h2.1; omega, h2.2.1, h2.2.2.2, h2.2.2.1⟩
  | name p s => exact ⟨hp, nm_t h2⟩
  | say p i s =>
    obtain ⟨⟨s0, e1⟩, h4⟩ := h2
    exact ⟨hp, by have := (List.getElem?_eq_some_iff.mp e1).1; omega, tx_t h4⟩
theorem done_eq {t : Th} {e : Ed} {n : Str} {ts : List Th} (h : getA t e.at_ = some (.node n ts)) : doneE t e = putA t e.at_ (chg n ts e) := by
  unfold doneE
  rw [h]
theorem undo_eq {t : Th} {e : Ed} {n : Str} {ts : List Th} (h : getA t e.at_ = some (.node n ts)) : undoE t e = bck n ts e := by
  unfold undoE
  rw [h]
/-! ### the defs -/
theorem p_wrong_change : PL Nwrong_change Wwrong_change (D2.Spec.fn A_wrong_change P_wrong_change R_wrong_change) := by
  rintro ⟨ts, e⟩ h
  have h : e.fits ts := h
  show Wwrong_change _ [some (.tup (dvs ts)), some e.dv, none, none] []
  generalize hD : ({ nx := _, rt := _ } : DEnds) = D
  have fin : D.rt .non [] := by
    rw [← hD]
    exact back_fn (args := A_wrong_change) (pre := P_wrong_change) (F := R_wrong_change) (i := (ts, e)) .non rfl
  clear hD
  rw [ed_dv]
  cases e with
  | name p s =>
    have h : NmOk s := h
    refine ix (xs := [.str "name", pl p, .str s]) rfl rfl ?_
    refine ix (xs := [.str "name", pl p, .str s]) rfl rfl ?_
    refine eqSt ?_
    refine ⟨s, rfl, .cons (.str s) .nil, h, ?_⟩
    rintro d - rfl
    exact fin
  | drop p i =>
    have h : i < ts.length := h
    refine ix (xs := [.str "drop", pl p, nat i]) rfl rfl ?_
    refine ix (xs := [.str "drop", pl p, nat i]) rfl rfl ?_
    refine eqSf (by decide +kernel) ?_
    refine len (xs := dvs ts) rfl ?_
    refine eqSf (by decide +kernel) ?_
    refine addI ?_
    refine ⟨(i, ts.length), by show [_, Dv.int (((dvs ts).length : Int) + 0)] = [_, Dv.int ((ts.length : Nat) : Int)]; rw [dvs_len, Int.add_zero], .cons (.int _) (.cons (.int _) .nil), h, ?_⟩
    rintro d - rfl
    refine eqSt ?_
    exact fin
  | put p i x =>
    obtain ⟨h1, h2, h3, h4⟩ := h
    refine ix (xs := [.str "put", pl p, nat i, x.dv]) rfl rfl ?_
    refine ix (xs := [.str "put", pl p, nat i, x.dv]) rfl rfl ?_
    refine eqSf (by decide +kernel) ?_
    refine len (xs := dvs ts) rfl ?_
    refine eqSt ?_
    refine addI ?_
    refine ⟨(i, ts.length + 1), by show [_, Dv.int (((dvs ts).length : Int) + 1)] = [_, Dv.int ((ts.length + 1 : Nat) : Int)]; rw [dvs_len]; rfl, .cons (.int _) (.cons (.int _) .nil), by show i < ts.length + 1; omega, ?_⟩
    rintro d - rfl
    refine eqSf (by decide +kernel) ?_
    refine eqSt ?_
    refine ix (xs := [.str "put", pl p, nat i, x.dv]) rfl rfl ?_
    refine ⟨x, rfl, .cons x.nr .nil, ⟨h2, by show x.size ≤ 1000; omega⟩, ?_⟩
    rintro d - rfl
    exact fin
  | say p i s =>
    obtain ⟨⟨s0, e1⟩, h2⟩ := h
    refine ix (xs := [.str "say", pl p, nat i, .str s]) rfl rfl ?_
    refine ix (xs := [.str "say", pl p, nat i, .str s]) rfl rfl ?_
    refine eqSf (by decide +kernel) ?_
    refine len (xs := dvs ts) rfl ?_
    refine eqSf (by decide +kernel) ?_
    refine addI ?_
    refine ⟨(i, ts.length), by show [_, Dv.int (((dvs ts).length : Int) + 0)] = [_, Dv.int ((ts.length : Nat) : Int)]; rw [dvs_len, Int.add_zero], .cons (.int _) (.cons (.int _) .nil), (List.getElem?_eq_some_iff.mp e1).1, ?_⟩
    rintro d - rfl
    refine eqSf (by decide +kernel) ?_
    refine eqSf (by decide +kernel) ?_
    refine ix (xs := dvs ts) rfl (atI_nat (dvs_at e1)) ?_
    rw [dv_txt]
    refine ix (xs := [.str "say", pl p, nat i, .str s]) rfl rfl ?_
    refine ⟨s, rfl, .cons (.str s) .nil, h2, ?_⟩
    rintro d - rfl
    exact fin
theorem p_wrong_part : PL Nwrong_part Wwrong_part (D2.Spec.fn A_wrong_part P_wrong_part R_wrong_part) := by
  rintro ⟨t, e⟩ ⟨h, hs⟩
  have h : e.good t := h
  have hs : t.size ≤ 900 := hs
  have ht := good_tam h hs
  obtain ⟨n, ts, h1, h2⟩ := h
  show Wwrong_part _ [some t.dv, some e.dv, none] []
  generalize hD : ({ nx := _, rt := _ } : DEnds) = D
  have fin : D.rt .non [] := by
    rw [← hD]
    exact back_fn (args := A_wrong_part) (pre := P_wrong_part) (F := R_wrong_part) (i := (t, e)) .non rfl
  clear hD
  obtain ⟨w, y, r, e1, e2⟩ := ed_form e
  rw [ed_dv]
  refine And.intro (show 0 ≤ sizeLine from Nat.zero_le _) ?_
  refine eq0 (ed_dps _ e) (shapedT (p := .tuple e.ps) (ed_tame ht) (by have := ed_dep ht; exact Nat.le_trans this (by decide))) ?_
  refine iteF (by rw [e1]; rfl) ?_
  have hn := ed_nr e
  rw [ed_dv] at hn
  have en : Nrs e.xs := ed_nrs e
  have ed : e.dv = .tup e.xs := ed_dv e
  rw [e1] at *
  refine ix (xs := .str w :: pl e.at_ :: y :: r) rfl at0 ?_
  refine ix (xs := .str w :: pl e.at_ :: y :: r) rfl at0 ?_
  refine And.intro (by rw [e2]; rfl) ?_
  refine len (xs := .str w :: pl e.at_ :: y :: r) rfl ?_
  refine ix (xs := .str w :: pl e.at_ :: y :: r) rfl at0 ?_
  refine ⟨_, e2, ?_⟩
  refine eqI ?_
  refine iteF (by simp) ?_
  refine ix (xs := .str w :: pl e.at_ :: y :: r) rfl at1 ?_
  refine ⟨(t, e.at_), rfl, .cons t.nr (.cons (pl_nr _) .nil), by show (getA t e.at_).isSome = true; rw [h1]; rfl, ?_⟩
  rintro d - rfl
  refine ix (xs := .str w :: pl e.at_ :: y :: r) rfl at1 ?_
  refine ⟨(t, e.at_, .node n ts), rfl, .cons t.nr (.cons (pl_nr _) .nil), h1, ?_⟩
  rintro d - rfl
  rw [dv_node]
  refine ix (xs := [.str n, .tup (dvs ts)]) rfl rfl ?_
  refine ⟨(ts, e), by show _ = [Dv.tup (dvs ts), e.dv]; rw [ed], .cons (.tup (nrs ts)) (.cons (.tup en) .nil), h2, ?_⟩
  rintro d - rfl
  exact fin
theorem p_need_edit : PL Nneed_edit Wneed_edit (D2.Spec.fn A_need_edit P_need_edit R_need_edit) := by
  rintro ⟨t, e⟩ h
  show Wneed_edit _ [some t.dv, some e.dv, none] []
  refine ⟨(t, e), rfl, .cons t.nr (.cons (ed_nr e) .nil), h, ?_⟩
  rintro d - rfl
  refine isNon ?_
  exact back_fn (args := A_need_edit) (pre := P_need_edit) (F := R_need_edit) (i := (t, e)) .non rfl
theorem p_is_edit : PL Nis_edit Wis_edit (D2.Spec.fn A_is_edit P_is_edit R_is_edit) := by
  rintro ⟨t, e⟩ h
  show Wis_edit _ [some t.dv, some e.dv] []
  refine ⟨(t, e), rfl, .cons t.nr (.cons (ed_nr e) .nil), h, ?_⟩
  rintro d - rfl
  refine isNon ?_
  exact back_fn (args := A_is_edit) (pre := P_is_edit) (F := R_is_edit) (i := (t, e)) (.bl true) rfl
end K75

namespace K51
open PySem PySem.Spec PyProof.Rows L2 D2 K02
open K75 (drop_at at0 at1 at2 eqSt eqSf dvs_at dvs_one size_at dep_at nr2 size_node dep_node ok_node)
/-! ### plain facts -/
theorem pdv_map : ∀ ps : List Pt, pdv ps = ps.map Pt.dv
  | [] => by simp [pdv]
  | p :: ps => by simp [pdv, pdv_map ps]
theorem pdv_at {ps : List Pt} {i : Nat} {d : Dv} (h : (pdv ps)[i]? = some d) : ∃ p, ps[i]? = some p ∧ d = p.dv := by
  rw [pdv_map, List.getElem?_map] at h
  obtain ⟨p, h1, h2⟩ := Option.map_eq_some_iff.mp h
  exact ⟨p, h1, h2.symm⟩
theorem dvs_at' {ts : List Th} {i : Nat} {d : Dv} (h : (dvs ts)[i]? = some d) : ∃ t, ts[i]? = some t ∧ d = t.dv := by
  rw [dvs_map, List.getElem?_map] at h
  obtain ⟨p, h1, h2⟩ := Option.map_eq_some_iff.mp h
  exact ⟨p, h1, h2.symm⟩
theorem pdv_len (ps : List Pt) : (pdv ps).length = ps.length := by rw [pdv_map, List.length_map]
mutual
theorem Pt.nr : ∀ p : Pt, Nr p.dv
  | .node s ps => by
    simp only [Pt.dv]
    exact .tup (.cons (.str _) (.cons (.str _) (.cons (.tup (pnrs ps)) .nil)))
  | .say s => by
    simp only [Pt.dv]
    exact .tup (.cons (.str _) (.cons (.str _) .nil))
  | .keep => by
    simp only [Pt.dv]
    exact .tup (.cons (.str _) .nil)
  | .go m => by
    simp only [Pt.dv]
    exact .tup (.cons (.str _) (.cons (.str _) .nil))
theorem pnrs : ∀ ps : List Pt, Nrs (pdv ps)
  | [] => by
    simp only [pdv]
    exact .nil
  | p :: ps => by
    simp only [pdv]
    exact .cons p.nr (pnrs ps)
end
theorem pdv_node (s : Str) (ps : List Pt) : (Pt.node s ps).dv = .tup [.str "node", .str s, .tup (pdv ps)] := by simp [Pt.dv]
theorem pdv_say (s : Str) : (Pt.say s).dv = .tup [.str "say", .str s] := by simp [Pt.dv]
theorem pdv_keep : Pt.keep.dv = .tup [.str "keep"] := by simp [Pt.dv]
theorem pdv_go (s : Str) : (Pt.go s).dv = .tup [.str "go", .str s] := by simp [Pt.dv]
theorem pok_mem {k : Bool} : ∀ {ps : List Pt} {p : Pt}, pok k ps → p ∈ ps → p.ok k
  | [], p, _, hm => by simp at hm
  | q :: ps, p, h, hm => by
    simp only [pok] at h
    rcases List.mem_cons.mp hm with rfl | hm
    · exact h.1
    · exact pok_mem h.2 hm
theorem pok_of {k : Bool} : ∀ {ps : List Pt}, (∀ p ∈ ps, p.ok k) → pok k ps
  | [], _ => by simp [pok]
  | q :: ps, h => by
    simp only [pok]
    exact ⟨h q (by simp), pok_of fun p hp => h p (by simp [hp])⟩
theorem pdep_mem : ∀ {ps : List Pt} {p : Pt}, p ∈ ps → p.dep ≤ pdep ps
  | [], p, hm => by simp at hm
  | q :: ps, p, hm => by
    simp only [pdep]
    rcases List.mem_cons.mp hm with rfl | hm
    · omega
    · have := pdep_mem hm
      omega
theorem psize_mem : ∀ {ps : List Pt} {p : Pt}, p ∈ ps → p.size ≤ psize ps
  | [], p, hm => by simp at hm
  | q :: ps, p, hm => by
    simp only [psize]
    rcases List.mem_cons.mp hm with rfl | hm
    · omega
    · have := psize_mem hm
      omega
theorem pdep_node (s : Str) (ps : List Pt) : (Pt.node s ps).dep = pdep ps + 1 := by simp [Pt.dep]
theorem psize_node (s : Str) (ps : List Pt) : (Pt.node s ps).size = psize ps + 1 := by simp [Pt.size]
theorem fillP_nil (x : Str) (F : Str → List Th) : fillP x F [] = [] := by simp [fillP]
theorem fillP_cons (x : Str) (F : Str → List Th) (p : Pt) (ps : List Pt) : fillP x F (p :: ps) = fillOne x F p ++ fillP x F ps := by simp [fillP]
theorem fo_node (x : Str) (F : Str → List Th) (s : Str) (ps : List Pt) : fillOne x F (.node s ps) = [.node s (fillP x F ps)] := by simp [fillOne]
theorem fo_say (x : Str) (F : Str → List Th) (s : Str) : fillOne x F (.say s) = [.txt s] := by simp [fillOne]
theorem fo_keep (x : Str) (F : Str → List Th) : fillOne x F .keep = [.txt x] := by simp [fillOne]
theorem fo_go (x : Str) (F : Str → List Th) (m : Str) : fillOne x F (.go m) = F m := by simp [fillOne]
theorem trnF_nil (rs : List Ru) (m : Str) : trnF rs [] m = [] := by simp [trnF]
theorem trnF_cons (rs : List Ru) (t : Th) (ts : List Th) (m : Str) : trnF rs (t :: ts) m = trnT rs t m ++ trnF rs ts m := by simp [trnF]
theorem trnT_txt (rs : List Ru) (s m : Str) : trnT rs (.txt s) m = fillP s (fun _ => []) ((rule rs m "").getD []) := by simp [trnT]
theorem trnT_none {rs : List Ru} {n m : Str} {ts : List Th} (h : rule rs m n = none) : trnT rs (.node n ts) m = trnF rs ts m := by simp [trnT, h]
theorem trnT_some {rs : List Ru} {n m : Str} {ts : List Th} {ps : List Pt} (h : rule rs m n = some ps) : trnT rs (.node n ts) m = fillP "" (trnF rs ts) ps := by
  simp only [trnT, h]
theorem trnF_app (rs : List Ru) (m : Str) : ∀ a b : List Th, trnF rs (a ++ b) m = trnF rs a m ++ trnF rs b m
  | [], b => by simp [trnF]
  | t :: a, b => by simp [trnF, trnF_app rs m a b]
theorem rule_ok {rs : List Ru} (h : ∀ r ∈ rs, RuOk r) {m l : Str} {ps : List Pt} (e : rule rs m l = some ps) : pok (decide (l = "")) ps ∧ pdep ps ≤ 2 ∧ psize ps ≤ 30 ∧ goes ps ≤ 2 := by
  induction rs with
  | nil => simp [rule] at e
  | cons r rs ih =>
    simp only [rule] at e
    split at e
    · rename_i q
      cases e
      have := h r (by simp)
      unfold RuOk at this
      rw [q.2] at this
      exact this
    · exact ih (fun q hq => h q (by simp [hq])) e
theorem augT {D : DEnds} {σ : En} {st : Sto} {i : Nat} {w : DTE} {xs : List Dv} (e : σ[i]? = some (some (.tup xs))) (h : w σ st fun d st1 => ∃ ys, d = .tup ys ∧ xs.length + ys.length ≤ sizeLine ∧ D.nx (σ.set i (some (.tup (xs ++ ys)))) st1) : wAugT i w D σ st := by
  unfold wAugT
  rw [e]
  exact h
theorem tp2 (A B : List Th) : tups (A ++ B) = .tup (dvs A ++ dvs B) := by rw [tups, dvs_app]
theorem line5 {n : Nat} (h : n ≤ 200000) : n ≤ sizeLine := Nat.le_trans h (by decide)
theorem pt_lt {s : Str} (n : s ≠ "") : s ≠ "" := n
theorem pt_pos (p : Pt) : 1 ≤ p.size := by cases p <;> simp [Pt.size]
theorem pt_len : ∀ ps : List Pt, ps.length ≤ psize ps
  | [] => by simp
  | p :: ps => by
    have := pt_len ps
    have := pt_pos p
    simp only [List.length_cons, psize]
    omega
theorem rus_nr (rs : List Ru) : Nrs (rs.map Ru.dv) := Nrs.of fun d hd => by
  obtain ⟨r, _, rfl⟩ := List.mem_map.mp hd
  exact .tup (.cons (.str _) (.cons (.str _) (.cons (.tup (pnrs _)) .nil)))
theorem tuD_nr (C : Addr) (rs : List Ru) (m : Str) : Nr (tuD C rs m) := .obj (.cons (.tup (rus_nr rs)) (.cons (.str _) .nil))
theorem nm_ne {s : Str} (h : NmOk s) : s ≠ "" := fun e => by
  subst e
  exact absurd h.1 (by decide)
/-! ### the program -/
theorem p_rule_for {C : Addr} : PL Nrule_for (Wrule_for C) (D2.Spec.fn (A_rule_for C) P_rule_for R_rule_for) := by
  rintro ⟨⟨rs, m0⟩, m, l⟩ -
  show Wrule_for C _ [some (tuD C rs m0), some (.str m), some (.str l), none] []
  generalize hD : ({ nx := _, rt := _ } : DEnds) = D
  have fin : D.rt (rulD (rule rs m l)) [] := by
    rw [← hD]
    refine back_fn (args := A_rule_for C) (pre := P_rule_for) (F := R_rule_for) (i := ((rs, m0), m, l)) ?_ rfl
    cases rule rs m l with
    | none => exact .non
    | some ps => exact .tup (pnrs ps)
  clear hD
  refine ⟨rfl, _, rfl, ?_⟩
  refine Exists.intro (fun i σ st => ∃ v3 : Option Dv, σ = [some (tuD C rs m0), some (.str m), some (.str l), v3] ∧ st = [] ∧ rule rs m l = rule (rs.drop i) m l) ?_
  refine And.intro ⟨none, rfl, rfl, rfl⟩ ?_
  refine And.intro (fun i σ' st' _ n e => nomatch e) ?_
  refine And.intro (fun i d σ' st' e hI => ?_) ?_
  · obtain ⟨v3, rfl, rfl, hr⟩ := hI
    rw [List.getElem?_map] at e
    obtain ⟨r, e1, rfl⟩ := Option.map_eq_some_iff.mp e
    rw [drop_at e1] at hr
    simp only [rule] at hr
    refine ⟨_, rfl, ?_⟩
    refine ix (xs := [.str r.mode, .str r.letter, .tup (pdv r.ps)]) rfl rfl ?_
    by_cases hm : r.mode = m
    · rw [hm]
      refine eqSt ?_
      refine ix (xs := [.str r.mode, .str r.letter, .tup (pdv r.ps)]) rfl rfl ?_
      by_cases hl : r.letter = l
      · rw [hl]
        refine eqSt ?_
        refine ix (xs := [.str r.mode, .str r.letter, .tup (pdv r.ps)]) rfl rfl ?_
        rw [if_pos ⟨hm, hl⟩] at hr
        rw [hr] at fin
        exact fin
      · refine eqSf hl ?_
        rw [if_neg (fun q => hl q.2)] at hr
        exact ⟨_, rfl, rfl, hr⟩
    · refine eqSf hm ?_
      rw [if_neg (fun q => hm q.1)] at hr
      exact ⟨_, rfl, rfl, hr⟩
  · rintro σ' st' ⟨v3, rfl, rfl, hr⟩
    rw [List.length_map, List.drop_length] at hr
    rw [hr] at fin
    exact fin
theorem p_made_of_text (n : Nat) : PL Nmade_of_text (Wmade_of_text n) (D2.Spec.fn A_made_of_text (P_made_of_text (n + 1)) R_made_of_text) := by
  rintro ⟨ps, x⟩ ⟨h1, h2, h3⟩
  have h1 : pdep ps < n + 1 := h1
  have h2 : pok true ps := h2
  have h3 : psize ps ≤ 1000 := h3
  show Wmade_of_text n _ [some (.tup (pdv ps)), some (.str x), none, none] []
  generalize hD : ({ nx := _, rt := _ } : DEnds) = D
  have fin : D.rt (tups (fillP x (fun _ => []) ps)) [] := by
    rw [← hD]
    exact back_fn (args := A_made_of_text) (pre := P_made_of_text (n + 1)) (F := R_made_of_text) (i := (ps, x)) (.tup (nrs _)) rfl
  clear hD
  refine And.intro (show 0 ≤ sizeLine from Nat.zero_le _) ?_
  refine Exists.intro (fun i σ st => ∃ (v3 : Option Dv) (A : List Th), σ = [some (.tup (pdv ps)), some (.str x), some (tups A), v3] ∧ st = [] ∧ A.length ≤ i ∧ fillP x (fun _ => []) ps = A ++ fillP x (fun _ => []) (ps.drop i)) ?_
  refine And.intro ⟨none, [], rfl, rfl, by simp, by simp⟩ ?_
  refine And.intro (fun i σ' st' _ n e => nomatch e) ?_
  refine And.intro (fun i d σ' st' e hI => ?_) ?_
  · obtain ⟨v3, A, rfl, rfl, hl, hA⟩ := hI
    obtain ⟨p, e1, rfl⟩ := pdv_at e
    have hi := (List.getElem?_eq_some_iff.mp e1).1
    have hp := List.mem_of_getElem? e1
    have hn := pt_len ps
    rw [drop_at e1, fillP_cons, ← List.append_assoc] at hA
    have ho := pok_mem h2 hp
    have hd := pdep_mem hp
    have hz := psize_mem hp
    have hA2 : A.length + 1 ≤ sizeLine := line5 (by omega)
    refine ⟨_, rfl, ?_⟩
    cases p with
    | node s qs =>
      rw [fo_node] at hA
      rw [pdep_node] at hd
      rw [psize_node] at hz
      simp only [Pt.ok] at ho
      rw [pdv_node]
      refine ix (xs := [.str "node", .str s, .tup (pdv qs)]) rfl rfl ?_
      refine eqSt ?_
      refine augT (by rfl) ?_
      refine ix (xs := [.str "node", .str s, .tup (pdv qs)]) rfl rfl ?_
      refine ix (xs := [.str "node", .str s, .tup (pdv qs)]) rfl rfl ?_
      refine ⟨(qs, x), rfl, .cons (.tup (pnrs _)) (.cons (.str _) .nil), ⟨by show pdep qs < n; omega, ho.2, by show psize qs ≤ 1000; omega⟩, ?_⟩
      rintro d - rfl
      refine And.intro (show 2 ≤ sizeLine by decide) ?_
      refine And.intro (show 1 ≤ sizeLine by decide) ?_
      refine ⟨_, rfl, by rw [dvs_len]; exact hA2, some (.tup [.str "node", .str s, .tup (pdv qs)]), A ++ [.node s (fillP x (fun _ => []) qs)], by rw [tp2, dvs_one, dv_node]; rfl, rfl, by simp; omega, hA⟩
    | say s =>
      rw [fo_say] at hA
      rw [pdv_say]
      refine ix (xs := [.str "say", .str s]) rfl rfl ?_
      refine eqSf (by decide +kernel) ?_
      refine augT (by rfl) ?_
      refine ix (xs := [.str "say", .str s]) rfl rfl ?_
      refine eqSf (by decide +kernel) ?_
      refine ix (xs := [.str "say", .str s]) rfl rfl ?_
      refine And.intro (show 1 ≤ sizeLine by decide) ?_
      refine ⟨_, rfl, by rw [dvs_len]; exact hA2, some (.tup [.str "say", .str s]), A ++ [.txt s], by rw [tp2, dvs_one, dv_txt]; rfl, rfl, by simp; omega, hA⟩
    | keep =>
      rw [fo_keep] at hA
      rw [pdv_keep]
      refine ix (xs := [.str "keep"]) rfl rfl ?_
      refine eqSf (by decide +kernel) ?_
      refine augT (by rfl) ?_
      refine ix (xs := [.str "keep"]) rfl rfl ?_
      refine eqSt ?_
      refine And.intro (show 1 ≤ sizeLine by decide) ?_
      refine ⟨_, rfl, by rw [dvs_len]; exact hA2, some (.tup [.str "keep"]), A ++ [.txt x], by rw [tp2, dvs_one, dv_txt]; rfl, rfl, by simp; omega, hA⟩
    | go m => simp [Pt.ok] at ho
  · rintro σ' st' ⟨v3, A, rfl, rfl, hl, hA⟩
    rw [pdv_len, List.drop_length, fillP_nil, List.append_nil] at hA
    rw [hA] at fin
    exact fin
theorem p_made_by {C : Addr} (n : Nat) : PL Nmade_by (Wmade_by C n) (D2.Spec.fn (A_made_by C) (P_made_by (n + 1)) R_made_by) := by
  rintro ⟨⟨rs, m0⟩, ps, ts⟩ ⟨h1, h2, h3, h4⟩
  have h1 : 6 * deps ts + 5 + pdep ps < n + 1 := h1
  have h2 : RsOk rs := h2
  have ht : oks ts := h3.2
  have h3 : pok false ps := h3.1
  have h4 : sizes (fillP "" (trnF rs ts) ps) ≤ 100000 := h4
  show Wmade_by C n _ [some (tuD C rs m0), some (.tup (pdv ps)), some (.tup (dvs ts)), none, none] []
  generalize hD : ({ nx := _, rt := _ } : DEnds) = D
  have fin : D.rt (tups (fillP "" (trnF rs ts) ps)) [] := by
    rw [← hD]
    exact back_fn (args := A_made_by C) (pre := P_made_by (n + 1)) (F := R_made_by) (i := ((rs, m0), ps, ts)) (.tup (nrs _)) rfl
  clear hD
  refine And.intro (show 0 ≤ sizeLine from Nat.zero_le _) ?_
  refine Exists.intro (fun i σ st => ∃ (v3 : Option Dv) (A : List Th), σ = [some (tuD C rs m0), some (.tup (pdv ps)), some (.tup (dvs ts)), some (tups A), v3] ∧ st = [] ∧ fillP "" (trnF rs ts) ps = A ++ fillP "" (trnF rs ts) (ps.drop i)) ?_
  refine And.intro ⟨none, [], rfl, rfl, by simp⟩ ?_
  refine And.intro (fun i σ' st' _ n e => nomatch e) ?_
  refine And.intro (fun i d σ' st' e hI => ?_) ?_
  · obtain ⟨v3, A, rfl, rfl, hA⟩ := hI
    obtain ⟨p, e1, rfl⟩ := pdv_at e
    have hp := List.mem_of_getElem? e1
    rw [drop_at e1, fillP_cons, ← List.append_assoc] at hA
    have ho := pok_mem h3 hp
    have hd := pdep_mem hp
    have hA2 : sizes A + sizes (fillOne "" (trnF rs ts) p) ≤ 100000 := by
      rw [hA, sizes_app, sizes_app] at h4
      omega
    have hA3 : A.length + (fillOne "" (trnF rs ts) p).length ≤ sizeLine := line5 (by have := len_sizes A; have := len_sizes (fillOne "" (trnF rs ts) p); omega)
    refine ⟨_, rfl, ?_⟩
    cases p with
    | node s qs =>
      rw [fo_node] at hA hA2 hA3
      rw [pdep_node] at hd
      simp only [Pt.ok] at ho
      have hz : sizes (fillP "" (trnF rs ts) qs) ≤ 100000 := by simp [sizes, size_node] at hA2; omega
      rw [pdv_node]
      refine ix (xs := [.str "node", .str s, .tup (pdv qs)]) rfl rfl ?_
      refine eqSt ?_
      refine augT (by rfl) ?_
      refine ix (xs := [.str "node", .str s, .tup (pdv qs)]) rfl rfl ?_
      refine ix (xs := [.str "node", .str s, .tup (pdv qs)]) rfl rfl ?_
      refine ⟨((rs, m0), qs, ts), rfl, .cons (tuD_nr _ _ _) (.cons (.tup (pnrs _)) (.cons (.tup (nrs _)) .nil)), ⟨by show 6 * deps ts + 5 + pdep qs < n; omega, h2, ⟨ho.2, ht⟩, hz⟩, ?_⟩
      rintro d - rfl
      refine And.intro (show 2 ≤ sizeLine by decide) ?_
      refine And.intro (show 1 ≤ sizeLine by decide) ?_
      refine ⟨_, rfl, by rw [dvs_len]; exact hA3, some (.tup [.str "node", .str s, .tup (pdv qs)]), A ++ [.node s (fillP "" (trnF rs ts) qs)], by rw [tp2, dvs_one, dv_node]; rfl, rfl, hA⟩
    | say s =>
      rw [fo_say] at hA hA3
      rw [pdv_say]
      refine ix (xs := [.str "say", .str s]) rfl rfl ?_
      refine eqSf (by decide +kernel) ?_
      refine ix (xs := [.str "say", .str s]) rfl rfl ?_
      refine eqSt ?_
      refine augT (by rfl) ?_
      refine ix (xs := [.str "say", .str s]) rfl rfl ?_
      refine And.intro (show 1 ≤ sizeLine by decide) ?_
      refine ⟨_, rfl, by rw [dvs_len]; exact hA3, some (.tup [.str "say", .str s]), A ++ [.txt s], by rw [tp2, dvs_one, dv_txt]; rfl, rfl, hA⟩
    | keep => simp [Pt.ok] at ho
    | go m =>
      rw [fo_go] at hA hA2 hA3
      rw [pdv_go]
      refine ix (xs := [.str "go", .str m]) rfl rfl ?_
      refine eqSf (by decide +kernel) ?_
      refine ix (xs := [.str "go", .str m]) rfl rfl ?_
      refine eqSf (by decide +kernel) ?_
      refine augT (by rfl) ?_
      refine ix (xs := [.str "go", .str m]) rfl rfl ?_
      refine ⟨((rs, m0), m, ts), rfl, .cons (tuD_nr _ _ _) (.cons (.str _) (.cons (.tup (nrs _)) .nil)), ⟨by show 6 * deps ts + 4 < n; omega, h2, ht, by show sizes (trnF rs ts m) ≤ 100000; omega⟩, ?_⟩
      rintro d - rfl
      refine ⟨_, rfl, by rw [dvs_len, dvs_len]; exact hA3, some (.tup [.str "go", .str m]), A ++ trnF rs ts m, by rw [tp2]; rfl, rfl, hA⟩
  · rintro σ' st' ⟨v3, A, rfl, rfl, hA⟩
    rw [pdv_len, List.drop_length, fillP_nil, List.append_nil] at hA
    rw [hA] at fin
    exact fin
theorem p_turned_forest {C : Addr} (n : Nat) : PL Nturned_forest (Wturned_forest C n) (D2.Spec.fn (A_turned_forest C) (P_turned_forest (n + 1)) R_turned_forest) := by
  rintro ⟨⟨rs, m0⟩, m, ts⟩ ⟨h1, h2, h3, h4⟩
  have h1 : 6 * deps ts + 4 < n + 1 := h1
  have h2 : RsOk rs := h2
  have h3 : oks ts := h3
  have h4 : sizes (trnF rs ts m) ≤ 100000 := h4
  show Wturned_forest C n _ [some (tuD C rs m0), some (.str m), some (.tup (dvs ts)), none, none] []
  generalize hD : ({ nx := _, rt := _ } : DEnds) = D
  have fin : D.rt (tups (trnF rs ts m)) [] := by
    rw [← hD]
    exact back_fn (args := A_turned_forest C) (pre := P_turned_forest (n + 1)) (F := R_turned_forest) (i := ((rs, m0), m, ts)) (.tup (nrs _)) rfl
  clear hD
  refine And.intro (show 0 ≤ sizeLine from Nat.zero_le _) ?_
  refine Exists.intro (fun i σ st => ∃ (v3 : Option Dv) (A : List Th), σ = [some (tuD C rs m0), some (.str m), some (.tup (dvs ts)), some (tups A), v3] ∧ st = [] ∧ trnF rs ts m = A ++ trnF rs (ts.drop i) m) ?_
  refine And.intro ⟨none, [], rfl, rfl, by simp⟩ ?_
  refine And.intro (fun i σ' st' _ n e => nomatch e) ?_
  refine And.intro (fun i d σ' st' e hI => ?_) ?_
  · obtain ⟨v3, A, rfl, rfl, hA⟩ := hI
    obtain ⟨t, e1, rfl⟩ := dvs_at' e
    have hp := List.mem_of_getElem? e1
    rw [drop_at e1, trnF_cons, ← List.append_assoc] at hA
    have ho := oks_mem h3 _ hp
    have hd := dep_at e1
    have hA2 : sizes A + sizes (trnT rs t m) ≤ 100000 := by
      rw [hA, sizes_app, sizes_app] at h4
      omega
    have hA3 : A.length + (trnT rs t m).length ≤ sizeLine := line5 (by have := len_sizes A; have := len_sizes (trnT rs t m); omega)
    refine ⟨_, rfl, ?_⟩
    refine augT (by rfl) ?_
    refine ⟨((rs, m0), m, t), rfl, .cons (tuD_nr _ _ _) (.cons (.str _) (.cons (Th.nr _) .nil)), ⟨by show 6 * t.dep + 3 < n; omega, h2, ho, by show sizes (trnT rs t m) ≤ 100000; omega⟩, ?_⟩
    rintro d - rfl
    refine ⟨_, rfl, by rw [dvs_len, dvs_len]; exact hA3, some t.dv, A ++ trnT rs t m, by rw [tp2]; rfl, rfl, hA⟩
  · rintro σ' st' ⟨v3, A, rfl, rfl, hA⟩
    rw [dvs_len, List.drop_length, trnF_nil, List.append_nil] at hA
    rw [hA] at fin
    exact fin
theorem p_turned_thing {C : Addr} (n : Nat) : PL Nturned_thing (Wturned_thing C n) (D2.Spec.fn (A_turned_thing C) (P_turned_thing (n + 1)) R_turned_thing) := by
  rintro ⟨⟨rs, m0⟩, m, t⟩ ⟨h1, h2, h3, h4⟩
  have h1 : 6 * t.dep + 3 < n + 1 := h1
  have h2 : RsOk rs := h2
  have h3 : t.ok := h3
  have h4 : sizes (trnT rs t m) ≤ 100000 := h4
  show Wturned_thing C n _ [some (tuD C rs m0), some (.str m), some t.dv, none] []
  generalize hD : ({ nx := _, rt := _ } : DEnds) = D
  have fin : D.rt (tups (trnT rs t m)) [] := by
    rw [← hD]
    exact back_fn (args := A_turned_thing C) (pre := P_turned_thing (n + 1)) (F := R_turned_thing) (i := ((rs, m0), m, t)) (.tup (nrs _)) rfl
  clear hD
  cases t with
  | txt s =>
    rw [dv_txt]
    rw [trnT_txt] at fin
    refine iteT rfl ?_
    refine ⟨((rs, m0), m, ""), rfl, .cons (tuD_nr _ _ _) (.cons (.str _) (.cons (.str _) .nil)), trivial, ?_⟩
    rintro d - rfl
    have hr : ∀ ps, rule rs m "" = some ps → pok true ps ∧ pdep ps < n ∧ psize ps ≤ 1000 := fun ps e => by
      obtain ⟨q1, q2, q3, q4⟩ := rule_ok h2.1 e
      exact ⟨q1, by omega, by omega⟩
    have go : ∀ ps, pok true ps → pdep ps < n → psize ps ≤ 1000 → (rule rs m "").getD [] = ps → ∃ i : List Pt × Str, [Dv.tup (pdv ps), .str s] = A_made_of_text i ∧ Nrs [Dv.tup (pdv ps), .str s] ∧ P_made_of_text n i ∧ ∀ d, Nr d → R_made_of_text i d → D.rt d [] := fun ps q1 q2 q3 e => by
      refine ⟨(ps, s), rfl, .cons (.tup (pnrs _)) (.cons (.str _) .nil), ⟨q2, q1, q3⟩, ?_⟩
      rintro d - rfl
      rw [e] at fin
      exact fin
    cases e : rule rs m "" with
    | none =>
      refine And.intro (show 0 ≤ sizeLine from Nat.zero_le _) ?_
      exact go [] (by simp [pok]) (by simp [pdep]; omega) (by simp [psize]) (by rw [e]; rfl)
    | some ps =>
      obtain ⟨q1, q2, q3⟩ := hr ps e
      cases ps with
      | nil =>
        refine And.intro (show 0 ≤ sizeLine from Nat.zero_le _) ?_
        exact go [] q1 q2 q3 (by rw [e]; rfl)
      | cons p ps => exact go (p :: ps) q1 q2 q3 (by rw [e]; rfl)
  | node x ts =>
    rw [dv_node]
    rw [dep_node] at h1
    rw [ok_node] at h3
    refine iteF rfl ?_
    refine ix (xs := [.str x, .tup (dvs ts)]) rfl rfl ?_
    refine ⟨((rs, m0), m, x), rfl, .cons (tuD_nr _ _ _) (.cons (.str _) (.cons (.str _) .nil)), trivial, ?_⟩
    rintro d - rfl
    cases e : rule rs m x with
    | none =>
      rw [trnT_none e] at fin h4
      refine isNon ?_
      refine ix (xs := [.str x, .tup (dvs ts)]) rfl rfl ?_
      refine ⟨((rs, m0), m, ts), rfl, .cons (tuD_nr _ _ _) (.cons (.str _) (.cons (.tup (nrs _)) .nil)), ⟨by show 6 * deps ts + 4 < n; omega, h2, h3.2, h4⟩, ?_⟩
      rintro d - rfl
      exact fin
    | some ps =>
      rw [trnT_some e] at fin h4
      obtain ⟨q1, q2, q3, q4⟩ := rule_ok h2.1 e
      rw [decide_eq_false (nm_ne h3.1)] at q1
      refine isN (by simp [rulD]) ?_
      refine ix (xs := [.str x, .tup (dvs ts)]) rfl rfl ?_
      refine ⟨((rs, m0), ps, ts), rfl, .cons (tuD_nr _ _ _) (.cons (.tup (pnrs _)) (.cons (.tup (nrs _)) .nil)), ⟨by show 6 * deps ts + 5 + pdep ps < n; omega, h2, ⟨q1, h3.2⟩, h4⟩, ?_⟩
      rintro d - rfl
      exact fin
theorem p_turned {C : Addr} : PL Nturned (Wturned C 60) (D2.Spec.fn (A_turned C) P_turned R_turned) := by
  rintro ⟨⟨rs, m⟩, t⟩ ⟨h1, h2, h3, h4⟩
  show Wturned C 60 _ [some (tuD C rs m), some t.dv] []
  generalize hD : ({ nx := _, rt := _ } : DEnds) = D
  have fin : D.rt (tups (trnT rs t m)) [] := by
    rw [← hD]
    exact back_fn (args := A_turned C) (pre := P_turned) (F := R_turned) (i := ((rs, m), t)) (.tup (nrs _)) rfl
  clear hD
  refine ⟨rfl, _, rfl, ?_⟩
  refine ⟨((rs, m), m, t), rfl, .cons (tuD_nr _ _ _) (.cons (.str _) (.cons (Th.nr _) .nil)), ⟨h1, h2, h3, h4⟩, ?_⟩
  rintro d - rfl
  exact fin
theorem p_made_document {C : Addr} : PL Nmade_document (Wmade_document C) (D2.Spec.fn (A_made_document C) P_made_document R_made_document) := by
  rintro ⟨⟨rs, m⟩, t⟩ h
  have h : P_turned ((rs, m), t) := h
  show Wmade_document C _ [some (tuD C rs m), some t.dv, none] []
  generalize hD : ({ nx := _, rt := _ } : DEnds) = D
  have fin : D.rt (docD (trnT rs t m)) [] := by
    rw [← hD]
    refine back_fn (args := A_made_document C) (pre := P_made_document) (F := R_made_document) (i := ((rs, m), t)) ?_ rfl
    unfold docD
    split
    · exact Th.nr _
    · exact .non
  clear hD
  refine ⟨((rs, m), t), rfl, .cons (tuD_nr _ _ _) (.cons (Th.nr _) .nil), h, ?_⟩
  rintro d - rfl
  generalize trnT rs t m = F at fin
  match F, fin with
  | [], fin =>
    refine len (xs := []) rfl ?_
    refine eqI ?_
    exact fin
  | [.txt s], fin =>
    refine len (xs := dvs [.txt s]) rfl ?_
    refine eqI ?_
    rw [dvs_one, dv_txt]
    refine ix (xs := [.str s]) rfl rfl ?_
    exact fin
  | [.node n ts], fin =>
    have fin : D.rt (Th.node n ts).dv [] := fin
    refine len (xs := dvs [.node n ts]) rfl ?_
    refine eqI ?_
    rw [dvs_one]
    rw [dv_node] at *
    refine ix (xs := [.tup [.str n, .tup (dvs ts)]]) rfl rfl ?_
    refine ix (xs := [.tup [.str n, .tup (dvs ts)]]) rfl rfl ?_
    exact fin
  | a :: b :: F, fin =>
    have fin : D.rt .non [] := by cases a <;> exact fin
    refine len (xs := dvs (a :: b :: F)) rfl ?_
    refine eqI ?_
    have e : ((dvs (a :: b :: F)).length : Int) ≠ 1 := by rw [dvs_len]; simp; omega
    rw [decide_eq_false e]
    exact fin
end K51

namespace K51
open PySem PySem.Spec PyProof.Rows L2 D2 K02
open K75 (drop_at at0 at1 at2 eqSt eqSf dvs_at dvs_one size_at dep_at nr2 size_node dep_node ok_node)
theorem tb_nr (rs : List Ru) : Nr (tbD rs) := .dic (Nrs.of fun d hd => by
  obtain ⟨r, _, rfl⟩ := List.mem_map.mp hd
  exact .tup (pnrs _))
theorem dicT_rule (m l : Str) : ∀ rs : List Ru, dicT (rs.map Ru.key) (rs.map fun r => .tup (pdv r.ps)) [.inr m, .inr l] = (rule rs m l).map fun ps => .tup (pdv ps)
  | [] => rfl
  | r :: rs => by
    simp only [List.map_cons, dicT, rule]
    by_cases h : r.mode = m ∧ r.letter = l
    · rw [if_pos h, if_pos (by rw [Ru.key, h.1, h.2])]
      rfl
    · rw [if_neg h, if_neg (fun q => h (by simp only [Ru.key, List.cons.injEq, Sum.inr.injEq] at q; exact ⟨q.1, q.2.1⟩)), dicT_rule m l rs]
theorem p_law_dict : PL N_law_dict W_law_dict (D2.Spec.fn A_law_dict P_law_dict R_law_dict) := by
  rintro (rs : List Ru) ⟨h1, h2⟩
  have h1 : (rs.map Ru.key).Nodup := h1
  have h2 : rs.length ≤ 30 := h2
  show W_law_dict _ [some (.tup (rs.map Ru.dv)), none, none, none] []
  generalize hD : ({ nx := _, rt := _ } : DEnds) = D
  have fin : D.rt (tbD rs) [] := by
    rw [← hD]
    exact back_fn (args := A_law_dict) (pre := P_law_dict) (F := R_law_dict) (i := rs) (tb_nr rs) rfl
  clear hD
  refine lc_all (xs := rs.map Ru.dv) (R := fun st => st = []) (P := fun i y => ∃ r, rs[i]? = some r ∧ y = .tup [.tuk [.str r.mode, .str r.letter], .tup (pdv r.ps)]) rfl (line64 (by rw [List.length_map]; omega)) (fun i x st' e hR => ?_) ?_
  · subst hR
    rw [List.getElem?_map] at e
    obtain ⟨r, e1, rfl⟩ := Option.map_eq_some_iff.mp e
    refine ⟨_, rfl, fun Q' q => ?_⟩
    refine And.intro (show 2 ≤ sizeLine by decide) ?_
    refine And.intro (show 2 ≤ sizeLine by decide) ?_
    exact q _ _ ⟨r, e1, rfl⟩ rfl
  · rintro ys st' rfl hl hy
    have e : ys = rs.map fun r => Dv.tup [.tuk [.str r.mode, .str r.letter], .tup (pdv r.ps)] := by
      apply List.ext_getElem?
      intro i
      rw [List.getElem?_map]
      cases e : ys[i]? with
      | none =>
        have := List.getElem?_eq_none_iff.mp e
        rw [List.length_map] at hl
        rw [List.getElem?_eq_none_iff.mpr (by omega)]
        rfl
      | some y =>
        obtain ⟨r, e1, rfl⟩ := hy i y e
        rw [e1]
        rfl
    refine ⟨rs.map fun r => (r.key, .tup (pdv r.ps)), ?_, ?_, ?_⟩
    · rw [e, List.map_map]
      rfl
    · rw [List.map_map]
      exact h1
    · rw [List.map_map, List.map_map]
      exact fin
theorem trnF_em (rs : List Ru) : trnF rs [] = fun _ => [] := by
  funext m
  exact trnF_nil rs m
theorem p_law_made (n : Nat) : PL N_law_made (W_law_made n) (D2.Spec.fn A_law_made (P_law_made (n + 1)) R_law_made) := by
  rintro ⟨rs, m, t⟩ ⟨h1, h2, h3, h4⟩
  have h1 : 6 * t.dep + 5 < n + 1 := h1
  have h2 : RsOk rs := h2
  have h3 : t.ok := h3
  have h4 : sizes (trnT rs t m) ≤ 100000 := h4
  show W_law_made n _ [some (tbD rs), some (.str m), some t.dv] []
  generalize hD : ({ nx := _, rt := _ } : DEnds) = D
  have fin : D.rt (tups (trnT rs t m)) [] := by
    rw [← hD]
    exact back_fn (args := A_law_made) (pre := P_law_made (n + 1)) (F := R_law_made) (i := (rs, m, t)) (.tup (nrs _)) rfl
  clear hD
  have go : ∀ ps x ts, fm ts + pdep ps < n → oks ts → trnT rs t m = fillP x (trnF rs ts) ps → ∃ i : List Ru × List Pt × Str × List Th, [tbD rs, Dv.tup (pdv ps), .str x, .tup (dvs ts)] = A_law_filled i ∧ Nrs [tbD rs, Dv.tup (pdv ps), .str x, .tup (dvs ts)] ∧ P_law_filled n i ∧ ∀ d, Nr d → R_law_filled i d → D.rt d [] := fun ps x ts q1 q2 e => by
    refine ⟨(rs, ps, x, ts), rfl, .cons (tb_nr rs) (.cons (.tup (pnrs _)) (.cons (.str _) (.cons (.tup (nrs _)) .nil))), ⟨q1, h2, q2, by rw [e] at h4; exact h4⟩, ?_⟩
    rintro d - rfl
    rw [e] at fin
    exact fin
  cases t with
  | txt s =>
    rw [dv_txt]
    refine iteT rfl ?_
    refine ⟨_, _, rfl, show 2 ≤ sizeLine by decide, [.inr m, .inr ""], rfl, Nat.zero_le _, Nat.zero_le _, ?_⟩
    rw [dicT_rule]
    cases e : rule rs m "" with
    | none => exact go [] s [] (by simp [fm, pdep]; omega) (by simp [oks]) (by rw [trnT_txt, e, trnF_em]; rfl)
    | some ps => exact go ps s [] (by have := (rule_ok h2.1 e).2.1; simp [fm]; omega) (by simp [oks]) (by rw [trnT_txt, e, trnF_em]; rfl)
  | node x ts =>
    rw [dv_node]
    rw [dep_node] at h1
    rw [ok_node] at h3
    have hf : fm ts ≤ 6 * deps ts + 6 := by cases ts <;> simp [fm]
    refine iteF rfl ?_
    refine ⟨_, _, rfl, ?_⟩
    refine ix (xs := [.str x, .tup (dvs ts)]) rfl rfl ?_
    refine ⟨show 2 ≤ sizeLine by decide, [.inr m, .inr x], rfl, show 2 ≤ sizeLine by decide, show 1 ≤ sizeLine by decide, ?_⟩
    refine ix (xs := [.str x, .tup (dvs ts)]) rfl rfl ?_
    rw [dicT_rule]
    cases e : rule rs m x with
    | none =>
      have q := go [.go m] "" ts (by simp [pdep, Pt.dep]; omega) h3.2 (by rw [trnT_none e, fillP_cons, fo_go, fillP_nil, List.append_nil])
      simp only [pdv, Pt.dv] at q
      exact q
    | some ps => exact go ps "" ts (by have := (rule_ok h2.1 e).2.1; omega) h3.2 (by rw [trnT_some e])
theorem p_law_filled (n : Nat) : PL N_law_filled (W_law_filled n) (D2.Spec.fn A_law_filled (P_law_filled (n + 1)) R_law_filled) := by
  rintro ⟨rs, ps, x, ts⟩ ⟨h1, h2, h3, h4⟩
  have h1 : fm ts + pdep ps < n + 1 := h1
  have h2 : RsOk rs := h2
  have h3 : oks ts := h3
  have h4 : sizes (fillP x (trnF rs ts) ps) ≤ 100000 := h4
  show W_law_filled n _ [some (tbD rs), some (.tup (pdv ps)), some (.str x), some (.tup (dvs ts)), none, none, none] []
  generalize hD : ({ nx := _, rt := _ } : DEnds) = D
  have fin : ∀ st, D.rt (tups (fillP x (trnF rs ts) ps)) st := fun st => by
    rw [← hD]
    exact back_all (args := A_law_filled) (pre := P_law_filled (n + 1)) (F := R_law_filled) (i := (rs, ps, x, ts)) (.tup (nrs _)) rfl
  clear hD
  refine And.intro (show 0 ≤ sizeLine from Nat.zero_le _) ?_
  refine Exists.intro (fun i σ st => ∃ (c : Nat) (v5 v6 : Option Dv) (A : List Th), σ = [some (tbD rs), some (.tup (pdv ps)), some (.str x), some (.tup (dvs ts)), some (.ref c), v5, v6] ∧ st[c]? = some (.lst (dvs A)) ∧ fillP x (trnF rs ts) ps = A ++ fillP x (trnF rs ts) (ps.drop i)) ?_
  refine And.intro ⟨0, none, none, [], rfl, rfl, by simp⟩ ?_
  refine And.intro (fun i σ' st' _ n e => nomatch e) ?_
  refine And.intro (fun i d σ' st' e hI => ?_) ?_
  · obtain ⟨c, v5, v6, A, rfl, hc, hA⟩ := hI
    obtain ⟨p, e1, rfl⟩ := pdv_at e
    have hp := List.mem_of_getElem? e1
    have hcl := (List.getElem?_eq_some_iff.mp hc).1
    rw [drop_at e1, fillP_cons, ← List.append_assoc] at hA
    have hd := pdep_mem hp
    have hA2 : sizes A + sizes (fillOne x (trnF rs ts) p) ≤ 100000 := by
      rw [hA, sizes_app, sizes_app] at h4
      omega
    have hA3 : A.length < sizeLine := Nat.lt_of_lt_of_le (show A.length < 100001 by have := len_sizes A; omega) (by decide)
    refine ⟨_, rfl, ?_⟩
    have app : ∀ (st2 : Sto) (t : Th), st2[c]? = some (.lst (dvs A)) → (st2.set c (.lst (dvs A ++ [t.dv])))[c]? = some (.lst (dvs (A ++ [t]))) := fun st2 t q => by
      have := (List.getElem?_eq_some_iff.mp q).1
      rw [List.getElem?_set_self this, dvs_app, dvs_one]
    cases p with
    | node s qs =>
      rw [fo_node] at hA hA2
      rw [pdep_node] at hd
      have hz : sizes (fillP x (trnF rs ts) qs) ≤ 100000 := by simp [sizes, size_node] at hA2; omega
      rw [pdv_node]
      refine ix (xs := [.str "node", .str s, .tup (pdv qs)]) rfl rfl ?_
      refine eqSt ?_
      refine ix (xs := [.str "node", .str s, .tup (pdv qs)]) rfl rfl ?_
      refine ix (xs := [.str "node", .str s, .tup (pdv qs)]) rfl rfl ?_
      refine ⟨(rs, qs, x, ts), rfl, .cons (tb_nr rs) (.cons (.tup (pnrs _)) (.cons (.str _) (.cons (.tup (nrs _)) .nil))), ⟨by show fm ts + pdep qs < n; omega, h2, h3, hz⟩, ?_⟩
      rintro d - rfl
      refine And.intro (show 2 ≤ sizeLine by decide) ?_
      refine ⟨dvs A, hc, by rw [dvs_len]; exact hA3, c, some (.tup [.str "node", .str s, .tup (pdv qs)]), v6, A ++ [.node s (fillP x (trnF rs ts) qs)], rfl, ?_, hA⟩
      have q := app st' (.node s (fillP x (trnF rs ts) qs)) hc
      rw [dv_node] at q
      exact q
    | say s =>
      rw [fo_say] at hA hA2
      rw [pdv_say]
      refine ix (xs := [.str "say", .str s]) rfl rfl ?_
      refine eqSf (by decide +kernel) ?_
      refine ix (xs := [.str "say", .str s]) rfl rfl ?_
      refine eqSf (by decide +kernel) ?_
      refine ix (xs := [.str "say", .str s]) rfl rfl ?_
      refine eqSf (by decide +kernel) ?_
      refine ix (xs := [.str "say", .str s]) rfl rfl ?_
      refine ⟨dvs A, hc, by rw [dvs_len]; exact hA3, c, some (.tup [.str "say", .str s]), v6, A ++ [.txt s], rfl, ?_, hA⟩
      have q := app st' (.txt s) hc
      rw [dv_txt] at q
      exact q
    | keep =>
      rw [fo_keep] at hA hA2
      rw [pdv_keep]
      refine ix (xs := [.str "keep"]) rfl rfl ?_
      refine eqSf (by decide +kernel) ?_
      refine ix (xs := [.str "keep"]) rfl rfl ?_
      refine eqSf (by decide +kernel) ?_
      refine ix (xs := [.str "keep"]) rfl rfl ?_
      refine eqSt ?_
      refine ⟨dvs A, hc, by rw [dvs_len]; exact hA3, c, some (.tup [.str "keep"]), v6, A ++ [.txt x], rfl, ?_, hA⟩
      have q := app st' (.txt x) hc
      rw [dv_txt] at q
      exact q
    | go m =>
      rw [fo_go] at hA hA2
      rw [pdv_go]
      refine ix (xs := [.str "go", .str m]) rfl rfl ?_
      refine eqSf (by decide +kernel) ?_
      refine ix (xs := [.str "go", .str m]) rfl rfl ?_
      refine eqSt ?_
      refine Exists.intro (fun j σ st => ∃ (c : Nat) (v6 : Option Dv) (B : List Th), σ = [some (tbD rs), some (.tup (pdv ps)), some (.str x), some (.tup (dvs ts)), some (.ref c), some (.tup [.str "go", .str m]), v6] ∧ st[c]? = some (.lst (dvs (A ++ B))) ∧ trnF rs ts m = B ++ trnF rs (ts.drop j) m) ?_
      refine And.intro ⟨c, v6, [], rfl, by rw [List.append_nil]; exact hc, by simp⟩ ?_
      refine And.intro (fun i σ' st' _ n e => nomatch e) ?_
      refine And.intro (fun j d σ2 st2 e hI => ?_) ?_
      · obtain ⟨c2, w6, B, rfl, hc2, hB⟩ := hI
        obtain ⟨t, e2, rfl⟩ := dvs_at' e
        have ht := List.mem_of_getElem? e2
        have hdt := dep_at e2
        have hft : fm ts = 6 * deps ts + 6 := by
          cases ts with
          | nil => simp at ht
          | cons a b => rfl
        rw [drop_at e2, trnF_cons, ← List.append_assoc] at hB
        have hz : sizes A + sizes B + sizes (trnT rs t m) ≤ 100000 := by
          rw [hB, sizes_app, sizes_app] at hA2
          omega
        refine ⟨_, rfl, ?_⟩
        refine ix (xs := [.str "go", .str m]) rfl rfl ?_
        refine ⟨(rs, m, t), rfl, .cons (tb_nr rs) (.cons (.str _) (.cons (Th.nr _) .nil)), ⟨by show 6 * t.dep + 5 < n; omega, h2, oks_mem h3 _ ht, by show sizes (trnT rs t m) ≤ 100000; omega⟩, ?_⟩
        rintro d - rfl
        refine ⟨dvs (trnT rs t m), rfl, ?_⟩
        refine ⟨dvs (A ++ B), dvs (trnT rs t m), by simp only [lsuD, hc2], rfl, line5 (by rw [dvs_len, dvs_len, List.length_append]; have := len_sizes A; have := len_sizes B; have := len_sizes (trnT rs t m); omega), ?_⟩
        refine ⟨st2.length, some t.dv, B ++ trnT rs t m, rfl, ?_, hB⟩
        rw [← List.append_assoc, dvs_app (A ++ B)]
        simp
      · rintro σ2 st2 ⟨c2, w6, B, rfl, hc2, hB⟩
        rw [dvs_len, List.drop_length, trnF_nil, List.append_nil] at hB
        rw [hB] at hA
        exact ⟨c2, _, w6, A ++ B, rfl, hc2, hA⟩
  · rintro σ' st' ⟨c, v5, v6, A, rfl, hc, hA⟩
    rw [pdv_len, List.drop_length, fillP_nil, List.append_nil] at hA
    refine tupL (xs := dvs A) (by simp only [lstD, hc]) ?_
    rw [← hA]
    exact fin _
end K51

namespace K51
open PySem PySem.Spec PyProof.Rows L2 D2 K02
open K75 (drop_at at0 at1 at2 eqSt eqSf dvs_at dvs_one size_at dep_at nr2 size_node dep_node ok_node)
theorem p_law_any : PL N_law_any W_law_any (D2.Spec.dr A_law_any P_law_any R_law_any) := p_anyC 89
theorem p_law_deal : PL N_law_deal W_law_deal S_law_deal := by
  intro (ns : List Int) hl
  have hl : ns.length ≤ 63 := hl
  show W_law_deal _ [some (.fro (ns.map Dv.int)), some (.int 51), none, none, none] []
  generalize hD : ({ nx := _, rt := _ } : DEnds) = D
  have fin : ∀ b cs, okD b cs → D.rt (.ref 1) (DSt b cs []) := fun b cs h => by
    rw [← hD]
    exact .inl ⟨⟨rfl, b, cs, h, rfl⟩, Nat.zero_le _⟩
  clear hD
  refine Exists.intro _ (And.intro rfl ?_)
  refine lc_all (xs := cutD (ns.map Dv.int) none (some 63)) (R := fun st => st = []) (P := fun _ y => ∃ c : Int, 0 ≤ c ∧ y = .int c) rfl (line64 (Nat.le_trans (cutD_le _ _ _) (by simp; omega))) (fun i x st' e hR => ?_) ?_
  · subst hR
    obtain ⟨c, _, rfl⟩ := List.mem_map.mp (cutD_mem (List.mem_of_getElem? e))
    exact ⟨_, rfl, fun Q' q => q _ _ ⟨_, by split <;> omega, rfl⟩ rfl⟩
  · rintro ys st' rfl hlen hP
    have hlen : ys.length ≤ 63 := by
      have := cutD_le (ns.map Dv.int) none (some 63)
      simp at this
      omega
    obtain ⟨cs, rfl, hcs⟩ := ints_of (P := fun c => 0 ≤ c) (mem_at hP)
    have hlen : cs.length ≤ 63 := by simpa using hlen
    refine mulI (.inr (show -(2 ^ 64) < (51 : Int) ∧ (51 : Int) < 2 ^ 64 by decide)) ?_
    refine addI ?_
    refine Exists.intro (fun _ σ st => ∃ v b, σ = [some (.fro (ns.map Dv.int)), some (.int 51), some (.rol (cs.map Dv.int)), v, some (.int b)] ∧ 0 ≤ b ∧ b < 2147483647 ∧ st = []) ?_
    refine And.intro ⟨_, _, rfl, by decide, by decide, rfl⟩ ?_
    refine And.intro (fun i σ' st' _ n e => nomatch e) ?_
    refine And.intro (fun i x σ' st' e hI => ?_) ?_
    · obtain ⟨v, b, rfl, h1, h2, rfl⟩ := hI
      obtain ⟨c, hc, rfl⟩ := List.mem_map.mp (List.mem_of_getElem? e)
      refine ⟨_, rfl, ?_⟩
      refine mulI (.inr (show -(2 ^ 64) < (48271 : Int) ∧ (48271 : Int) < 2 ^ 64 by decide)) ?_
      refine modI (by decide) ?_
      refine addI ?_
      refine addI ?_
      refine modI (by decide) ?_
      exact ⟨_, _, rfl, by omega, by omega, rfl⟩
    · rintro σ' st' ⟨v, b, rfl, h1, h2, rfl⟩
      refine lc_some (xs := cs.map Dv.int) (R := fun st => st = []) (P := fun y => ∃ c : Int, 0 ≤ c ∧ y = .int c) rfl (line64 (by simp; omega)) (fun i x st' e hR => ?_) ?_
      · subst hR
        obtain ⟨c, hc, rfl⟩ := List.mem_map.mp (List.mem_of_getElem? e)
        refine ⟨_, rfl, fun QT q0 q1 => ?_⟩
        refine powI ⟨by decide, by decide, by decide⟩ ?_
        refine opB2 ?_
        cases hk : decide ((10 : Int) ^ (18 : Int).toNat ≤ c) with
        | true => exact q1 _ rfl fun Q' q => q _ _ ⟨c, hcs c hc, rfl⟩ rfl
        | false => exact q0 _ rfl
      · rintro ys st' rfl hl2 hP2
        obtain ⟨ds, rfl, hds⟩ := ints_of (P := fun c => 0 ≤ c) hP2
        have hl3 : ds.length ≤ 63 := by simp at hl2; omega
        refine Exists.intro (ds.map Dv.int) (And.intro rfl ?_)
        refine And.intro (show 2 ≤ sizeLine by decide) ?_
        have f := fin b ds.reverse ⟨h1, h2, fun c hc => hds c (by simpa using hc), by simpa using hl3⟩
        have e : DSt b ds.reverse [] = ([] : Sto) ++ [.lst (ds.map Dv.int).reverse] ++ [.lst [.ref 0, .int b]] := by simp [DSt]
        rw [e] at f
        exact f
/-! ### draws with other cells -/
theorem of1 {rest st : Sto} {Q : DK} (ns : List Str) (h0 : 0 < ns.length) (h1 : ns.length ≤ 1000) (hd : Dr rest st) (q : ∀ s st', s ∈ ns → Dr rest st' → Q (.str s) st') : ∃ rest2 i, Dr rest2 st ∧ [Dv.ref 1, .rol (ns.map Dv.str)] = .ref 1 :: A_law_of i ∧ P_law_of rest2 i ∧ ∀ d st2, Dr rest2 st2 → R_law_of i d → Q d st2 := by
  refine ⟨rest, (.rol (ns.map Dv.str), ns.map Dv.str), hd, rfl, ⟨rfl, by simpa using h0, by simpa using h1⟩, fun d st2 hd2 hq => ?_⟩
  obtain ⟨s, hs, rfl⟩ := List.mem_map.mp hq
  exact q s st2 hs hd2
theorem set_same {l : Sto} {c : Nat} {x : Co} (h : l[c]? = some x) : l.set c x = l := by
  apply List.ext_getElem?
  intro i
  rw [List.getElem?_set]
  grind
abbrev RR (rest : Sto) (c k : Nat) (xs : List Dv) : Sto := rest.set c (.lst [nat k]) ++ [.lst xs]
theorem rr_room {rest : Sto} {c k : Nat} {xs : List Dv} (h : c < rest.length) : (RR rest c k xs)[c]? = some (.lst [nat k]) := by
  rw [List.getElem?_append_left (by simpa using h), List.getElem?_set_self h]
theorem rr_own {rest : Sto} {c k : Nat} {xs : List Dv} : (RR rest c k xs)[rest.length]? = some (.lst xs) := by
  rw [List.getElem?_append_right (by simp)]
  simp
theorem rr_set_room {rest : Sto} {c k j : Nat} {xs : List Dv} (h : c < rest.length) : (RR rest c k xs).set c (.lst [nat j]) = RR rest c j xs := by
  rw [List.set_append_left _ _ (by simpa using h), List.set_set]
theorem rr_set_own {rest : Sto} {c k : Nat} {xs ys : List Dv} : (RR rest c k xs).set rest.length (.lst ys) = RR rest c k ys := by
  rw [List.set_append_right _ _ (by simp)]
  simp
theorem cel_one {i : Int} : Nrs [.int i] := .cons (.int _) .nil
theorem cel_set {rest : Sto} {c k : Nat} (h : CelN rest) : CelN (rest.set c (.lst [nat k])) := fun x hx => by
  rcases List.mem_or_eq_of_mem_set hx with h1 | rfl
  · exact h x h1
  · exact ⟨_, rfl, cel_one⟩
theorem cel_app {rest : Sto} {xs : List Dv} (h : CelN rest) (n : Nrs xs) : CelN (rest ++ [.lst xs]) := fun x hx => by
  rcases List.mem_append.mp hx with h1 | h1
  · exact h x h1
  · simp at h1
    exact ⟨_, h1, n⟩
/-- the end of a def that forgets cells -/
theorem back_room {P : Dv → Sto → Prop} {b : Int} {cs : List Int} {R G : Sto} {d : Dv} {k0 : Nat} (hR : CelN R) (n : Nr d) (hk : k0 ≤ R.length + 2) (h : P d (DSt b cs R)) : Back k0 P d (DSt b cs (R ++ G)) := by
  refine .inr ⟨DSt b cs R, d, ⟨by simp [DSt], fun i xs hn e => ?_, n.fz⟩, hk, h⟩
  match i with
  | 0 =>
    cases e
    exact ⟨_, rfl, (Nr.ints cs).fz⟩
  | 1 =>
    cases e
    exact ⟨_, rfl, .cons (.ref 0 (by simp [DSt])) (.cons (.int b) .nil)⟩
  | i + 2 =>
    have hi : i < R.length := by simp [DSt] at hn; omega
    have e : (R ++ G)[i]? = some (.lst xs) := e
    rw [List.getElem?_append_left hi] at e
    obtain ⟨ys, e1, e2⟩ := hR _ (List.mem_of_getElem? e)
    cases e1
    exact ⟨xs, e, e2.fz⟩
theorem pdv_app : ∀ (a : List Pt) (p : Pt), pdv (a ++ [p]) = pdv a ++ [p.dv] := fun a p => by simp [pdv_map]
theorem goes_app : ∀ (a : List Pt) (p : Pt), goes (a ++ [p]) = goes a + p.goes
  | [], p => by simp [goes]
  | q :: a, p => by simp only [List.cons_append, goes, goes_app a p]; omega
theorem psize_app : ∀ (a : List Pt) (p : Pt), psize (a ++ [p]) = psize a + p.size
  | [], p => by simp [psize]
  | q :: a, p => by simp only [List.cons_append, psize, psize_app a p]; omega
theorem pdep_app : ∀ (a : List Pt) (p : Pt), pdep (a ++ [p]) = max (pdep a) p.dep
  | [], p => by simp [pdep]
  | q :: a, p => by simp only [List.cons_append, pdep, pdep_app a p]; omega
theorem pok_app {k : Bool} : ∀ {a : List Pt} {p : Pt}, pok k a → p.ok k → pok k (a ++ [p])
  | [], p, _, h => by simp [pok, h]
  | q :: a, p, h1, h2 => by
    simp only [List.cons_append, pok] at *
    exact ⟨h1.1, pok_app h1.2 h2⟩
theorem ifC {c : Bool} {x y : Dv} {σ : En} {st : Sto} {Q : DK} (q : Q (if c = true then x else y) st) : if c = true then wC x σ st Q else wC y σ st Q := by
  cases c <;> exact q
def bz : Nat → Nat
  | 0 => 1
  | n + 1 => PB n + 1
theorem txS : ∀ s ∈ (["", "s", "x 1"] : List Str), TxOk s := by
  intro s hs
  simp only [List.mem_cons, List.not_mem_nil, or_false] at hs
  rcases hs with rfl | rfl | rfl <;> exact ⟨by decide +kernel, by decide +kernel⟩
theorem txT : ∀ s ∈ (["", "t", "b 2"] : List Str), TxOk s := by
  intro s hs
  simp only [List.mem_cons, List.not_mem_nil, or_false] at hs
  rcases hs with rfl | rfl | rfl <;> exact ⟨by decide +kernel, by decide +kernel⟩
theorem bz_pos (n : Nat) : 1 ≤ bz n := by cases n <;> simp [bz]
theorem p_law_parts (n : Nat) : PL N_law_parts (W_law_parts n) (S_law_parts (n + 1)) := by
  rintro ⟨⟨b, cs, rest⟩, ⟨c, k0⟩, ms, ns, letter, deep⟩ ⟨h1, ok, hC, hc, ⟨m1, m2⟩, ⟨n1, n2, n3⟩, h2⟩
  have h1 : deep < n + 1 := h1
  have ok : okD b cs := ok
  have hC : CelN rest := hC
  have hc : rest[c]? = some (.lst [nat k0]) := hc
  have hcl := (List.getElem?_eq_some_iff.mp hc).1
  have m1 : 0 < ms.length := m1
  have m2 : ms.length ≤ 100 := m2
  have n1 : 0 < ns.length := n1
  have n2 : ns.length ≤ 100 := n2
  have n3 : ∀ s ∈ ns, NmOk s := n3
  have h2 : deep ≤ 2 := h2
  show W_law_parts n _ [some (.ref 1), some (.rol (ms.map Dv.str)), some (.rol (ns.map Dv.str)), some (.str letter), some (nat deep), some (.ref (c + 2)), none, none, none] (DSt b cs rest)
  generalize hD : ({ nx := _, rt := _ } : DEnds) = D
  have fin : ∀ (k : Nat) (ps : List Pt) (xs : List Dv) (st : Sto), Dr (RR rest c k xs) st → k + goes ps = k0 → pok (decide (letter = "")) ps → pdep ps ≤ deep → psize ps ≤ PB deep → D.rt (.tup (pdv ps)) st := fun k ps xs st hd q1 q2 q3 q4 => by
    obtain ⟨b2, cs2, ok2, rfl⟩ := hd
    rw [← hD]
    refine back_room (cel_set hC) (.tup (pnrs ps)) ?_ ⟨b2, cs2, k, ps, ok2, rfl, q1, q2, q3, q4, rfl⟩
    show (DSt b cs rest).length ≤ _
    rw [List.length_set]
    exact Nat.le_refl _
  clear hD
  refine And.intro (show 0 ≤ sizeLine from Nat.zero_le _) ?_
  have hd0 : Dr (RR rest c k0 []) (DSt b cs rest ++ [.lst []]) := ⟨b, cs, ok, by rw [RR, set_same hc]; rfl⟩
  refine opB2 ?_
  refine ifC ?_
  obtain ⟨bd, e, b0, b4, bz4⟩ : ∃ bd : Nat, (if decide (0 < (deep : Int)) = true then Dv.int 4 else Dv.int 3) = .int bd ∧ 0 < bd ∧ bd ≤ 4 ∧ (∀ r, r < bd → r * bz deep ≤ PB deep) := by
    cases deep with
    | zero => exact ⟨3, rfl, by decide, by decide, fun r hr => by simp only [bz, PB]; omega⟩
    | succ m => exact ⟨4, if_pos (decide_eq_true (by omega)), by decide, by decide, fun r hr => Nat.mul_le_mul_right _ (show r ≤ 3 by omega)⟩
  rw [e]
  refine one bd rfl b0 (by omega) hd0 fun r st1 hr hd1 => ?_
  have hrz := bz4 r hr
  clear bz4 e
  refine And.intro ⟨by omega, by omega⟩ ?_
  rw [show ((r : Nat) : Int).toNat = r from Int.toNat_natCast _]
  refine Exists.intro (fun i σ st => ∃ (v7 v8 : Option Dv) (k : Nat) (ps : List Pt), σ = [some (.ref 1), some (.rol (ms.map Dv.str)), some (.rol (ns.map Dv.str)), some (.str letter), some (nat deep), some (.ref (c + 2)), some (.ref (rest.length + 2)), v7, v8] ∧ Dr (RR rest c k (pdv ps)) st ∧ k + goes ps = k0 ∧ pok (decide (letter = "")) ps ∧ pdep ps ≤ deep ∧ psize ps ≤ i * bz deep) ?_
  refine And.intro ⟨none, none, k0, [], rfl, hd1, by simp [goes], by simp [pok], by simp [pdep], by simp [psize]⟩ ?_
  refine And.intro (fun i σ' st' _ n e => nomatch e) ?_
  refine And.intro (fun i d σ' st' e hI => ?_) ?_
  · obtain ⟨v7, v8, k, ps, rfl, hd, hk, hp, hq, hz⟩ := hI
    obtain ⟨hi, rfl⟩ := rng_at e
    refine ⟨_, rfl, ?_⟩
    have hlen : ps.length < sizeLine := by
      have := pt_len ps
      have : PB deep ≤ 30 := by
        match deep, h2 with
        | 0, _ => decide
        | 1, _ => decide
        | 2, _ => decide
      have : i * bz deep ≤ r * bz deep := Nat.mul_le_mul_right _ (by omega)
      exact Nat.lt_of_lt_of_le (show ps.length < 31 by omega) (by decide)
    have add : ∀ (st2 : Sto) (k' : Nat) (p : Pt) (w7 w8 : Option Dv), Dr (RR rest c k' (pdv ps)) st2 → k' + p.goes = k → p.ok (decide (letter = "")) → p.dep ≤ deep → p.size ≤ bz deep → ∃ xs, st2[rest.length + 2]? = some (.lst xs) ∧ xs.length < sizeLine ∧ ∃ (v7 v8 : Option Dv) (k : Nat) (ps : List Pt), [some (Dv.ref 1), some (.rol (ms.map Dv.str)), some (.rol (ns.map Dv.str)), some (.str letter), some (nat deep), some (.ref (c + 2)), some (.ref (rest.length + 2)), w7, w8] = [some (.ref 1), some (.rol (ms.map Dv.str)), some (.rol (ns.map Dv.str)), some (.str letter), some (nat deep), some (.ref (c + 2)), some (.ref (rest.length + 2)), v7, v8] ∧ Dr (RR rest c k (pdv ps)) (st2.set (rest.length + 2) (.lst (xs ++ [p.dv]))) ∧ k + goes ps = k0 ∧ pok (decide (letter = "")) ps ∧ pdep ps ≤ deep ∧ psize ps ≤ (i + 1) * bz deep := fun st2 k' p w7 w8 hd2 q1 q2 q3 q4 => by
      refine ⟨pdv ps, dr_get (by omega) hd2 rr_own, by rw [pdv_len]; exact hlen, w7, w8, k', ps ++ [p], rfl, ?_, by rw [goes_app]; omega, pok_app hp q2, by rw [pdep_app]; omega, by rw [psize_app, Nat.add_mul]; omega⟩
      have := dr_set (x := .lst (pdv ps ++ [p.dv])) (show 2 ≤ rest.length + 2 by omega) hd2
      rw [show rest.length + 2 - 2 = rest.length by omega, rr_set_own] at this
      rw [pdv_app]
      exact this
    refine one 6 rfl (by decide) (by decide) hd fun so st2 hso hd2 => ?_
    have hroom := dr_get (c := c + 2) (by omega) hd2 (rr_room (rest := rest) (k := k) (xs := pdv ps) hcl)
    refine opB2 ?_
    rcases (show (so < 2 ∧ 0 < deep) ∨ (so < 2 ∧ ¬ 0 < deep) ∨ ¬ so < 2 by omega) with h | h | h
    · obtain ⟨m, rfl⟩ : ∃ m, deep = m + 1 := ⟨deep - 1, by omega⟩
      refine iteT (decide_eq_true (by omega)) ?_
      refine opB2 ?_
      refine iteT (decide_eq_true (by omega)) ?_
      refine of1 ns n1 (by omega) hd2 fun s st3 hs hd3 => ?_
      refine subI ?_
      rw [show ((m + 1 : Nat) : Int) - 1 = ((m : Nat) : Int) by omega]
      obtain ⟨b3, cs3, ok3, rfl⟩ := hd3
      refine ⟨((b3, cs3, RR rest c k (pdv ps)), (c, k), ms, ns, letter, m), rfl, rfl, ⟨by show m < n; omega, ok3, cel_app (cel_set hC) (pnrs ps), rr_room hcl, ⟨m1, m2⟩, ⟨n1, n2, n3⟩, by show m ≤ 2; omega⟩, ?_⟩
      rintro d st4 ⟨b4, cs4, k4, qs, ok4, rfl, e1, e2, e3, e4, rfl⟩
      have e1 : k4 + goes qs = k := e1
      have e2 : pok (decide (letter = "")) qs := e2
      have e3 : pdep qs ≤ m := e3
      have e4 : psize qs ≤ PB m := e4
      refine And.intro (show 3 ≤ sizeLine by decide) ?_
      have q := add _ k4 (.node s qs) (some (nat i)) (some (nat so)) ⟨b4, cs4, ok4, rfl⟩ (by simp only [Pt.goes]; omega) (by simp only [Pt.ok]; exact ⟨n3 s hs, e2⟩) (by rw [pdep_node]; omega) (by rw [psize_node]; simp only [bz]; omega)
      rw [pdv_node] at q
      have e5 : (RR rest c k (pdv ps)).set c (.lst [nat k4]) = RR rest c k4 (pdv ps) := rr_set_room hcl
      rw [e5]
      exact q
    · refine iteT (decide_eq_true (by omega)) ?_
      refine opB2 ?_
      refine iteF (decide_eq_false (by omega)) ?_
      refine eqI ?_
      by_cases g : so = 2
      · refine iteT (decide_eq_true (by omega)) ?_
        refine And.intro (show 3 ≤ sizeLine by decide) ?_
        refine of1 ["", "s", "x 1"] (by decide) (by decide) hd2 fun s st3 hs hd3 => ?_
        refine And.intro (show 2 ≤ sizeLine by decide) ?_
        have q := add st3 k (.say s) (some (nat i)) (some (nat so)) hd3 (by simp [Pt.goes]) (by simp only [Pt.ok]; exact txS s hs) (by simp [Pt.dep]) (by simpa [Pt.size] using bz_pos deep)
        rw [pdv_say] at q
        exact q
      · refine iteF (decide_eq_false (by omega)) ?_
        refine ix (seq_ref hroom) rfl ?_
        refine eqI ?_
        by_cases g2 : k = 0
        · refine iteT (decide_eq_true (by omega)) ?_
          refine And.intro (show 3 ≤ sizeLine by decide) ?_
          refine of1 ["", "s", "x 1"] (by decide) (by decide) hd2 fun s st3 hs hd3 => ?_
          refine And.intro (show 2 ≤ sizeLine by decide) ?_
          have q := add st3 k (.say s) (some (nat i)) (some (nat so)) hd3 (by simp [Pt.goes]) (by simp only [Pt.ok]; exact txS s hs) (by simp [Pt.dep]) (by simpa [Pt.size] using bz_pos deep)
          rw [pdv_say] at q
          exact q
        · refine iteF (decide_eq_false (by omega)) ?_
          by_cases hL : letter = ""
          · refine eqS ?_
            refine iteT (decide_eq_true hL) ?_
            refine And.intro (show 1 ≤ sizeLine by decide) ?_
            have q := add st2 k .keep (some (nat i)) (some (nat so)) hd2 (by simp [Pt.goes]) (by simp only [Pt.ok]; exact decide_eq_true hL) (by simp [Pt.dep]) (by simpa [Pt.size] using bz_pos deep)
            rw [pdv_keep] at q
            exact q
          · refine eqS ?_
            refine iteF (decide_eq_false hL) ?_
            refine ix (seq_ref hroom) rfl ?_
            refine subI ?_
            rw [show ((k : Nat) : Int) - 1 = ((k - 1 : Nat) : Int) by omega]
            refine ⟨[nat k], 0, hroom, rfl, ?_⟩
            have hd3 := dr_set (x := .lst [nat (k - 1)]) (show 2 ≤ c + 2 by omega) hd2
            rw [show c + 2 - 2 = c by omega, rr_set_room hcl] at hd3
            refine of1 ms m1 (by omega) hd3 fun s st3 hs hd4 => ?_
            refine And.intro (show 2 ≤ sizeLine by decide) ?_
            have q := add st3 (k - 1) (.go s) (some (nat i)) (some (nat so)) hd4 (by simp only [Pt.goes]; omega) (by simp only [Pt.ok]; exact decide_eq_false hL) (by simp [Pt.dep]) (by simpa [Pt.size] using bz_pos deep)
            rw [pdv_go] at q
            exact q
    · refine iteF (decide_eq_false (by omega)) ?_
      refine eqI ?_
      by_cases g : so = 2
      · refine iteT (decide_eq_true (by omega)) ?_
        refine And.intro (show 3 ≤ sizeLine by decide) ?_
        refine of1 ["", "s", "x 1"] (by decide) (by decide) hd2 fun s st3 hs hd3 => ?_
        refine And.intro (show 2 ≤ sizeLine by decide) ?_
        have q := add st3 k (.say s) (some (nat i)) (some (nat so)) hd3 (by simp [Pt.goes]) (by simp only [Pt.ok]; exact txS s hs) (by simp [Pt.dep]) (by simpa [Pt.size] using bz_pos deep)
        rw [pdv_say] at q
        exact q
      · refine iteF (decide_eq_false (by omega)) ?_
        refine ix (seq_ref hroom) rfl ?_
        refine eqI ?_
        by_cases g2 : k = 0
        · refine iteT (decide_eq_true (by omega)) ?_
          refine And.intro (show 3 ≤ sizeLine by decide) ?_
          refine of1 ["", "s", "x 1"] (by decide) (by decide) hd2 fun s st3 hs hd3 => ?_
          refine And.intro (show 2 ≤ sizeLine by decide) ?_
          have q := add st3 k (.say s) (some (nat i)) (some (nat so)) hd3 (by simp [Pt.goes]) (by simp only [Pt.ok]; exact txS s hs) (by simp [Pt.dep]) (by simpa [Pt.size] using bz_pos deep)
          rw [pdv_say] at q
          exact q
        · refine iteF (decide_eq_false (by omega)) ?_
          by_cases hL : letter = ""
          · refine eqS ?_
            refine iteT (decide_eq_true hL) ?_
            refine And.intro (show 1 ≤ sizeLine by decide) ?_
            have q := add st2 k .keep (some (nat i)) (some (nat so)) hd2 (by simp [Pt.goes]) (by simp only [Pt.ok]; exact decide_eq_true hL) (by simp [Pt.dep]) (by simpa [Pt.size] using bz_pos deep)
            rw [pdv_keep] at q
            exact q
          · refine eqS ?_
            refine iteF (decide_eq_false hL) ?_
            refine ix (seq_ref hroom) rfl ?_
            refine subI ?_
            rw [show ((k : Nat) : Int) - 1 = ((k - 1 : Nat) : Int) by omega]
            refine ⟨[nat k], 0, hroom, rfl, ?_⟩
            have hd3 := dr_set (x := .lst [nat (k - 1)]) (show 2 ≤ c + 2 by omega) hd2
            rw [show c + 2 - 2 = c by omega, rr_set_room hcl] at hd3
            refine of1 ms m1 (by omega) hd3 fun s st3 hs hd4 => ?_
            refine And.intro (show 2 ≤ sizeLine by decide) ?_
            have q := add st3 (k - 1) (.go s) (some (nat i)) (some (nat so)) hd4 (by simp only [Pt.goes]; omega) (by simp only [Pt.ok]; exact decide_eq_false hL) (by simp [Pt.dep]) (by simpa [Pt.size] using bz_pos deep)
            rw [pdv_go] at q
            exact q
  · rintro σ' st' ⟨v7, v8, k, ps, rfl, hd, hk, hp, hq, hz⟩
    rw [rng_length] at hz
    refine tupL (xs := pdv ps) (lst_ref (dr_get (by omega) hd rr_own)) ?_
    exact fin k ps _ _ hd hk hp hq (by omega)
end K51

namespace K51
open PySem PySem.Spec PyProof.Rows L2 D2 K02
open K75 (drop_at at0 at1 at2 eqSt eqSf dvs_at dvs_one size_at dep_at nr2 size_node dep_node ok_node)
theorem nmC {s : Str} (h : 1 ≤ s.length ∧ s.length ≤ 8) (q : ∀ c ∈ s.cps.toList, c ∈ letters.cps.toList) : NmOk s := ⟨h.1, h.2, q⟩
theorem ns_ok (ns : List Str) (h : ns = (["x"] : List Str) ∨ ns = (["x", "y"] : List Str) ∨ ns = (["x", "y", "z"] : List Str) ∨ ns = (["p", "pa", "pb"] : List Str)) : NsOk ns ∧ ns.length ≤ 3 := by
  rcases h with rfl | rfl | rfl | rfl
  all_goals
    refine ⟨⟨by decide +kernel, fun s hs => ?_, by decide, by decide⟩, by decide⟩
    simp only [List.mem_cons, List.not_mem_nil, or_false] at hs
    first
      | (rcases hs with rfl | rfl | rfl <;> exact nmC (by decide +kernel) (by decide +kernel))
      | (rcases hs with rfl | rfl <;> exact nmC (by decide +kernel) (by decide +kernel))
      | (subst hs; exact nmC (by decide +kernel) (by decide +kernel))
theorem p_law_names : PL N_law_names W_law_names (D2.Spec.dr A_law_names P_law_names R_law_names) := by
  rintro ⟨b, cs, rest, u⟩ ⟨ok, -⟩
  have ok : okD b cs := ok
  show W_law_names _ [some (.ref 1)] (DSt b cs rest)
  generalize hD : ({ nx := _, rt := _ } : DEnds) = D
  have fin : ∀ (ns : List Str) st, (ns = (["x"] : List Str) ∨ ns = (["x", "y"] : List Str) ∨ ns = (["x", "y", "z"] : List Str) ∨ ns = (["p", "pa", "pb"] : List Str)) → Dr rest st → D.rt (.rol (ns.map Dv.str)) st := fun ns st h hd => by
    rw [← hD]
    exact back_dr (args := A_law_names) (pre := P_law_names) (F := R_law_names) (i := u) hd ⟨ns, (ns_ok ns h).1, (ns_ok ns h).2, rfl⟩
  clear hD
  refine And.intro (show 1 ≤ sizeLine by decide) ?_
  refine And.intro (show 2 ≤ sizeLine by decide) ?_
  refine And.intro (show 3 ≤ sizeLine by decide) ?_
  refine And.intro (show 3 ≤ sizeLine by decide) ?_
  refine And.intro (show 4 ≤ sizeLine by decide) ?_
  refine ⟨rest, (_, [.rol [.str "x"], .rol [.str "x", .str "y"], .rol [.str "x", .str "y", .str "z"], .rol [.str "p", .str "pa", .str "pb"]]), ⟨b, cs, ok, rfl⟩, rfl, ⟨rfl, by decide, by decide⟩, fun d st2 hd2 hq => ?_⟩
  have hq : d ∈ [Dv.rol [.str "x"], .rol [.str "x", .str "y"], .rol [.str "x", .str "y", .str "z"], .rol [.str "p", .str "pa", .str "pb"]] := hq
  simp only [List.mem_cons, List.not_mem_nil, or_false] at hq
  rcases hq with rfl | rfl | rfl | rfl
  · exact fin ["x"] _ (.inl rfl) hd2
  · exact fin ["x", "y"] _ (.inr (.inl rfl)) hd2
  · exact fin ["x", "y", "z"] _ (.inr (.inr (.inl rfl))) hd2
  · exact fin ["p", "pa", "pb"] _ (.inr (.inr (.inr rfl))) hd2
theorem deps_app1 : ∀ (a : List Th) (t : Th), deps (a ++ [t]) = max (deps a) t.dep
  | [], p => by simp [deps]
  | q :: a, p => by simp only [List.cons_append, deps, deps_app1 a p]; omega
theorem p_law_tree (n : Nat) : PL N_law_tree (W_law_tree n) (S_law_tree (n + 1)) := by
  rintro ⟨⟨b, cs, rest⟩, ⟨c, k0⟩, ns, deep⟩ ⟨h1, ok, hC, hc, hk0, ⟨n1, n2, n3⟩, h2⟩
  have h1 : deep < n + 1 := h1
  have ok : okD b cs := ok
  have hC : CelN rest := hC
  have hc : rest[c]? = some (.lst [nat k0]) := hc
  have hcl := (List.getElem?_eq_some_iff.mp hc).1
  have hk0 : 0 < k0 := hk0
  have n1 : 0 < ns.length := n1
  have n2 : ns.length ≤ 100 := n2
  have n3 : ∀ s ∈ ns, NmOk s := n3
  have h2 : deep ≤ 4 := h2
  show W_law_tree n _ [some (.ref 1), some (.rol (ns.map Dv.str)), some (.ref (c + 2)), some (nat deep), none, none] (DSt b cs rest)
  generalize hD : ({ nx := _, rt := _ } : DEnds) = D
  have fin : ∀ (k : Nat) (x : Str) (ts : List Th) (xs : List Dv) (st : Sto), Dr (RR rest c k xs) st → k + sizes ts + 1 = k0 → NmOk x → oks ts → deps ts ≤ deep → D.rt (.tup [.str x, .tup (dvs ts)]) st := fun k x ts xs st hd q1 q2 q3 q4 => by
    obtain ⟨b2, cs2, ok2, rfl⟩ := hd
    rw [← hD]
    refine back_room (cel_set hC) (nr2 x ts) ?_ ⟨b2, cs2, k, x, ts, ok2, rfl, q1, q2, q3, q4, by rw [dv_node]⟩
    show (DSt b cs rest).length ≤ _
    rw [List.length_set]
    exact Nat.le_refl _
  clear hD
  have hdA : Dr rest (DSt b cs rest) := ⟨b, cs, ok, rfl⟩
  have hroomA := dr_get (c := c + 2) (by omega) hdA hc
  refine ix (seq_ref hroomA) rfl ?_
  refine subI ?_
  rw [show ((k0 : Nat) : Int) - 1 = ((k0 - 1 : Nat) : Int) by omega]
  refine ⟨[nat k0], 0, hroomA, rfl, ?_⟩
  refine And.intro (show 0 ≤ sizeLine from Nat.zero_le _) ?_
  have hd0 : Dr (RR rest c (k0 - 1) []) ((DSt b cs rest).set (c + 2) (.lst [nat (k0 - 1)]) ++ [.lst []]) := ⟨b, cs, ok, rfl⟩
  have hlen : ((DSt b cs rest).set (c + 2) (Co.lst ([nat k0].set 0 (Dv.int ((k0 - 1 : Nat) : Int))))).length = rest.length + 2 := by rw [List.length_set]; rfl
  have loop : ∀ (r : Nat) (st : Sto), r ≤ 3 → (0 < r → 0 < deep) → Dr (RR rest c (k0 - 1) []) st → wFor (fun σ st Q => Q (rng 0 r) none st) (.one 5) (wIf (wAnd (wB (w2 (gB fun a b => decide (b < a)) (w2 gIx (wVar 2) (wC (.int 0))) (wC (.int 0)))) (wB (w2 (gEq false) (wDr D2.A_law_any D2.P_law_any D2.R_law_any (wCons (wVar 0) (wCons (wC (.int 3)) wNil))) (wC (.int 0))))) (wSeq (wSto (w2 (gI (fun _ _ => True) fun a b => a - b) (w2 gIx (wVar 2) (wC (.int 0))) (wC (.int 1))) (wVar 2) (wC (.int 0)))
  (wDrop (wApp (wVar 4) (wDr D2.A_law_of D2.P_law_of D2.R_law_of (wCons (wVar 0) (wCons (wRol (wCons (wC (.str "")) (wCons (wC (.str "t")) (wCons (wC (.str "b 2")) wNil)))) wNil)))))) (wIf (wB (w2 (gB fun a b => decide (b < a)) (w2 gIx (wVar 2) (wC (.int 0))) (wC (.int 0)))) (wDrop (wApp (wVar 4) (wCall (K51.S_law_tree n) (wCons (wVar 0) (wCons (wVar 1) (wCons (wVar 2) (wCons (w2 (gI (fun _ _ => True) fun a b => a - b) (wVar 3) (wC (.int 1))) wNil))))))) wNext)) { D with nx := (wRet (wTup (wCons (wDr D2.A_law_of D2.P_law_of D2.R_law_of (wCons (wVar 0) (wCons (wVar 1) wNil))) (wCons (wCB (g1 gTuple) (wCons (wVar 4) wNil)) wNil)))) D } [some (.ref 1), some (.rol (ns.map Dv.str)), some (.ref (c + 2)), some (nat deep), some (.ref (rest.length + 2)), none] st := fun r st hr hrd hd1 => by
    refine Exists.intro (fun i σ st => ∃ (v5 : Option Dv) (k : Nat) (ts : List Th), σ = [some (.ref 1), some (.rol (ns.map Dv.str)), some (.ref (c + 2)), some (nat deep), some (.ref (rest.length + 2)), v5] ∧ Dr (RR rest c k (dvs ts)) st ∧ k + sizes ts + 1 = k0 ∧ oks ts ∧ deps ts ≤ deep ∧ ts.length ≤ i) ?_
    refine And.intro ⟨none, k0 - 1, [], rfl, hd1, by simp [sizes]; omega, by simp [oks], by simp [deps], by simp⟩ ?_
    refine And.intro (fun i σ' st' _ n e => nomatch e) ?_
    refine And.intro (fun i d σ' st' e hI => ?_) ?_
    · obtain ⟨v5, k, ts, rfl, hd, hk, ho, hq, hl⟩ := hI
      obtain ⟨hi, rfl⟩ := rng_at e
      refine ⟨_, rfl, ?_⟩
      have hdp := hrd (by omega)
      have hsz : ts.length < sizeLine := Nat.lt_of_lt_of_le (show ts.length < 31 by omega) (by decide)
      have hroom := dr_get (c := c + 2) (by omega) hd (rr_room (rest := rest) (k := k) (xs := dvs ts) hcl)
      have add : ∀ (st2 : Sto) (k' : Nat) (t : Th), Dr (RR rest c k' (dvs ts)) st2 → k' + t.size = k → t.ok → t.dep ≤ deep → ∃ xs, st2[rest.length + 2]? = some (.lst xs) ∧ xs.length < sizeLine ∧ ∃ (v5 : Option Dv) (k : Nat) (ts : List Th), [some (Dv.ref 1), some (.rol (ns.map Dv.str)), some (.ref (c + 2)), some (nat deep), some (.ref (rest.length + 2)), some (nat i)] = [some (.ref 1), some (.rol (ns.map Dv.str)), some (.ref (c + 2)), some (nat deep), some (.ref (rest.length + 2)), v5] ∧ Dr (RR rest c k (dvs ts)) (st2.set (rest.length + 2) (.lst (xs ++ [t.dv]))) ∧ k + sizes ts + 1 = k0 ∧ oks ts ∧ deps ts ≤ deep ∧ ts.length ≤ i + 1 := fun st2 k' t hd2 q1 q2 q3 => by
        refine ⟨dvs ts, dr_get (by omega) hd2 rr_own, by rw [dvs_len]; exact hsz, some (nat i), k', ts ++ [t], rfl, ?_, by rw [sizes_app]; simp only [sizes]; omega, (oks_app _ _).mpr ⟨ho, by simp [oks, q2]⟩, by rw [deps_app1]; omega, by simp; omega⟩
        have := dr_set (x := .lst (dvs ts ++ [t.dv])) (show 2 ≤ rest.length + 2 by omega) hd2
        rw [show rest.length + 2 - 2 = rest.length by omega, rr_set_own] at this
        rw [dvs_app, dvs_one]
        exact this
      refine ix (seq_ref hroom) rfl ?_
      refine opB2 ?_
      by_cases g : 0 < k
      · refine iteT (decide_eq_true (by omega)) ?_
        refine one 3 rfl (by decide) (by decide) hd fun so st2 hso hd2 => ?_
        have hroom2 := dr_get (c := c + 2) (by omega) hd2 (rr_room (rest := rest) (k := k) (xs := dvs ts) hcl)
        refine eqI ?_
        by_cases g2 : so = 0
        · refine iteT (decide_eq_true (by omega)) ?_
          refine ix (seq_ref hroom2) rfl ?_
          refine subI ?_
          rw [show ((k : Nat) : Int) - 1 = ((k - 1 : Nat) : Int) by omega]
          refine ⟨[nat k], 0, hroom2, rfl, ?_⟩
          have hd3 := dr_set (x := .lst [nat (k - 1)]) (show 2 ≤ c + 2 by omega) hd2
          rw [show c + 2 - 2 = c by omega, rr_set_room hcl] at hd3
          refine And.intro (show 3 ≤ sizeLine by decide) ?_
          refine of1 ["", "t", "b 2"] (by decide) (by decide) hd3 fun s st3 hs hd4 => ?_
          have q := add st3 (k - 1) (.txt s) hd4 (by simp only [Th.size]; omega) (by simp only [Th.ok]; exact txT s hs) (by simp [Th.dep])
          rw [dv_txt] at q
          exact q
        · refine iteF (decide_eq_false (by omega)) ?_
          refine ix (seq_ref hroom2) rfl ?_
          refine opB2 ?_
          refine iteT (decide_eq_true (by omega)) ?_
          refine subI ?_
          rw [show ((deep : Nat) : Int) - 1 = ((deep - 1 : Nat) : Int) by omega]
          obtain ⟨b3, cs3, ok3, rfl⟩ := hd2
          refine ⟨((b3, cs3, RR rest c k (dvs ts)), (c, k), ns, deep - 1), rfl, rfl, ⟨by show deep - 1 < n; omega, ok3, cel_app (cel_set hC) (nrs ts), rr_room hcl, g, ⟨n1, n2, n3⟩, by show deep - 1 ≤ 4; omega⟩, ?_⟩
          rintro d st4 ⟨b4, cs4, k4, x, us, ok4, rfl, e1, e2, e3, e4, rfl⟩
          have e1 : k4 + sizes us + 1 = k := e1
          have e4 : deps us ≤ deep - 1 := e4
          have q := add _ k4 (.node x us) ⟨b4, cs4, ok4, rfl⟩ (by rw [size_node]; omega) ((ok_node _ _).mpr ⟨e2, e3⟩) (by rw [dep_node]; omega)
          have e5 : (RR rest c k (dvs ts)).set c (.lst [nat k4]) = RR rest c k4 (dvs ts) := rr_set_room hcl
          rw [e5]
          exact q
      · refine iteF (decide_eq_false (by omega)) ?_
        refine ix (seq_ref hroom) rfl ?_
        refine opB2 ?_
        refine iteF (decide_eq_false (by omega)) ?_
        exact ⟨_, k, ts, rfl, hd, hk, ho, hq, by omega⟩
    · rintro σ' st' ⟨v5, k, ts, rfl, hd, hk, ho, hq, hl⟩
      refine of1 ns n1 (by omega) hd fun s st3 hs hd3 => ?_
      refine tupL (xs := dvs ts) (lst_ref (dr_get (by omega) hd3 rr_own)) ?_
      refine And.intro (show 2 ≤ sizeLine by decide) ?_
      exact fin k s ts _ _ hd3 hk (n3 s hs) ho hq
  refine opB2 ?_
  rw [hlen]
  by_cases g : 0 < deep
  · refine iteT (decide_eq_true (by omega)) ?_
    refine one 4 rfl (by decide) (by decide) hd0 fun r st1 hr hd1 => ?_
    refine And.intro ⟨by omega, by omega⟩ ?_
    rw [show ((r : Nat) : Int).toNat = r from Int.toNat_natCast _]
    exact loop r st1 (by omega) (fun _ => g) hd1
  · refine iteF (decide_eq_false (by omega)) ?_
    refine And.intro ⟨by decide, by decide⟩ ?_
    exact loop 0 _ (by omega) (fun q => absurd q (by decide)) hd0
end K51

namespace K51
open PySem PySem.Spec PyProof.Rows L2 D2 K02
open K75 (drop_at at0 at1 at2 eqSt eqSf dvs_at dvs_one size_at dep_at nr2 size_node dep_node ok_node cut_lo cut_hi)
def MdOk (ms : List Str) : Prop := ms.Nodup ∧ ms.length ≤ 3 ∧ 0 < ms.length ∧ ∀ m ∈ ms, m.length ≤ 2
theorem md_ok (ms : List Str) (h : ms = (["a", "b", "c"] : List Str) ∨ ms = (["k", "ka", "kb"] : List Str) ∨ ms = (["m", "n", "nn"] : List Str)) : MdOk ms ∧ ms.length = 3 := by
  rcases h with rfl | rfl | rfl
  all_goals
    refine ⟨⟨by decide +kernel, by decide, by decide, fun s hs => ?_⟩, rfl⟩
    simp only [List.mem_cons, List.not_mem_nil, or_false] at hs
    rcases hs with rfl | rfl | rfl <;> decide +kernel
theorem md_take {ms : List Str} (h : MdOk ms) (r : Nat) : MdOk (ms.take (1 + r)) := by
  refine ⟨h.1.sublist (List.take_sublist _ _), ?_, ?_, fun m hm => h.2.2.2 m (List.mem_of_mem_take hm)⟩
  · rw [List.length_take]
    have := h.2.1
    omega
  · rw [List.length_take]
    have := h.2.2.1
    omega
def RsG (rs : List Ru) : Prop := (∀ r ∈ rs, RuOk r) ∧ (rs.map Ru.key).Nodup ∧ ∀ r ∈ rs, r.mode.length ≤ 2
theorem app_inj {α : Type} [DecidableEq α] {l : List α} (h : l.Nodup) {i : Nat} {x : α} (e : l[i]? = some x) : x ∉ l.take i := fun hm => by
  rw [← List.take_append_drop i l, drop_at e] at h
  have := (List.nodup_append.mp h).2.2 x hm x (by simp)
  exact this rfl
theorem nm_w : NmOk "w" := nmC (by decide +kernel) (by decide +kernel)
theorem p_law_turning : PL N_law_turning (W_law_turning 60) (D2.Spec.dr A_law_turning P_law_turning R_law_turning) := by
  rintro ⟨b, cs, rest, ns⟩ ⟨ok, hr, hns, hnl⟩
  have ok : okD b cs := ok
  have hr : rest = [] := hr
  subst hr
  have hns : NsOk ns := hns
  have hnl : ns.length ≤ 3 := hnl
  show W_law_turning 60 _ [some (.ref 1), some (.rol (ns.map Dv.str)), some (.int 3), some (.int 2), some (.int 2), none, none, none, none] (DSt b cs [])
  generalize hD : ({ nx := _, rt := _ } : DEnds) = D
  have fin : ∀ (rs : List Ru) (m : Str) (G : Sto) (st : Sto), Dr G st → RsG rs → rs.length ≤ 12 → m.length ≤ 2 → D.rt (.tup [.tup (rs.map Ru.dv), .str m]) st := fun rs m G st hd q1 q2 q3 => by
    obtain ⟨b2, cs2, ok2, rfl⟩ := hd
    rw [← hD]
    exact back_room (R := []) (fun c hc => by simp at hc) (.tup (.cons (.tup (rus_nr rs)) (.cons (.str m) .nil))) (Nat.le_refl 2) ⟨⟨b2, cs2, ok2, rfl⟩, rs, m, ⟨q1.1, by omega⟩, q1.2.1, q2, q3, q1.2.2, rfl⟩
  clear hD
  refine And.intro (show 3 ≤ sizeLine by decide) ?_
  refine And.intro (show 3 ≤ sizeLine by decide) ?_
  refine And.intro (show 3 ≤ sizeLine by decide) ?_
  refine And.intro (show 3 ≤ sizeLine by decide) ?_
  refine ⟨[], (_, [.rol [.str "a", .str "b", .str "c"], .rol [.str "k", .str "ka", .str "kb"], .rol [.str "m", .str "n", .str "nn"]]), ⟨b, cs, ok, rfl⟩, rfl, ⟨rfl, by decide, by decide⟩, fun d st2 hd2 hq => ?_⟩
  have hq : d ∈ [Dv.rol [.str "a", .str "b", .str "c"], .rol [.str "k", .str "ka", .str "kb"], .rol [.str "m", .str "n", .str "nn"]] := hq
  obtain ⟨m3, rfl, hm3⟩ : ∃ m3 : List Str, d = .rol (m3.map Dv.str) ∧ (m3 = (["a", "b", "c"] : List Str) ∨ m3 = (["k", "ka", "kb"] : List Str) ∨ m3 = (["m", "n", "nn"] : List Str)) := by
    simp only [List.mem_cons, List.not_mem_nil, or_false] at hq
    rcases hq with rfl | rfl | rfl
    · exact ⟨["a", "b", "c"], rfl, .inl rfl⟩
    · exact ⟨["k", "ka", "kb"], rfl, .inr (.inl rfl)⟩
    · exact ⟨["m", "n", "nn"], rfl, .inr (.inr rfl)⟩
  refine one 3 rfl (by decide) (by decide) hd2 fun r st3 hr hd3 => ?_
  refine addI ?_
  refine ⟨m3.map Dv.str, rfl, ?_⟩
  rw [show (1 : Int) + ((r : Nat) : Int) = ((1 + r : Nat) : Int) by omega, cut_lo, ← List.map_take]
  have hms := md_take (md_ok m3 hm3).1 r
  generalize m3.take (1 + r) = ms at hms
  obtain ⟨hm1, hm2, hm4, hm5⟩ := hms
  refine And.intro (show 0 ≤ sizeLine from Nat.zero_le _) ?_
  rw [dr_len hd3]
  have hd4 : Dr [.lst []] (st3 ++ [.lst []]) := dr_app hd3
  have hls : (("" : Str) :: ns).Nodup := List.nodup_cons.mpr ⟨fun h => nm_ne (hns.2.1 _ h) rfl, hns.1⟩
  have hll : (("" : Str) :: ns).length ≤ 4 := by simp; omega
  refine Exists.intro (fun i σ st => ∃ (v7 v8 : Option Dv) (rs : List Ru) (G : Sto), σ = [some (.ref 1), some (.rol (ns.map Dv.str)), some (.int 3), some (.int 2), some (.int 2), some (.rol (ms.map Dv.str)), some (.ref 2), v7, v8] ∧ Dr (.lst (rs.map Ru.dv) :: G) st ∧ CelN G ∧ RsG rs ∧ (∀ r ∈ rs, r.mode ∈ ms.take i) ∧ rs.length ≤ i * 4) ?_
  refine And.intro ⟨none, none, [], [], rfl, hd4, fun c hc => by simp at hc, ⟨fun r h => by simp at h, by simp, fun r h => by simp at h⟩, fun r h => by simp at h, by simp⟩ ?_
  refine And.intro (fun i σ' st' _ n e => nomatch e) ?_
  refine And.intro (fun i d σ' st' e hI => ?_) ?_
  · obtain ⟨v7, v8, rs, G, rfl, hd, hG, hR, hM, hL⟩ := hI
    rw [List.getElem?_map] at e
    obtain ⟨m, e1, rfl⟩ := Option.map_eq_some_iff.mp e
    have hmm := app_inj hm1 e1
    have hi := (List.getElem?_eq_some_iff.mp e1).1
    have hm6 := hm5 m (List.mem_of_getElem? e1)
    have htk : ms.take (i + 1) = ms.take i ++ [m] := by rw [List.take_add_one, e1]; rfl
    refine ⟨_, rfl, ?_⟩
    refine And.intro (show 1 ≤ sizeLine by decide) ?_
    refine addL (line64 (by simp; omega)) ?_
    refine Exists.intro (fun j σ st => ∃ (v8 : Option Dv) (rs : List Ru) (G : Sto), σ = [some (.ref 1), some (.rol (ns.map Dv.str)), some (.int 3), some (.int 2), some (.int 2), some (.rol (ms.map Dv.str)), some (.ref 2), some (.str m), v8] ∧ Dr (.lst (rs.map Ru.dv) :: G) st ∧ CelN G ∧ RsG rs ∧ (∀ r ∈ rs, r.mode ∈ ms.take i ∨ (r.mode = m ∧ r.letter ∈ (("" : Str) :: ns).take j)) ∧ rs.length ≤ i * 4 + j) ?_
    refine And.intro ⟨v8, rs, G, rfl, hd, hG, hR, fun r h => .inl (hM r h), by omega⟩ ?_
    refine And.intro (fun i σ' st' _ n e => nomatch e) ?_
    refine And.intro (fun j d σ2 st2 e hI => ?_) ?_
    · obtain ⟨v8, rs, G, rfl, hd, hG, hR, hM, hL⟩ := hI
      have e : ((("" : Str) :: ns).map Dv.str)[j]? = some d := e
      rw [List.getElem?_map] at e
      obtain ⟨l, e2, rfl⟩ := Option.map_eq_some_iff.mp e
      have hlm := app_inj hls e2
      have hj := (List.getElem?_eq_some_iff.mp e2).1
      have htj : (("" : Str) :: ns).take (j + 1) = (("" : Str) :: ns).take j ++ [l] := by rw [List.take_add_one, e2]; rfl
      have hsz : rs.length < sizeLine := Nat.lt_of_lt_of_le (show rs.length < 17 by omega) (by decide)
      refine ⟨_, rfl, ?_⟩
      refine one 4 rfl (by decide) (by decide) hd fun x st3 hx hd3 => ?_
      refine opB2 ?_
      by_cases g : 0 < x
      · refine iteT (decide_eq_true (by omega)) ?_
        refine And.intro (show 1 ≤ sizeLine by decide) ?_
        refine addL (line64 (by simp; omega)) ?_
        refine And.intro (show 1 ≤ sizeLine by decide) ?_
        obtain ⟨b3, cs3, ok3, rfl⟩ := hd3
        refine ⟨((b3, cs3, (.lst (rs.map Ru.dv) :: G) ++ [.lst [nat 2]]), (G.length + 1, 2), ms, ns ++ [("w" : Str)], l, 2), ?_, rfl, ⟨by show 2 < 60; decide, ok3, ?_, ?_, ⟨hm4, by show ms.length ≤ 100; omega⟩, ⟨by show 0 < (ns ++ [("w" : Str)]).length; simp, by show (ns ++ [("w" : Str)]).length ≤ 100; simp; omega, fun s hs => ?_⟩, Nat.le_refl 2⟩, ?_⟩
        · show [Dv.ref 1, .rol (ms.map Dv.str), .rol (ns.map Dv.str ++ [.str "w"]), .str l, .int 2, .ref (G.length + 1 + 2)] = [Dv.ref 1, .rol (ms.map Dv.str), .rol ((ns ++ [("w" : Str)]).map Dv.str), .str l, .int 2, .ref (G.length + 1 + 2)]
          rw [List.map_append]
          rfl
        · refine cel_app (fun c hc => ?_) cel_one
          rcases List.mem_cons.mp hc with rfl | hc
          · exact ⟨_, rfl, rus_nr rs⟩
          · exact hG c hc
        · show ((Co.lst (rs.map Ru.dv) :: G) ++ [.lst [nat 2]])[G.length + 1]? = some (.lst [nat 2])
          rw [List.getElem?_append_right (by simp)]
          simp
        · rcases List.mem_append.mp hs with h | h
          · exact hns.2.1 s h
          · simp at h
            rw [h]
            exact nm_w
        rintro d st4 ⟨b4, cs4, k4, ps, ok4, rfl, q1, q2, q3, q4, rfl⟩
        have q1 : k4 + goes ps = 2 := q1
        have q2 : pok (decide (l = "")) ps := q2
        have q3 : pdep ps ≤ 2 := q3
        have q4 : psize ps ≤ 30 := q4
        have e5 : (((Co.lst (rs.map Ru.dv) :: G) ++ [Co.lst [nat 2]]).set (G.length + 1) (Co.lst [nat k4])) = Co.lst (rs.map Ru.dv) :: (G ++ [Co.lst [nat k4]]) := by
          simp [List.set_append_right]
        refine And.intro (show 3 ≤ sizeLine by decide) ?_
        show ∃ xs, (DSt b4 cs4 (((Co.lst (rs.map Ru.dv) :: G) ++ [Co.lst [nat 2]]).set (G.length + 1) (Co.lst [nat k4])))[2]? = some (Co.lst xs) ∧ xs.length < sizeLine ∧ _
        rw [e5]
        refine ⟨rs.map Ru.dv, rfl, by rw [List.length_map]; exact hsz, some (.str l), rs ++ [⟨m, l, ps⟩], G ++ [.lst [nat k4]], rfl, ⟨b4, cs4, ok4, by rw [List.map_append]; rfl⟩, cel_app hG cel_one, ⟨fun r h => ?_, ?_, fun r h => ?_⟩, fun r h => ?_, by simp; omega⟩
        · rcases List.mem_append.mp h with h | h
          · exact hR.1 r h
          · simp at h
            subst h
            exact ⟨q2, q3, q4, by show goes ps ≤ 2; omega⟩
        · rw [List.map_append, List.nodup_append]
          refine ⟨hR.2.1, by simp, fun a ha b hb => ?_⟩
          simp at hb
          subst hb
          obtain ⟨r, h1, rfl⟩ := List.mem_map.mp ha
          intro e6
          simp only [Ru.key, List.cons.injEq, Sum.inr.injEq] at e6
          rcases hM r h1 with h2 | h2
          · rw [e6.1] at h2
            exact hmm h2
          · have := h2.2
            rw [e6.2.1] at this
            exact hlm this
        · rcases List.mem_append.mp h with h | h
          · exact hR.2.2 r h
          · simp at h
            subst h
            exact hm6
        · rcases List.mem_append.mp h with h | h
          · rcases hM r h with h2 | h2
            · exact .inl h2
            · exact .inr ⟨h2.1, by rw [htj]; exact List.mem_append_left _ h2.2⟩
          · simp at h
            subst h
            exact .inr ⟨rfl, by rw [htj]; simp⟩
      · refine iteF (decide_eq_false (by omega)) ?_
        refine ⟨some (.str l), rs, G, rfl, hd3, hG, hR, fun r h => ?_, by omega⟩
        rcases hM r h with h2 | h2
        · exact .inl h2
        · exact .inr ⟨h2.1, by rw [htj]; exact List.mem_append_left _ h2.2⟩
    · rintro σ2 st2 ⟨v8, rs, G, rfl, hd, hG, hR, hM, hL⟩
      have e9 : ([Dv.str ""] ++ ns.map Dv.str).length = (("" : Str) :: ns).length := by simp
      rw [e9] at hL
      refine ⟨_, _, rs, G, rfl, hd, hG, hR, fun r h => ?_, by omega⟩
      rw [htk]
      rcases hM r h with h2 | h2
      · exact List.mem_append_left _ h2
      · rw [h2.1]
        simp
  · rintro σ' st' ⟨v7, v8, rs, G, rfl, hd, hG, hR, hM, hL⟩
    rw [List.length_map] at hL
    refine tupL (xs := rs.map Ru.dv) (lst_ref (dr_get (by omega) hd rfl)) ?_
    refine of1 ms hm4 (by omega) hd fun s st3 hs hd3 => ?_
    refine And.intro (show 2 ≤ sizeLine by decide) ?_
    exact fin rs s _ _ hd3 hR (by omega) (hm5 s hs)
end K51

namespace K75
open PySem PySem.Spec PyProof.Rows L2 D2 K02
theorem cut3 {a b c : Dv} {l : List Dv} : D2.cutD (a :: b :: c :: l) none (some 3) = [a, b, c] := by
  rw [show (some (3 : Int)) = some ((3 : Nat) : Int) from rfl, cut_lo]
  rfl
theorem len_take (ts : List Th) (i : Nat) : (dvs (ts.take i)).length ≤ ts.length := by
  rw [dvs_len, List.length_take]
  omega
theorem len_drop (ts : List Th) (i : Nat) : (dvs (ts.drop i)).length ≤ ts.length := by
  rw [dvs_len, List.length_drop]
  omega
/-- the parts of a row put together again -/
theorem put3 {ts : List Th} {i k : Nat} {xs : List Dv} {st : Sto} {Q : DK} (hl : ts.length ≤ 900) (hx : xs.length ≤ 1) (q : Q (.tup (dvs (ts.take i) ++ xs ++ dvs (ts.drop k))) st) :
    gAdd (.tup (D2.cutD (dvs ts) none (some (i : Int)))) (.tup xs) st fun a st1 => gAdd a (.tup (D2.cutD (dvs ts) (some (k : Int)) none)) st1 Q := by
  rw [cut_lo, cut_hi, dvs_take, dvs_dropN]
  have h1 := len_take ts i
  have h2 : (dvs (ts.drop k)).length ≤ ts.length := len_drop ts k
  by_cases hk : k < i
  · refine addT (line64 (by omega)) (addT (Nat.le_trans (?_ : _ ≤ 1801) (by decide)) q)
    rw [List.length_append]
    omega
  · refine addT (line64 (by omega)) (addT (Nat.le_trans (?_ : _ ≤ 1801) (by decide)) q)
    rw [List.length_append]
    omega
theorem p_changed : PL Nchanged Wchanged (D2.Spec.fn A_changed P_changed R_changed) := by
  rintro ⟨n, ts, e⟩ ⟨h, hs⟩
  have h : e.fits ts := h
  have hs : sizes ts ≤ 900 := hs
  have hl : ts.length ≤ 900 := Nat.le_trans (len_sizes ts) hs
  have a1 := fun i => len_take ts i
  have a2 := fun i => len_drop ts i
  show Wchanged _ [some (Th.node n ts).dv, some e.dv, none, none, none, none] []
  generalize hD : ({ nx := _, rt := _ } : DEnds) = D
  have fin : D.rt (chg n ts e).dv [] := by
    rw [← hD]
    exact back_fn (args := A_changed) (pre := P_changed) (F := R_changed) (i := (n, ts, e)) (Th.nr _) rfl
  clear hD
  rw [ed_dv, dv_node]
  cases e with
  | name p s =>
    simp only [chg] at fin
    rw [dv_node] at fin
    refine ix (xs := [.str "name", pl p, .str s]) rfl rfl ?_
    refine ix (xs := [.str "name", pl p, .str s]) rfl rfl ?_
    refine And.intro (show 2 ≤ sizeLine by decide) ?_
    refine And.intro (show 2 ≤ sizeLine by decide) ?_
    refine ⟨_, _, rfl, rfl, ?_⟩
    refine eqSt ?_
    refine And.intro (show 2 ≤ sizeLine by decide) ?_
    exact fin
  | put p i x =>
    simp only [chg] at fin
    rw [dv_node, dvs_app, dvs_app, dvs_one] at fin
    refine ix (xs := [.str "put", pl p, nat i, x.dv]) rfl rfl ?_
    refine ix (xs := [.str "put", pl p, nat i, x.dv]) rfl rfl ?_
    refine And.intro (show 2 ≤ sizeLine by decide) ?_
    refine And.intro (show 2 ≤ sizeLine by decide) ?_
    refine ⟨_, _, rfl, rfl, ?_⟩
    refine eqSf (by decide +kernel) ?_
    refine eqSt ?_
    refine slT ?_
    refine ix (xs := [.str "put", pl p, nat i, x.dv]) rfl rfl ?_
    refine And.intro (show 1 ≤ sizeLine by decide) ?_
    rw [cut_lo, dvs_take]
    refine addT (line64 (by have := a1 i; simp only [List.length_cons, List.length_nil]; omega)) ?_
    refine slT ?_
    rw [cut_hi, dvs_dropN]
    refine addT (Nat.le_trans (?_ : _ ≤ 1801) (by decide)) ?_
    · have := a1 i
      have := a2 i
      simp only [List.length_append, List.length_cons, List.length_nil]
      omega
    refine And.intro (show 2 ≤ sizeLine by decide) ?_
    exact fin
  | drop p i =>
    simp only [chg] at fin
    rw [dv_node, dvs_app] at fin
    refine ix (xs := [.str "drop", pl p, nat i]) rfl rfl ?_
    refine ix (xs := [.str "drop", pl p, nat i]) rfl rfl ?_
    refine And.intro (show 2 ≤ sizeLine by decide) ?_
    refine And.intro (show 2 ≤ sizeLine by decide) ?_
    refine ⟨_, _, rfl, rfl, ?_⟩
    refine eqSf (by decide +kernel) ?_
    refine eqSf (by decide +kernel) ?_
    refine slT ?_
    refine eqSf (by decide +kernel) ?_
    refine And.intro (show 0 ≤ sizeLine from Nat.zero_le _) ?_
    rw [cut_lo, dvs_take]
    refine addT (line64 (by have := a1 i; simp only [List.length_nil]; omega)) ?_
    rw [List.append_nil]
    refine addI ?_
    refine slT ?_
    rw [show ((i : Int) + 1) = ((i + 1 : Nat) : Int) by omega, cut_hi, dvs_dropN]
    refine addT (Nat.le_trans (?_ : _ ≤ 1801) (by decide)) ?_
    · have := a1 i
      have := a2 (i + 1)
      omega
    refine And.intro (show 2 ≤ sizeLine by decide) ?_
    exact fin
  | say p i s =>
    simp only [chg] at fin
    rw [dv_node, dvs_app, dvs_app, dvs_one, dv_txt] at fin
    refine ix (xs := [.str "say", pl p, nat i, .str s]) rfl rfl ?_
    refine ix (xs := [.str "say", pl p, nat i, .str s]) rfl rfl ?_
    refine And.intro (show 2 ≤ sizeLine by decide) ?_
    refine And.intro (show 2 ≤ sizeLine by decide) ?_
    refine ⟨_, _, rfl, rfl, ?_⟩
    refine eqSf (by decide +kernel) ?_
    refine eqSf (by decide +kernel) ?_
    refine slT ?_
    refine eqSt ?_
    refine ix (xs := [.str "say", pl p, nat i, .str s]) rfl rfl ?_
    refine And.intro (show 1 ≤ sizeLine by decide) ?_
    rw [cut_lo, dvs_take]
    refine addT (line64 (by have := a1 i; simp only [List.length_cons, List.length_nil]; omega)) ?_
    refine addI ?_
    refine slT ?_
    rw [show ((i : Int) + 1) = ((i + 1 : Nat) : Int) by omega, cut_hi, dvs_dropN]
    refine addT (Nat.le_trans (?_ : _ ≤ 1801) (by decide)) ?_
    · have := a1 i
      have := a2 (i + 1)
      simp only [List.length_append, List.length_cons, List.length_nil]
      omega
    refine And.intro (show 2 ≤ sizeLine by decide) ?_
    exact fin
theorem sized_len {t : Th} {p : List Nat} {y : Th} (hs : Sized t) (h : getA t p = some y) : p.length < 40 := by
  have := place_len h
  have := hs.2.2
  omega
theorem p_made : PL Nmade (Wmade 40) (D2.Spec.fn A_made P_made R_made) := by
  rintro ⟨t, e⟩ ⟨hs, hg⟩
  have hs : Sized t := hs
  obtain ⟨n, ts, h1, h2⟩ := hg
  have h1 : getA t e.at_ = some (.node n ts) := h1
  have h2 : e.fits ts := h2
  show Wmade 40 _ [some t.dv, some e.dv] []
  generalize hD : ({ nx := _, rt := _ } : DEnds) = D
  have fin : D.rt (putA t e.at_ (chg n ts e)).dv [] := by
    rw [← hD, ← done_eq h1]
    exact back_fn (args := A_made) (pre := P_made) (F := R_made) (i := (t, e)) (Th.nr _) rfl
  clear hD
  obtain ⟨w, y, r, e1, e2⟩ := ed_form e
  have ed : e.dv = .tup (.str w :: pl e.at_ :: y :: r) := by rw [ed_dv, e1]
  have hz := node_size h1
  rw [size_node] at hz
  have h400 := hs.2.1
  rw [ed]
  refine ix (xs := .str w :: pl e.at_ :: y :: r) rfl at1 ?_
  refine ix (xs := .str w :: pl e.at_ :: y :: r) rfl at1 ?_
  refine ⟨(t, e.at_, .node n ts), rfl, .cons t.nr (.cons (pl_nr _) .nil), h1, ?_⟩
  rintro d - rfl
  refine ⟨(n, ts, e), by show _ = [(Th.node n ts).dv, e.dv]; rw [ed], .cons (Th.nr _) (.cons (by show Nr (.tup (.str w :: pl e.at_ :: y :: r)); rw [← ed]; exact ed_nr e) .nil), ⟨h2, by show sizes ts ≤ 900; omega⟩, ?_⟩
  rintro d - rfl
  refine ⟨(t, e.at_, chg n ts e), rfl, .cons t.nr (.cons (pl_nr _) (.cons (Th.nr _) .nil)), ⟨sized_len hs h1, by show (getA t e.at_).isSome = true; rw [h1]; rfl, by show t.size ≤ 900; omega⟩, ?_⟩
  rintro d - rfl
  exact fin
theorem p_done : PL Ndone Wdone (D2.Spec.fn A_done P_done R_done) := by
  rintro ⟨t, e⟩ ⟨hs, hg⟩
  have hs : Sized t := hs
  have h400 := hs.2.1
  show Wdone _ [some t.dv, some e.dv] []
  refine ⟨(t, e), rfl, .cons t.nr (.cons (ed_nr e) .nil), ⟨hg, by show t.size ≤ 900; omega⟩, ?_⟩
  rintro d - rfl
  refine ⟨(t, e), rfl, .cons t.nr (.cons (ed_nr e) .nil), ⟨hs, hg⟩, ?_⟩
  rintro d - rfl
  exact back_fn (args := A_done) (pre := P_done) (F := R_done) (i := (t, e)) (Th.nr _) rfl
theorem p_undoing : PL Nundoing Wundoing (D2.Spec.fn A_undoing P_undoing R_undoing) := by
  rintro ⟨t, e⟩ ⟨hs, hg⟩
  have hs : Sized t := hs
  have h400 := hs.2.1
  have hg' : e.good t := hg
  obtain ⟨n, ts, h1, h2⟩ := hg'
  show Wundoing _ [some t.dv, some e.dv, none, none, none, none, none] []
  generalize hD : ({ nx := _, rt := _ } : DEnds) = D
  have fin : D.rt (bck n ts e).dv [] := by
    rw [← hD, ← undo_eq h1]
    exact back_fn (args := A_undoing) (pre := P_undoing) (F := R_undoing) (i := (t, e)) (ed_nr _) rfl
  clear hD
  refine ⟨(t, e), rfl, .cons t.nr (.cons (ed_nr e) .nil), ⟨hg, by show t.size ≤ 900; omega⟩, ?_⟩
  rintro d - rfl
  have nn : ∀ e : Ed, Nr (.tup e.xs) := fun e => .tup (ed_nrs e)
  rw [ed_dv]
  cases e with
  | put p i x =>
    refine ix (xs := [.str "put", pl p, nat i, x.dv]) rfl rfl ?_
    refine ⟨(t, p, .node n ts), rfl, .cons t.nr (.cons (pl_nr _) .nil), h1, ?_⟩
    rintro d - rfl
    refine slT (xs := [.str "put", pl p, nat i, x.dv]) ?_
    rw [cut3]
    refine And.intro (show 2 ≤ sizeLine by decide) ?_
    rw [dv_node]
    refine ⟨_, _, rfl, rfl, ?_⟩
    refine eqSt ?_
    refine And.intro (show 3 ≤ sizeLine by decide) ?_
    exact fin
  | drop p i =>
    have h2 : i < ts.length := h2
    obtain ⟨u, hu⟩ : ∃ u, ts[i]? = some u := ⟨ts[i], by simp [h2]⟩
    have eu : ts.getD i (.txt "") = u := by rw [List.getD_eq_getElem?_getD, hu]; rfl
    simp only [bck, eu] at fin
    refine ix (xs := [.str "drop", pl p, nat i]) rfl rfl ?_
    refine ⟨(t, p, .node n ts), rfl, .cons t.nr (.cons (pl_nr _) .nil), h1, ?_⟩
    rintro d - rfl
    refine slT (xs := [.str "drop", pl p, nat i]) ?_
    rw [cut3]
    refine And.intro (show 2 ≤ sizeLine by decide) ?_
    rw [dv_node]
    refine ⟨_, _, rfl, rfl, ?_⟩
    refine eqSf (by decide +kernel) ?_
    refine eqSt ?_
    refine ix (xs := dvs ts) rfl (atI_nat (dvs_at hu)) ?_
    refine And.intro (show 4 ≤ sizeLine by decide) ?_
    exact fin
  | name p s =>
    refine ix (xs := [.str "name", pl p, .str s]) rfl rfl ?_
    refine ⟨(t, p, .node n ts), rfl, .cons t.nr (.cons (pl_nr _) .nil), h1, ?_⟩
    rintro d - rfl
    refine slT (xs := [.str "name", pl p, .str s]) ?_
    rw [cut3]
    refine And.intro (show 2 ≤ sizeLine by decide) ?_
    rw [dv_node]
    refine ⟨_, _, rfl, rfl, ?_⟩
    refine eqSf (by decide +kernel) ?_
    refine eqSf (by decide +kernel) ?_
    refine eqSt ?_
    refine And.intro (show 3 ≤ sizeLine by decide) ?_
    exact fin
  | say p i s =>
    obtain ⟨⟨s0, hu⟩, h3⟩ := h2
    simp only [bck, hu, txtOf] at fin
    refine ix (xs := [.str "say", pl p, nat i, .str s]) rfl rfl ?_
    refine ⟨(t, p, .node n ts), rfl, .cons t.nr (.cons (pl_nr _) .nil), h1, ?_⟩
    rintro d - rfl
    refine slT (xs := [.str "say", pl p, nat i, .str s]) ?_
    rw [cut3]
    refine And.intro (show 2 ≤ sizeLine by decide) ?_
    rw [dv_node]
    refine ⟨_, _, rfl, rfl, ?_⟩
    refine eqSf (by decide +kernel) ?_
    refine eqSf (by decide +kernel) ?_
    refine eqSf (by decide +kernel) ?_
    refine ix (xs := dvs ts) rfl (atI_nat (dvs_at hu)) ?_
    rw [dv_txt]
    refine And.intro (show 4 ≤ sizeLine by decide) ?_
    exact fin
theorem p_law_back : PL N_law_back W_law_back (D2.Spec.fn A_law_back P_law_back R_law_back) := by
  rintro ⟨t, e⟩ ⟨hs, hg⟩
  have hs : Sized t := hs
  have hg' : e.good t := hg
  obtain ⟨n, ts, h1, h2⟩ := hg'
  show W_law_back _ [some t.dv, some e.dv, none, none, none, none, none] []
  generalize hD : ({ nx := _, rt := _ } : DEnds) = D
  have fin : D.rt (bck n ts e).dv [] := by
    rw [← hD, ← undo_eq h1]
    exact back_fn (args := A_law_back) (pre := P_law_back) (F := R_law_back) (i := (t, e)) (ed_nr _) rfl
  clear hD
  rw [ed_dv]
  cases e with
  | put p i x =>
    refine slT (xs := [.str "put", pl p, nat i, x.dv]) ?_
    rw [cut3]
    refine ix (xs := [.str "put", pl p, nat i, x.dv]) rfl rfl ?_
    refine ⟨(t, p, .node n ts), rfl, .cons t.nr (.cons (pl_nr _) .nil), h1, ?_⟩
    rintro d - rfl
    refine And.intro (show 2 ≤ sizeLine by decide) ?_
    rw [dv_node]
    refine ⟨_, _, rfl, rfl, ?_⟩
    refine eqSt ?_
    refine And.intro (show 3 ≤ sizeLine by decide) ?_
    exact fin
  | drop p i =>
    have h2 : i < ts.length := h2
    obtain ⟨u, hu⟩ : ∃ u, ts[i]? = some u := ⟨ts[i], by simp [h2]⟩
    have eu : ts.getD i (.txt "") = u := by rw [List.getD_eq_getElem?_getD, hu]; rfl
    simp only [bck, eu] at fin
    refine slT (xs := [.str "drop", pl p, nat i]) ?_
    rw [cut3]
    refine ix (xs := [.str "drop", pl p, nat i]) rfl rfl ?_
    refine ⟨(t, p, .node n ts), rfl, .cons t.nr (.cons (pl_nr _) .nil), h1, ?_⟩
    rintro d - rfl
    refine And.intro (show 2 ≤ sizeLine by decide) ?_
    rw [dv_node]
    refine ⟨_, _, rfl, rfl, ?_⟩
    refine eqSf (by decide +kernel) ?_
    refine eqSf (by decide +kernel) ?_
    refine eqSt ?_
    refine ix (xs := dvs ts) rfl (atI_nat (dvs_at hu)) ?_
    refine And.intro (show 4 ≤ sizeLine by decide) ?_
    exact fin
  | name p s =>
    refine slT (xs := [.str "name", pl p, .str s]) ?_
    rw [cut3]
    refine ix (xs := [.str "name", pl p, .str s]) rfl rfl ?_
    refine ⟨(t, p, .node n ts), rfl, .cons t.nr (.cons (pl_nr _) .nil), h1, ?_⟩
    rintro d - rfl
    refine And.intro (show 2 ≤ sizeLine by decide) ?_
    rw [dv_node]
    refine ⟨_, _, rfl, rfl, ?_⟩
    refine eqSf (by decide +kernel) ?_
    refine eqSt ?_
    refine And.intro (show 3 ≤ sizeLine by decide) ?_
    exact fin
  | say p i s =>
    obtain ⟨⟨s0, hu⟩, h3⟩ := h2
    simp only [bck, hu, txtOf] at fin
    refine slT (xs := [.str "say", pl p, nat i, .str s]) ?_
    rw [cut3]
    refine ix (xs := [.str "say", pl p, nat i, .str s]) rfl rfl ?_
    refine ⟨(t, p, .node n ts), rfl, .cons t.nr (.cons (pl_nr _) .nil), h1, ?_⟩
    rintro d - rfl
    refine And.intro (show 2 ≤ sizeLine by decide) ?_
    rw [dv_node]
    refine ⟨_, _, rfl, rfl, ?_⟩
    refine eqSf (by decide +kernel) ?_
    refine eqSf (by decide +kernel) ?_
    refine eqSf (by decide +kernel) ?_
    refine ix (xs := dvs ts) rfl (atI_nat (dvs_at hu)) ?_
    rw [dv_txt]
    refine And.intro (show 4 ≤ sizeLine by decide) ?_
    exact fin
theorem p_law_done : PL N_law_done (W_law_done 40) (D2.Spec.fn A_law_done P_law_done R_law_done) := by
  rintro ⟨t, e⟩ ⟨hs, hg⟩
  have hs : Sized t := hs
  have hg' : e.good t := hg
  obtain ⟨n, ts, h1, h2⟩ := hg'
  have h400 := hs.2.1
  have hz := node_size h1
  rw [size_node] at hz
  have hl : ts.length ≤ 400 := by have := len_sizes ts; omega
  have a1 := fun i => len_take ts i
  have a2 := fun i => len_drop ts i
  show W_law_done 40 _ [some t.dv, some e.dv, none, none, none, none, none, none] []
  generalize hD : ({ nx := _, rt := _ } : DEnds) = D
  have fin : D.rt (putA t e.at_ (chg n ts e)).dv [] := by
    rw [← hD, ← done_eq h1]
    exact back_fn (args := A_law_done) (pre := P_law_done) (F := R_law_done) (i := (t, e)) (Th.nr _) rfl
  clear hD
  rw [ed_dv]
  have put : ∀ {y : Th} {dv : Dv} {Q : DK}, dv = y.dv → Q (putA t e.at_ y).dv [] → ∃ i, [t.dv, pl e.at_, dv] = A_law_with i ∧ Nrs [t.dv, pl e.at_, dv] ∧ P_law_with 40 i ∧ ∀ d, Nr d → R_law_with i d → Q d [] := by
    rintro y dv Q rfl q
    refine ⟨(t, e.at_, y), rfl, .cons t.nr (.cons (pl_nr _) (.cons y.nr .nil)), ⟨sized_len hs h1, by show (getA t e.at_).isSome = true; rw [h1]; rfl, by show t.size ≤ 900; omega⟩, ?_⟩
    rintro d - rfl
    exact q
  cases e with
  | name p s =>
    refine slT (xs := [.str "name", pl p, .str s]) ?_
    rw [cut3]
    refine ix (xs := [.str "name", pl p, .str s]) rfl rfl ?_
    refine ⟨(t, p, .node n ts), rfl, .cons t.nr (.cons (pl_nr _) .nil), h1, ?_⟩
    rintro d - rfl
    refine And.intro (show 2 ≤ sizeLine by decide) ?_
    rw [dv_node]
    refine ⟨_, _, rfl, rfl, ?_⟩
    refine eqSt ?_
    refine And.intro (show 2 ≤ sizeLine by decide) ?_
    exact put (y := .node s ts) (by rw [dv_node]) fin
  | put p i x =>
    refine slT (xs := [.str "put", pl p, nat i, x.dv]) ?_
    rw [cut3]
    refine ix (xs := [.str "put", pl p, nat i, x.dv]) rfl rfl ?_
    refine ⟨(t, p, .node n ts), rfl, .cons t.nr (.cons (pl_nr _) .nil), h1, ?_⟩
    rintro d - rfl
    refine And.intro (show 2 ≤ sizeLine by decide) ?_
    rw [dv_node]
    refine ⟨_, _, rfl, rfl, ?_⟩
    refine eqSf (by decide +kernel) ?_
    refine eqSf (by decide +kernel) ?_
    refine ix (xs := [.str "put", pl p, nat i, x.dv]) rfl rfl ?_
    refine And.intro (show 1 ≤ sizeLine by decide) ?_
    refine slT ?_
    rw [cut_lo, dvs_take]
    refine addT (line64 (by have := a1 i; simp only [List.length_cons, List.length_nil]; omega)) ?_
    refine eqSt ?_
    refine addI ?_
    refine slT ?_
    rw [Int.add_zero, cut_hi, dvs_dropN]
    refine addT (line64 ?_) ?_
    · have := a1 i
      have := a2 i
      simp only [List.length_append, List.length_cons, List.length_nil]
      omega
    refine And.intro (show 2 ≤ sizeLine by decide) ?_
    exact put (y := chg n ts (.put p i x)) (by simp only [chg]; rw [dv_node, dvs_app, dvs_app, dvs_one]) fin
  | drop p i =>
    refine slT (xs := [.str "drop", pl p, nat i]) ?_
    rw [cut3]
    refine ix (xs := [.str "drop", pl p, nat i]) rfl rfl ?_
    refine ⟨(t, p, .node n ts), rfl, .cons t.nr (.cons (pl_nr _) .nil), h1, ?_⟩
    rintro d - rfl
    refine And.intro (show 2 ≤ sizeLine by decide) ?_
    rw [dv_node]
    refine ⟨_, _, rfl, rfl, ?_⟩
    refine eqSf (by decide +kernel) ?_
    refine eqSt ?_
    refine And.intro (show 0 ≤ sizeLine from Nat.zero_le _) ?_
    refine slT ?_
    rw [cut_lo, dvs_take]
    refine addT (line64 (by have := a1 i; simp only [List.length_nil]; omega)) ?_
    refine eqSf (by decide +kernel) ?_
    refine addI ?_
    refine slT ?_
    rw [List.append_nil, show ((i : Int) + 1) = ((i + 1 : Nat) : Int) by omega, cut_hi, dvs_dropN]
    refine addT (line64 (by have := a1 i; have := a2 (i + 1); omega)) ?_
    refine And.intro (show 2 ≤ sizeLine by decide) ?_
    exact put (y := chg n ts (.drop p i)) (by simp only [chg]; rw [dv_node, dvs_app]) fin
  | say p i s =>
    refine slT (xs := [.str "say", pl p, nat i, .str s]) ?_
    rw [cut3]
    refine ix (xs := [.str "say", pl p, nat i, .str s]) rfl rfl ?_
    refine ⟨(t, p, .node n ts), rfl, .cons t.nr (.cons (pl_nr _) .nil), h1, ?_⟩
    rintro d - rfl
    refine And.intro (show 2 ≤ sizeLine by decide) ?_
    rw [dv_node]
    refine ⟨_, _, rfl, rfl, ?_⟩
    refine eqSf (by decide +kernel) ?_
    refine eqSf (by decide +kernel) ?_
    refine ix (xs := [.str "say", pl p, nat i, .str s]) rfl rfl ?_
    refine And.intro (show 1 ≤ sizeLine by decide) ?_
    refine slT ?_
    rw [cut_lo, dvs_take]
    refine addT (line64 (by have := a1 i; simp only [List.length_cons, List.length_nil]; omega)) ?_
    refine eqSf (by decide +kernel) ?_
    refine addI ?_
    refine slT ?_
    rw [show ((i : Int) + 1) = ((i + 1 : Nat) : Int) by omega, cut_hi, dvs_dropN]
    refine addT (line64 ?_) ?_
    · have := a1 i
      have := a2 (i + 1)
      simp only [List.length_append, List.length_cons, List.length_nil]
      omega
    refine And.intro (show 2 ≤ sizeLine by decide) ?_
    exact put (y := chg n ts (.say p i s)) (by simp only [chg]; rw [dv_node, dvs_app, dvs_app, dvs_one, dv_txt]) fin
end K75

namespace K75
open PySem PySem.Spec PyProof.Rows L2 D2 K02
/-! ### the plain law of edits -/
theorem getA_putA : ∀ {p : List Nat} {t x y : Th}, getA t p = some y → getA (putA t p x) p = some x
  | [], t, x, y, _ => by rw [putA_nil, getA_nil]
  | i :: p, t, x, y, h => by
    obtain ⟨n, ts, u, rfl, e, h2⟩ := getA_cons h
    rw [putA_node e]
    have hi := (List.getElem?_eq_some_iff.mp e).1
    have e2 : (ts.take i ++ [putA u p x] ++ ts.drop (i + 1))[i]? = some (putA u p x) := by
      rw [List.append_assoc, List.getElem?_append_right (by simp; omega)]
      have : i - (ts.take i).length = 0 := by simp; omega
      rw [this]
      rfl
    rw [getA_node e2]
    exact getA_putA h2
theorem take_put {ts : List Th} {i : Nat} {z : Th} (h : i < ts.length) : (ts.take i ++ [z] ++ ts.drop (i + 1)).take i = ts.take i := by
  rw [List.append_assoc, List.take_append_of_le_length (by simp; omega), List.take_take, Nat.min_self]
theorem drop_put {ts : List Th} {i : Nat} {z : Th} (h : i < ts.length) : (ts.take i ++ [z] ++ ts.drop (i + 1)).drop (i + 1) = ts.drop (i + 1) := by
  have : (ts.take i ++ [z]).length = i + 1 := by simp; omega
  rw [List.drop_append_of_le_length (by omega), ← this, List.drop_length, List.nil_append]
theorem at_put {ts : List Th} {i : Nat} {z : Th} (h : i < ts.length) : (ts.take i ++ [z] ++ ts.drop (i + 1))[i]? = some z := by
  rw [List.append_assoc, List.getElem?_append_right (by simp; omega)]
  have : i - (ts.take i).length = 0 := by simp; omega
  rw [this]
  rfl
theorem putA_putA : ∀ {p : List Nat} {t x y z : Th}, getA t p = some z → putA (putA t p x) p y = putA t p y
  | [], t, x, y, z, _ => by rw [putA_nil, putA_nil]
  | i :: p, t, x, y, z, h => by
    obtain ⟨n, ts, u, rfl, e, h2⟩ := getA_cons h
    have hi := (List.getElem?_eq_some_iff.mp e).1
    rw [putA_node e, putA_node (at_put hi), putA_node e, take_put hi, drop_put hi, putA_putA h2]
theorem putA_getA : ∀ {p : List Nat} {t y : Th}, getA t p = some y → putA t p y = t
  | [], t, y, h => by
    rw [getA_nil] at h
    cases h
    rw [putA_nil]
  | i :: p, t, y, h => by
    obtain ⟨n, ts, u, rfl, e, h2⟩ := getA_cons h
    rw [putA_node e, putA_getA h2, ← take_at e]
theorem sizes_at {ts : List Th} {i : Nat} {u : Th} (h : ts[i]? = some u) : sizes ts = sizes (ts.take i) + u.size + sizes (ts.drop (i + 1)) := by
  have e := take_at h
  generalize ts.take i = a at e
  generalize ts.drop (i + 1) = b at e
  rw [e, sizes_app, sizes_app]
  simp [sizes]
theorem putA_size : ∀ {p : List Nat} {t x y : Th}, getA t p = some y → (putA t p x).size + y.size = t.size + x.size
  | [], t, x, y, h => by
    rw [getA_nil] at h
    cases h
    rw [putA_nil]
    omega
  | i :: p, t, x, y, h => by
    obtain ⟨n, ts, u, rfl, e, h2⟩ := getA_cons h
    have := putA_size (x := x) h2
    have := sizes_at e
    rw [putA_node e, size_node, size_node, sizes_app, sizes_app]
    simp only [sizes]
    omega
theorem oks_at {ts : List Th} {i : Nat} {u : Th} (ho : oks ts) (h : ts[i]? = some u) : u.ok := oks_mem ho u (List.mem_of_getElem? h)
theorem oks_take {ts : List Th} (i : Nat) (h : oks ts) : oks (ts.take i) := oks_sub (fun t q => List.mem_of_mem_take q) h
theorem oks_drop {ts : List Th} (i : Nat) (h : oks ts) : oks (ts.drop i) := oks_sub (fun t q => List.mem_of_mem_drop q) h
theorem oks_three {a b : List Th} {u : Th} (ha : oks a) (hu : u.ok) (hb : oks b) : oks (a ++ [u] ++ b) := by
  rw [oks_app, oks_app]
  exact ⟨⟨ha, by simp only [oks]; exact ⟨hu, trivial⟩⟩, hb⟩
theorem getA_ok : ∀ {p : List Nat} {t y : Th}, t.ok → getA t p = some y → y.ok
  | [], t, y, ho, h => by
    rw [getA_nil] at h
    cases h
    exact ho
  | i :: p, t, y, ho, h => by
    obtain ⟨n, ts, u, rfl, e, h2⟩ := getA_cons h
    rw [ok_node] at ho
    exact getA_ok (oks_at ho.2 e) h2
theorem putA_ok : ∀ {p : List Nat} {t x y : Th}, t.ok → x.ok → getA t p = some y → (putA t p x).ok
  | [], t, x, y, _, hx, h => by
    rw [putA_nil]
    exact hx
  | i :: p, t, x, y, ho, hx, h => by
    obtain ⟨n, ts, u, rfl, e, h2⟩ := getA_cons h
    rw [ok_node] at ho
    rw [putA_node e, ok_node]
    exact ⟨ho.1, oks_three (oks_take _ ho.2) (putA_ok (oks_at ho.2 e) hx h2) (oks_drop _ ho.2)⟩
theorem deps_app : ∀ a b : List Th, deps (a ++ b) = max (deps a) (deps b)
  | [], b => by simp [deps]
  | t :: ts, b => by
    rw [List.cons_append]
    simp only [deps]
    rw [deps_app ts b, Nat.max_assoc]
theorem deps_sub {a b : List Th} (h : ∀ t ∈ a, t ∈ b) : deps a ≤ deps b := deps_le fun t ht => dep_mem (h t ht)
theorem deps_take (ts : List Th) (i : Nat) : deps (ts.take i) ≤ deps ts := deps_sub fun t q => List.mem_of_mem_take q
theorem deps_drop (ts : List Th) (i : Nat) : deps (ts.drop i) ≤ deps ts := deps_sub fun t q => List.mem_of_mem_drop q
theorem deps_three (a b : List Th) (u : Th) : deps (a ++ [u] ++ b) = max (max (deps a) u.dep) (deps b) := by
  rw [deps_app, deps_app]
  simp [deps]
theorem putA_dep : ∀ {p : List Nat} {t x y : Th}, getA t p = some y → (putA t p x).dep ≤ max t.dep (p.length + x.dep)
  | [], t, x, y, h => by
    rw [putA_nil]
    simp only [List.length_nil]
    omega
  | i :: p, t, x, y, h => by
    obtain ⟨n, ts, u, rfl, e, h2⟩ := getA_cons h
    have := putA_dep (x := x) h2
    have := dep_at e
    have := deps_take ts i
    have := deps_drop ts (i + 1)
    rw [putA_node e, dep_node, dep_node, deps_three, List.length_cons]
    omega
theorem putA_isTxt {p : List Nat} {t x y : Th} (h : getA t p = some y) (hx : isTxt x = false) : isTxt (putA t p x) = false := by
  cases p with
  | nil =>
    rw [putA_nil]
    exact hx
  | cons i p =>
    obtain ⟨n, ts, u, rfl, e, h2⟩ := getA_cons h
    rw [putA_node e]
    rfl
/-! the node that is changed -/
def Ed.more : Ed → Nat
  | .put _ _ x => x.size
  | _ => 0
def Ed.deep : Ed → Nat
  | .put _ _ x => x.dep
  | _ => 0
theorem chg_is (n : Str) (ts : List Th) (e : Ed) : ∃ n' ts', chg n ts e = .node n' ts' := by
  cases e <;> exact ⟨_, _, rfl⟩
theorem chg_isTxt (n : Str) (ts : List Th) (e : Ed) : isTxt (chg n ts e) = false := by
  cases e <;> rfl
theorem chg_ok {n : Str} {ts : List Th} {e : Ed} (hn : NmOk n) (ho : oks ts) (h : e.fits ts) : (chg n ts e).ok := by
  cases e with
  | drop p i =>
    simp only [chg]
    rw [ok_node, oks_app]
    exact ⟨hn, oks_take _ ho, oks_drop _ ho⟩
  | put p i x =>
    simp only [chg]
    rw [ok_node]
    exact ⟨hn, oks_three (oks_take _ ho) h.2.1 (oks_drop _ ho)⟩
  | name p s =>
    simp only [chg]
    rw [ok_node]
    exact ⟨h, ho⟩
  | say p i s =>
    simp only [chg]
    rw [ok_node]
    exact ⟨hn, oks_three (oks_take _ ho) (by simp only [Th.ok]; exact h.2) (oks_drop _ ho)⟩
theorem sizes_two (ts : List Th) (i : Nat) : sizes ts = sizes (ts.take i) + sizes (ts.drop i) := by rw [← sizes_app, List.take_append_drop]
theorem chg_size {n : Str} {ts : List Th} {e : Ed} (h : e.fits ts) : (chg n ts e).size ≤ sizes ts + 1 + e.more := by
  cases e with
  | drop p i =>
    obtain ⟨u, hu⟩ : ∃ u, ts[i]? = some u := ⟨ts[i]'h, List.getElem?_eq_getElem h⟩
    have := sizes_at hu
    simp only [chg, Ed.more]
    rw [size_node, sizes_app]
    omega
  | put p i x =>
    have := sizes_two ts i
    simp only [chg, Ed.more]
    rw [size_node, sizes_app, sizes_app]
    simp only [sizes]
    omega
  | name p s =>
    simp only [chg, Ed.more]
    rw [size_node]
    omega
  | say p i s =>
    obtain ⟨⟨s0, hu⟩, _⟩ := h
    have := sizes_at hu
    simp only [chg, Ed.more]
    rw [size_node, sizes_app, sizes_app]
    simp only [sizes, Th.size] at *
    omega
theorem chg_dep (n : Str) (ts : List Th) (e : Ed) : (chg n ts e).dep ≤ max (deps ts + 1) (e.deep + 1) := by
  have a := fun i => deps_take ts i
  have b := fun i => deps_drop ts i
  cases e with
  | drop p i =>
    have := a i
    have := b (i + 1)
    simp only [chg, Ed.deep]
    rw [dep_node, deps_app]
    omega
  | put p i x =>
    have := a i
    have := b i
    simp only [chg, Ed.deep]
    rw [dep_node, deps_three]
    omega
  | name p s =>
    simp only [chg, Ed.deep]
    rw [dep_node]
    omega
  | say p i s =>
    have := a i
    have := b (i + 1)
    simp only [chg, Ed.deep]
    rw [dep_node, deps_three]
    simp only [Th.dep]
    omega
theorem bck_at (n : Str) (ts : List Th) (e : Ed) : (bck n ts e).at_ = e.at_ := by cases e <;> rfl
/-- there and back, in the node -/
theorem chg_bck {n : Str} {ts : List Th} {e : Ed} (ho : oks ts) (hn : NmOk n) (hz : sizes ts ≤ 500) (hd : deps ts ≤ 25) (h : e.fits ts) : ∃ n' ts', chg n ts e = .node n' ts' ∧ (bck n ts e).fits ts' ∧ chg n' ts' (bck n ts e) = .node n ts := by
  cases e with
  | drop p i =>
    have hi : i < ts.length := h
    obtain ⟨u, hu⟩ : ∃ u, ts[i]? = some u := ⟨ts[i], by simp [hi]⟩
    have eu : ts.getD i (.txt "") = u := by rw [List.getD_eq_getElem?_getD, hu]; rfl
    refine ⟨n, ts.take i ++ ts.drop (i + 1), rfl, ?_, ?_⟩
    · simp only [bck, eu, Ed.fits]
      refine ⟨by simp; omega, oks_at ho hu, ?_, ?_⟩
      · have := size_at hu
        omega
      · have := dep_at hu
        omega
    · simp only [bck, eu, chg]
      have l : (ts.take i).length = i := by simp; omega
      rw [List.take_append_of_le_length (by omega), List.drop_append_of_le_length (by omega), List.take_take, Nat.min_self, List.drop_of_length_le (by omega), List.nil_append, ← take_at hu]
  | put p i x =>
    have hi : i ≤ ts.length := h.1
    refine ⟨n, ts.take i ++ [x] ++ ts.drop i, rfl, ?_, ?_⟩
    · show i < (ts.take i ++ [x] ++ ts.drop i).length
      simp
      omega
    · simp only [bck, chg]
      have l : (ts.take i).length = i := by simp; omega
      have l2 : (ts.take i ++ [x]).length = i + 1 := by simp; omega
      rw [List.append_assoc, List.take_append_of_le_length (by omega), ← List.append_assoc, List.drop_append_of_le_length (by omega), List.take_take, Nat.min_self, List.drop_of_length_le (by omega), List.nil_append, List.take_append_drop]
  | name p s => exact ⟨s, ts, rfl, hn, rfl⟩
  | say p i s =>
    obtain ⟨⟨s0, hu⟩, hs⟩ := h
    have hi := (List.getElem?_eq_some_iff.mp hu).1
    refine ⟨n, ts.take i ++ [.txt s] ++ ts.drop (i + 1), rfl, ?_, ?_⟩
    · simp only [bck, hu, txtOf, Ed.fits]
      refine ⟨⟨s, at_put hi⟩, ?_⟩
      have := oks_at ho hu
      simpa only [Th.ok] using this
    · simp only [bck, hu, txtOf, chg]
      rw [take_put hi, drop_put hi, ← take_at hu]
/-! there and back -/
theorem good_part {t : Th} {e : Ed} (hs : Sized t) (h : e.good t) : ∃ n ts, getA t e.at_ = some (.node n ts) ∧ e.fits ts ∧ NmOk n ∧ oks ts ∧ sizes ts ≤ 399 ∧ deps ts ≤ 24 ∧ e.at_.length + deps ts + 1 ≤ t.dep := by
  obtain ⟨n, ts, h1, h2⟩ := h
  have a := getA_ok hs.1 h1
  have b := node_size h1
  have c := place_len h1
  rw [ok_node] at a
  rw [size_node] at b
  rw [dep_node] at c
  have := hs.2.1
  have := hs.2.2
  exact ⟨n, ts, h1, h2, a.1, a.2, by omega, by omega, by omega⟩
theorem undo_done {t : Th} {e : Ed} (hs : Sized t) (h : e.good t) : (undoE t e).good (doneE t e) ∧ doneE (doneE t e) (undoE t e) = t := by
  obtain ⟨n, ts, h1, h2, hn, ho, hz, hd, _⟩ := good_part hs h
  obtain ⟨n', ts', e1, e2, e3⟩ := chg_bck ho hn (by omega) (by omega) h2
  rw [undo_eq h1, done_eq h1]
  have g : getA (putA t e.at_ (chg n ts e)) (bck n ts e).at_ = some (.node n' ts') := by rw [bck_at, getA_putA h1, e1]
  refine ⟨⟨n', ts', g, e2⟩, ?_⟩
  rw [done_eq g, e3, bck_at, putA_putA h1, putA_getA h1]
theorem done_small {t : Th} {e : Ed} (hs : Sized t) (h : e.good t) : (doneE t e).ok ∧ (doneE t e).size ≤ t.size + e.more ∧ (doneE t e).dep ≤ max t.dep (e.at_.length + e.deep + 1) ∧ isTxt (doneE t e) = false := by
  obtain ⟨n, ts, h1, h2, hn, ho, hz, hd, hp⟩ := good_part hs h
  rw [done_eq h1]
  have a := putA_size (x := chg n ts e) h1
  have b := putA_dep (x := chg n ts e) h1
  have c := chg_size (n := n) h2
  have d := chg_dep n ts e
  rw [size_node] at a
  exact ⟨putA_ok hs.1 (chg_ok hn ho h2) h1, by omega, by omega, putA_isTxt h1 (chg_isTxt n ts e)⟩
theorem good_txt {t : Th} {e : Ed} (h : e.good t) : isTxt t = false := by
  obtain ⟨n, ts, h1, _⟩ := h
  cases t with
  | node n ts => rfl
  | txt s =>
    cases hp : e.at_ with
    | nil =>
      rw [hp, getA_nil] at h1
      cases h1
    | cons i p =>
      rw [hp] at h1
      simp [getA] at h1
/-! rows of edits -/
theorem run_app : ∀ (es fs : List Ed) (t : Th), runE t (es ++ fs) = runE (runE t es) fs
  | [], fs, t => rfl
  | e :: es, fs, t => run_app es fs (doneE t e)
theorem chn_sized : ∀ {es : List Ed} {t : Th}, Chn t es → Sized t
  | [], _, h => h
  | _ :: _, _, h => h.1
theorem chn_end : ∀ {es : List Ed} {t : Th}, Chn t es → Sized (runE t es)
  | [], _, h => h
  | e :: es, t, h => chn_end (es := es) h.2.2
theorem chn_app : ∀ {es fs : List Ed} {t : Th}, Chn t es → Chn (runE t es) fs → Chn t (es ++ fs)
  | [], fs, t, _, h => h
  | e :: es, fs, t, h, h2 => ⟨h.1, h.2.1, chn_app (es := es) h.2.2 h2⟩
theorem chn_cut : ∀ {es fs : List Ed} {t : Th}, Chn t (es ++ fs) → Chn t es ∧ Chn (runE t es) fs
  | [], fs, t, h => ⟨chn_sized h, h⟩
  | e :: es, fs, t, h => by
    have := chn_cut (es := es) h.2.2
    exact ⟨⟨h.1, h.2.1, this.1⟩, this.2⟩
theorem backs_chn : ∀ {es : List Ed} {t : Th}, Chn t es → Chn (runE t es) (backs t es) ∧ runE (runE t es) (backs t es) = t
  | [], t, h => ⟨h, rfl⟩
  | e :: es, t, h => by
    obtain ⟨h1, h2, h3⟩ := h
    obtain ⟨a, b⟩ := backs_chn (es := es) h3
    obtain ⟨c, d⟩ := undo_done h1 h2
    have r : runE (runE (doneE t e) es) (backs (doneE t e) es ++ [undoE t e]) = t := by
      rw [run_app, b]
      exact d
    refine ⟨?_, r⟩
    refine chn_app a ?_
    show Chn (runE (runE (doneE t e) es) (backs (doneE t e) es)) [undoE t e]
    rw [b]
    refine ⟨chn_sized h3, c, ?_⟩
    rw [d]
    exact h1
theorem backs_len : ∀ (es : List Ed) (t : Th), (backs t es).length = es.length
  | [], _ => rfl
  | e :: es, t => by
    rw [backs, List.length_append, backs_len es]
    rfl
theorem backs_app : ∀ (es fs : List Ed) (t : Th), backs t (es ++ fs) = backs (runE t es) fs ++ backs t es
  | [], fs, t => by simp [backs, runE]
  | e :: es, fs, t => by
    rw [List.cons_append, backs, backs_app es fs, backs, List.append_assoc]
    rfl
end K75

namespace K75
open PySem PySem.Spec PyProof.Rows L2 D2 K02
/-! ### two rows side by side -/
open Classical in
theorem ahead_step {a b : List Th} {x y : Th} : ahead (x :: a) (y :: b) = if x = y then ahead a b + 1 else 0 := by
  rw [ahead]
theorem ahead_nil1 (b : List Th) : ahead [] b = 0 := by unfold ahead; rfl
theorem ahead_nil2 (a : List Th) : ahead a [] = 0 := by cases a <;> (unfold ahead; rfl)
open Classical in
theorem ahead_le : ∀ a b : List Th, ahead a b ≤ a.length ∧ ahead a b ≤ b.length ∧ a.take (ahead a b) = b.take (ahead a b)
  | [], b => by simp [ahead_nil1]
  | x :: a, [] => by simp [ahead_nil2]
  | x :: a, y :: b => by
    obtain ⟨h1, h2, h3⟩ := ahead_le a b
    rw [ahead_step]
    by_cases e : x = y
    · rw [if_pos e]
      subst e
      simp only [List.length_cons, List.take_succ_cons, h3, and_true]
      omega
    · rw [if_neg e]
      simp
mutual
theorem th_eqv : ∀ t u : Th, PyData.eqv t.pd u.pd = true ↔ t = u
  | .txt s, .txt s' => by
    simp only [Th.pd, PyData.eqv, beq_iff_eq, Th.txt.injEq]
  | .txt s, .node n ts => by
    simp only [Th.pd, PyData.eqv]
    simp
  | .node n ts, .txt s => by
    simp only [Th.pd, PyData.eqv]
    simp
  | .node n ts, .node m us => by
    simp only [Th.pd, PyData.eqv, PyData.eqvAll, Bool.and_eq_true, Bool.and_true, beq_iff_eq, Th.node.injEq, ths_eqv ts us]
theorem ths_eqv : ∀ ts us : List Th, PyData.eqvAll (pds ts) (pds us) = true ↔ ts = us
  | [], [] => by simp [pds, PyData.eqvAll]
  | [], u :: us => by simp [pds, PyData.eqvAll]
  | t :: ts, [] => by simp [pds, PyData.eqvAll]
  | t :: ts, u :: us => by
    simp only [pds, PyData.eqvAll, Bool.and_eq_true, th_eqv t u, ths_eqv ts us, List.cons.injEq]
end
theorem th_shaped {t : Th} (h : t.ok) (hd : t.dep ≤ 25) : SeqAt.shaped t.pd = true := shapedT (pd_tame t h) (by have := pd_dep t; omega)
open Classical in
theorem neTh {st : Sto} {Q : DK} {x y : Th} (h1 : x.ok) (h2 : y.ok) (d1 : x.dep ≤ 25) (d2 : y.dep ≤ 25) (q : Q (.bl (!decide (x = y))) st) : gEq true x.dv y.dv st Q := by
  have ev : PyData.eqv x.pd y.pd = decide (x = y) := by
    by_cases e : x = y
    · rw [decide_eq_true e]
      exact (th_eqv x y).mpr e
    · rw [decide_eq_false e]
      cases hb : PyData.eqv x.pd y.pd with
      | false => rfl
      | true => exact absurd ((th_eqv x y).mp hb) e
  have gen : (∃ p q, DP st x.dv p ∧ DP st y.dv q ∧ SeqAt.shaped p = true ∧ SeqAt.shaped q = true ∧ Q (.bl (if true then !PyData.eqv p q else PyData.eqv p q)) st) := ⟨x.pd, y.pd, pd_dp st x, pd_dp st y, th_shaped h1 d1, th_shaped h2 d2, by rw [ev]; exact q⟩
  cases x with
  | txt s =>
    cases y with
    | txt s' =>
      rw [dv_txt, dv_txt]
      refine eqS ?_
      have : decide (s = s') = decide (Th.txt s = Th.txt s') := by
        by_cases e : s = s'
        · subst e
          simp
        · have e2 : ¬ Th.txt s = Th.txt s' := fun z => e (Th.txt.inj z)
          rw [decide_eq_false e, decide_eq_false e2]
      rw [this]
      exact q
    | node n ts =>
      rw [dv_txt, dv_node] at *
      unfold gEq
      exact gen
  | node n ts =>
    cases y with
    | txt s' =>
      rw [dv_txt, dv_node] at *
      unfold gEq
      exact gen
    | node m us =>
      rw [dv_node, dv_node] at *
      unfold gEq
      exact gen
theorem zip_at {xs ys : List Dv} {i : Nat} {d : Dv} (h : (zipD xs ys)[i]? = some d) : ∃ x y, xs[i]? = some x ∧ ys[i]? = some y ∧ d = .tup [x, y] := by
  have hi := (List.getElem?_eq_some_iff.mp h).1
  rw [zipD_len] at hi
  have h1 : xs[i]? = some (xs[i]'(by omega)) := List.getElem?_eq_getElem _
  have h2 : ys[i]? = some (ys[i]'(by omega)) := List.getElem?_eq_getElem _
  rw [zipD_at h1 h2] at h
  exact ⟨_, _, h1, h2, (Option.some.inj h).symm⟩
theorem dvs_inv {ts : List Th} {i : Nat} {d : Dv} (h : (dvs ts)[i]? = some d) : ∃ t, ts[i]? = some t ∧ d = t.dv := by
  rw [dvs_map, List.getElem?_map] at h
  obtain ⟨t, h1, h2⟩ := Option.map_eq_some_iff.mp h
  exact ⟨t, h1, h2.symm⟩
theorem p_alike_ahead : PL Nalike_ahead Walike_ahead (D2.Spec.fn A_alike_ahead P_alike_ahead R_alike_ahead) := by
  classical
  rintro ⟨a, b⟩ ⟨h1, h2, h3, h4⟩
  have h1 : oks a := h1
  have h2 : oks b := h2
  have h3 : deps a ≤ 25 := h3
  have h4 : deps b ≤ 25 := h4
  show Walike_ahead _ [some (.tup (dvs a)), some (.tup (dvs b)), none, none, none] []
  generalize hD : ({ nx := _, rt := _ } : DEnds) = D
  have fin : ∀ k, k = ahead a b → D.rt (nat k) [] := fun k e => by
    rw [← hD, e]
    exact back_fn (args := A_alike_ahead) (pre := P_alike_ahead) (F := R_alike_ahead) (i := (a, b)) (.int _) rfl
  clear hD
  refine Exists.intro (fun i σ st => ∃ v3 v4, σ = [some (.tup (dvs a)), some (.tup (dvs b)), some (nat i), v3, v4] ∧ st = [] ∧ ahead a b = i + ahead (a.drop i) (b.drop i)) ?_
  refine And.intro ⟨none, none, rfl, rfl, by simp⟩ ?_
  refine And.intro (fun i σ' st' _ n e => nomatch e) ?_
  refine And.intro (fun i d σ' st' e hI => ?_) ?_
  · obtain ⟨v3, v4, rfl, rfl, hi⟩ := hI
    obtain ⟨dx, dy, e1, e2, rfl⟩ := zip_at e
    obtain ⟨x, x1, rfl⟩ := dvs_inv e1
    obtain ⟨y, x2, rfl⟩ := dvs_inv e2
    rw [drop_at x1, drop_at x2, ahead_step] at hi
    refine ⟨_, rfl, ?_⟩
    refine neTh (oks_at h1 x1) (oks_at h2 x2) (by have := dep_at x1; omega) (by have := dep_at x2; omega) ?_
    by_cases e : x = y
    · rw [if_pos e] at hi
      refine iteF (by rw [decide_eq_true e]; rfl) ?_
      exact ⟨_, _, rfl, rfl, by omega⟩
    · rw [if_neg e] at hi
      refine iteT (by rw [decide_eq_false e]; rfl) ?_
      exact fin i (by omega)
  · rintro σ' st' ⟨v3, v4, rfl, rfl, hi⟩
    have hz : ahead (a.drop (zipD (dvs a) (dvs b)).length) (b.drop (zipD (dvs a) (dvs b)).length) = 0 := by
      rw [zipD_len, dvs_len, dvs_len]
      by_cases hl : a.length ≤ b.length
      · rw [List.drop_of_length_le (by omega : a.length ≤ _), ahead_nil1]
      · rw [List.drop_of_length_le (by omega : b.length ≤ _), ahead_nil2]
    rw [hz] at hi
    exact fin _ (by omega)
/-- where two rows end alike -/
theorem behind_drop {a b : List Th} {h k : Nat} (hh : h ≤ a.length) (hh2 : h ≤ b.length) (hk : k = ahead (a.drop h).reverse (b.drop h).reverse) : k ≤ a.length - h ∧ k ≤ b.length - h ∧ a.drop (a.length - k) = b.drop (b.length - k) := by
  obtain ⟨h1, h2, h3⟩ := ahead_le (a.drop h).reverse (b.drop h).reverse
  rw [← hk] at h1 h2 h3
  simp only [List.length_reverse, List.length_drop] at h1 h2
  refine ⟨h1, h2, ?_⟩
  rw [List.take_reverse, List.take_reverse] at h3
  have h4 := List.reverse_inj.mp h3
  rw [List.drop_drop, List.drop_drop, List.length_drop, List.length_drop] at h4
  rw [show h + (a.length - h - k) = a.length - k by omega, show h + (b.length - h - k) = b.length - k by omega] at h4
  exact h4
theorem rng_lo {lo : Int} {n i : Nat} {x : Dv} (h : (rng lo n)[i]? = some x) : i < n ∧ x = .int (lo + (i : Int)) := by
  have hi := (List.getElem?_eq_some_iff.mp h).1
  rw [rng_length] at hi
  rw [rng_get hi] at h
  exact ⟨hi, (Option.some.inj h).symm⟩
theorem flat_rep {α : Type} (x : α) : ∀ n : Nat, (List.replicate n [x]).flatten = List.replicate n x
  | 0 => rfl
  | n + 1 => by rw [List.replicate_succ, List.flatten_cons, flat_rep x n]; rfl
theorem p_edits_between : PL Nedits_between Wedits_between (D2.Spec.fn A_edits_between P_edits_between R_edits_between) := by
  rintro ⟨⟨n1, a⟩, n2, b⟩ ⟨y1, y2⟩
  have y1 : Sized (.node n1 a) := y1
  have y2 : Sized (.node n2 b) := y2
  obtain ⟨o1, z1, d1⟩ := y1
  obtain ⟨o2, z2, d2⟩ := y2
  rw [ok_node] at o1 o2
  rw [size_node] at z1 z2
  rw [dep_node] at d1 d2
  have l1 := len_sizes a
  have l2 := len_sizes b
  show Wedits_between _ [some (Th.node n1 a).dv, some (Th.node n2 b).dv, none, none, none, none] []
  generalize hD : ({ nx := _, rt := _ } : DEnds) = D
  have fin : ∀ st, D.rt (.tup ((between n1 a n2 b).map Ed.dv)) st := fun st => by
    rw [← hD]
    exact back_all (args := A_edits_between) (pre := P_edits_between) (F := R_edits_between) (i := ((n1, a), n2, b)) (.tup (eds_nr _)) rfl
  clear hD
  rw [dv_node, dv_node]
  obtain ⟨q1, q2, q3⟩ := ahead_le a b
  unfold between at fin
  dsimp only at fin
  refine ix (xs := [.str n1, .tup (dvs a)]) rfl rfl ?_
  refine ix (xs := [.str n2, .tup (dvs b)]) rfl rfl ?_
  refine ⟨(a, b), rfl, .cons (.tup (nrs a)) (.cons (.tup (nrs b)) .nil), ⟨o1.2, o2.2, by show deps a ≤ 25; omega, by show deps b ≤ 25; omega⟩, ?_⟩
  rintro d - rfl
  generalize hh : ahead a b = h at *
  refine ix (xs := [.str n1, .tup (dvs a)]) rfl rfl ?_
  refine slT ?_
  rw [cut_hi, dvs_dropN]
  refine ix (xs := [.str n2, .tup (dvs b)]) rfl rfl ?_
  refine slT ?_
  rw [cut_hi, dvs_dropN]
  refine ⟨((a.drop h).reverse, (b.drop h).reverse), by show [Dv.tup _, Dv.tup _] = [Dv.tup (dvs (a.drop h).reverse), Dv.tup (dvs (b.drop h).reverse)]; rw [dvs_rev, dvs_rev], .cons (.tup (by rw [← dvs_rev]; exact nrs _)) (.cons (.tup (by rw [← dvs_rev]; exact nrs _)) .nil), ⟨(oks_rev _).mpr (oks_drop _ o1.2), (oks_rev _).mpr (oks_drop _ o2.2), ?_, ?_⟩, ?_⟩
  · show deps (a.drop h).reverse ≤ 25
    have := deps_sub (a := (a.drop h).reverse) (b := a) fun t ht => List.mem_of_mem_drop (List.mem_reverse.mp ht)
    omega
  · show deps (b.drop h).reverse ≤ 25
    have := deps_sub (a := (b.drop h).reverse) (b := b) fun t ht => List.mem_of_mem_drop (List.mem_reverse.mp ht)
    omega
  rintro d - rfl
  obtain ⟨k1, k2, k3⟩ := behind_drop q1 q2 (rfl : ahead (a.drop h).reverse (b.drop h).reverse = _)
  show (wSeq _ _) _ _ _
  generalize ahead (a.drop h).reverse (b.drop h).reverse = k at *
  -- the first edits
  have cont : ∀ F : List Ed, F.length ≤ 1 → F = (if n1 = n2 then [] else [Ed.name [] n2]) → (wSeq (wDrop (wExtL (wVar 4) (w2 gMulL (wRol (wCons (wTup (wCons (wC (.str "drop")) (wCons (wTup wNil) (wCons (wVar 2) wNil)))) wNil)) (w2 (gI (fun _ _ => True) fun a b => a - b) (w2 (gI (fun _ _ => True) fun a b => a - b) (wCB (g1 gLen) (wCons (w2 gIx (wVar 0) (wC (.int 1))) wNil)) (wVar 2)) (wVar 3)))))
  (wSeq (wDrop (wExtL (wVar 4) (wRl (wLc (wRng2 (wCons (wVar 2) (wCons (w2 (gI (fun _ _ => True) fun a b => a - b) (wCB (g1 gLen) (wCons (w2 gIx (wVar 1) (wC (.int 1))) wNil)) (wVar 3)) wNil))) (.one 5) wYes (wTup (wCons (wC (.str "put")) (wCons (wTup wNil) (wCons (wVar 5) (wCons (w2 gIx (w2 gIx (wVar 1) (wC (.int 1))) (wVar 5)) wNil))))) [5]))))
  (wRet (wCB (g1 gTuple) (wCons (wVar 4) wNil))))) D [some (.tup [.str n1, .tup (dvs a)]), some (.tup [.str n2, .tup (dvs b)]), some (nat h), some (nat k), some (.ref 0), none] [.lst (F.map Ed.dv)] := by
    intro F hF eF
    refine And.intro (show 0 ≤ sizeLine from Nat.zero_le _) ?_
    refine And.intro (show 3 ≤ sizeLine by decide) ?_
    refine And.intro (show 1 ≤ sizeLine by decide) ?_
    refine ix (xs := [.str n1, .tup (dvs a)]) rfl rfl ?_
    refine len (xs := dvs a) rfl ?_
    refine subI ?_
    refine subI ?_
    have em : ((dvs a).length : Int) - (h : Int) - (k : Int) = ((a.length - h - k : Nat) : Int) := by rw [dvs_len]; omega
    rw [em]
    refine ⟨[.tup [.str "drop", .tup [], nat h]], _, rfl, rfl, by omega, by omega, line64 (by simp only [List.length_cons, List.length_nil, Int.toNat_natCast]; omega), ?_⟩
    rw [Int.toNat_natCast, flat_rep]
    refine ⟨F.map Ed.dv, List.replicate (a.length - h - k) (.tup [.str "drop", .tup [], nat h]), rfl, rfl, line64 (by rw [List.length_map, List.length_replicate]; omega), ?_⟩
    have e2 : F.map Ed.dv ++ List.replicate (a.length - h - k) (.tup [.str "drop", .tup [], nat h]) = (F ++ List.replicate (a.length - h - k) (Ed.drop [] h)).map Ed.dv := by
      rw [List.map_append, List.map_replicate]
      rfl
    rw [e2]
    refine ix (xs := [.str n2, .tup (dvs b)]) rfl rfl ?_
    refine len (xs := dvs b) rfl ?_
    refine subI ?_
    have em2 : ((dvs b).length : Int) - (k : Int) = ((b.length - k : Nat) : Int) := by rw [dvs_len]; omega
    rw [em2]
    refine And.intro ⟨by omega, by omega, by omega, by omega⟩ ?_
    have em3 : (((b.length - k : Nat) : Int) - (h : Int)).toNat = b.length - k - h := by omega
    rw [em3]
    refine lc_all (xs := rng (h : Int) (b.length - k - h)) (R := fun st => st = [.lst ((F ++ List.replicate (a.length - h - k) (Ed.drop [] h)).map Ed.dv)]) (P := fun j y => y = (Ed.put [] (h + j) (b.getD (h + j) (.txt ""))).dv) rfl (line64 (by rw [rng_length]; omega)) (fun i x st' e hR => ?_) ?_
    · subst hR
      obtain ⟨hi, rfl⟩ := rng_lo e
      refine ⟨_, rfl, fun Q' q => ?_⟩
      obtain ⟨u, hu⟩ : ∃ u, b[h + i]? = some u := ⟨b[h + i]'(by omega), List.getElem?_eq_getElem _⟩
      have eu : b.getD (h + i) (.txt "") = u := by rw [List.getD_eq_getElem?_getD, hu]; rfl
      refine And.intro (show 0 ≤ sizeLine from Nat.zero_le _) ?_
      refine ix (xs := [.str n2, .tup (dvs b)]) rfl rfl ?_
      have ej : (h : Int) + (i : Int) = ((h + i : Nat) : Int) := by omega
      refine ix (xs := dvs b) rfl (by rw [ej]; exact atI_nat (dvs_at hu)) ?_
      refine And.intro (show 4 ≤ sizeLine by decide) ?_
      refine q _ _ ?_ rfl
      rw [eu]
      simp only [Ed.dv, List.map_nil]
      rw [ej]
      rfl
    · rintro ys st' rfl hl hP
      rw [rng_length] at hl
      have ey : ys = ((List.range' h (b.length - k - h)).map fun i => Ed.put [] i (b.getD i (.txt ""))).map Ed.dv := by
        refine List.ext_getElem? fun j => ?_
        by_cases hj : j < b.length - k - h
        · obtain ⟨y, hy⟩ : ∃ y, ys[j]? = some y := ⟨ys[j]'(by omega), List.getElem?_eq_getElem _⟩
          rw [hy, hP j y hy, List.getElem?_map, List.getElem?_map, List.getElem?_range' hj]
          simp
        · rw [List.getElem?_eq_none (by omega), List.getElem?_eq_none (by simp; omega)]
      refine ⟨_, ys, rfl, rfl, line64 (by rw [List.length_map, List.length_append, List.length_replicate]; omega), ?_⟩
      have e3 : (F ++ List.replicate (a.length - h - k) (Ed.drop [] h)).map Ed.dv ++ ys = (F ++ List.replicate (a.length - h - k) (Ed.drop [] h) ++ (List.range' h (b.length - k - h)).map fun i => Ed.put [] i (b.getD i (.txt ""))).map Ed.dv := by
        rw [ey, List.map_append (l₁ := F ++ _)]
      rw [e3]
      refine tupL (xs := _) rfl ?_
      have f := fin [.lst ((F ++ List.replicate (a.length - h - k) (Ed.drop [] h) ++ (List.range' h (b.length - k - h)).map fun i => Ed.put [] i (b.getD i (.txt ""))).map Ed.dv)]
      rw [← eF] at f
      exact f
  refine ix (xs := [.str n1, .tup (dvs a)]) rfl rfl ?_
  refine ix (xs := [.str n2, .tup (dvs b)]) rfl rfl ?_
  refine eqS ?_
  by_cases en : n1 = n2
  · refine iteT (by simp [en]) ?_
    refine And.intro (show 0 ≤ sizeLine from Nat.zero_le _) ?_
    exact cont [] (Nat.zero_le _) (by rw [if_pos en])
  · refine iteF (by simp [en]) ?_
    refine And.intro (show 0 ≤ sizeLine from Nat.zero_le _) ?_
    refine ix (xs := [.str n2, .tup (dvs b)]) rfl rfl ?_
    refine And.intro (show 3 ≤ sizeLine by decide) ?_
    refine And.intro (show 1 ≤ sizeLine by decide) ?_
    exact cont [.name [] n2] (Nat.le_refl _) (by rw [if_neg en])
end K75

namespace K75
open PySem PySem.Spec PyProof.Rows L2 D2 K02
/-! ### rows of edits, walked -/
theorem itEn {v : Dv} {xs : List Dv} {st : Sto} {Q : List Dv → Option Nat → Sto → Prop} (h : enuD v = some xs) (q : Q (enumD xs) none st) : match enuD v with | some xs => Q (enumD xs) none st | none => False := by
  rw [h]
  exact q
theorem itVal {v : Dv} {xs : List Dv} {st : Sto} {Q : List Dv → Option Nat → Sto → Prop} (h : iterD v st = some (xs, none)) (q : Q xs none st) : match iterD v st with | some p => Q p.1 p.2 st | none => False := by
  rw [h]
  exact q
theorem eds_two (b : Bool) (es : List Ed) : edsD b es = .rol (es.map Ed.dv) ∨ edsD b es = .tup (es.map Ed.dv) := by cases b <;> simp [edsD]
theorem eds_enu (b : Bool) (es : List Ed) : enuD (edsD b es) = some (es.map Ed.dv) := by cases b <;> rfl
theorem eds_it (b : Bool) (es : List Ed) (st : Sto) : iterD (edsD b es) st = some (es.map Ed.dv, none) := by cases b <;> rfl
theorem eds_seq (b : Bool) (es : List Ed) (st : Sto) : seqD st (edsD b es) = some (es.map Ed.dv) := by cases b <;> rfl
theorem edsD_nr (b : Bool) (es : List Ed) : Nr (edsD b es) := by
  cases b
  · exact .tup (eds_nr es)
  · exact .rol (eds_nr es)
theorem eds_at {es : List Ed} {i : Nat} {d : Dv} (h : (es.map Ed.dv)[i]? = some d) : ∃ e, es[i]? = some e ∧ d = e.dv := by
  rw [List.getElem?_map] at h
  obtain ⟨e, h1, h2⟩ := Option.map_eq_some_iff.mp h
  exact ⟨e, h1, h2.symm⟩
theorem p_all_done : PL Nall_done Wall_done (D2.Spec.fn A_all_done P_all_done R_all_done) := by
  rintro ⟨t, es, b⟩ ⟨hc, hl⟩
  have hc : Chn t es := hc
  show Wall_done _ [some t.dv, some (edsD b es), none, none, none] []
  generalize hD : ({ nx := _, rt := _ } : DEnds) = D
  have fin : D.rt (runE t es).dv [] := by
    rw [← hD]
    exact back_fn (args := A_all_done) (pre := P_all_done) (F := R_all_done) (i := (t, es, b)) (Th.nr _) rfl
  clear hD
  have e0 := eds_two b es
  generalize edsD b es = v at e0
  rcases e0 with rfl | rfl
  all_goals
    refine Exists.intro (fun i σ st => ∃ (v1 v2 v3 v4 : Option Dv) (x : Th), σ = [some (Th.dv x), v1, v2, v3, v4] ∧ st = [] ∧ Chn x (es.drop i) ∧ runE x (es.drop i) = runE t es) ?_
    refine And.intro ⟨_, none, none, none, t, rfl, rfl, hc, rfl⟩ ?_
    refine And.intro (fun i σ' st' _ n e => nomatch e) ?_
    refine And.intro (fun i d σ' st' e hI => ?_) ?_
    · obtain ⟨v1, v2, v3, v4, x, rfl, rfl, h1, h2⟩ := hI
      obtain ⟨d, e1, rfl⟩ := enum_at e
      obtain ⟨ed, e2, rfl⟩ := eds_at e1
      rw [drop_at e2] at h1 h2
      obtain ⟨c1, c2, c3⟩ := h1
      have hz := c1.2.1
      refine ⟨_, rfl, ?_⟩
      refine ⟨(x, ed), rfl, .cons x.nr (.cons (ed_nr ed) .nil), ⟨c2, by show x.size ≤ 900; omega⟩, ?_⟩
      rintro d - rfl
      refine isNon ?_
      refine ⟨(x, ed), rfl, .cons x.nr (.cons (ed_nr ed) .nil), ⟨c1, c2⟩, ?_⟩
      rintro d - rfl
      exact ⟨_, _, _, _, doneE x ed, rfl, rfl, c3, h2⟩
    · rintro σ' st' ⟨v1, v2, v3, v4, x, rfl, rfl, h1, h2⟩
      rw [enumD_len, List.length_map, List.drop_of_length_le (Nat.le_refl _)] at h2
      have h2 : x = runE t es := h2
      rw [← h2] at fin
      exact fin

theorem p_undoing_all : PL Nundoing_all Wundoing_all (D2.Spec.fn A_undoing_all P_undoing_all R_undoing_all) := by
  rintro ⟨t, es, b⟩ ⟨hc, hl⟩
  have hc : Chn t es := hc
  have hl : es.length ≤ 500 := hl
  show Wundoing_all _ [some t.dv, some (edsD b es), none, none, none, none] []
  generalize hD : ({ nx := _, rt := _ } : DEnds) = D
  have fin : ∀ st, D.rt (.tup ((backs t es).map Ed.dv)) st := fun st => by
    rw [← hD]
    exact back_all (args := A_undoing_all) (pre := P_undoing_all) (F := R_undoing_all) (i := (t, es, b)) (.tup (eds_nr _)) rfl
  clear hD
  have e0 := eds_two b es
  generalize edsD b es = v at e0
  rcases e0 with rfl | rfl
  all_goals
    refine And.intro (show 0 ≤ sizeLine from Nat.zero_le _) ?_
    refine Exists.intro (fun i σ st => ∃ (v1 v3 v4 v5 : Option Dv) (x : Th) (F : List Ed), σ = [some (Th.dv x), v1, some (.ref 0), v3, v4, v5] ∧ st = [.lst (F.map Ed.dv)] ∧ F.length = i ∧ Chn x (es.drop i) ∧ backs x (es.drop i) ++ F.reverse = backs t es) ?_
    refine And.intro ⟨_, none, none, none, t, [], rfl, rfl, rfl, hc, by simp⟩ ?_
    refine And.intro (fun i σ' st' _ n e => nomatch e) ?_
    refine And.intro (fun i d σ' st' e hI => ?_) ?_
    · obtain ⟨v1, v3, v4, v5, x, F, rfl, rfl, hF, h1, h2⟩ := hI
      obtain ⟨d, e1, rfl⟩ := enum_at e
      obtain ⟨ed, e2, rfl⟩ := eds_at e1
      have hi := (List.getElem?_eq_some_iff.mp e2).1
      rw [drop_at e2] at h1 h2
      obtain ⟨c1, c2, c3⟩ := h1
      have hz := c1.2.1
      refine ⟨_, rfl, ?_⟩
      refine ⟨(x, ed), rfl, .cons x.nr (.cons (ed_nr ed) .nil), ⟨c2, by show x.size ≤ 900; omega⟩, ?_⟩
      rintro d - rfl
      refine isNon ?_
      refine ⟨(x, ed), rfl, .cons x.nr (.cons (ed_nr ed) .nil), ⟨c1, c2⟩, ?_⟩
      rintro d - rfl
      refine ⟨F.map Ed.dv, rfl, by rw [List.length_map]; exact Nat.lt_of_lt_of_le (show F.length < 1000 by omega) (by decide), ?_⟩
      refine ⟨(x, ed), rfl, .cons x.nr (.cons (ed_nr ed) .nil), ⟨c1, c2⟩, ?_⟩
      rintro d - rfl
      refine ⟨_, _, _, _, doneE x ed, F ++ [undoE x ed], rfl, by rw [List.map_append]; rfl, by simp [hF], c3, ?_⟩
      rw [← h2, List.reverse_append, backs, List.append_assoc]
      rfl
    · rintro σ' st' ⟨v1, v3, v4, v5, x, F, rfl, rfl, hF, h1, h2⟩
      rw [enumD_len, List.length_map, List.drop_of_length_le (Nat.le_refl _)] at h2
      have h2 : F.reverse = backs t es := h2
      refine ⟨F.map Ed.dv, rfl, ?_⟩
      rw [← List.map_reverse, h2]
      refine tupL (xs := (backs t es).map Ed.dv) rfl ?_
      exact fin _

/-! ### places -/
mutual
theorem places_len : ∀ t : Th, (places t).length = t.size
  | .txt s => by simp [places, Th.size]
  | .node n ts => by
    simp only [places, Th.size, List.length_cons, placess_len ts 0]
theorem placess_len : ∀ (ts : List Th) (i : Nat), (placess ts i).length = sizes ts
  | [], i => by simp [placess, sizes]
  | t :: ts, i => by
    simp only [placess, sizes, List.length_append, List.length_map, places_len t, placess_len ts (i + 1)]
end
mutual
theorem places_at : ∀ (t : Th) (p : List Nat), p ∈ places t → ∃ y, getA t p = some y
  | .txt s, p, h => by
    simp only [places, List.mem_singleton] at h
    subst h
    exact ⟨_, getA_nil _⟩
  | .node n ts, p, h => by
    simp only [places, List.mem_cons] at h
    rcases h with rfl | h
    · exact ⟨_, getA_nil _⟩
    · obtain ⟨j, q, u, rfl, e, y, hy⟩ := placess_at ts 0 p h
      exact ⟨y, by rw [getA_node (by simpa using e)]; exact hy⟩
theorem placess_at : ∀ (ts : List Th) (i : Nat) (p : List Nat), p ∈ placess ts i → ∃ (j : Nat) (q : List Nat) (u : Th), p = (i + j) :: q ∧ ts[j]? = some u ∧ ∃ y, getA u q = some y
  | [], i, p, h => by simp [placess] at h
  | t :: ts, i, p, h => by
    simp only [placess, List.mem_append, List.mem_map] at h
    rcases h with ⟨q, hq, rfl⟩ | h
    · exact ⟨0, q, t, rfl, rfl, places_at t q hq⟩
    · obtain ⟨j, q, u, rfl, e, hy⟩ := placess_at ts (i + 1) p h
      exact ⟨j + 1, q, u, by rw [show i + 1 + j = i + (j + 1) by omega], by simpa using e, hy⟩
end
mutual
theorem dep_size : ∀ t : Th, t.dep ≤ t.size
  | .txt s => by simp [Th.dep]
  | .node n ts => by
    have := deps_sizes ts
    rw [dep_node, size_node]
    omega
theorem deps_sizes : ∀ ts : List Th, deps ts ≤ sizes ts
  | [] => by simp [deps]
  | t :: ts => by
    have := dep_size t
    have := deps_sizes ts
    simp only [deps, sizes]
    omega
end
theorem places_top (t : Th) : [] ∈ places t := by cases t <;> simp [places]
theorem pls_nr (l : List (List Nat)) : Nrs (l.map pl) := Nrs.of fun d hd => by
  obtain ⟨p, _, rfl⟩ := List.mem_map.mp hd
  exact pl_nr p
theorem p_law_places (n : Nat) : PL N_law_places (W_law_places n) (D2.Spec.fn A_law_places (P_law_places (n + 1)) R_law_places) := by
  rintro (t : Th) ⟨hd, hs⟩
  have hd : t.dep < n + 1 := hd
  have hs : t.size ≤ 1000 := hs
  show W_law_places n _ [some t.dv, none, none, none] []
  generalize hD : ({ nx := _, rt := _ } : DEnds) = D
  have fin : D.rt (.rol ((places t).map pl)) [] := by
    rw [← hD]
    exact back_fn (args := A_law_places) (pre := P_law_places (n + 1)) (F := R_law_places) (i := t) (.rol (pls_nr _)) rfl
  clear hD
  cases t with
  | txt s =>
    rw [dv_txt]
    refine And.intro (show 0 ≤ sizeLine from Nat.zero_le _) ?_
    refine And.intro (show 1 ≤ sizeLine by decide) ?_
    refine And.intro ⟨by decide, by decide⟩ ?_
    refine Exists.intro (fun i σ st => σ = [some (.str s), some (.rol ((places (.txt s)).map pl)), none, none] ∧ st = []) ?_
    refine And.intro ⟨by simp only [places]; rfl, rfl⟩ ?_
    refine And.intro (fun i σ' st' _ n e => nomatch e) ?_
    refine And.intro (fun i x σ' st' e hI => ?_) ?_
    · obtain ⟨hi, _⟩ := rng_at (n := 0) e
      omega
    · rintro σ' st' ⟨rfl, rfl⟩
      exact fin
  | node m ts =>
    rw [dep_node] at hd
    have hz := places_len (.node m ts)
    rw [size_node] at hs hz
    rw [dv_node]
    refine And.intro (show 0 ≤ sizeLine from Nat.zero_le _) ?_
    refine And.intro (show 1 ≤ sizeLine by decide) ?_
    refine ix (xs := [.str m, .tup (dvs ts)]) rfl rfl ?_
    refine len (xs := dvs ts) rfl ?_
    have hl := len_sizes ts
    rw [dvs_len]
    refine And.intro ⟨by omega, by omega⟩ ?_
    rw [Int.toNat_natCast]
    refine Exists.intro (fun i σ st => ∃ v2 v3 L, σ = [some (.tup [.str m, .tup (dvs ts)]), some (.rol (List.map pl L)), v2, v3] ∧ st = [] ∧ L ++ placess (ts.drop i) i = places (.node m ts)) ?_
    refine And.intro ⟨none, none, [[]], rfl, rfl, by simp [places]⟩ ?_
    refine And.intro (fun i σ' st' _ n e => nomatch e) ?_
    refine And.intro (fun i x σ' st' e hI => ?_) ?_
    · obtain ⟨v2, v3, L, rfl, rfl, hL⟩ := hI
      obtain ⟨hi, rfl⟩ := rng_at e
      obtain ⟨u, hu⟩ : ∃ u, ts[i]? = some u := ⟨ts[i], List.getElem?_eq_getElem hi⟩
      rw [drop_at hu, placess] at hL
      have hL2 := congrArg List.length hL
      rw [hz, List.length_append, List.length_append, List.length_map, places_len] at hL2
      have du := dep_at hu
      have su := size_at hu
      refine ⟨_, rfl, ?_⟩
      refine ix (xs := [.str m, .tup (dvs ts)]) rfl rfl ?_
      refine ix (xs := dvs ts) rfl (atI_nat (dvs_at hu)) ?_
      refine ⟨u, rfl, .cons u.nr .nil, ⟨by omega, by omega⟩, ?_⟩
      rintro d - rfl
      refine lc_all (xs := (places u).map pl) (R := fun st => st = []) (P := fun j y => ∃ p, (places u)[j]? = some p ∧ y = pl (i :: p)) rfl (line64 (by rw [List.length_map, places_len]; omega)) (fun j x st' e hR => ?_) ?_
      · subst hR
        rw [List.getElem?_map] at e
        obtain ⟨p, e5, rfl⟩ := Option.map_eq_some_iff.mp e
        refine ⟨_, rfl, fun Q' q => ?_⟩
        obtain ⟨y, hy⟩ := places_at u p (List.mem_of_getElem? e5)
        have := place_len hy
        refine And.intro (show 1 ≤ sizeLine by decide) ?_
        have h9 := dep_size u
        refine addT (line64 (by simp; omega)) (q _ _ ⟨p, e5, rfl⟩ rfl)
      · rintro ys st' rfl hl2 hP
        have ey := map_at (f := fun p : List Nat => pl (i :: p)) (by rw [hl2, List.length_map]) hP
        have e3 : List.map pl L ++ ys = List.map pl (L ++ (places u).map (i :: ·)) := by
          rw [ey, List.map_append, List.map_map]
          rfl
        refine addL (line64 (by rw [List.length_map, hl2, List.length_map, places_len]; omega)) ?_
        rw [e3]
        exact ⟨_, _, L ++ (places u).map (i :: ·), rfl, rfl, by rw [List.append_assoc]; exact hL⟩
    · rintro σ' st' ⟨v2, v3, L, rfl, rfl, hL⟩
      rw [rng_length, List.drop_of_length_le (Nat.le_refl _)] at hL
      have hL : L = places (.node m ts) := by simpa [placess] using hL
      rw [← hL] at fin
      exact fin
end K75

namespace K75
open PySem PySem.Spec PyProof.Rows L2 D2 K02
/-! ### repr and == of things and edits -/
mutual
theorem th_wt : ∀ t : Th, t.ok → t.pd.weight + 1 ≤ 20 * t.size
  | .txt s, h => by
    simp only [Th.ok] at h
    have h1 : s.cps.size ≤ 16 := h.1
    simp only [Th.pd, PyData.weight, Th.size]
    omega
  | .node n ts, h => by
    simp only [Th.ok] at h
    have h1 : n.cps.size ≤ 8 := h.1.2.1
    have := ths_wt ts h.2
    simp only [Th.pd, PyData.weight, PyData.weightAll, Th.size]
    omega
theorem ths_wt : ∀ ts : List Th, oks ts → PyData.weightAll (pds ts) ≤ 20 * sizes ts
  | [], _ => by simp [pds, PyData.weightAll]
  | t :: ts, h => by
    simp only [oks] at h
    have := th_wt t h.1
    have := ths_wt ts h.2
    simp only [pds, sizes, PyData.weightAll]
    omega
end
def Shown (p : PyData) : Prop := p.showable = true ∧ p.hasDict = false ∧ p.depth ≤ 62 ∧ p.shown.length ≤ sizeLine
theorem shT {p : PyData} (t : tame p = true) (hd : p.depth ≤ 60) (hw : p.weight ≤ 2 ^ 20) : Shown p := by
  obtain ⟨h1, h2, h3, _⟩ := tame_leaf p t
  exact ⟨h2, h3, Nat.le_trans hd (by decide), PyData.shown_fits (B := 8) (by decide) (by decide) h1 hw⟩
theorem shTh {t : Th} (h : Sized t) : Shown t.pd := by
  have h1 := th_wt t h.1
  have h2 := h.2.1
  have h3 := pd_dep t
  have h4 := h.2.2
  exact shT (pd_tame t h.1) (by omega) (by omega)
theorem repTh {st : Sto} {Q : DK} {t : Th} (h : Sized t) (q : Q (.str t.pd.shown) st) : gRepr t.dv st Q := by
  have h1 := th_wt t h.1
  have h2 := h.2.1
  have h3 := pd_dep t
  have h4 := h.2.2
  exact reprT (pd_dp st t) (pd_tame t h.1) (by omega) (by omega) q
theorem eqS2 {st : Sto} {Q : DK} {t : Th} {neg : Bool} (h : Sized t) (k : Q (.bl (!neg)) st) : gEq neg t.dv t.dv st Q := eqTh h.1 (Nat.le_trans h.2.2 (by decide)) k
theorem pn_wt : ∀ {p : List Nat}, (∀ j ∈ p, j < 1000) → PyData.weightAll (p.map pn) ≤ 11 * p.length
  | [], _ => by simp [PyData.weightAll]
  | j :: p, h => by
    have h1 : PyData.weight (pn j) ≤ 10 := log1000 (h j (by simp))
    have := pn_wt (p := p) fun i hi => h i (by simp [hi])
    simp only [List.map_cons, PyData.weightAll, List.length_cons]
    omega
theorem ed_wt {e : Ed} (h : e.tam) (hp : e.at_.length ≤ 30) : e.pd.weight + 1 ≤ 10400 := by
  have w1 : PyData.weight (.str "drop") = 4 := by decide +kernel
  have w2 : PyData.weight (.str "put") = 3 := by decide +kernel
  have w3 : PyData.weight (.str "name") = 4 := by decide +kernel
  have w4 : PyData.weight (.str "say") = 3 := by decide +kernel
  have wi : ∀ {i : Nat}, i < 1000 → PyData.weight (pn i) ≤ 10 := fun h => log1000 h
  have wp : ∀ p : List Nat, PyData.weight (.tuple (p.map pn)) = PyData.weightAll (p.map pn) := fun p => rfl
  cases e with
  | drop p i =>
    obtain ⟨a, b⟩ := h
    have hp : p.length ≤ 30 := hp
    have := pn_wt a
    have := wi b
    have e : (Ed.drop p i).pd.weight = PyData.weight (.str "drop") + 1 + (PyData.weightAll (p.map pn) + 1 + (PyData.weight (pn i) + 1 + 0)) := rfl
    rw [e, w1]
    omega
  | put p i t =>
    obtain ⟨a, b, c, d, f⟩ := h
    have hp : p.length ≤ 30 := hp
    have := pn_wt a
    have := wi b
    have := th_wt t c
    have e : (Ed.put p i t).pd.weight = PyData.weight (.str "put") + 1 + (PyData.weightAll (p.map pn) + 1 + (PyData.weight (pn i) + 1 + (t.pd.weight + 1 + 0))) := rfl
    rw [e, w2]
    omega
  | name p s =>
    obtain ⟨a, b⟩ := h
    have hp : p.length ≤ 30 := hp
    have := pn_wt a
    have hs : s.cps.size ≤ 100 := b.1
    have e : (Ed.name p s).pd.weight = PyData.weight (.str "name") + 1 + (PyData.weightAll (p.map pn) + 1 + (s.cps.size + 1 + 0)) := rfl
    rw [e, w3]
    omega
  | say p i s =>
    obtain ⟨a, b, c⟩ := h
    have hp : p.length ≤ 30 := hp
    have := pn_wt a
    have := wi b
    have hs : s.cps.size ≤ 100 := c.1
    have e : (Ed.say p i s).pd.weight = PyData.weight (.str "say") + 1 + (PyData.weightAll (p.map pn) + 1 + (PyData.weight (pn i) + 1 + (s.cps.size + 1 + 0))) := rfl
    rw [e, w4]
    omega
/-- an edit to be shown -/
def Shw (e : Ed) : Prop := e.tam ∧ e.at_.length ≤ 30
theorem good_shw {t : Th} {e : Ed} (hs : Sized t) (h : e.good t) : Shw e := by
  have h2 := hs.2.1
  refine ⟨good_tam h (by omega), ?_⟩
  obtain ⟨n, ts, h1, _⟩ := h
  have := place_len h1
  have := hs.2.2
  omega
theorem shEd {e : Ed} (h : Shw e) : Shown e.pd := by
  have := ed_wt h.1 h.2
  have := ed_dep h.1
  exact shT (ed_tame h.1) (by omega) (by omega)
theorem repEd {st : Sto} {Q : DK} {e : Ed} (h : Shw e) (q : Q (.str e.pd.shown) st) : gRepr e.dv st Q := by
  have := ed_wt h.1 h.2
  have := ed_dep h.1
  exact reprT (ed_dp st e) (ed_tame h.1) (by omega) (by omega) q
theorem eqEd {st : Sto} {Q : DK} {e : Ed} {neg : Bool} (h : Shw e) (k : Q (.bl (!neg)) st) : gEq neg e.dv e.dv st Q := by
  have hd := ed_dep h.1
  have ht := ed_tame h.1
  rw [ed_dv]
  refine eqT (ed_dps st e) (ed_dps st e) (shapedT (p := .tuple e.ps) ht (by exact Nat.le_trans hd (by decide))) (shapedT (p := .tuple e.ps) ht (by exact Nat.le_trans hd (by decide))) ?_
  rw [lay_tame (p := .tuple e.ps) ht]
  cases neg <;> exact k
theorem eds_dps (st : Sto) : ∀ es : List Ed, DPs st (es.map Ed.dv) (es.map Ed.pd)
  | [] => .nil
  | e :: es => .cons (ed_dp st e) (eds_dps st es)
theorem eds_tame {es : List Ed} (h : ∀ e ∈ es, Shw e) : tame (.tuple (es.map Ed.pd)) = true := by
  have : tames (es.map Ed.pd) = true := tames_of fun x hx => by
    obtain ⟨e, he, rfl⟩ := List.mem_map.mp hx
    exact ed_tame (h e he).1
  simpa only [tame] using this
theorem eds_dep : ∀ {es : List Ed}, (∀ e ∈ es, Shw e) → PyData.depthAll (es.map Ed.pd) ≤ 51
  | [], _ => by simp [PyData.depthAll]
  | e :: es, h => by
    have := ed_dep (h e (by simp)).1
    have := eds_dep (es := es) fun x hx => h x (by simp [hx])
    simp only [List.map_cons, PyData.depthAll]
    omega
theorem eds_wt : ∀ {es : List Ed}, (∀ e ∈ es, Shw e) → PyData.weightAll (es.map Ed.pd) ≤ 10400 * es.length
  | [], _ => by simp [PyData.weightAll]
  | e :: es, h => by
    have := ed_wt (h e (by simp)).1 (h e (by simp)).2
    have := eds_wt (es := es) fun x hx => h x (by simp [hx])
    simp only [List.map_cons, PyData.weightAll, List.length_cons]
    omega
theorem eds_dep2 {es : List Ed} (h : ∀ e ∈ es, Shw e) : (PyData.tuple (es.map Ed.pd)).depth ≤ 52 := by
  have := eds_dep h
  simp only [PyData.depth]
  omega
theorem shEds {es : List Ed} (h : ∀ e ∈ es, Shw e) (hl : es.length ≤ 100) : Shown (PyData.tuple (es.map Ed.pd)) := by
  have := eds_wt h
  have := eds_dep2 h
  exact shT (eds_tame h) (by omega) (by simp only [PyData.weight]; omega)
theorem repEds {st : Sto} {Q : DK} {es : List Ed} (h : ∀ e ∈ es, Shw e) (hl : es.length ≤ 100) (q : Q (.str (PyData.tuple (es.map Ed.pd)).shown) st) : gRepr (.tup (es.map Ed.dv)) st Q := by
  have := eds_wt h
  have := eds_dep2 h
  exact reprT (.tup rfl (eds_dps st es)) (eds_tame h) (by omega) (by simp only [PyData.weight]; omega) q
theorem eqEds {st : Sto} {Q : DK} {es : List Ed} {neg : Bool} (h : ∀ e ∈ es, Shw e) (k : Q (.bl (!neg)) st) : gEq neg (.tup (es.map Ed.dv)) (.tup (es.map Ed.dv)) st Q := by
  have hd := eds_dep2 h
  have ht := eds_tame h
  refine eqT (eds_dps st es) (eds_dps st es) (shapedT ht (by omega)) (shapedT ht (by omega)) ?_
  rw [lay_tame ht]
  cases neg <;> exact k
theorem chn_shw : ∀ {es : List Ed} {t : Th}, Chn t es → ∀ e ∈ es, Shw e
  | [], _, _ => by simp
  | e :: es, t, h => by
    intro x hx
    rcases List.mem_cons.mp hx with rfl | hx
    · exact good_shw h.1 h.2.1
    · exact chn_shw (es := es) h.2.2 x hx
/-! ### from one node to another -/
theorem root_good {n : Str} {ts : List Th} {e : Ed} (hp : e.at_ = []) (h : e.fits ts) : e.good (.node n ts) ∧ doneE (.node n ts) e = chg n ts e := by
  have g : getA (.node n ts) e.at_ = some (.node n ts) := by rw [hp, getA_nil]
  exact ⟨⟨n, ts, g, h⟩, by rw [done_eq g, hp, putA_nil]⟩
/-- rows whose things are those of two rows -/
structure Mix (a b ts : List Th) : Prop where
  ok : oks ts
  size : sizes ts ≤ sizes a + sizes b
  dep : deps ts ≤ max (deps a) (deps b)
theorem mix_two {a b : List Th} (ha : oks a) (hb : oks b) (i j k l : Nat) : Mix a b (((a.drop i).take j) ++ ((b.drop k).take l)) := by
  have h1 : ∀ t ∈ (a.drop i).take j, t ∈ a := fun t h => List.mem_of_mem_drop (List.mem_of_mem_take h)
  have h2 : ∀ t ∈ (b.drop k).take l, t ∈ b := fun t h => List.mem_of_mem_drop (List.mem_of_mem_take h)
  refine ⟨?_, ?_, ?_⟩
  · rw [oks_app]
    exact ⟨oks_sub h1 ha, oks_sub h2 hb⟩
  · rw [sizes_app]
    have := sizes_cut a i j
    have := sizes_cut b k l
    omega
  · rw [deps_app]
    have := deps_sub h1
    have := deps_sub h2
    omega
theorem drops_chn {n : Str} {h : Nat} : ∀ (m : Nat) (ts : List Th), (∀ i, i ≤ m → Sized (.node n (ts.take h ++ ts.drop (h + i)))) → h + m ≤ ts.length → Chn (.node n ts) (List.replicate m (.drop [] h)) ∧ runE (.node n ts) (List.replicate m (.drop [] h)) = .node n (ts.take h ++ ts.drop (h + m))
  | 0, ts, hs, hl => by
    have := hs 0 (Nat.le_refl _)
    rw [Nat.add_zero, List.take_append_drop] at *
    exact ⟨this, rfl⟩
  | m + 1, ts, hs, hl => by
    have s0 := hs 0 (Nat.zero_le _)
    rw [Nat.add_zero, List.take_append_drop] at s0
    obtain ⟨g1, g2⟩ := root_good (n := n) (ts := ts) (e := .drop [] h) rfl (show h < ts.length by omega)
    have lh : (ts.take h).length = h := by simp; omega
    have e1 : (ts.take h ++ ts.drop (h + 1)).take h = ts.take h := by rw [List.take_append_of_le_length (by omega), List.take_take, Nat.min_self]
    have e2 : ∀ i, (ts.take h ++ ts.drop (h + 1)).drop (h + i) = ts.drop (h + (i + 1)) := fun i => by
      rw [List.drop_append, lh, List.drop_of_length_le (by omega), List.nil_append, show h + i - h = i by omega, List.drop_drop, show h + 1 + i = h + (i + 1) by omega]
    obtain ⟨c1, c2⟩ := drops_chn (n := n) (h := h) m (ts.take h ++ ts.drop (h + 1)) (fun i hi => by rw [e1, e2]; exact hs (i + 1) (by omega)) (by simp; omega)
    rw [e1, e2] at c2
    rw [List.replicate_succ]
    refine ⟨⟨s0, g1, ?_⟩, ?_⟩
    · rw [g2]
      exact c1
    · show runE (doneE _ _) _ = _
      rw [g2]
      exact c2
theorem puts_chn {n : Str} {b tail : List Th} : ∀ (m h : Nat), (∀ i, i ≤ m → Sized (.node n (b.take (h + i) ++ tail))) → (∀ u ∈ b, u.ok ∧ u.size ≤ 500 ∧ u.dep ≤ 25) → h + m ≤ b.length →
    Chn (.node n (b.take h ++ tail)) ((List.range' h m).map fun i => Ed.put [] i (b.getD i (.txt ""))) ∧ runE (.node n (b.take h ++ tail)) ((List.range' h m).map fun i => Ed.put [] i (b.getD i (.txt ""))) = .node n (b.take (h + m) ++ tail)
  | 0, h, hs, hb, hl => ⟨hs 0 (Nat.le_refl _), rfl⟩
  | m + 1, h, hs, hb, hl => by
    obtain ⟨u, hu⟩ : ∃ u, b[h]? = some u := ⟨b[h]'(by omega), List.getElem?_eq_getElem _⟩
    have eu : b.getD h (.txt "") = u := by rw [List.getD_eq_getElem?_getD, hu]; rfl
    have lh : (b.take h).length = h := by simp; omega
    have hm := hb u (List.mem_of_getElem? hu)
    obtain ⟨g1, g2⟩ := root_good (n := n) (ts := b.take h ++ tail) (e := .put [] h u) rfl ⟨by simp; omega, hm⟩
    have e1 : chg n (b.take h ++ tail) (.put [] h u) = .node n (b.take (h + 1) ++ tail) := by
      simp only [chg]
      rw [List.take_append_of_le_length (by omega), List.take_take, Nat.min_self, List.drop_append, lh, List.drop_of_length_le (by omega), Nat.sub_self, List.drop_zero, List.nil_append, List.take_succ, hu]
      rfl
    obtain ⟨c1, c2⟩ := puts_chn (n := n) (b := b) (tail := tail) m (h + 1) (fun i hi => by rw [show h + 1 + i = h + (i + 1) by omega]; exact hs (i + 1) (by omega)) hb (by omega)
    rw [List.range'_succ, List.map_cons, eu]
    refine ⟨⟨hs 0 (Nat.zero_le _), g1, ?_⟩, ?_⟩
    · rw [g2, e1]
      exact c1
    · show runE (doneE _ _) _ = _
      rw [g2, e1, c2, show h + 1 + m = h + (m + 1) by omega]
theorem between_chn {n1 n2 : Str} {a b : List Th} (s1 : Sized (.node n1 a)) (s2 : Sized (.node n2 b)) (z1 : sizes a ≤ 190) (z2 : sizes b ≤ 190) : Chn (.node n1 a) (between n1 a n2 b) ∧ runE (.node n1 a) (between n1 a n2 b) = .node n2 b := by
  have o1 := s1.1
  have o2 := s2.1
  rw [ok_node] at o1 o2
  have d1 := s1.2.2
  have d2 := s2.2.2
  rw [dep_node] at d1 d2
  obtain ⟨q1, q2, q3⟩ := ahead_le a b
  unfold between
  dsimp only
  generalize ahead a b = h at *
  obtain ⟨k1, k2, k3⟩ := behind_drop q1 q2 (rfl : ahead (a.drop h).reverse (b.drop h).reverse = _)
  generalize ahead (a.drop h).reverse (b.drop h).reverse = k at *
  have mk : ∀ {ts : List Th}, Mix a b ts → Sized (.node n2 ts) := fun m => ⟨by rw [ok_node]; exact ⟨o2.1, m.ok⟩, by have := m.size; rw [size_node]; omega, by have := m.dep; rw [dep_node]; omega⟩
  -- the name
  have first : Chn (.node n1 a) (if n1 = n2 then [] else [Ed.name [] n2]) ∧ runE (.node n1 a) (if n1 = n2 then [] else [Ed.name [] n2]) = .node n2 a := by
    by_cases e : n1 = n2
    · rw [if_pos e]
      subst e
      exact ⟨s1, rfl⟩
    · rw [if_neg e]
      obtain ⟨g1, g2⟩ := root_good (n := n1) (ts := a) (e := .name [] n2) rfl o2.1
      have : Sized (.node n2 a) := by
        have m := mix_two o1.2 o2.2 0 a.length 0 0
        rw [List.drop_zero, List.take_length, List.take_zero, List.append_nil] at m
        exact mk m
      refine ⟨⟨s1, g1, ?_⟩, g2⟩
      rw [g2]
      exact this
  -- the drops
  have mid := drops_chn (n := n2) (h := h) (a.length - h - k) a (fun i hi => by
    refine mk ?_
    have e : a.take h ++ a.drop (h + i) = (b.drop 0).take h ++ (a.drop (h + i)).take a.length := by rw [List.drop_zero, ← q3, List.take_of_length_le (l := a.drop (h + i)) (by simp)]
    rw [e]
    have m := mix_two o2.2 o1.2 0 h (h + i) a.length
    exact ⟨m.ok, by have := m.size; omega, by have := m.dep; omega⟩) (by omega)
  -- the puts
  have et : a.take h ++ a.drop (h + (a.length - h - k)) = b.take h ++ b.drop (b.length - k) := by
    rw [q3, show h + (a.length - h - k) = a.length - k by omega, k3]
  rw [et] at mid
  have last := puts_chn (n := n2) (b := b) (tail := b.drop (b.length - k)) (b.length - k - h) h (fun i hi => by
    refine mk ?_
    have e : b.take (h + i) ++ b.drop (b.length - k) = b.take (h + i) ++ a.drop (a.length - k) := by rw [k3]
    rw [e]
    have m := mix_two o2.2 o1.2 0 (h + i) (a.length - k) a.length
    rw [List.drop_zero, List.take_of_length_le (l := a.drop (a.length - k)) (by simp)] at m
    exact ⟨m.ok, by have := m.size; omega, by have := m.dep; omega⟩) (fun u hu => ⟨oks_mem o2.2 u hu, by have := size_mem hu; omega, by have := dep_mem hu; omega⟩) (by omega)
  have ef : b.take (h + (b.length - k - h)) ++ b.drop (b.length - k) = b := by rw [show h + (b.length - k - h) = b.length - k by omega, List.take_append_drop]
  rw [ef] at last
  refine ⟨chn_app (chn_app first.1 (by rw [first.2]; exact mid.1)) (by rw [run_app, first.2, mid.2]; exact last.1), ?_⟩
  rw [run_app, run_app, first.2, mid.2, last.2]
theorem p_law_between_right : PL N_law_between_right (W_law_between_right 40) (D2.Spec.fn A_law_between_right P_law_between_right R_law_between_right) := by
  rintro ⟨⟨n1, a⟩, n2, b⟩ ⟨⟨s1, z1⟩, s2, z2⟩
  have s1 : Sized (.node n1 a) := s1
  have s2 : Sized (.node n2 b) := s2
  have z1 : sizes a ≤ 190 := z1
  have z2 : sizes b ≤ 190 := z2
  obtain ⟨hc, hr⟩ := between_chn s1 s2 z1 z2
  have hsh := chn_shw hc
  show W_law_between_right 40 _ [some (Th.node n1 a).dv, some (Th.node n2 b).dv, none, none, none] []
  generalize hD : ({ nx := _, rt := _ } : DEnds) = D
  have fin : D.rt (.bl true) [] := by
    rw [← hD]
    exact back_fn (args := A_law_between_right) (pre := P_law_between_right) (F := R_law_between_right) (i := ((n1, a), n2, b)) (.bl true) rfl
  clear hD
  generalize hB : between n1 a n2 b = B at *
  have eB : ∀ {d : Dv}, R_edits_between ((n1, a), n2, b) d → d = .tup (B.map Ed.dv) := fun h => by
    rw [← hB]
    exact h
  refine ⟨((n1, a), n2, b), rfl, .cons (Th.nr _) (.cons (Th.nr _) .nil), ⟨s1, s2⟩, ?_⟩
  intro d _ hd
  obtain rfl := eB hd
  refine ⟨rfl, rfl, ((n1, a), n2, b), rfl, .cons (Th.nr _) (.cons (Th.nr _) .nil), ⟨s1, s2⟩, ?_⟩
  intro d _ hd
  obtain rfl := eB hd
  refine eqEds hsh ?_
  refine Exists.intro (fun i σ st => ∃ (v4 : Option Dv) (x : Th), σ = [some (Th.node n1 a).dv, some (Th.node n2 b).dv, some (.tup (B.map Ed.dv)), some x.dv, v4] ∧ st = [] ∧ Chn x (B.drop i) ∧ runE x (B.drop i) = .node n2 b) ?_
  refine And.intro ⟨none, _, rfl, rfl, hc, hr⟩ ?_
  refine And.intro (fun i σ' st' _ n e => nomatch e) ?_
  refine And.intro (fun i d σ' st' e hI => ?_) ?_
  · obtain ⟨v4, x, rfl, rfl, h1, h2⟩ := hI
    obtain ⟨ed, e2, rfl⟩ := eds_at e
    rw [drop_at e2] at h1 h2
    obtain ⟨c1, c2, c3⟩ := h1
    have hz := c1.2.1
    have hd := c1.2.2
    refine ⟨_, rfl, ?_⟩
    have go : (wSet 3 (wFn A_law_done P_law_done R_law_done (wCons (wVar 3) (wCons (wVar 4) wNil)))) { nx := fun σ st => ∃ (v4 : Option Dv) (x : Th), σ = [some (Th.node n1 a).dv, some (Th.node n2 b).dv, some (.tup (B.map Ed.dv)), some x.dv, v4] ∧ st = [] ∧ Chn x (B.drop (i + 1)) ∧ runE x (B.drop (i + 1)) = .node n2 b, rt := D.rt } [some (Th.node n1 a).dv, some (Th.node n2 b).dv, some (.tup (B.map Ed.dv)), some x.dv, some ed.dv] [] := by
      refine ⟨(x, ed), rfl, .cons x.nr (.cons (ed_nr ed) .nil), ⟨c1, c2⟩, ?_⟩
      rintro d - rfl
      exact ⟨_, doneE x ed, rfl, rfl, c3, h2⟩
    refine ⟨x, rfl, .cons x.nr .nil, ⟨by omega, by omega⟩, ?_⟩
    rintro d - rfl
    refine len (xs := (places x).map pl) rfl ?_
    refine opB2 ?_
    by_cases hp : (((places x).map pl).length : Int) ≤ 100
    · refine iteT (by simpa using hp) ?_
      refine ⟨(x, ed), rfl, .cons x.nr (.cons (ed_nr ed) .nil), ⟨c2, by show x.size ≤ 900; omega⟩, ?_⟩
      rintro d - rfl
      refine iteF (by decide) ?_
      exact go
    · refine iteF (by simpa using hp) ?_
      exact go
  · rintro σ' st' ⟨v4, x, rfl, rfl, h1, h2⟩
    rw [List.length_map, List.drop_of_length_le (Nat.le_refl _)] at h2
    have h2 : x = .node n2 b := h2
    subst h2
    have sh := shTh s2
    refine ⟨_, pd_dp _ (.node n2 b), sh.1, sh.2.1, sh.2.2.1, sh.2.2.2, ?_⟩
    refine ⟨_, pd_dp _ (.node n2 b), sh.1, sh.2.1, sh.2.2.1, sh.2.2.2, ?_⟩
    refine eqSt ?_
    exact fin
end K75

namespace K51
open PySem PySem.Spec PyProof.Rows L2 D2 K02
open K75 (size_node dep_node ok_node ths_wt th_wt)
/-! ### how large, how deep -/
theorem deps_app : ∀ a b : List Th, deps (a ++ b) = max (deps a) (deps b)
  | [], b => by simp [deps]
  | q :: a, b => by simp only [List.cons_append, deps, deps_app a b]; omega
mutual
theorem fo_size (x : Str) {F : Str → List Th} {B : Nat} (h : ∀ m, sizes (F m) ≤ B) : ∀ p : Pt, sizes (fillOne x F p) ≤ p.size + p.goes * B
  | .node s ps => by
    have := fill_size x h ps
    simp only [fo_node, sizes, size_node, Pt.size, Pt.goes]
    omega
  | .say s => by simp [fo_say, sizes, Th.size, Pt.size, Pt.goes]
  | .keep => by simp [fo_keep, sizes, Th.size, Pt.size, Pt.goes]
  | .go m => by
    have := h m
    simp only [fo_go, Pt.size, Pt.goes]
    omega
theorem fill_size (x : Str) {F : Str → List Th} {B : Nat} (h : ∀ m, sizes (F m) ≤ B) : ∀ ps : List Pt, sizes (fillP x F ps) ≤ psize ps + goes ps * B
  | [] => by simp [fillP_nil, sizes]
  | p :: ps => by
    have h1 := fo_size x h p
    have h2 := fill_size x h ps
    rw [fillP_cons, sizes_app]
    simp only [psize, goes, Nat.add_mul]
    omega
end
mutual
theorem fo_dep (x : Str) {F : Str → List Th} {B : Nat} (h : ∀ m, deps (F m) ≤ B) : ∀ p : Pt, deps (fillOne x F p) ≤ p.dep + B
  | .node s ps => by
    have := fill_dep x h ps
    simp only [fo_node, deps, dep_node, Pt.dep]
    omega
  | .say s => by simp [fo_say, deps, Th.dep, Pt.dep]
  | .keep => by simp [fo_keep, deps, Th.dep, Pt.dep]
  | .go m => by
    have := h m
    simp only [fo_go, Pt.dep]
    omega
theorem fill_dep (x : Str) {F : Str → List Th} {B : Nat} (h : ∀ m, deps (F m) ≤ B) : ∀ ps : List Pt, deps (fillP x F ps) ≤ pdep ps + B
  | [] => by simp [fillP_nil, deps]
  | p :: ps => by
    have h1 := fo_dep x h p
    have h2 := fill_dep x h ps
    rw [fillP_cons, deps_app]
    simp only [pdep]
    omega
end
mutual
theorem fo_ok {k : Bool} {x : Str} {F : Str → List Th} (hx : TxOk x) (h : ∀ m, oks (F m)) : ∀ p : Pt, p.ok k → oks (fillOne x F p)
  | .node s ps, q => by
    simp only [Pt.ok] at q
    simp only [fo_node, oks, ok_node]
    exact ⟨⟨q.1, fill_ok hx h ps q.2⟩, trivial⟩
  | .say s, q => by
    simp only [Pt.ok] at q
    simp only [fo_say, oks, Th.ok]
    exact ⟨q, trivial⟩
  | .keep, q => by
    simp only [fo_keep, oks, Th.ok]
    exact ⟨hx, trivial⟩
  | .go m, q => by
    rw [fo_go]
    exact h m
theorem fill_ok {k : Bool} {x : Str} {F : Str → List Th} (hx : TxOk x) (h : ∀ m, oks (F m)) : ∀ ps : List Pt, pok k ps → oks (fillP x F ps)
  | [], _ => by simp [fillP_nil, oks]
  | p :: ps, q => by
    simp only [pok] at q
    rw [fillP_cons, oks_app]
    exact ⟨fo_ok hx h p q.1, fill_ok hx h ps q.2⟩
end
mutual
def wT : Th → Nat
  | .txt _ => 1
  | .node _ ts => 1 + 2 * wF ts
def wF : List Th → Nat
  | [] => 0
  | t :: ts => wT t + wF ts
end
theorem tx_e : TxOk "" := ⟨by decide +kernel, by decide +kernel⟩
mutual
theorem trn_size {rs : List Ru} (h : RsOk rs) : ∀ (t : Th) (m : Str), sizes (trnT rs t m) ≤ 30 * wT t
  | .txt s, m => by
    rw [trnT_txt]
    simp only [wT]
    cases e : rule rs m "" with
    | none => simp [fillP_nil, sizes]
    | some ps =>
      have h1 := fill_size s (F := fun _ => []) (B := 0) (fun m => by simp [sizes]) ps
      have h2 := (rule_ok h.1 e).2.2.1
      show sizes (fillP s (fun _ => []) ps) ≤ _
      omega
  | .node n ts, m => by
    have h0 := trns_size h ts
    simp only [wT]
    cases e : rule rs m n with
    | none =>
      have := h0 m
      rw [trnT_none e]
      omega
    | some ps =>
      have h1 := fill_size "" h0 ps
      obtain ⟨_, _, h2, h3⟩ := rule_ok h.1 e
      rw [trnT_some e]
      have := Nat.mul_le_mul_right (30 * wF ts) h3
      omega
theorem trns_size {rs : List Ru} (h : RsOk rs) : ∀ (ts : List Th) (m : Str), sizes (trnF rs ts m) ≤ 30 * wF ts
  | [], m => by simp [trnF_nil, sizes]
  | t :: ts, m => by
    have h1 := trn_size h t m
    have h2 := trns_size h ts m
    rw [trnF_cons, sizes_app]
    simp only [wF]
    omega
end
mutual
theorem trn_dep {rs : List Ru} (h : RsOk rs) : ∀ (t : Th) (m : Str), deps (trnT rs t m) ≤ 2 * t.dep + 2
  | .txt s, m => by
    rw [trnT_txt]
    cases e : rule rs m "" with
    | none => simp [fillP_nil, deps]
    | some ps =>
      have h1 := fill_dep s (F := fun _ => []) (B := 0) (fun m => by simp [deps]) ps
      have h2 := (rule_ok h.1 e).2.1
      show deps (fillP s (fun _ => []) ps) ≤ _
      omega
  | .node n ts, m => by
    have h0 := trns_dep h ts
    rw [dep_node]
    cases e : rule rs m n with
    | none =>
      have := h0 m
      rw [trnT_none e]
      omega
    | some ps =>
      have h1 := fill_dep "" h0 ps
      have h2 := (rule_ok h.1 e).2.1
      rw [trnT_some e]
      omega
theorem trns_dep {rs : List Ru} (h : RsOk rs) : ∀ (ts : List Th) (m : Str), deps (trnF rs ts m) ≤ 2 * deps ts + 2
  | [], m => by simp [trnF_nil, deps]
  | t :: ts, m => by
    have h1 := trn_dep h t m
    have h2 := trns_dep h ts m
    rw [trnF_cons, deps_app]
    simp only [deps]
    omega
end
mutual
theorem trn_ok {rs : List Ru} (h : RsOk rs) : ∀ (t : Th) (m : Str), t.ok → oks (trnT rs t m)
  | .txt s, m, q => by
    simp only [Th.ok] at q
    rw [trnT_txt]
    cases e : rule rs m "" with
    | none => simp [fillP_nil, oks]
    | some ps => exact fill_ok q (fun m => by simp [oks]) ps (rule_ok h.1 e).1
  | .node n ts, m, q => by
    rw [ok_node] at q
    have h0 := trns_ok h ts
    cases e : rule rs m n with
    | none =>
      rw [trnT_none e]
      exact h0 m q.2
    | some ps =>
      rw [trnT_some e]
      exact fill_ok tx_e (fun m => h0 m q.2) ps (rule_ok h.1 e).1
theorem trns_ok {rs : List Ru} (h : RsOk rs) : ∀ (ts : List Th) (m : Str), oks ts → oks (trnF rs ts m)
  | [], m, _ => by simp [trnF_nil, oks]
  | t :: ts, m, q => by
    simp only [oks] at q
    rw [trnF_cons, oks_app]
    exact ⟨trn_ok h t m q.1, trns_ok h ts m q.2⟩
end
theorem pow_le {a b : Nat} (h : a ≤ b) : 2 ^ a ≤ 2 ^ b := Nat.pow_le_pow_right (by decide) h
mutual
theorem w_le : ∀ t : Th, wT t ≤ 2 ^ t.dep * t.size
  | .txt s => by simp [wT, Th.dep, Th.size]
  | .node n ts => by
    have := wF_le ts
    rw [dep_node, size_node, Nat.pow_succ, Nat.mul_add]
    simp only [wT]
    have h1 : 1 ≤ 2 ^ deps ts := Nat.one_le_two_pow
    have h2 : 2 ^ deps ts * 2 * sizes ts = 2 * (2 ^ deps ts * sizes ts) := by rw [Nat.mul_comm (2 ^ deps ts) 2, Nat.mul_assoc]
    omega
theorem wF_le : ∀ ts : List Th, wF ts ≤ 2 ^ deps ts * sizes ts
  | [] => by simp [wF]
  | t :: ts => by
    have h1 := w_le t
    have h2 := wF_le ts
    simp only [wF, deps, sizes, Nat.mul_add]
    have h3 : 2 ^ t.dep * t.size ≤ 2 ^ (max t.dep (deps ts)) * t.size := Nat.mul_le_mul_right _ (pow_le (by omega))
    have h4 : 2 ^ deps ts * sizes ts ≤ 2 ^ (max t.dep (deps ts)) * sizes ts := Nat.mul_le_mul_right _ (pow_le (by omega))
    omega
end
/-- what the law draws -/
structure Doc (x : Str) (ts : List Th) : Prop where
  ok : NmOk x
  oks : oks ts
  size : sizes ts ≤ 13
  dep : deps ts ≤ 4
theorem wF_small {ts : List Th} (h1 : sizes ts ≤ 13) (h2 : deps ts ≤ 4) : wF ts ≤ 208 := by
  have q1 := wF_le ts
  have q2 : 2 ^ deps ts ≤ 2 ^ 4 := pow_le h2
  have q3 := Nat.mul_le_mul q2 h1
  have q4 : 2 ^ 4 * 13 = 208 := by decide
  omega
theorem szF {rs : List Ru} {ts : List Th} (h : RsOk rs) (h1 : sizes ts ≤ 13) (h2 : deps ts ≤ 4) (m : Str) : sizes (trnF rs ts m) ≤ 6240 := by
  have := trns_size h ts m
  have := wF_small h1 h2
  omega
theorem szT {rs : List Ru} {x : Str} {ts : List Th} (h : RsOk rs) (h1 : sizes ts ≤ 13) (h2 : deps ts ≤ 4) (m : Str) : sizes (trnT rs (.node x ts) m) ≤ 13000 := by
  have := trn_size h (.node x ts) m
  have := wF_small h1 h2
  simp only [wT] at *
  omega
theorem szP {rs : List Ru} {ts : List Th} {ps : List Pt} (h : RsOk rs) (h1 : sizes ts ≤ 13) (h2 : deps ts ≤ 4) (p1 : psize ps ≤ 30) (p2 : goes ps ≤ 2) : sizes (fillP "" (trnF rs ts) ps) ≤ 13000 := by
  have q := fill_size "" (szF h h1 h2) ps
  have := Nat.mul_le_mul_right 6240 p2
  omega
/-! ### repr and == -/
structure Sh (F : List Th) : Prop where
  ok : oks F
  size : sizes F ≤ 13000
  dep : deps F ≤ 20
theorem shF {rs : List Ru} {ts : List Th} (h : RsOk rs) (h1 : sizes ts ≤ 13) (h2 : deps ts ≤ 4) (h3 : oks ts) (m : Str) : Sh (trnF rs ts m) := ⟨trns_ok h ts m h3, Nat.le_trans (szF h h1 h2 m) (by decide), by have := trns_dep h ts m; omega⟩
theorem shT {rs : List Ru} {x : Str} {ts : List Th} (h : RsOk rs) (d : Doc x ts) (m : Str) : Sh (trnT rs (.node x ts) m) := ⟨trn_ok h _ m ((ok_node _ _).mpr ⟨d.ok, d.oks⟩), szT h d.size d.dep m, by have := trn_dep h (.node x ts) m; rw [dep_node] at this; have := d.dep; omega⟩
theorem shP {rs : List Ru} {x : Str} {ts : List Th} {ps : List Pt} (h : RsOk rs) (d : Doc x ts) (p0 : pok false ps) (p1 : psize ps ≤ 30) (p2 : goes ps ≤ 2) (p3 : pdep ps ≤ 2) : Sh (fillP "" (trnF rs ts) ps) := ⟨fill_ok tx_e (fun m => trns_ok h ts m d.oks) ps p0, szP h d.size d.dep p1 p2, by have := fill_dep "" (trns_dep h ts) ps; have := d.dep; omega⟩
theorem pds_facts {F : List Th} (h : Sh F) : tame (.tuple (pds F)) = true ∧ (PyData.tuple (pds F)).depth ≤ 60 ∧ (PyData.tuple (pds F)).weight ≤ 2 ^ 20 := by
  refine ⟨pds_tame F h.ok, ?_, ?_⟩
  · have := pds_dep F
    have := h.dep
    simp only [PyData.depth]
    omega
  · have := ths_wt F h.ok
    have := h.size
    simp only [PyData.weight]
    omega
theorem repTups {F : List Th} {st : Sto} {Q : DK} (h : Sh F) (k : Q (.str (PyData.tuple (pds F)).shown) st) : gRepr (tups F) st Q := by
  obtain ⟨h1, h2, h3⟩ := pds_facts h
  exact reprT (.tup rfl (pds_dp st F)) h1 h2 h3 k
theorem eqTups {F : List Th} {st : Sto} {Q : DK} {neg : Bool} (h : Sh F) (k : Q (.bl (!neg)) st) : gEq neg (tups F) (tups F) st Q := by
  obtain ⟨h1, h2, h3⟩ := pds_facts h
  refine eqT (pds_dp st F) (pds_dp st F) (shapedT h1 h2) (shapedT h1 h2) ?_
  rw [lay_tame h1]
  cases neg <;> exact k
def docP : List Th → PyData
  | [.node n ts] => (Th.node n ts).pd
  | _ => .none
theorem repDoc {F : List Th} {st : Sto} {Q : DK} (h : Sh F) (k : Q (.str (docP F).shown) st) : gRepr (docD F) st Q := by
  unfold docD docP at *
  split
  · rename_i n ts
    have h0 := h.ok
    have h4 := h.size
    have h5 := h.dep
    simp only [oks, sizes, deps] at h0 h4 h5
    have h1 := th_wt (.node n ts) h0.1
    have h3 := pd_dep (.node n ts)
    exact reprT (pd_dp st _) (pd_tame _ h0.1) (by omega) (by omega) k
  · rename_i hn
    have e : (match F with | [.node n ts] => (Th.node n ts).pd | _ => PyData.none) = .none := by
      split
      · rename_i n ts
        exact absurd rfl (hn n ts)
      · rfl
    rw [e] at k
    exact reprT (p := .none) .non rfl (by simp [PyData.depth]) (by simp [PyData.weight]) k
end K51

set_option maxHeartbeats 8000000
namespace K51
open PySem PySem.Spec PyProof.Rows L2 D2 K02
open K75 (drop_at at0 at1 at2 eqSt eqSf dvs_at dvs_one size_at dep_at nr2 size_node dep_node ok_node cut_lo cut_hi dvs_take dvs_dropN)
def isDoc : List Th → Bool
  | [.node _ _] => true
  | _ => false
theorem good_ok {σ : En} {st : Sto} {Q : DK} {F : List Th} (e : σ[11]? = some (some (tups F))) (q : Q (.bl (isDoc F)) st) : wAndV (w2 (gEq false) (wCB (g1 gLen) (wCons (wVar 11) wNil)) (wC (.int 1))) (wNotV (wIsi .str (w2 gIx (wVar 11) (wC (.int 0))))) σ st Q := by
  have v : ∀ Q' : DK, Q' (tups F) st → wVar 11 σ st Q' := fun Q' h => by
    show (match σ[11]? with | some (some d) => Q' d st | _ => False)
    rw [e]
    exact h
  refine v _ ?_
  match F, q with
  | [], q =>
    refine len (xs := []) rfl ?_
    refine eqI ?_
    exact q
  | [.txt s], q =>
    refine len (xs := dvs [.txt s]) rfl ?_
    refine eqI ?_
    have e1 : ((dvs [.txt s]).length : Int) = 1 := by rw [dvs_len]; rfl
    rw [decide_eq_true e1]
    show wNotV (wIsi .str (w2 gIx (wVar 11) (wC (.int 0)))) σ st Q
    simp only [wNotV, wIsi, w2, wVar, wC, e]
    rw [tups, dvs_one, dv_txt]
    refine ix (xs := [.str s]) rfl rfl ?_
    exact q
  | [.node n ts], q =>
    refine len (xs := dvs [.node n ts]) rfl ?_
    refine eqI ?_
    have e1 : ((dvs [.node n ts]).length : Int) = 1 := by rw [dvs_len]; rfl
    rw [decide_eq_true e1]
    show wNotV (wIsi .str (w2 gIx (wVar 11) (wC (.int 0)))) σ st Q
    simp only [wNotV, wIsi, w2, wVar, wC, e]
    rw [tups, dvs_one, dv_node]
    refine ix (xs := [.tup [.str n, .tup (dvs ts)]]) rfl rfl ?_
    exact q
  | a :: b :: F, q =>
    have q : Q (.bl false) st := by cases a <;> exact q
    refine len (xs := dvs (a :: b :: F)) rfl ?_
    refine eqI ?_
    have e : ((dvs (a :: b :: F)).length : Int) ≠ 1 := by rw [dvs_len]; simp; omega
    rw [decide_eq_false e]
    exact q
theorem due_ok {σ : En} {st : Sto} {Q : DK} {F : List Th} (e : σ[11]? = some (some (tups F))) (e2 : σ[12]? = some (some (.bl (isDoc F)))) (q : Q (docD F) st) : wIfE (wTru (wVar 12)) (w2 gIx (wVar 11) (wC (.int 0))) (wC .non) σ st Q := by
  have v : ∀ Q' : DK, Q' (tups F) st → wVar 11 σ st Q' := fun Q' h => by
    show (match σ[11]? with | some (some d) => Q' d st | _ => False)
    rw [e]
    exact h
  have v2 : ∀ Q' : DK, Q' (.bl (isDoc F)) st → wVar 12 σ st Q' := fun Q' h => by
    show (match σ[12]? with | some (some d) => Q' d st | _ => False)
    rw [e2]
    exact h
  clear v2
  simp only [wIfE, D2.wTru, wVar, w2, wC, e2, e, truD]
  clear e2
  match F, q with
  | [], q => exact q
  | [.txt s], q => exact q
  | [.node n ts], q =>
    show gIx (tups [.node n ts]) (.int 0) st Q
    have q : Q (Th.node n ts).dv st := q
    rw [dv_node] at q
    rw [tups, dvs_one, dv_node]
    refine ix (xs := [.tup [.str n, .tup (dvs ts)]]) rfl rfl ?_
    exact q
  | a :: b :: F, q =>
    have q : Q .non st := by cases a <;> exact q
    have h : isDoc (a :: b :: F) = false := by cases a <;> rfl
    rw [h]
    exact q
theorem nodup_len {α : Type} [DecidableEq α] : ∀ {a b : List α}, a.Nodup → (∀ x ∈ a, x ∈ b) → a.length ≤ b.length
  | [], b, _, _ => by simp
  | x :: a, b, h, q => by
    have hx : x ∈ b := q x (by simp)
    have h2 := List.nodup_cons.mp h
    have := nodup_len (a := a) (b := b.erase x) h2.2 fun y hy => (List.mem_erase_of_ne (fun e => h2.1 (by rw [← e]; exact hy))).mpr (q y (by simp [hy]))
    rw [List.length_erase_of_mem hx] at this
    have := List.length_pos_of_mem hx
    simp only [List.length_cons]
    omega
theorem take_sz (ts : List Th) (c : Nat) : sizes (ts.take c) ≤ sizes ts ∧ sizes (ts.drop c) ≤ sizes ts ∧ deps (ts.take c) ≤ deps ts ∧ deps (ts.drop c) ≤ deps ts := by
  have h1 := sizes_app (ts.take c) (ts.drop c)
  have h2 := deps_app (ts.take c) (ts.drop c)
  rw [List.take_append_drop] at h1 h2
  omega
theorem take_ok {ts : List Th} (h : oks ts) (c : Nat) : oks (ts.take c) ∧ oks (ts.drop c) := by
  rw [← oks_app, List.take_append_drop]
  exact h
theorem p_law {C : Addr} : PL Nlaw (Wlaw C 60) sLaw0 := by
  rintro (ns : List Int) ⟨hl, -⟩
  show Wlaw C 60 _ [some (.fro (ns.map Dv.int)), none, none, none, none, none, none, none, none, none, none, none, none, none, none, none, none, none, none] []
  generalize hD : ({ nx := _, rt := _ } : DEnds) = D
  have fin : ∀ st, D.rt (.bl true) st := fun st => by
    rw [← hD]
    exact .inl ⟨rfl, Nat.zero_le _⟩
  clear hD
  refine ⟨ns, rfl, rfl, hl, ?_⟩
  rintro d st1 ⟨rfl, hd1⟩
  refine ⟨[], (), hd1, rfl, trivial, fun d st2 hd hq => ?_⟩
  obtain ⟨nn, hN, hnl, rfl⟩ := hq
  refine ⟨[], nn, hd, rfl, ⟨rfl, hN, hnl⟩, fun d st3 hd hq => ?_⟩
  obtain ⟨rs, m, hR, hK, hrl, hml, -, rfl⟩ := hq
  clear hd1
  refine ⟨_, rfl, ?_⟩
  refine And.intro rfl ?_
  refine ⟨rs, rfl, .cons (.tup (rus_nr rs)) .nil, ⟨hK, by omega⟩, ?_⟩
  rintro d - rfl
  refine lc_all (xs := rs.map Ru.dv) (R := fun st => st = st3) (P := fun i y => ∃ s : Str, True ∧ y = .str s) rfl (line64 (by rw [List.length_map]; omega)) (fun i x st' e hR => ?_) ?_
  · subst hR
    rw [List.getElem?_map] at e
    obtain ⟨r, e1, rfl⟩ := Option.map_eq_some_iff.mp e
    refine ⟨_, rfl, fun Q' q => ?_⟩
    refine ix (xs := [.str r.mode, .str r.letter, .tup (pdv r.ps)]) rfl rfl ?_
    exact q _ _ ⟨r.mode, trivial, rfl⟩ rfl
  rintro ys st' rfl hyl hy
  obtain ⟨ss, rfl, -⟩ := strs_of (P := fun _ => True) (mem_at hy)
  have hsl : ss.length ≤ 12 := by simp at hyl; omega
  refine And.intro (show 2 ≤ sizeLine by decide) ?_
  refine addL (line64 (by simp; omega)) ?_
  refine ⟨ss ++ [m, "zz"], by simp [lstD], by simp; exact Nat.lt_of_le_of_lt (show _ ≤ 20 by omega) (by decide), fun ms hm1 hm2 hm3 => ?_⟩
  have hm0 : 0 < ms.length := by
    have : m ∈ ms := (hm2 m).mpr (by simp)
    exact List.length_pos_of_mem this
  have hml2 : ms.length ≤ 100 := by
    have := nodup_len hm1 (fun j hj => (hm2 j).mp hj)
    simp at this
    omega
  clear hm1 hm2 hm3
  have hnn1 : 0 < nn.length := hN.2.2.1
  refine And.intro ⟨by decide, by decide⟩ ?_
  refine Exists.intro (fun i σ st => ∃ (v8 v9 v10 v11 v12 v13 v14 v15 v16 v17 v18 : Option Dv) (G : Sto), σ = [some (.fro (ns.map Dv.int)), some (.ref 1), some (.rol (nn.map Dv.str)), some (.tup (rs.map Ru.dv)), some (.str m), some (tuD C rs m), some (tbD rs), some (.rol (ms.map Dv.str)), v8, v9, v10, v11, v12, v13, v14, v15, v16, v17, v18] ∧ Dr G st ∧ CelN G) ?_
  refine And.intro ⟨_, _, _, _, _, _, _, _, _, _, _, [], rfl, hd, fun c hc => by simp at hc⟩ ?_
  refine And.intro (fun i σ' st' _ n e => nomatch e) ?_
  refine And.intro (fun i d σ' st' e hI => ?_) ?_
  · obtain ⟨v8, v9, v10, v11, v12, v13, v14, v15, v16, v17, v18, G, rfl, hd, hG⟩ := hI
    obtain ⟨hi, rfl⟩ := rng_at e
    refine ⟨_, rfl, ?_⟩
    -- the document
    refine And.intro (show 1 ≤ sizeLine by decide) ?_
    refine addL (line64 (by simp; omega)) ?_
    refine And.intro (show 3 ≤ sizeLine by decide) ?_
    refine ⟨G, (_, [.int 9, .int 9, .int 14]), hd, rfl, ⟨rfl, by decide, by decide⟩, fun d st4 hd hq => ?_⟩
    obtain ⟨k, hk1, hk2, rfl⟩ : ∃ k : Nat, 0 < k ∧ k ≤ 14 ∧ d = nat k := by
      have hq : d ∈ [Dv.int 9, .int 9, .int 14] := hq
      simp only [List.mem_cons, List.not_mem_nil, or_false] at hq
      rcases hq with rfl | rfl | rfl
      · exact ⟨9, by decide, by decide, rfl⟩
      · exact ⟨9, by decide, by decide, rfl⟩
      · exact ⟨14, by decide, by decide, rfl⟩
    refine And.intro (show 1 ≤ sizeLine by decide) ?_
    obtain ⟨b3, cs3, ok3, rfl⟩ := hd
    refine ⟨((b3, cs3, G ++ [.lst [nat k]]), (G.length, k), nn ++ [("q" : Str)], 4), ?_, rfl, ⟨by show 4 < 60; decide, ok3, cel_app hG cel_one, ?_, hk1, ⟨by show 0 < (nn ++ [("q" : Str)]).length; simp, by show (nn ++ [("q" : Str)]).length ≤ 100; simp; omega, fun s hs => ?_⟩, Nat.le_refl 4⟩, ?_⟩
    · show [Dv.ref 1, .rol (nn.map Dv.str ++ [.str "q"]), .ref (G.length + 2), .int 4] = [Dv.ref 1, .rol ((nn ++ [("q" : Str)]).map Dv.str), .ref (G.length + 2), .int 4]
      rw [List.map_append]
      rfl
    · show (G ++ [Co.lst [nat k]])[G.length]? = some (.lst [nat k])
      rw [List.getElem?_append_right (Nat.le_refl _)]
      simp
    · rcases List.mem_append.mp hs with h | h
      · exact hN.2.1 s h
      · simp at h
        rw [h]
        exact nmC (by decide +kernel) (by decide +kernel)
    rintro d st5 ⟨b4, cs4, k4, x, ts, ok4, rfl, q1, q2, q3, q4, rfl⟩
    have q1 : k4 + sizes ts + 1 = k := q1
    have dc : Doc x ts := ⟨q2, q3, by omega, q4⟩
    have hG : CelN ((G ++ [Co.lst [nat k]]).set G.length (.lst [nat k4])) := cel_set (cel_app hG cel_one)
    have hd : Dr ((G ++ [Co.lst [nat k]]).set G.length (.lst [nat k4])) (DSt b4 cs4 ((G ++ [Co.lst [nat k]]).set G.length (.lst [nat k4]))) := ⟨b4, cs4, ok4, rfl⟩
    generalize DSt b4 cs4 ((G ++ [Co.lst [nat k]]).set G.length (.lst [nat k4])) = st5 at hd
    generalize (G ++ [Co.lst [nat k]]).set G.length (.lst [nat k4]) = G at hd hG
    clear ok3 ok4
    have hdp : deps ts ≤ 4 := q4
    have hsz : sizes ts ≤ 13 := by omega
    have hok : (Th.node x ts).ok := (ok_node _ _).mpr ⟨q2, q3⟩
    have hdep : (Th.node x ts).dep ≤ 5 := by rw [dep_node]; omega
    have hsT := szT hR (x := x) hsz hdp m
    have shD := shT hR dc m
    have hsq : ∀ st : Sto, seqD st (Th.node x ts).dv = some [.str x, .tup (dvs ts)] := fun st => by rw [dv_node]; rfl
    -- due
    refine ⟨(rs, m, .node x ts), rfl, .cons (tb_nr rs) (.cons (.str _) (.cons (Th.nr _) .nil)), ⟨by show 6 * (Th.node x ts).dep + 5 < 60; omega, hR, hok, Nat.le_trans hsT (by decide)⟩, ?_⟩
    rintro d - rfl
    have pT : P_turned ((rs, m), .node x ts) := ⟨by show 6 * (Th.node x ts).dep + 3 < 60; omega, hR, hok, Nat.le_trans hsT (by decide)⟩
    refine ⟨rfl, rfl, ((rs, m), .node x ts), rfl, .cons (tuD_nr _ _ _) (.cons (Th.nr _) .nil), pT, ?_⟩
    rintro d - rfl
    refine repTups shD ?_
    refine repTups shD ?_
    refine neS rfl ?_
    refine iteF rfl ?_
    dsimp only [wNext, wSeq, wSet]
    refine good_ok (F := trnT rs (.node x ts) m) (by rfl) ?_
    refine ⟨rfl, rfl, ((rs, m), .node x ts), rfl, .cons (tuD_nr _ _ _) (.cons (Th.nr _) .nil), pT, ?_⟩
    rintro d - rfl
    refine repDoc shD ?_
    dsimp only [wCB, wCons]
    refine due_ok (F := trnT rs (.node x ts) m) (by rfl) (by rfl) ?_
    refine repDoc shD ?_
    refine neS rfl ?_
    refine iteF rfl ?_
    -- a forest in another mode
    refine of1 ms hm0 (by omega) hd fun o st6 ho hd => ?_
    refine ix (hsq _) rfl ?_
    refine len (xs := dvs ts) rfl ?_
    refine addI ?_
    have hln := len_sizes ts
    refine one (ts.length + 1) (by rw [dvs_len]; omega) (by omega) (by omega) hd fun cut st7 hcut hd => ?_
    refine ix (hsq _) rfl ?_
    refine And.intro (show 0 ≤ sizeLine from Nat.zero_le _) ?_
    have shO := shF hR hsz hdp q3 o
    have hsO := szF hR hsz hdp o
    refine Exists.intro (fun j σ st => ∃ (v17 : Option Dv) (A : List Th), σ = [some (.fro (ns.map Dv.int)), some (.ref 1), some (.rol (nn.map Dv.str)), some (.tup (rs.map Ru.dv)), some (.str m), some (tuD C rs m), some (tbD rs), some (.rol (ms.map Dv.str)), v8, some (nat i), some (Th.node x ts).dv, some (tups (trnT rs (.node x ts) m)), some (.bl (isDoc (trnT rs (.node x ts) m))), some (.str o), some (nat cut), some (.tup (dvs ts)), some (tups A), v17, v18] ∧ Dr G st ∧ trnF rs ts o = A ++ trnF rs (ts.drop j) o) ?_
    refine And.intro ⟨v17, [], rfl, hd, by simp⟩ ?_
    refine And.intro (fun i σ' st' _ n e => nomatch e) ?_
    refine And.intro (fun j d σ2 st8 e hI => ?_) ?_
    · obtain ⟨v17, A, rfl, hd, hA⟩ := hI
      obtain ⟨t, e1, rfl⟩ := dvs_at' e
      rw [drop_at e1, trnF_cons, ← List.append_assoc] at hA
      have h1 := dep_at e1
      have h2 : sizes A + sizes (trnT rs t o) ≤ 6240 := by
        rw [hA, sizes_app, sizes_app] at hsO
        omega
      have h3 := len_sizes A
      have h4 := len_sizes (trnT rs t o)
      refine ⟨_, rfl, ?_⟩
      refine ⟨(rs, o, t), rfl, .cons (tb_nr rs) (.cons (.str _) (.cons (Th.nr _) .nil)), ⟨by show 6 * t.dep + 5 < 60; omega, hR, oks_mem q3 _ (List.mem_of_getElem? e1), by show sizes (trnT rs t o) ≤ 100000; omega⟩, ?_⟩
      rintro d - rfl
      refine addT (line5 (by rw [dvs_len, dvs_len]; show A.length + (trnT rs t o).length ≤ 200000; omega)) ?_
      exact ⟨some t.dv, A ++ trnT rs t o, by rw [tp2]; rfl, hd, hA⟩
    rintro σ2 st8 ⟨v17, A, rfl, hd, hA⟩
    rw [dvs_len, List.drop_length, trnF_nil, List.append_nil] at hA
    subst hA
    have pF : ∀ us, oks us → sizes us ≤ 13 → deps us ≤ 4 → P_turned_forest 60 ((rs, m), o, us) := fun us h1 h2 h3 => ⟨by show 6 * deps us + 4 < 60; omega, hR, h1, Nat.le_trans (szF hR h2 h3 o) (by decide)⟩
    refine ⟨rfl, rfl, ((rs, m), o, ts), rfl, .cons (tuD_nr _ _ _) (.cons (.str _) (.cons (.tup (nrs _)) .nil)), pF ts q3 hsz hdp, ?_⟩
    rintro d - rfl
    refine repTups shO ?_
    refine repTups shO ?_
    refine neS rfl ?_
    refine iteF rfl ?_
    obtain ⟨t1, t2, t3, t4⟩ := take_sz ts cut
    obtain ⟨t5, t6⟩ := take_ok q3 cut
    refine slT ?_
    refine ⟨((rs, m), o, ts.take cut), by rw [cut_lo, dvs_take], by rw [cut_lo, dvs_take]; exact .cons (tuD_nr _ _ _) (.cons (.str _) (.cons (.tup (nrs _)) .nil)), pF _ t5 (by omega) (by omega), ?_⟩
    rintro d - rfl
    refine slT ?_
    refine ⟨((rs, m), o, ts.drop cut), by rw [cut_hi, dvs_dropN], by rw [cut_hi, dvs_dropN]; exact .cons (tuD_nr _ _ _) (.cons (.str _) (.cons (.tup (nrs _)) .nil)), pF _ t6 (by omega) (by omega), ?_⟩
    rintro d - rfl
    have s1 := szF hR (show sizes (ts.take cut) ≤ 13 by omega) (show deps (ts.take cut) ≤ 4 by omega) o
    have s2 := szF hR (show sizes (ts.drop cut) ≤ 13 by omega) (show deps (ts.drop cut) ≤ 4 by omega) o
    have l1 := len_sizes (trnF rs (ts.take cut) o)
    have l2 := len_sizes (trnF rs (ts.drop cut) o)
    refine addT (line5 (by rw [dvs_len, dvs_len]; show (trnF rs (ts.take cut) o).length + (trnF rs (ts.drop cut) o).length ≤ 200000; omega)) ?_
    show gEq true (.tup (dvs (trnF rs (ts.take cut) o) ++ dvs (trnF rs (ts.drop cut) o))) (tups (trnF rs ts o)) _ _
    rw [← dvs_app, ← trnF_app, List.take_append_drop]
    refine eqTups shO ?_
    refine iteF rfl ?_
    -- parts
    refine And.intro (show 1 ≤ sizeLine by decide) ?_
    obtain ⟨b5, cs5, ok5, rfl⟩ := hd
    refine ⟨((b5, cs5, G ++ [.lst [nat 2]]), (G.length, 2), ms, nn, "x", 2), rfl, rfl, ⟨by show 2 < 60; decide, ok5, cel_app hG cel_one, ?_, ⟨hm0, hml2⟩, ⟨hnn1, by show nn.length ≤ 100; omega, hN.2.1⟩, Nat.le_refl 2⟩, ?_⟩
    · show (G ++ [Co.lst [nat 2]])[G.length]? = some (.lst [nat 2])
      rw [List.getElem?_append_right (Nat.le_refl _)]
      simp
    rintro d st9 ⟨b6, cs6, k6, ps, ok6, rfl, p1, p2, p3, p4, rfl⟩
    have p1 : k6 + goes ps = 2 := p1
    have p2 : pok false ps := by
      have p2 : pok (decide (("x" : Str) = "")) ps := p2
      rwa [decide_eq_false (by decide +kernel)] at p2
    have p3 : pdep ps ≤ 2 := p3
    have p4 : psize ps ≤ 30 := p4
    have p5 : goes ps ≤ 2 := by omega
    have hsP := szP hR hsz hdp p4 p5
    have shQ := shP hR dc p2 p4 p5 p3
    refine ⟨rfl, rfl, ((rs, m), ps, ts), rfl, .cons (tuD_nr _ _ _) (.cons (.tup (pnrs _)) (.cons (.tup (nrs _)) .nil)), ⟨by show 6 * deps ts + 5 + pdep ps < 60; omega, hR, ⟨p2, q3⟩, Nat.le_trans hsP (by decide)⟩, ?_⟩
    rintro d - rfl
    refine repTups shQ ?_
    have hfm : fm ts ≤ 6 * deps ts + 6 := by cases ts <;> simp [fm]
    refine ⟨(rs, ps, "", ts), rfl, .cons (tb_nr rs) (.cons (.tup (pnrs _)) (.cons (.str _) (.cons (.tup (nrs _)) .nil))), ⟨by show fm ts + pdep ps < 60; omega, hR, q3, Nat.le_trans hsP (by decide)⟩, ?_⟩
    rintro d - rfl
    refine repTups shQ ?_
    refine neS rfl ?_
    refine iteF rfl ?_
    exact ⟨_, _, _, _, _, _, _, _, _, _, _, _, rfl, ⟨b6, cs6, ok6, rfl⟩, cel_set (cel_app hG cel_one)⟩
  · rintro σ' st' ⟨v8, v9, v10, v11, v12, v13, v14, v15, v16, v17, v18, G, rfl, hd, hG⟩
    refine And.intro (show 0 ≤ sizeLine from Nat.zero_le _) ?_
    have e0 : dvs [] = [] := by simp [dvs]
    refine ⟨((rs, m), m, []), by show _ = [tuD C rs m, Dv.str m, .tup (dvs [])]; rw [e0], .cons (tuD_nr _ _ _) (.cons (.str _) (.cons (.tup .nil) .nil)), ⟨by show 6 * deps [] + 4 < 60; simp [deps], hR, by show oks []; simp [oks], by show sizes (trnF rs [] m) ≤ _; rw [trnF_nil]; simp [sizes]⟩, ?_⟩
    rintro d - hq
    have hq : d = tups (trnF rs [] m) := hq
    rw [trnF_nil, tups, e0] at hq
    subst hq
    refine And.intro (show 0 ≤ sizeLine from Nat.zero_le _) ?_
    refine eqT .nil .nil rfl rfl ?_
    exact fin _
end K51

namespace K51
open PySem PySem.Spec PyProof.Rows L2 D2 K02
section
variable {P : Program} {w : World} {K : PySem.W.Frag} {mg : Str → Option Value} {base : Heap} {C : Addr}
theorem scI : FnScope ["self", "rules", "mode"] ["self", "rules", "mode"] (defScope sInit) := ⟨rfl, rfl, rfl, by decide +kernel, rfl, by decide +kernel, by decide +kernel⟩
theorem putAll (a0 a1 : V) : (putF "mode" a1 (putF "rules" a0 [])) = (["rules", "mode"] : List Str).zip [a0, a1] := by
  have e0_1 : ¬ (("rules" : Str) = "mode") := by decide +kernel
  simp only [putF, if_neg e0_1]
  try rfl
theorem w_init (t : Txt P K mg C) : FnOk P w K mg base CX0 1 t.fI t.dI ["self", "rules", "mode"] (spIni C ["rules", "mode"]) := by
  refine t.FI.ok scI (fun vs H Q E h => ?_) (fun cdv A outer s H vs Q E hr h => ?_)
  · obtain ⟨p, dx, as, rfl, hl, _⟩ := h
    simp [hl]
  · obtain ⟨p, dx, as, rfl, hl, hp, k⟩ := h
    match as, hl with
    | [a0, a1], _ =>
      have q0 := length_putF ("rules" : Str) a0 []
      have q1 := length_putF ("mode" : Str) a1 (putF ("rules" : Str) a0 [])
      refine ⟨_, (pss_cons (ps_fld (pv 0) (pv 1) rfl) (pss_one (ps_fld (pv 0) (pv 2) rfl))), ?_⟩
      refine ⟨a0, rfl, .ref p, rfl, p, C, dx, [], rfl, hp, t.cls, t.no_rules, by show 0 < 1000; decide, a1, rfl, .ref p, rfl, p, C, dx, _, rfl, upd_same, t.cls, t.no_mode, by show 1 < 1000; decide, ?_⟩
      · rw [upd_upd, putAll]
        exact k
theorem all_law (t : Txt P K mg C) : DFn P w K mg base 123 t.law.f t.law.fd ["script"] (sLaw0) := by
  have hrule_for : DFn P w K mg base 1 t.rule_for.f t.rule_for.fd ["turning", "mode", "letter"] (D2.Spec.fn (K51.A_rule_for C) K51.P_rule_for K51.R_rule_for) := wrule_for t (n := 60) (k := 0) (K51.p_rule_for)
  have lvmade_of_text : ∀ n : Nat, DFn P w K mg base (n + 0) t.made_of_text.f t.made_of_text.fd ["parts", "text"] (D2.Spec.fn K51.A_made_of_text (K51.P_made_of_text n) K51.R_made_of_text) := by
    intro n
    induction n with
    | zero => exact dfn_never fun i hp => Nat.not_lt_zero _ hp.1
    | succ n ih => exact (by have z := wmade_of_text t (n := n) (k := n + 0) ih (Nat.le_refl _) (K51.p_made_of_text n); rw [show n + 0 + 1 = n + 1 + 0 by omega] at z; exact z)
  have hmade_of_text : DFn P w K mg base 60 t.made_of_text.f t.made_of_text.fd ["parts", "text"] (D2.Spec.fn K51.A_made_of_text (K51.P_made_of_text 60) K51.R_made_of_text) := lvmade_of_text 60
  have lvmade_by : ∀ n : Nat, DFn P w K mg base (n + 60) t.made_by.f t.made_by.fd ["turning", "parts", "things"] (D2.Spec.fn (K51.A_made_by C) (K51.P_made_by n) K51.R_made_by) ∧ DFn P w K mg base (n + 60) t.turned_thing.f t.turned_thing.fd ["turning", "mode", "thing"] (D2.Spec.fn (K51.A_turned_thing C) (K51.P_turned_thing n) K51.R_turned_thing) ∧ DFn P w K mg base (n + 60) t.turned_forest.f t.turned_forest.fd ["turning", "mode", "forest"] (D2.Spec.fn (K51.A_turned_forest C) (K51.P_turned_forest n) K51.R_turned_forest) := by
    intro n
    induction n with
    | zero => exact ⟨dfn_never fun i hp => Nat.not_lt_zero _ hp.1, dfn_never fun i hp => Nat.not_lt_zero _ hp.1, dfn_never fun i hp => Nat.not_lt_zero _ hp.1⟩
    | succ n ih => exact ⟨(by have z := wmade_by t (n := n) (k := n + 60) ih.1 (Nat.le_refl _) ih.2.2 (Nat.le_refl _) (K51.p_made_by n); rw [show n + 60 + 1 = n + 1 + 60 by omega] at z; exact z), (by have z := wturned_thing t (n := n) (k := n + 60) ih.1 (Nat.le_refl _) (lvmade_of_text n) (by omega) hrule_for (by omega) ih.2.2 (Nat.le_refl _) (K51.p_turned_thing n); rw [show n + 60 + 1 = n + 1 + 60 by omega] at z; exact z), (by have z := wturned_forest t (n := n) (k := n + 60) ih.2.1 (Nat.le_refl _) (K51.p_turned_forest n); rw [show n + 60 + 1 = n + 1 + 60 by omega] at z; exact z)⟩
  have hmade_by : DFn P w K mg base 120 t.made_by.f t.made_by.fd ["turning", "parts", "things"] (D2.Spec.fn (K51.A_made_by C) (K51.P_made_by 60) K51.R_made_by) := (lvmade_by 60).1
  have hturned_thing : DFn P w K mg base 120 t.turned_thing.f t.turned_thing.fd ["turning", "mode", "thing"] (D2.Spec.fn (K51.A_turned_thing C) (K51.P_turned_thing 60) K51.R_turned_thing) := (lvmade_by 60).2.1
  have hturned_forest : DFn P w K mg base 120 t.turned_forest.f t.turned_forest.fd ["turning", "mode", "forest"] (D2.Spec.fn (K51.A_turned_forest C) (K51.P_turned_forest 60) K51.R_turned_forest) := (lvmade_by 60).2.2
  have hturned : DFn P w K mg base 121 t.turned.f t.turned.fd ["turning", "node"] (D2.Spec.fn (K51.A_turned C) K51.P_turned K51.R_turned) := wturned t (n := 60) (k := 120) hturned_thing (by decide) (K51.p_turned)
  have hmade_document : DFn P w K mg base 122 t.made_document.f t.made_document.fd ["turning", "node"] (D2.Spec.fn (K51.A_made_document C) K51.P_made_document K51.R_made_document) := wmade_document t (n := 60) (k := 121) hturned (by decide) (K51.p_made_document)
  have h_law_deal : DFn P w K mg base 1 t._law_deal.f t._law_deal.fd ["script", "base"] (K51.S_law_deal) := w_law_deal t (n := 60) (k := 0) (K51.p_law_deal)
  have h_law_any : DFn P w K mg base 1 t._law_any.f t._law_any.fd ["deal", "bound"] (D2.Spec.dr D2.A_law_any D2.P_law_any D2.R_law_any) := w_law_any t (n := 60) (k := 0) (K51.p_law_any)
  have h_law_of : DFn P w K mg base 2 t._law_of.f t._law_of.fd ["deal", "some"] (D2.Spec.dr D2.A_law_of D2.P_law_of D2.R_law_of) := w_law_of t (n := 40) (k := 1) h_law_any (by decide) (K02.p_law_of)
  have h_law_names : DFn P w K mg base 3 t._law_names.f t._law_names.fd ["deal"] (D2.Spec.dr K51.A_law_names K51.P_law_names K51.R_law_names) := w_law_names t (n := 60) (k := 2) h_law_of (by decide) (K51.p_law_names)
  have lv_law_parts : ∀ n : Nat, DFn P w K mg base (n + 2) t._law_parts.f t._law_parts.fd ["deal", "modes", "names", "letter", "deep", "room"] ((K51.S_law_parts n)) := by
    intro n
    induction n with
    | zero => exact dfn_never fun i hp => Nat.not_lt_zero _ hp.1
    | succ n ih => exact (by have z := w_law_parts t (n := n) (k := n + 2) h_law_any (by omega) h_law_of (by omega) ih (Nat.le_refl _) (K51.p_law_parts n); rw [show n + 2 + 1 = n + 1 + 2 by omega] at z; exact z)
  have h_law_parts : DFn P w K mg base 62 t._law_parts.f t._law_parts.fd ["deal", "modes", "names", "letter", "deep", "room"] ((K51.S_law_parts 60)) := lv_law_parts 60
  have h_law_turning : DFn P w K mg base 63 t._law_turning.f t._law_turning.fd ["deal", "names", "most", "goes", "deep"] (D2.Spec.dr K51.A_law_turning K51.P_law_turning K51.R_law_turning) := w_law_turning t (n := 60) (k := 62) h_law_any (by decide) h_law_of (by decide) h_law_parts (by decide) (K51.p_law_turning)
  have lv_law_tree : ∀ n : Nat, DFn P w K mg base (n + 2) t._law_tree.f t._law_tree.fd ["deal", "names", "room", "deep"] ((K51.S_law_tree n)) := by
    intro n
    induction n with
    | zero => exact dfn_never fun i hp => Nat.not_lt_zero _ hp.1
    | succ n ih => exact (by have z := w_law_tree t (n := n) (k := n + 2) h_law_any (by omega) h_law_of (by omega) ih (Nat.le_refl _) (K51.p_law_tree n); rw [show n + 2 + 1 = n + 1 + 2 by omega] at z; exact z)
  have h_law_tree : DFn P w K mg base 62 t._law_tree.f t._law_tree.fd ["deal", "names", "room", "deep"] ((K51.S_law_tree 60)) := lv_law_tree 60
  have h_law_dict : DFn P w K mg base 1 t._law_dict.f t._law_dict.fd ["rules"] (D2.Spec.fn K51.A_law_dict K51.P_law_dict K51.R_law_dict) := w_law_dict t (n := 60) (k := 0) (K51.p_law_dict)
  have lv_law_made : ∀ n : Nat, DFn P w K mg base (n + 0) t._law_made.f t._law_made.fd ["rules", "mode", "thing"] (D2.Spec.fn K51.A_law_made (K51.P_law_made n) K51.R_law_made) ∧ DFn P w K mg base (n + 0) t._law_filled.f t._law_filled.fd ["rules", "parts", "text", "things"] (D2.Spec.fn K51.A_law_filled (K51.P_law_filled n) K51.R_law_filled) := by
    intro n
    induction n with
    | zero => exact ⟨dfn_never fun i hp => Nat.not_lt_zero _ hp.1, dfn_never fun i hp => Nat.not_lt_zero _ hp.1⟩
    | succ n ih => exact ⟨(by have z := w_law_made t (n := n) (k := n + 0) ih.2 (Nat.le_refl _) (K51.p_law_made n); rw [show n + 0 + 1 = n + 1 + 0 by omega] at z; exact z), (by have z := w_law_filled t (n := n) (k := n + 0) ih.2 (Nat.le_refl _) ih.1 (Nat.le_refl _) (K51.p_law_filled n); rw [show n + 0 + 1 = n + 1 + 0 by omega] at z; exact z)⟩
  have h_law_made : DFn P w K mg base 60 t._law_made.f t._law_made.fd ["rules", "mode", "thing"] (D2.Spec.fn K51.A_law_made (K51.P_law_made 60) K51.R_law_made) := (lv_law_made 60).1
  have h_law_filled : DFn P w K mg base 60 t._law_filled.f t._law_filled.fd ["rules", "parts", "text", "things"] (D2.Spec.fn K51.A_law_filled (K51.P_law_filled 60) K51.R_law_filled) := (lv_law_made 60).2
  have hlaw : DFn P w K mg base 123 t.law.f t.law.fd ["script"] (sLaw0) := wlaw t (n := 60) (k := 122) h_law_any (by decide) h_law_deal (by decide) h_law_dict (by decide) h_law_filled (by decide) h_law_made (by decide) h_law_names (by decide) h_law_of (by decide) h_law_parts (by decide) h_law_tree (by decide) h_law_turning (by decide) hmade_by (by decide) hmade_document (by decide) hturned (by decide) hturned_forest (by decide) (w_init t) (by decide) (K51.p_law)
  exact hlaw
end
theorem all_mk {l : PySem.W.OpenLaw} {w : World} {K : PySem.W.Frag} {h : Heap} {mg : Str → Option Value} {fa : Addr} (X : K.In h) (G : h.Ns mainGlobals mg) (hfa : mg "law" = some (.ref fa))
    {od0 an0 : Option Addr} {sl0 : Array (Option Value)} {oc0 kV0 dc0 pm0 cd0 ct0 : Value} {f0 : Addr} (a0 : PySem.W.nsIn K mainGlobals "rule_for" = some (some (.ref f0))) (l0 : K.lookup f0 = some ⟨oc0, od0, .func (PySem.W.fnOf "rule_for" "rule_for" (defArgs srule_for) (defBody srule_for) (defScope srule_for) .none kV0 dc0 pm0 an0 cd0 ct0), sl0⟩) (c0 : PySem.W.codeIn K cd0 "rule_for" = true) (k0 : PySem.W.keepIn K (.ref f0) = true)
    {od1 an1 : Option Addr} {sl1 : Array (Option Value)} {oc1 kV1 dc1 pm1 cd1 ct1 : Value} {f1 : Addr} (a1 : PySem.W.nsIn K mainGlobals "made_of_text" = some (some (.ref f1))) (l1 : K.lookup f1 = some ⟨oc1, od1, .func (PySem.W.fnOf "made_of_text" "made_of_text" (defArgs smade_of_text) (defBody smade_of_text) (defScope smade_of_text) .none kV1 dc1 pm1 an1 cd1 ct1), sl1⟩) (c1 : PySem.W.codeIn K cd1 "made_of_text" = true) (k1 : PySem.W.keepIn K (.ref f1) = true)
    {od2 an2 : Option Addr} {sl2 : Array (Option Value)} {oc2 kV2 dc2 pm2 cd2 ct2 : Value} {f2 : Addr} (a2 : PySem.W.nsIn K mainGlobals "made_by" = some (some (.ref f2))) (l2 : K.lookup f2 = some ⟨oc2, od2, .func (PySem.W.fnOf "made_by" "made_by" (defArgs smade_by) (defBody smade_by) (defScope smade_by) .none kV2 dc2 pm2 an2 cd2 ct2), sl2⟩) (c2 : PySem.W.codeIn K cd2 "made_by" = true) (k2 : PySem.W.keepIn K (.ref f2) = true)
    {od3 an3 : Option Addr} {sl3 : Array (Option Value)} {oc3 kV3 dc3 pm3 cd3 ct3 : Value} {f3 : Addr} (a3 : PySem.W.nsIn K mainGlobals "turned_thing" = some (some (.ref f3))) (l3 : K.lookup f3 = some ⟨oc3, od3, .func (PySem.W.fnOf "turned_thing" "turned_thing" (defArgs sturned_thing) (defBody sturned_thing) (defScope sturned_thing) .none kV3 dc3 pm3 an3 cd3 ct3), sl3⟩) (c3 : PySem.W.codeIn K cd3 "turned_thing" = true) (k3 : PySem.W.keepIn K (.ref f3) = true)
    {od4 an4 : Option Addr} {sl4 : Array (Option Value)} {oc4 kV4 dc4 pm4 cd4 ct4 : Value} {f4 : Addr} (a4 : PySem.W.nsIn K mainGlobals "turned_forest" = some (some (.ref f4))) (l4 : K.lookup f4 = some ⟨oc4, od4, .func (PySem.W.fnOf "turned_forest" "turned_forest" (defArgs sturned_forest) (defBody sturned_forest) (defScope sturned_forest) .none kV4 dc4 pm4 an4 cd4 ct4), sl4⟩) (c4 : PySem.W.codeIn K cd4 "turned_forest" = true) (k4 : PySem.W.keepIn K (.ref f4) = true)
    {od5 an5 : Option Addr} {sl5 : Array (Option Value)} {oc5 kV5 dc5 pm5 cd5 ct5 : Value} {f5 : Addr} (a5 : PySem.W.nsIn K mainGlobals "turned" = some (some (.ref f5))) (l5 : K.lookup f5 = some ⟨oc5, od5, .func (PySem.W.fnOf "turned" "turned" (defArgs sturned) (defBody sturned) (defScope sturned) .none kV5 dc5 pm5 an5 cd5 ct5), sl5⟩) (c5 : PySem.W.codeIn K cd5 "turned" = true) (k5 : PySem.W.keepIn K (.ref f5) = true)
    {od6 an6 : Option Addr} {sl6 : Array (Option Value)} {oc6 kV6 dc6 pm6 cd6 ct6 : Value} {f6 : Addr} (a6 : PySem.W.nsIn K mainGlobals "made_document" = some (some (.ref f6))) (l6 : K.lookup f6 = some ⟨oc6, od6, .func (PySem.W.fnOf "made_document" "made_document" (defArgs smade_document) (defBody smade_document) (defScope smade_document) .none kV6 dc6 pm6 an6 cd6 ct6), sl6⟩) (c6 : PySem.W.codeIn K cd6 "made_document" = true) (k6 : PySem.W.keepIn K (.ref f6) = true)
    {od7 an7 : Option Addr} {sl7 : Array (Option Value)} {oc7 kV7 dc7 pm7 cd7 ct7 : Value} {f7 : Addr} (a7 : PySem.W.nsIn K mainGlobals "_law_deal" = some (some (.ref f7))) (l7 : K.lookup f7 = some ⟨oc7, od7, .func (PySem.W.fnOf "_law_deal" "_law_deal" (defArgs s_law_deal) (defBody s_law_deal) (defScope s_law_deal) .none kV7 dc7 pm7 an7 cd7 ct7), sl7⟩) (c7 : PySem.W.codeIn K cd7 "_law_deal" = true) (k7 : PySem.W.keepIn K (.ref f7) = true)
    {od8 an8 : Option Addr} {sl8 : Array (Option Value)} {oc8 kV8 dc8 pm8 cd8 ct8 : Value} {f8 : Addr} (a8 : PySem.W.nsIn K mainGlobals "_law_any" = some (some (.ref f8))) (l8 : K.lookup f8 = some ⟨oc8, od8, .func (PySem.W.fnOf "_law_any" "_law_any" (defArgs s_law_any) (defBody s_law_any) (defScope s_law_any) .none kV8 dc8 pm8 an8 cd8 ct8), sl8⟩) (c8 : PySem.W.codeIn K cd8 "_law_any" = true) (k8 : PySem.W.keepIn K (.ref f8) = true)
    {od9 an9 : Option Addr} {sl9 : Array (Option Value)} {oc9 kV9 dc9 pm9 cd9 ct9 : Value} {f9 : Addr} (a9 : PySem.W.nsIn K mainGlobals "_law_of" = some (some (.ref f9))) (l9 : K.lookup f9 = some ⟨oc9, od9, .func (PySem.W.fnOf "_law_of" "_law_of" (defArgs s_law_of) (defBody s_law_of) (defScope s_law_of) .none kV9 dc9 pm9 an9 cd9 ct9), sl9⟩) (c9 : PySem.W.codeIn K cd9 "_law_of" = true) (k9 : PySem.W.keepIn K (.ref f9) = true)
    {od10 an10 : Option Addr} {sl10 : Array (Option Value)} {oc10 kV10 dc10 pm10 cd10 ct10 : Value} {f10 : Addr} (a10 : PySem.W.nsIn K mainGlobals "_law_names" = some (some (.ref f10))) (l10 : K.lookup f10 = some ⟨oc10, od10, .func (PySem.W.fnOf "_law_names" "_law_names" (defArgs s_law_names) (defBody s_law_names) (defScope s_law_names) .none kV10 dc10 pm10 an10 cd10 ct10), sl10⟩) (c10 : PySem.W.codeIn K cd10 "_law_names" = true) (k10 : PySem.W.keepIn K (.ref f10) = true)
    {od11 an11 : Option Addr} {sl11 : Array (Option Value)} {oc11 kV11 dc11 pm11 cd11 ct11 : Value} {f11 : Addr} (a11 : PySem.W.nsIn K mainGlobals "_law_parts" = some (some (.ref f11))) (l11 : K.lookup f11 = some ⟨oc11, od11, .func (PySem.W.fnOf "_law_parts" "_law_parts" (defArgs s_law_parts) (defBody s_law_parts) (defScope s_law_parts) .none kV11 dc11 pm11 an11 cd11 ct11), sl11⟩) (c11 : PySem.W.codeIn K cd11 "_law_parts" = true) (k11 : PySem.W.keepIn K (.ref f11) = true)
    {od12 an12 : Option Addr} {sl12 : Array (Option Value)} {oc12 kV12 dc12 pm12 cd12 ct12 : Value} {f12 : Addr} (a12 : PySem.W.nsIn K mainGlobals "_law_turning" = some (some (.ref f12))) (l12 : K.lookup f12 = some ⟨oc12, od12, .func (PySem.W.fnOf "_law_turning" "_law_turning" (defArgs s_law_turning) (defBody s_law_turning) (defScope s_law_turning) .none kV12 dc12 pm12 an12 cd12 ct12), sl12⟩) (c12 : PySem.W.codeIn K cd12 "_law_turning" = true) (k12 : PySem.W.keepIn K (.ref f12) = true)
    {od13 an13 : Option Addr} {sl13 : Array (Option Value)} {oc13 kV13 dc13 pm13 cd13 ct13 : Value} {f13 : Addr} (a13 : PySem.W.nsIn K mainGlobals "_law_tree" = some (some (.ref f13))) (l13 : K.lookup f13 = some ⟨oc13, od13, .func (PySem.W.fnOf "_law_tree" "_law_tree" (defArgs s_law_tree) (defBody s_law_tree) (defScope s_law_tree) .none kV13 dc13 pm13 an13 cd13 ct13), sl13⟩) (c13 : PySem.W.codeIn K cd13 "_law_tree" = true) (k13 : PySem.W.keepIn K (.ref f13) = true)
    {od14 an14 : Option Addr} {sl14 : Array (Option Value)} {oc14 kV14 dc14 pm14 cd14 ct14 : Value} {f14 : Addr} (a14 : PySem.W.nsIn K mainGlobals "_law_dict" = some (some (.ref f14))) (l14 : K.lookup f14 = some ⟨oc14, od14, .func (PySem.W.fnOf "_law_dict" "_law_dict" (defArgs s_law_dict) (defBody s_law_dict) (defScope s_law_dict) .none kV14 dc14 pm14 an14 cd14 ct14), sl14⟩) (c14 : PySem.W.codeIn K cd14 "_law_dict" = true) (k14 : PySem.W.keepIn K (.ref f14) = true)
    {od15 an15 : Option Addr} {sl15 : Array (Option Value)} {oc15 kV15 dc15 pm15 cd15 ct15 : Value} {f15 : Addr} (a15 : PySem.W.nsIn K mainGlobals "_law_made" = some (some (.ref f15))) (l15 : K.lookup f15 = some ⟨oc15, od15, .func (PySem.W.fnOf "_law_made" "_law_made" (defArgs s_law_made) (defBody s_law_made) (defScope s_law_made) .none kV15 dc15 pm15 an15 cd15 ct15), sl15⟩) (c15 : PySem.W.codeIn K cd15 "_law_made" = true) (k15 : PySem.W.keepIn K (.ref f15) = true)
    {od16 an16 : Option Addr} {sl16 : Array (Option Value)} {oc16 kV16 dc16 pm16 cd16 ct16 : Value} {f16 : Addr} (a16 : PySem.W.nsIn K mainGlobals "_law_filled" = some (some (.ref f16))) (l16 : K.lookup f16 = some ⟨oc16, od16, .func (PySem.W.fnOf "_law_filled" "_law_filled" (defArgs s_law_filled) (defBody s_law_filled) (defScope s_law_filled) .none kV16 dc16 pm16 an16 cd16 ct16), sl16⟩) (c16 : PySem.W.codeIn K cd16 "_law_filled" = true) (k16 : PySem.W.keepIn K (.ref f16) = true)
    {od17 an17 : Option Addr} {sl17 : Array (Option Value)} {oc17 kV17 dc17 pm17 cd17 ct17 : Value} {f17 : Addr} (a17 : PySem.W.nsIn K mainGlobals "law" = some (some (.ref f17))) (l17 : K.lookup f17 = some ⟨oc17, od17, .func (PySem.W.fnOf "law" "law" (defArgs slaw) (defBody slaw) (defScope slaw) .none kV17 dc17 pm17 an17 cd17 ct17), sl17⟩) (c17 : PySem.W.codeIn K cd17 "law" = true) (k17 : PySem.W.keepIn K (.ref f17) = true)
    (z_range : PySem.W.nsIn K mainGlobals "range" = some none)
    (z_len : PySem.W.nsIn K mainGlobals "len" = some none)
    (z_abs : PySem.W.nsIn K mainGlobals "abs" = some none)
    (z_int : PySem.W.nsIn K mainGlobals "int" = some none)
    (z_tuple : PySem.W.nsIn K mainGlobals "tuple" = some none)
    (z_repr : PySem.W.nsIn K mainGlobals "repr" = some none)
    (z_isinstance : PySem.W.nsIn K mainGlobals "isinstance" = some none)
    (z_str : PySem.W.nsIn K mainGlobals "str" = some none)
    (z_list : PySem.W.nsIn K mainGlobals "list" = some none)
    (z_sorted : PySem.W.nsIn K mainGlobals "sorted" = some none)
    (z_dict : PySem.W.nsIn K mainGlobals "dict" = some none)
    (z_set : PySem.W.nsIn K mainGlobals "set" = some none)
    {C fI : Addr} (aC : PySem.W.nsIn K mainGlobals "Turning" = some (some (.ref C))) {odI anI : Option Addr} {slI : Array (Option Value)} {ocI kVI dcI pmI cdI ctI : Value} (aI : PySem.W.findIn K (.ref C) "__init__" = some (some (.ref fI))) (iI : PySem.W.isFn K (.ref fI) = true) (lI : K.lookup fI = some ⟨ocI, odI, .func (PySem.W.fnOf "__init__" "Turning.__init__" (defArgs sInit) (defBody sInit) (defScope sInit) .none kVI dcI pmI anI cdI ctI), slI⟩) (cI : PySem.W.codeIn K cdI "Turning.__init__" = true) (kI : PySem.W.keepIn K (.ref fI) = true)
    (pg : PySem.W.plainGet K C Str.empty = true) (hd : PySem.W.hasDictIn K C = true) (po : PySem.W.plainOver K C = true) (sa : PySem.W.findIn K (.ref C) "__setattr__" = some (some (.builtin "object.__setattr__"))) (mk : PySem.W.makesIn K C = true) (kc : PySem.W.keepIn K (.ref C) = true)
    (nf_rules : PySem.W.findIn K (.ref C) "rules" = some none)
    (nf_mode : PySem.W.findIn K (.ref C) "mode" = some none) :
    ∃ fd : FuncData, (∀ (s : Shared) (v : Value), BindsTo s fd ⟨[v], []⟩ [("script", v)]) ∧ ∀ base : Heap, K.In base → base.Ns mainGlobals mg → DFn l.prog w K mg base 123 fa fd ["script"] sLaw0 := by
  have e := hfa.symm.trans (PySem.W.mg_of X G a17)
  cases e
  have F0 := fun_mk (st := srule_for) l0 c0 k0
  have F1 := fun_mk (st := smade_of_text) l1 c1 k1
  have F2 := fun_mk (st := smade_by) l2 c2 k2
  have F3 := fun_mk (st := sturned_thing) l3 c3 k3
  have F4 := fun_mk (st := sturned_forest) l4 c4 k4
  have F5 := fun_mk (st := sturned) l5 c5 k5
  have F6 := fun_mk (st := smade_document) l6 c6 k6
  have F7 := fun_mk (st := s_law_deal) l7 c7 k7
  have F8 := fun_mk (st := s_law_any) l8 c8 k8
  have F9 := fun_mk (st := s_law_of) l9 c9 k9
  have F10 := fun_mk (st := s_law_names) l10 c10 k10
  have F11 := fun_mk (st := s_law_parts) l11 c11 k11
  have F12 := fun_mk (st := s_law_turning) l12 c12 k12
  have F13 := fun_mk (st := s_law_tree) l13 c13 k13
  have F14 := fun_mk (st := s_law_dict) l14 c14 k14
  have F15 := fun_mk (st := s_law_made) l15 c15 k15
  have F16 := fun_mk (st := s_law_filled) l16 c16 k16
  have F17 := fun_mk (st := slaw) l17 c17 k17
  have FI := fun_mk (st := sInit) lI cI kI
  let t : Txt l.prog K mg C := {
    cls := ⟨pg, hd, po, sa⟩
    mgC := PySem.W.mg_of X G aC
    fI := fI
    dI := _
    FI := FI
    b_init := FI.binds (ps := ["self", "rules", "mode"]) fun _ _ _ _ _ _ us hl => match us, hl with | [_, _, _], _ => rfl
    mkC := ⟨mk, aI, iI, kc⟩
    no_rules := nf_rules
    no_mode := nf_mode
    rule_for := ⟨f0, _, F0, F0.binds (ps := ["turning", "mode", "letter"]) fun _ _ _ _ _ _ us hl => match us, hl with | [_, _, _], _ => rfl, PySem.W.mg_of X G a0⟩
    made_of_text := ⟨f1, _, F1, F1.binds (ps := ["parts", "text"]) fun _ _ _ _ _ _ us hl => match us, hl with | [_, _], _ => rfl, PySem.W.mg_of X G a1⟩
    made_by := ⟨f2, _, F2, F2.binds (ps := ["turning", "parts", "things"]) fun _ _ _ _ _ _ us hl => match us, hl with | [_, _, _], _ => rfl, PySem.W.mg_of X G a2⟩
    turned_thing := ⟨f3, _, F3, F3.binds (ps := ["turning", "mode", "thing"]) fun _ _ _ _ _ _ us hl => match us, hl with | [_, _, _], _ => rfl, PySem.W.mg_of X G a3⟩
    turned_forest := ⟨f4, _, F4, F4.binds (ps := ["turning", "mode", "forest"]) fun _ _ _ _ _ _ us hl => match us, hl with | [_, _, _], _ => rfl, PySem.W.mg_of X G a4⟩
    turned := ⟨f5, _, F5, F5.binds (ps := ["turning", "node"]) fun _ _ _ _ _ _ us hl => match us, hl with | [_, _], _ => rfl, PySem.W.mg_of X G a5⟩
    made_document := ⟨f6, _, F6, F6.binds (ps := ["turning", "node"]) fun _ _ _ _ _ _ us hl => match us, hl with | [_, _], _ => rfl, PySem.W.mg_of X G a6⟩
    _law_deal := ⟨f7, _, F7, F7.binds (ps := ["script", "base"]) fun _ _ _ _ _ _ us hl => match us, hl with | [_, _], _ => rfl, PySem.W.mg_of X G a7⟩
    _law_any := ⟨f8, _, F8, F8.binds (ps := ["deal", "bound"]) fun _ _ _ _ _ _ us hl => match us, hl with | [_, _], _ => rfl, PySem.W.mg_of X G a8⟩
    _law_of := ⟨f9, _, F9, F9.binds (ps := ["deal", "some"]) fun _ _ _ _ _ _ us hl => match us, hl with | [_, _], _ => rfl, PySem.W.mg_of X G a9⟩
    _law_names := ⟨f10, _, F10, F10.binds (ps := ["deal"]) fun _ _ _ _ _ _ us hl => match us, hl with | [_], _ => rfl, PySem.W.mg_of X G a10⟩
    _law_parts := ⟨f11, _, F11, F11.binds (ps := ["deal", "modes", "names", "letter", "deep", "room"]) fun _ _ _ _ _ _ us hl => match us, hl with | [_, _, _, _, _, _], _ => rfl, PySem.W.mg_of X G a11⟩
    _law_turning := ⟨f12, _, F12, F12.binds (ps := ["deal", "names", "most", "goes", "deep"]) fun _ _ _ _ _ _ us hl => match us, hl with | [_, _, _, _, _], _ => rfl, PySem.W.mg_of X G a12⟩
    _law_tree := ⟨f13, _, F13, F13.binds (ps := ["deal", "names", "room", "deep"]) fun _ _ _ _ _ _ us hl => match us, hl with | [_, _, _, _], _ => rfl, PySem.W.mg_of X G a13⟩
    _law_dict := ⟨f14, _, F14, F14.binds (ps := ["rules"]) fun _ _ _ _ _ _ us hl => match us, hl with | [_], _ => rfl, PySem.W.mg_of X G a14⟩
    _law_made := ⟨f15, _, F15, F15.binds (ps := ["rules", "mode", "thing"]) fun _ _ _ _ _ _ us hl => match us, hl with | [_, _, _], _ => rfl, PySem.W.mg_of X G a15⟩
    _law_filled := ⟨f16, _, F16, F16.binds (ps := ["rules", "parts", "text", "things"]) fun _ _ _ _ _ _ us hl => match us, hl with | [_, _, _, _], _ => rfl, PySem.W.mg_of X G a16⟩
    law := ⟨fa, _, F17, F17.binds (ps := ["script"]) fun _ _ _ _ _ _ us hl => match us, hl with | [_], _ => rfl, PySem.W.mg_of X G a17⟩
    n_range := PySem.W.mg_none_of X G z_range
    n_len := PySem.W.mg_none_of X G z_len
    n_abs := PySem.W.mg_none_of X G z_abs
    n_int := PySem.W.mg_none_of X G z_int
    n_tuple := PySem.W.mg_none_of X G z_tuple
    n_repr := PySem.W.mg_none_of X G z_repr
    n_isinstance := PySem.W.mg_none_of X G z_isinstance
    n_str := PySem.W.mg_none_of X G z_str
    n_list := PySem.W.mg_none_of X G z_list
    n_sorted := PySem.W.mg_none_of X G z_sorted
    n_dict := PySem.W.mg_none_of X G z_dict
    n_set := PySem.W.mg_none_of X G z_set }
  exact ⟨t.law.fd, fun s v => .of_eq rfl, fun base _ _ => all_law t⟩
end K51
open PySem PySem.W PyProof.Rows
set_option maxHeartbeats 0 in
theorem PySem.Challenge.cw_turnsfit_k51_whole_what_turnings_make_holds : PySem.Challenge.rw_turnsfit_k51_whole_what_turnings_make.Holds := by
  w_on; o_law; k_head; (case hw => w_witness2)
  k_fill
  refine D2.walkD (l := PySem.Challenge.rw_turnsfit_k51_whole_what_turnings_make) (k := 123) (x := "script") rfl rfl ⟨rfl, by decide, by decide⟩ (fun w h Y => PySem.W.kIn_of Y) ?F
  case F =>
    intro w mg fa h KX G hmg
    refine' K51.all_mk (l := PySem.Challenge.rw_turnsfit_k51_whole_what_turnings_make) (w := w) KX G hmg ?a0 ?l0 ?c0 ?k0 ?a1 ?l1 ?c1 ?k1 ?a2 ?l2 ?c2 ?k2 ?a3 ?l3 ?c3 ?k3 ?a4 ?l4 ?c4 ?k4 ?a5 ?l5 ?c5 ?k5 ?a6 ?l6 ?c6 ?k6 ?a7 ?l7 ?c7 ?k7 ?a8 ?l8 ?c8 ?k8 ?a9 ?l9 ?c9 ?k9 ?a10 ?l10 ?c10 ?k10 ?a11 ?l11 ?c11 ?k11 ?a12 ?l12 ?c12 ?k12 ?a13 ?l13 ?c13 ?k13 ?a14 ?l14 ?c14 ?k14 ?a15 ?l15 ?c15 ?k15 ?a16 ?l16 ?c16 ?k16 ?a17 ?l17 ?c17 ?k17 ?z_range ?z_len ?z_abs ?z_int ?z_tuple ?z_repr ?z_isinstance ?z_str ?z_list ?z_sorted ?z_dict ?z_set ?aC ?aI ?iI ?lI ?cI ?kI ?pg ?hd ?po ?sa ?mk ?kc ?nf_rules ?nf_mode
    (case a0 => k_is)
    (case l0 => k_is)
    (case c0 => k_is)
    (case k0 => k_is)
    (case a1 => k_is)
    (case l1 => k_is)
    (case c1 => k_is)
    (case k1 => k_is)
    (case a2 => k_is)
    (case l2 => k_is)
    (case c2 => k_is)
    (case k2 => k_is)
    (case a3 => k_is)
    (case l3 => k_is)
    (case c3 => k_is)
    (case k3 => k_is)
    (case a4 => k_is)
    (case l4 => k_is)
    (case c4 => k_is)
    (case k4 => k_is)
    (case a5 => k_is)
    (case l5 => k_is)
    (case c5 => k_is)
    (case k5 => k_is)
    (case a6 => k_is)
    (case l6 => k_is)
    (case c6 => k_is)
    (case k6 => k_is)
    (case a7 => k_is)
    (case l7 => k_is)
    (case c7 => k_is)
    (case k7 => k_is)
    (case a8 => k_is)
    (case l8 => k_is)
    (case c8 => k_is)
    (case k8 => k_is)
    (case a9 => k_is)
    (case l9 => k_is)
    (case c9 => k_is)
    (case k9 => k_is)
    (case a10 => k_is)
    (case l10 => k_is)
    (case c10 => k_is)
    (case k10 => k_is)
    (case a11 => k_is)
    (case l11 => k_is)
    (case c11 => k_is)
    (case k11 => k_is)
    (case a12 => k_is)
    (case l12 => k_is)
    (case c12 => k_is)
    (case k12 => k_is)
    (case a13 => k_is)
    (case l13 => k_is)
    (case c13 => k_is)
    (case k13 => k_is)
    (case a14 => k_is)
    (case l14 => k_is)
    (case c14 => k_is)
    (case k14 => k_is)
    (case a15 => k_is)
    (case l15 => k_is)
    (case c15 => k_is)
    (case k15 => k_is)
    (case a16 => k_is)
    (case l16 => k_is)
    (case c16 => k_is)
    (case k16 => k_is)
    (case a17 => k_is)
    (case l17 => k_is)
    (case c17 => k_is)
    (case k17 => k_is)
    (case z_range => k_is)
    (case z_len => k_is)
    (case z_abs => k_is)
    (case z_int => k_is)
    (case z_tuple => k_is)
    (case z_repr => k_is)
    (case z_isinstance => k_is)
    (case z_str => k_is)
    (case z_list => k_is)
    (case z_sorted => k_is)
    (case z_dict => k_is)
    (case z_set => k_is)
    (case aC => k_is)
    (case aI => k_is)
    (case iI => k_is)
    (case lI => k_is)
    (case cI => k_is)
    (case kI => k_is)
    (case pg => k_is)
    (case hd => k_is)
    (case po => k_is)
    (case sa => k_is)
    (case mk => k_is)
    (case kc => k_is)
    (case nf_rules => k_is)
    (case nf_mode => k_is)

